import PyProof.Rows.All
import Wide.All
import OpenK.AllK
import Wide.FinOn
import KE.KStateDown
import Lean
import HandS.ForMost
import HandS.Exc
import HandS.TryOnly
import HandS.Conv
import HandS.Zip
import HandS.SortInts
import HandS.SortOrd
import HandS.SortRule
import HandS.SortKw
import HandS.TupAny
import HandS.TupLe
import HandS.TupMul
import HandS.Deep
import HandS.IsInst
import HandS.NoneIn
import HandS.Small
import HandS.Style
import HandS.DictComp
import HandS.Flow
import HandS.Wide
import HandS.CallLocal
import HandS.Defaults
import HandS.WordsExc
import HandS.Head0
import HandS.Head1
import HandS.Head2
import HandS.HeadEnd
import HandS.HeadHook1
import HandS.HeadHook2
import KE.KTupSum
import HandS.Walk
import KE.GoesMore
import KE.GoesEnum
import KE.KExcSuper
import HandS.ExcInit
import HandS.HeadHook4
import KE.SortData
import KE.DataMinMax
import PySem.Challenge.RW_raingauged_k23_papers_of_open_hours
set_option Elab.async false
set_option linter.all false
set_option maxRecDepth 100000
set_option maxHeartbeats 4000000
/-! Values without the heap, and what an expression, a statement, a def of the text does to them. -/
namespace Vw
open PySem PySem.Spec PyProof.Rows L2

/-! ### values -/
inductive D where
  | non | bl (b : Bool) | int (i : Int) | str (s : Str)
  | tup (xs : List D) | lst (xs : List D)
  | dK (kvs : List (Key × D)) | dT (kvs : List (List Key × D))
  | fn (f : Str) | tok

/-- what the draws lean on -/
structure Wd where
  cells : List Int
  pos : Int
  cur : Int
  left : Int
  seed : Int
  cnt : Int

inductive R (α : Type) where
  | ok (a : α) (w : Wd) | exc (w : Wd) | bad
def M (α : Type) := Wd → R α
namespace M
def pure {α : Type} (a : α) : M α := fun w => .ok a w
def bad {α : Type} : M α := fun _ => .bad
def exc {α : Type} : M α := fun w => .exc w
def bind {α β : Type} (x : M α) (f : α → M β) : M β := fun w => match x w with
  | .ok a w' => f a w'
  | .exc w' => .exc w'
  | .bad => .bad
instance : Monad M where
  pure := M.pure
  bind := M.bind
end M
@[simp] theorem pure_def {α : Type} (a : α) : (M.pure a : M α) = Pure.pure a := rfl
@[simp] theorem bad_bind {α β : Type} (f : α → M β) : (M.bad >>= f) = M.bad := rfl
@[simp] theorem exc_bind {α β : Type} (f : α → M β) : (M.exc >>= f) = M.exc := rfl
@[simp] theorem pure_bind' {α β : Type} (a : α) (f : α → M β) : ((Pure.pure a : M α) >>= f) = f a := rfl
@[simp] theorem bind_pure' {α : Type} (x : M α) : (x >>= fun a => (Pure.pure a : M α)) = x := by
  funext w
  show (match x w with | .ok a w' => R.ok a w' | .exc w' => .exc w' | .bad => .bad) = x w
  cases x w <;> rfl
@[simp] theorem bind_assoc' {α β γ : Type} (x : M α) (f : α → M β) (g : β → M γ) : ((x >>= f) >>= g) = (x >>= fun a => f a >>= g) := by
  funext w
  show (match (match x w with | .ok a w' => f a w' | .exc w' => .exc w' | .bad => .bad) with | .ok a w' => g a w' | .exc w' => .exc w' | .bad => .bad) =
    (match x w with | .ok a w' => (match f a w' with | .ok a w' => g a w' | .exc w' => .exc w' | .bad => .bad) | .exc w' => .exc w' | .bad => .bad)
  cases x w <;> rfl
theorem bind_run {α β : Type} (x : M α) (f : α → M β) (w : Wd) : (x >>= f) w = match x w with
  | .ok a w' => f a w'
  | .exc w' => .exc w'
  | .bad => .bad := rfl
theorem pure_run {α : Type} (a : α) (w : Wd) : (Pure.pure a : M α) w = .ok a w := rfl
theorem bind_ok {α β : Type} {x : M α} {f : α → M β} {w w2 : Wd} {b : β} (h : (x >>= f) w = .ok b w2) : ∃ a w1, x w = .ok a w1 ∧ f a w1 = .ok b w2 := by
  rw [bind_run] at h
  cases e : x w with
  | ok a w1 => rw [e] at h; exact ⟨a, w1, rfl, h⟩
  | exc w1 => rw [e] at h; cases h
  | bad => rw [e] at h; cases h
theorem pure_ok {α : Type} {a b : α} {w w2 : Wd} (h : (Pure.pure a : M α) w = .ok b w2) : a = b ∧ w = w2 := by
  rw [pure_run] at h
  cases h
  exact ⟨rfl, rfl⟩
theorem bad_ok {α : Type} {b : α} {w w2 : Wd} (h : (M.bad : M α) w = .ok b w2) : False := by cases h

/-! ### what stands for a value -/
/-- a tuple: tracked -/
def TupAt (_ : PySem.W.Frag) (H : Hp) (a : Addr) (xs : List V) : Prop := H a = some (.tup xs)
theorem TupAt.sq {K : PySem.W.Frag} {H : Hp} {a : Addr} {xs : List V} (h : TupAt K H a xs) : SqT K H a xs := .inl (.inl h)
section
variable (K : PySem.W.Frag) (mg : Str → Option Value) (aw : Addr)
mutual
/-- v stands for d, through lists and dicts that lie apart from U -/
inductive Rep (U : Addr → Prop) (H : Hp) : V → D → Prop
  | non : Rep U H .non .non
  | bl (b : Bool) : Rep U H (.bl b) (.bl b)
  | int (i : Int) : Rep U H (.int i) (.int i)
  | str (x : Str) : Rep U H (.str x) (.str x)
  | tup {a : Addr} {xs : List V} {ds : List D} : TupAt K H a xs → RepL U H xs ds → Rep U H (.ref a) (.tup ds)
  | lst {a : Addr} {xs : List V} {ds : List D} : H a = some (.lst xs) → ¬ U a → RepL U H xs ds → Rep U H (.ref a) (.lst ds)
  | dK {a : Addr} {kvs : List (Key × V)} {ds : List (Key × D)} : Rd H a (.dK kvs) → ¬ U a → RepK U H kvs ds → Rep U H (.ref a) (.dK ds)
  | dT {a : Addr} {kvs : List (List Key × V)} {ds : List (List Key × D)} : Rd H a (.dT kvs) → ¬ U a → RepT U H kvs ds → Rep U H (.ref a) (.dT ds)
  | fn {a : Addr} {f : Str} : mg f = some (.ref a) → Rep U H (.ref a) (.fn f)
  | tok : Rep U H (.ref aw) .tok
inductive RepL (U : Addr → Prop) (H : Hp) : List V → List D → Prop
  | nil : RepL U H [] []
  | cons {v : V} {vs : List V} {d : D} {ds : List D} : Rep U H v d → RepL U H vs ds → RepL U H (v :: vs) (d :: ds)
inductive RepK (U : Addr → Prop) (H : Hp) : List (Key × V) → List (Key × D) → Prop
  | nil : RepK U H [] []
  | cons {k : Key} {v : V} {vs : List (Key × V)} {d : D} {ds : List (Key × D)} : Rep U H v d → RepK U H vs ds → RepK U H ((k, v) :: vs) ((k, d) :: ds)
inductive RepT (U : Addr → Prop) (H : Hp) : List (List Key × V) → List (List Key × D) → Prop
  | nil : RepT U H [] []
  | cons {k : List Key} {v : V} {vs : List (List Key × V)} {d : D} {ds : List (List Key × D)} : Rep U H v d → RepT U H vs ds → RepT U H ((k, v) :: vs) ((k, d) :: ds)
end
end

/-- what is not in U is as it was; tuples are, wherever they stand -/
def Pres (U : Addr → Prop) (H H' : Hp) : Prop := ∀ b o, H b = some o → (U b → ∃ xs, o = .tup xs) → H' b = some o
theorem Pres.refl (U : Addr → Prop) (H : Hp) : Pres U H H := fun _ _ h _ => h
theorem Pres.trans {U : Addr → Prop} {H H1 H2 : Hp} (a : Pres U H H1) (b : Pres U H1 H2) : Pres U H H2 := fun c o h u => b c o (a c o h u) u
theorem Pres.mono {U U' : Addr → Prop} {H H' : Hp} (h : ∀ a, U a → U' a) (p : Pres U H H') : Pres U' H H' := fun b o e u => p b o e fun z => u (h b z)
theorem Pres.of_same {U : Addr → Prop} {H H' : Hp} (s : Same H H') : Pres U H H' := fun b o h _ => s b o h

section
variable {K : PySem.W.Frag} {mg : Str → Option Value} {aw : Addr} {U U' : Addr → Prop} {H H' : Hp}
theorem Pres.tupAt {a : Addr} {xs : List V} (p : Pres U H H') (h : TupAt K H a xs) : TupAt K H' a xs :=
  p _ _ h fun _ => ⟨_, rfl⟩
theorem Pres.rd {a : Addr} {z : HO} (p : Pres U H H') (u : ¬ U a) (h : Rd H a z) : Rd H' a z := by
  rcases h with h | ⟨o, h⟩
  · exact .inl (p _ _ h fun z => absurd z u)
  · exact .inr ⟨o, p _ _ h fun z => absurd z u⟩
mutual
theorem Rep.keep (p : Pres U H H') (u : ∀ a, U' a → U a) : ∀ {d : D} {v : V}, Rep K mg aw U H v d → Rep K mg aw U' H' v d
  | _, _, .non => .non
  | _, _, .bl b => .bl b
  | _, _, .int i => .int i
  | _, _, .str x => .str x
  | _, _, .tup h r => .tup (p.tupAt h) (RepL.keep p u r)
  | _, _, .lst h n r => .lst (p _ _ h fun z => absurd z n) (fun z => n (u _ z)) (RepL.keep p u r)
  | _, _, .dK h n r => .dK (p.rd n h) (fun z => n (u _ z)) (RepK.keep p u r)
  | _, _, .dT h n r => .dT (p.rd n h) (fun z => n (u _ z)) (RepT.keep p u r)
  | _, _, .fn h => .fn h
  | _, _, .tok => .tok
theorem RepL.keep (p : Pres U H H') (u : ∀ a, U' a → U a) : ∀ {ds : List D} {vs : List V}, RepL K mg aw U H vs ds → RepL K mg aw U' H' vs ds
  | _, _, .nil => .nil
  | _, _, .cons h r => .cons (Rep.keep p u h) (RepL.keep p u r)
theorem RepK.keep (p : Pres U H H') (u : ∀ a, U' a → U a) : ∀ {ds : List (Key × D)} {vs : List (Key × V)}, RepK K mg aw U H vs ds → RepK K mg aw U' H' vs ds
  | _, _, .nil => .nil
  | _, _, .cons h r => .cons (Rep.keep p u h) (RepK.keep p u r)
theorem RepT.keep (p : Pres U H H') (u : ∀ a, U' a → U a) : ∀ {ds : List (List Key × D)} {vs : List (List Key × V)}, RepT K mg aw U H vs ds → RepT K mg aw U' H' vs ds
  | _, _, .nil => .nil
  | _, _, .cons h r => .cons (Rep.keep p u h) (RepT.keep p u r)
end
theorem Rd.some {a : Addr} {z : HO} (h : Rd H a z) : H a ≠ none := by
  rcases h with h | ⟨o, h⟩ <;> (rw [h]; exact fun z => by cases z)
theorem Rd.sqL {a : Addr} {xs : List V} (h : Rd H a (.lst xs)) : SqL K H a xs := .inl h
mutual
theorem Rep.offs (n : ∀ a, U' a → U a ∨ H a = none) : ∀ {d : D} {v : V}, Rep K mg aw U H v d → Rep K mg aw U' H v d
  | _, _, .non => .non
  | _, _, .bl b => .bl b
  | _, _, .int i => .int i
  | _, _, .str x => .str x
  | _, _, .tup h r => .tup h (RepL.offs n r)
  | _, _, .lst h m r => .lst h (fun z => (n _ z).elim m fun e => Rd.some (.inl h) e) (RepL.offs n r)
  | _, _, .dK h m r => .dK h (fun z => (n _ z).elim m fun e => Rd.some h e) (RepK.offs n r)
  | _, _, .dT h m r => .dT h (fun z => (n _ z).elim m fun e => Rd.some h e) (RepT.offs n r)
  | _, _, .fn h => .fn h
  | _, _, .tok => .tok
theorem RepL.offs (n : ∀ a, U' a → U a ∨ H a = none) : ∀ {ds : List D} {vs : List V}, RepL K mg aw U H vs ds → RepL K mg aw U' H vs ds
  | _, _, .nil => .nil
  | _, _, .cons h r => .cons (Rep.offs n h) (RepL.offs n r)
theorem RepK.offs (n : ∀ a, U' a → U a ∨ H a = none) : ∀ {ds : List (Key × D)} {vs : List (Key × V)}, RepK K mg aw U H vs ds → RepK K mg aw U' H vs ds
  | _, _, .nil => .nil
  | _, _, .cons h r => .cons (Rep.offs n h) (RepK.offs n r)
theorem RepT.offs (n : ∀ a, U' a → U a ∨ H a = none) : ∀ {ds : List (List Key × D)} {vs : List (List Key × V)}, RepT K mg aw U H vs ds → RepT K mg aw U' H vs ds
  | _, _, .nil => .nil
  | _, _, .cons h r => .cons (Rep.offs n h) (RepT.offs n r)
end
theorem RepL.length : ∀ {ds : List D} {vs : List V}, RepL K mg aw U H vs ds → vs.length = ds.length
  | _, _, .nil => rfl
  | _, _, .cons _ r => congrArg (· + 1) (RepL.length r)
theorem RepL.get : ∀ {ds : List D} {vs : List V} {i : Nat} {d : D}, RepL K mg aw U H vs ds → ds[i]? = some d → ∃ v, vs[i]? = some v ∧ Rep K mg aw U H v d
  | _, _, i, d, .nil, e => by simp at e
  | _, _, 0, d, .cons h _, e => by simp at e; subst e; exact ⟨_, rfl, h⟩
  | _, _, i + 1, d, .cons _ r, e => by
    obtain ⟨v, h1, h2⟩ := RepL.get (i := i) r (by simpa using e)
    exact ⟨v, by simpa using h1, h2⟩
theorem RepL.getV : ∀ {ds : List D} {vs : List V} {i : Nat} {v : V}, RepL K mg aw U H vs ds → vs[i]? = some v → ∃ d, ds[i]? = some d ∧ Rep K mg aw U H v d
  | _, _, i, d, .nil, e => by simp at e
  | _, _, 0, d, .cons h _, e => by simp at e; subst e; exact ⟨_, rfl, h⟩
  | _, _, i + 1, d, .cons _ r, e => by
    obtain ⟨v, h1, h2⟩ := RepL.getV (i := i) r (by simpa using e)
    exact ⟨v, by simpa using h1, h2⟩
theorem RepL.append : ∀ {ds es : List D} {vs us : List V}, RepL K mg aw U H vs ds → RepL K mg aw U H us es → RepL K mg aw U H (vs ++ us) (ds ++ es)
  | _, _, _, _, .nil, s => s
  | _, _, _, _, .cons h r, s => .cons h (RepL.append r s)
theorem RepL.take : ∀ {ds : List D} {vs : List V} (n : Nat), RepL K mg aw U H vs ds → RepL K mg aw U H (vs.take n) (ds.take n)
  | _, _, 0, _ => .nil
  | _, _, _ + 1, .nil => .nil
  | _, _, n + 1, .cons h r => .cons h (RepL.take n r)
theorem RepL.drop : ∀ {ds : List D} {vs : List V} (n : Nat), RepL K mg aw U H vs ds → RepL K mg aw U H (vs.drop n) (ds.drop n)
  | _, _, 0, r => r
  | _, _, _ + 1, .nil => .nil
  | _, _, n + 1, .cons _ r => RepL.drop n r
theorem RepL.set {v : V} {d : D} (h : Rep K mg aw U H v d) : ∀ {ds : List D} {vs : List V} (i : Nat), RepL K mg aw U H vs ds → RepL K mg aw U H (vs.set i v) (ds.set i d)
  | _, _, _, .nil => .nil
  | _, _, 0, .cons _ r => .cons h r
  | _, _, i + 1, .cons q r => .cons q (RepL.set h i r)
theorem RepL.reverse : ∀ {ds : List D} {vs : List V}, RepL K mg aw U H vs ds → RepL K mg aw U H vs.reverse ds.reverse
  | _, _, .nil => .nil
  | _, _, .cons h r => by
    rw [List.reverse_cons, List.reverse_cons]
    exact RepL.append (RepL.reverse r) (.cons h .nil)
theorem RepL.rep : ∀ (n : Nat) {ds : List D} {vs : List V}, RepL K mg aw U H vs ds → RepL K mg aw U H (List.replicate n vs).flatten (List.replicate n ds).flatten
  | 0, _, _, _ => .nil
  | n + 1, _, _, h => by
    rw [List.replicate_succ, List.replicate_succ, List.flatten_cons, List.flatten_cons]
    exact RepL.append h (RepL.rep n h)
theorem RepL.of_get : ∀ {ds : List D} {vs : List V}, vs.length = ds.length → (∀ (i : Nat) (v : V) (d : D), vs[i]? = some v → ds[i]? = some d → Rep K mg aw U H v d) → RepL K mg aw U H vs ds
  | [], [], _, _ => .nil
  | d :: ds, v :: vs, hl, h => .cons (h 0 v d rfl rfl) (RepL.of_get (Nat.succ.inj hl) fun i u e a b => h (i + 1) u e (by simpa using a) (by simpa using b))
  | [], _ :: _, hl, _ => by cases hl
  | _ :: _, [], hl, _ => by cases hl
theorem RepL.ints : ∀ {ns : List Int} {vs : List V}, RepL K mg aw U H vs (ns.map D.int) → vs = ns.map V.int
  | [], _, h => by cases h; rfl
  | n :: ns, _, h => by
    cases h with
    | cons a r => cases a; rw [RepL.ints r]; rfl
theorem RepL.of_ints : ∀ (ns : List Int), RepL K mg aw U H (ns.map V.int) (ns.map D.int)
  | [] => .nil
  | n :: ns => .cons (.int n) (RepL.of_ints ns)
theorem RepL.bls : ∀ {ns : List Bool} {vs : List V}, RepL K mg aw U H vs (ns.map D.bl) → vs = ns.map V.bl
  | [], _, h => by cases h; rfl
  | n :: ns, _, h => by
    cases h with
    | cons a r => cases a; rw [RepL.bls r]; rfl
theorem RepL.strs : ∀ {ns : List Str} {vs : List V}, RepL K mg aw U H vs (ns.map D.str) → vs = ns.map V.str
  | [], _, h => by cases h; rfl
  | n :: ns, _, h => by
    cases h with
    | cons a r => cases a; rw [RepL.strs r]; rfl
end

/-! ### the top of a value may be one's own list, its parts are not -/
/-- v stands for d, its top apart from Ut, its parts apart from Uc -/
inductive RepC (K : PySem.W.Frag) (mg : Str → Option Value) (aw : Addr) (Ut Uc : Addr → Prop) (H : Hp) : V → D → Prop
  | lst {a : Addr} {xs : List V} {ds : List D} : H a = some (.lst xs) → ¬ Ut a → RepL K mg aw Uc H xs ds → RepC K mg aw Ut Uc H (.ref a) (.lst ds)
  | dK {a : Addr} {kvs : List (Key × V)} {ds : List (Key × D)} : Rd H a (.dK kvs) → ¬ Ut a → RepK K mg aw Uc H kvs ds → RepC K mg aw Ut Uc H (.ref a) (.dK ds)
  | dT {a : Addr} {kvs : List (List Key × V)} {ds : List (List Key × D)} : Rd H a (.dT kvs) → ¬ Ut a → RepT K mg aw Uc H kvs ds → RepC K mg aw Ut Uc H (.ref a) (.dT ds)
  | any {v : V} {d : D} : Rep K mg aw Uc H v d → (∀ a, Ut a → Uc a) → RepC K mg aw Ut Uc H v d
section
variable {K : PySem.W.Frag} {mg : Str → Option Value} {aw : Addr} {U Ut Uc Ut' Uc' : Addr → Prop} {H H' : Hp} {v : V} {d : D}
/-- what is read alone -/
abbrev No : Addr → Prop := fun _ => False
theorem RepC.read (h : RepC K mg aw Ut Uc H v d) : RepC K mg aw No Uc H v d := by
  cases h with
  | lst a b c => exact .lst a (fun z => z) c
  | dK a b c => exact .dK a (fun z => z) c
  | dT a b c => exact .dT a (fun z => z) c
  | any h _ => exact .any h fun _ z => z.elim
theorem RepC.all (h : RepC K mg aw U U H v d) : Rep K mg aw U H v d := by
  cases h with
  | lst a b c => exact .lst a b c
  | dK a b c => exact .dK a b c
  | dT a b c => exact .dT a b c
  | any h _ => exact h
theorem RepC.weak (h : RepC K mg aw Ut Uc H v d) (u : ∀ a, U a → Ut a) (w : ∀ a, U a → Uc a) : Rep K mg aw U H v d := by
  cases h with
  | lst a b c => exact .lst a (fun z => b (u _ z)) (RepL.keep (Pres.refl _ _) w c)
  | dK a b c => exact .dK a (fun z => b (u _ z)) (RepK.keep (Pres.refl _ _) w c)
  | dT a b c => exact .dT a (fun z => b (u _ z)) (RepT.keep (Pres.refl _ _) w c)
  | any h _ => exact h.keep (Pres.refl _ _) w
theorem RepC.same (p : Same H H') (h : RepC K mg aw Ut Uc H v d) : RepC K mg aw Ut Uc H' v d := by
  cases h with
  | lst a b c => exact .lst (p _ _ a) b (RepL.keep (Pres.of_same p) (fun _ z => z) c)
  | dK a b c => exact .dK (a.elim (fun z => .inl (p _ _ z)) fun ⟨o, z⟩ => .inr ⟨o, p _ _ z⟩) b (RepK.keep (Pres.of_same p) (fun _ z => z) c)
  | dT a b c => exact .dT (a.elim (fun z => .inl (p _ _ z)) fun ⟨o, z⟩ => .inr ⟨o, p _ _ z⟩) b (RepT.keep (Pres.of_same p) (fun _ z => z) c)
  | any h q => exact .any (h.keep (Pres.of_same p) fun _ z => z) q
theorem RepC.inv_lst {ds : List D} (h : RepC K mg aw Ut Uc H v (.lst ds)) : ∃ (a : Addr) (xs : List V), v = .ref a ∧ H a = some (.lst xs) ∧ RepL K mg aw Uc H xs ds := by
  cases h with
  | lst a _ c => exact ⟨_, _, rfl, a, c⟩
  | any h _ => cases h with
    | lst a _ c => exact ⟨_, _, rfl, a, c⟩
theorem RepC.inv_tup {ds : List D} (h : RepC K mg aw Ut Uc H v (.tup ds)) : ∃ (a : Addr) (xs : List V), v = .ref a ∧ TupAt K H a xs ∧ RepL K mg aw Uc H xs ds := by
  cases h with
  | any h _ => cases h with
    | tup a c => exact ⟨_, _, rfl, a, c⟩
theorem RepC.inv_dK {ds : List (Key × D)} (h : RepC K mg aw Ut Uc H v (.dK ds)) : ∃ (a : Addr) (xs : List (Key × V)), v = .ref a ∧ Rd H a (.dK xs) ∧ RepK K mg aw Uc H xs ds := by
  cases h with
  | dK a _ c => exact ⟨_, _, rfl, a, c⟩
  | any h _ => cases h with
    | dK a _ c => exact ⟨_, _, rfl, a, c⟩
theorem RepC.inv_dT {ds : List (List Key × D)} (h : RepC K mg aw Ut Uc H v (.dT ds)) : ∃ (a : Addr) (xs : List (List Key × V)), v = .ref a ∧ Rd H a (.dT xs) ∧ RepT K mg aw Uc H xs ds := by
  cases h with
  | dT a _ c => exact ⟨_, _, rfl, a, c⟩
  | any h _ => cases h with
    | dT a _ c => exact ⟨_, _, rfl, a, c⟩
theorem RepC.inv_int {i : Int} (h : RepC K mg aw Ut Uc H v (.int i)) : v = .int i := by
  cases h with
  | any h _ => cases h; rfl
theorem RepC.inv_bl {i : Bool} (h : RepC K mg aw Ut Uc H v (.bl i)) : v = .bl i := by
  cases h with
  | any h _ => cases h; rfl
theorem RepC.inv_str {i : Str} (h : RepC K mg aw Ut Uc H v (.str i)) : v = .str i := by
  cases h with
  | any h _ => cases h; rfl
theorem RepC.inv_non (h : RepC K mg aw Ut Uc H v .non) : v = .non := by
  cases h with
  | any h _ => cases h; rfl
theorem RepC.inv_tok (h : RepC K mg aw Ut Uc H v .tok) : v = .ref aw := by
  cases h with
  | any h _ => cases h; rfl
theorem RepC.inv_fn {f : Str} (h : RepC K mg aw Ut Uc H v (.fn f)) : ∃ a, v = .ref a ∧ mg f = some (.ref a) := by
  cases h with
  | any h _ => cases h with
    | fn e => exact ⟨_, rfl, e⟩
end
end Vw

namespace Vw
open PySem PySem.Spec PyProof.Rows L2

/-! ### the draws' state as it stands in the heap -/
def WR (aw : Addr) (H : Hp) (w : Wd) : Prop := ∃ ac : Addr, ac ≠ aw ∧ H aw = some (.lst [.ref ac, .int w.pos, .int w.cur, .int w.left, .int w.seed, .int w.cnt]) ∧ H ac = some (.lst (w.cells.map V.int))
/-- all but the draws' state is as it was; that stays where it is -/
structure Ext (aw : Addr) (H H' : Hp) : Prop where
  k : ∀ b o, H b = some o → b ≠ aw → H' b = some o
  a : ∀ ac r, H aw = some (.lst (.ref ac :: r)) → ∃ r', H' aw = some (.lst (.ref ac :: r'))
theorem Ext.refl (aw : Addr) (H : Hp) : Ext aw H H := ⟨fun _ _ h _ => h, fun _ r h => ⟨r, h⟩⟩
theorem Ext.trans {aw : Addr} {H H1 H2 : Hp} (a : Ext aw H H1) (b : Ext aw H1 H2) : Ext aw H H2 := ⟨fun c o h n => b.k c o (a.k c o h n) n, fun ac r h => by
  obtain ⟨r1, h1⟩ := a.a ac r h
  exact b.a ac r1 h1⟩
theorem Ext.of_same {aw : Addr} {H H' : Hp} (s : Same H H') : Ext aw H H' := ⟨fun b o h _ => s b o h, fun ac r h => ⟨r, s _ _ h⟩⟩
theorem same_upd {H : Hp} {p : Addr} {o : HO} (h : H p = none) : Same H (upd H p o) := fun b x e => by
  rw [upd_ne (ne_of_none e h)]
  exact e
theorem WR.same {aw : Addr} {H H' : Hp} {w : Wd} (h : WR aw H w) (s : Same H H') : WR aw H' w := by
  obtain ⟨ac, n, a, b⟩ := h
  exact ⟨ac, n, s _ _ a, s _ _ b⟩
theorem WR.some {aw : Addr} {H : Hp} {w : Wd} (h : WR aw H w) : H aw ≠ none := by
  obtain ⟨ac, n, a, b⟩ := h
  rw [a]
  exact fun z => by cases z
theorem Ext.pres {aw : Addr} {U : Addr → Prop} {H H' : Hp} {w : Wd} (e : Ext aw H H') (u : U aw) (h : WR aw H w) : Pres U H H' := fun b o q z => by
  by_cases hb : b = aw
  · subst hb
    obtain ⟨xs, rfl⟩ := z u
    obtain ⟨ac, n, a, _⟩ := h
    rw [a] at q
    cases q
  · exact e.k b o q hb
theorem Ext.tracked {aw : Addr} {H H' : Hp} {w' : Wd} (e : Ext aw H H') (h' : WR aw H' w') {a : Addr} (n : H a ≠ none) : H' a ≠ none := by
  by_cases hb : a = aw
  · subst hb
    exact h'.some
  · cases q : H a with
    | none => exact absurd q n
    | some o => rw [e.k a o q hb]; exact fun z => by cases z

/-! ### stores -/
/-- what the names hold: whether the thing is the frame's own (none else has it), the value -/
abbrev Sto := List (Option (Bool × D))
/-- what values stand apart from: U, and the frame's own things but those of the slots L -/
def UO (U : Addr → Prop) (O : Nat → Option Addr) (L : List Nat) : Addr → Prop := fun a => U a ∨ ∃ i, i ∉ L ∧ O i = some a
theorem UO.u {U : Addr → Prop} {O : Nat → Option Addr} {L : List Nat} {a : Addr} (h : U a) : UO U O L a := .inl h
theorem UO.mono {U : Addr → Prop} {O : Nat → Option Addr} {L L' : List Nat} (h : ∀ i, i ∈ L → i ∈ L') : ∀ a, UO U O L' a → UO U O L a := fun a z => z.elim .inl fun ⟨i, n, e⟩ => .inr ⟨i, fun m => n (h i m), e⟩
theorem UO.appL {U : Addr → Prop} {O : Nat → Option Addr} {L L' : List Nat} : ∀ a, UO U O (L ++ L') a → UO U O L a := UO.mono fun _ h => List.mem_append_left _ h
theorem UO.appR {U : Addr → Prop} {O : Nat → Option Addr} {L L' : List Nat} : ∀ a, UO U O (L ++ L') a → UO U O L' a := UO.mono fun _ h => List.mem_append_right _ h
section
variable (K : PySem.W.Frag) (mg : Str → Option Value) (aw : Addr)
/-- the frame's own thing at a -/
inductive OwnAt (U : Addr → Prop) (H : Hp) (a : Addr) : D → Prop
  | lst {xs : List V} {ds : List D} : H a = some (.lst xs) → RepL K mg aw U H xs ds → OwnAt U H a (.lst ds)
  | dK {kvs : List (Key × V)} {ds : List (Key × D)} : H a = some (.dK kvs) → RepK K mg aw U H kvs ds → OwnAt U H a (.dK ds)
  | dT {kvs : List (List Key × V)} {ds : List (List Key × D)} : H a = some (.dT kvs) → RepT K mg aw U H kvs ds → OwnAt U H a (.dT ds)
structure SR (U : Addr → Prop) (O : Nat → Option Addr) (σ : L2.St) (H : Hp) (ρ : Sto) (w : Wd) : Prop where
  len : σ.length = ρ.length
  tr : ∀ a, U a → H a ≠ none
  wU : U aw
  otr : ∀ i a, O i = some a → H a ≠ none
  onU : ∀ i a, O i = some a → ¬ U a
  inj : ∀ i j a, O i = some a → O j = some a → i = j
  sh : ∀ (i : Nat) (d : D), ρ[i]? = some (some (false, d)) → ∃ v, σ[i]? = some (some v) ∧ Rep K mg aw (UO U O []) H v d
  own : ∀ (i : Nat) (d : D), ρ[i]? = some (some (true, d)) → ∃ a, σ[i]? = some (some (.ref a)) ∧ O i = some a ∧ OwnAt K mg aw (UO U O []) H a d
  wld : WR aw H w
  wac : ∀ ac r, H aw = some (.lst (.ref ac :: r)) → U ac
  ob : ∃ n : Nat, ∀ i a, O i = some a → i < n
end
section
variable {K : PySem.W.Frag} {mg : Str → Option Value} {aw : Addr} {U U' Ut Uc : Addr → Prop} {O : Nat → Option Addr} {σ : L2.St} {H H' : Hp} {ρ : Sto} {w w' : Wd} {v : V} {d : D} {L L' : List Nat}
theorem RepC.ext (e : Ext aw H H') (wr : WR aw H w) (ut : Ut aw) (uc : Uc aw) (h : RepC K mg aw Ut Uc H v d) : RepC K mg aw Ut Uc H' v d := by
  have p : Pres Uc H H' := e.pres uc wr
  have q : Pres Ut H H' := e.pres ut wr
  cases h with
  | lst a b c => exact .lst (q _ _ a fun z => absurd z b) b (RepL.keep p (fun _ z => z) c)
  | dK a b c => exact .dK (q.rd b a) b (RepK.keep p (fun _ z => z) c)
  | dT a b c => exact .dT (q.rd b a) b (RepT.keep p (fun _ z => z) c)
  | any h q => exact .any (h.keep p fun _ z => z) q
theorem SR.un (S : SR K mg aw U O σ H ρ w) {L : List Nat} : UO U O L aw := .inl S.wU
theorem SR.utr (S : SR K mg aw U O σ H ρ w) {L : List Nat} : ∀ a, UO U O L a → H a ≠ none := fun a z => z.elim (S.tr a) fun ⟨i, _, e⟩ => S.otr i a e
theorem Ext.wac (e : Ext aw H H') (wr : WR aw H w) (k : ∀ ac r, H aw = some (.lst (.ref ac :: r)) → U ac) : ∀ ac r, H' aw = some (.lst (.ref ac :: r)) → U ac := fun ac r h => by
  obtain ⟨a0, _, h0, _⟩ := wr
  obtain ⟨r1, h1⟩ := e.a _ _ h0
  rw [h1] at h
  cases h
  exact k _ _ h0
/-- behind an expression -/
theorem SR.ext (S : SR K mg aw U O σ H ρ w) (e : Ext aw H H') (wr : WR aw H' w') : SR K mg aw U O σ H' ρ w' := by
  have p : Pres (UO U O []) H H' := e.pres S.un S.wld
  refine ⟨S.len, fun a z => e.tracked wr (S.tr a z), S.wU, fun i a z => e.tracked wr (S.otr i a z), S.onU, S.inj, fun i d q => ?_, fun i d q => ?_, wr, e.wac S.wld S.wac, S.ob⟩
  · obtain ⟨v, h1, h2⟩ := S.sh i d q
    exact ⟨v, h1, h2.keep p fun _ z => z⟩
  · obtain ⟨a, h1, h2, h3⟩ := S.own i d q
    have n : a ≠ aw := fun z => S.onU i a h2 (z ▸ S.wU)
    refine ⟨a, h1, h2, ?_⟩
    cases h3 with
    | lst x y => exact .lst (e.k _ _ x n) (RepL.keep p (fun _ z => z) y)
    | dK x y => exact .dK (e.k _ _ x n) (RepK.keep p (fun _ z => z) y)
    | dT x y => exact .dT (e.k _ _ x n) (RepT.keep p (fun _ z => z) y)
theorem OwnAt.same {a : Addr} (p : Same H H') (h : OwnAt K mg aw U H a d) : OwnAt K mg aw U H' a d := by
  cases h with
  | lst x y => exact .lst (p _ _ x) (RepL.keep (Pres.of_same p) (fun _ z => z) y)
  | dK x y => exact .dK (p _ _ x) (RepK.keep (Pres.of_same p) (fun _ z => z) y)
  | dT x y => exact .dT (p _ _ x) (RepT.keep (Pres.of_same p) (fun _ z => z) y)
theorem OwnAt.offs {a : Addr} (n : ∀ b, U' b → U b ∨ H b = none) (h : OwnAt K mg aw U H a d) : OwnAt K mg aw U' H a d := by
  cases h with
  | lst x y => exact .lst x (RepL.offs n y)
  | dK x y => exact .dK x (RepK.offs n y)
  | dT x y => exact .dT x (RepT.offs n y)
theorem OwnAt.weak {a : Addr} (u : ∀ b, U' b → U b) (h : OwnAt K mg aw U H a d) : OwnAt K mg aw U' H a d := by
  cases h with
  | lst x y => exact .lst x (RepL.keep (Pres.refl _ _) u y)
  | dK x y => exact .dK x (RepK.keep (Pres.refl _ _) u y)
  | dT x y => exact .dT x (RepT.keep (Pres.refl _ _) u y)
/-- one more own thing -/
def addO (O : Nat → Option Addr) (j : Nat) (q : Addr) : Nat → Option Addr := fun i => if i = j then some q else O i
theorem UO.add {q : Addr} {j : Nat} : ∀ a, UO U (addO O j q) L a → UO U O L a ∨ a = q := fun a z => by
  rcases z with z | ⟨i, n, e⟩
  · exact .inl (.inl z)
  · unfold addO at e
    split at e
    · cases e; exact .inr rfl
    · exact .inl (.inr ⟨i, n, e⟩)
theorem UO.added {q : Addr} {j : Nat} (h : O j = none) : ∀ a, UO U O L a → UO U (addO O j q) L a := fun a z => by
  rcases z with z | ⟨i, n, e⟩
  · exact .inl z
  · refine .inr ⟨i, n, ?_⟩
    unfold addO
    rw [if_neg fun z => by rw [z, h] at e; cases e]
    exact e
/-- a new thing that nobody has -/
theorem SR.add (S : SR K mg aw U O σ H ρ w) {q : Addr} {j : Nat} (n : H q = none) (hj : O j = none) {o : HO} : SR K mg aw U (addO O j q) σ (upd H q o) ρ w := by
  have sm : Same H (upd H q o) := same_upd n
  have fresh : ∀ a, H a ≠ none → a ≠ q := fun a h e => h (e ▸ n)
  have ups : ∀ a, H a ≠ none → upd H q o a ≠ none := fun a h => by
    rw [upd_ne (fresh a h)]
    exact h
  have off : ∀ a, UO U (addO O j q) [] a → UO U O [] a ∨ H a = none := fun a z => (UO.add a z).elim .inl fun z => .inr (z ▸ n)
  refine ⟨S.len, fun a z => ups a (S.tr a z), S.wU, fun i a z => ?_, fun i a z y => ?_, fun i k a y z => ?_, fun i d z => ?_, fun i d z => ?_, S.wld.same sm, Ext.wac (Ext.of_same sm) S.wld S.wac, ?_⟩
  · unfold addO at z
    split at z
    · cases z; rw [upd_same]; exact fun z => by cases z
    · exact ups a (S.otr i a z)
  · unfold addO at z
    split at z
    · cases z; exact S.tr _ y n
    · exact S.onU i a z y
  · unfold addO at y z
    split at y
    · rename_i e1
      cases y
      split at z
      · rename_i e2; rw [e1, e2]
      · exact absurd rfl (fresh _ (S.otr k _ z))
    · split at z
      · cases z; exact absurd rfl (fresh _ (S.otr i _ y))
      · exact S.inj i k a y z
  · obtain ⟨v, h1, h2⟩ := S.sh i d z
    exact ⟨v, h1, (h2.offs off).keep (Pres.of_same sm) fun _ z => z⟩
  · obtain ⟨a, h1, h2, h3⟩ := S.own i d z
    refine ⟨a, h1, ?_, (h3.offs off).same sm⟩
    unfold addO
    rw [if_neg fun z => by rw [z, hj] at h2; cases h2]
    exact h2
  · obtain ⟨m, hm⟩ := S.ob
    refine ⟨m + j + 1, fun i a z => ?_⟩
    unfold addO at z
    split at z
    · omega
    · have := hm i a z
      omega
theorem lt_sum : ∀ (L : List Nat) (i : Nat), i ∈ L → i ≤ L.sum
  | a :: L, i, h => by
    rw [List.sum_cons]
    rcases List.mem_cons.mp h with rfl | h
    · omega
    · have := lt_sum L i h
      omega
theorem SR.free (S : SR K mg aw U O σ H ρ w) (L : List Nat) : ∃ j, O j = none ∧ j ∉ L := by
  obtain ⟨m, hm⟩ := S.ob
  refine ⟨m + L.sum + 1, ?_, fun z => ?_⟩
  · cases e : O (m + L.sum + 1) with
    | none => rfl
    | some a => have := hm _ a e; omega
  · have := lt_sum L _ z
    omega
theorem Ext.upd {q : Addr} {o : HO} (e : Ext aw H H') (n : H q = none) (na : q ≠ aw) : Ext aw H (upd H' q o) := ⟨fun b x h nb => by
  rw [upd_ne (ne_of_none h n)]
  exact e.k b x h nb, fun ac r h => by
  obtain ⟨r', h'⟩ := e.a ac r h
  exact ⟨r', by rw [upd_ne (Ne.symm na)]; exact h'⟩⟩
/-- an own list is changed -/
def Mu : HO → Prop
  | .lst _ => True
  | .dK _ => True
  | .dT _ => True
  | _ => False
theorem pres_upd {a : Addr} {o o' : HO} (h : H a = some o) (m : Mu o) (u : U a) : Pres U H (upd H a o') := fun b x e t => by
  by_cases hb : b = a
  · subst hb
    obtain ⟨xs, rfl⟩ := t u
    rw [h] at e
    cases e
    exact m.elim
  · rw [upd_ne hb]
    exact e
/-- what behind a change of an own thing stands -/
theorem SR.mut (S : SR K mg aw U O σ H ρ w) {j : Nat} {q : Addr} {o o' : HO} (hj : O j = some q) (h : H q = some o) (m : Mu o) (r : ∀ d, ρ[j]? ≠ some (some (true, d))) : SR K mg aw U O σ (upd H q o') ρ w := by
  have nU : ¬ U q := S.onU j q hj
  have uq : UO U O [] q := .inr ⟨j, by simp, hj⟩
  have p : Pres (UO U O []) H (upd H q o') := pres_upd h m uq
  have n1 : q ≠ aw := fun z => nU (z ▸ S.wU)
  have ups : ∀ a, H a ≠ none → upd H q o' a ≠ none := fun a h => by
    by_cases ha : a = q
    · rw [ha, upd_same]; exact fun z => by cases z
    · rw [upd_ne ha]; exact h
  have wr : WR aw (upd H q o') w := by
    obtain ⟨ac, n, a, b⟩ := S.wld
    have n2 : ac ≠ q := fun z => nU (z ▸ S.wac _ _ a)
    exact ⟨ac, n, by rw [upd_ne (Ne.symm n1)]; exact a, by rw [upd_ne n2]; exact b⟩
  refine ⟨S.len, fun a z => ups a (S.tr a z), S.wU, fun i a z => ups a (S.otr i a z), S.onU, S.inj, fun i d z => ?_, fun i d z => ?_, wr, fun ac r z => S.wac ac r (by rw [upd_ne (Ne.symm n1)] at z; exact z), S.ob⟩
  · obtain ⟨v, h1, h2⟩ := S.sh i d z
    exact ⟨v, h1, h2.keep p fun _ z => z⟩
  · obtain ⟨a, h1, h2, h3⟩ := S.own i d z
    have na : a ≠ q := fun e => by
      have : i = j := S.inj i j q (e ▸ h2) hj
      subst this
      exact r d z
    refine ⟨a, h1, h2, ?_⟩
    cases h3 with
    | lst x y => exact .lst (by rw [upd_ne na]; exact x) (RepL.keep p (fun _ z => z) y)
    | dK x y => exact .dK (by rw [upd_ne na]; exact x) (RepK.keep p (fun _ z => z) y)
    | dT x y => exact .dT (by rw [upd_ne na]; exact x) (RepT.keep p (fun _ z => z) y)
end
end Vw

namespace Vw
open PySem PySem.Spec PyProof.Rows L2

section
variable {K : PySem.W.Frag} {mg : Str → Option Value} {aw : Addr} {U U' Ut Uc Ut' Uc' : Addr → Prop} {O : Nat → Option Addr} {σ : L2.St} {H H' : Hp} {ρ : Sto} {w w' : Wd} {v : V} {d : D} {L L' : List Nat}
theorem RepC.mono (h : RepC K mg aw Ut Uc H v d) (u : ∀ a, Ut' a → Ut a) (c : ∀ a, Uc' a → Uc a) (q : ∀ a, Ut' a → Uc' a) : RepC K mg aw Ut' Uc' H v d := by
  cases h with
  | lst a b z => exact .lst a (fun y => b (u _ y)) (RepL.keep (Pres.refl _ _) c z)
  | dK a b z => exact .dK a (fun y => b (u _ y)) (RepK.keep (Pres.refl _ _) c z)
  | dT a b z => exact .dT a (fun y => b (u _ y)) (RepT.keep (Pres.refl _ _) c z)
  | any h p => exact .any (h.keep (Pres.refl _ _) c) q
theorem RepC.rd (h : RepC K mg aw Ut Uc H v d) (c : ∀ a, Uc' a → Uc a) : RepC K mg aw No Uc' H v d := h.mono (fun _ z => z.elim) c fun _ z => z.elim
theorem Rep.c (h : Rep K mg aw U H v d) : RepC K mg aw U U H v d := .any h fun _ z => z
theorem Rep.cr (h : Rep K mg aw U H v d) : RepC K mg aw No U H v d := .any h fun _ z => z.elim
/-- a list of such -/
inductive RepCs (K : PySem.W.Frag) (mg : Str → Option Value) (aw : Addr) (Ut Uc : Addr → Prop) (H : Hp) : List V → List D → Prop
  | nil : RepCs K mg aw Ut Uc H [] []
  | cons {v : V} {vs : List V} {d : D} {ds : List D} : RepC K mg aw Ut Uc H v d → RepCs K mg aw Ut Uc H vs ds → RepCs K mg aw Ut Uc H (v :: vs) (d :: ds)
theorem RepCs.ext (e : Ext aw H H') (wr : WR aw H w) (ut : Ut aw) (uc : Uc aw) : ∀ {vs : List V} {ds : List D}, RepCs K mg aw Ut Uc H vs ds → RepCs K mg aw Ut Uc H' vs ds
  | _, _, .nil => .nil
  | _, _, .cons h r => .cons (h.ext e wr ut uc) (RepCs.ext e wr ut uc r)
theorem RepCs.mono (u : ∀ a, Ut' a → Ut a) (c : ∀ a, Uc' a → Uc a) (q : ∀ a, Ut' a → Uc' a) : ∀ {vs : List V} {ds : List D}, RepCs K mg aw Ut Uc H vs ds → RepCs K mg aw Ut' Uc' H vs ds
  | _, _, .nil => .nil
  | _, _, .cons h r => .cons (h.mono u c q) (RepCs.mono u c q r)
theorem RepCs.all : ∀ {vs : List V} {ds : List D}, RepCs K mg aw U U H vs ds → RepL K mg aw U H vs ds
  | _, _, .nil => .nil
  | _, _, .cons h r => .cons h.all (RepCs.all r)
theorem RepCs.weak (u : ∀ a, U a → Ut a) (c : ∀ a, U a → Uc a) {vs : List V} {ds : List D} (h : RepCs K mg aw Ut Uc H vs ds) : RepL K mg aw U H vs ds := RepCs.all (RepCs.mono u c (fun _ z => z) h)
theorem RepCs.length : ∀ {vs : List V} {ds : List D}, RepCs K mg aw Ut Uc H vs ds → vs.length = ds.length
  | _, _, .nil => rfl
  | _, _, .cons _ r => congrArg (· + 1) (RepCs.length r)
end

/-! ### the judgements -/
section
variable (K : PySem.W.Frag) (mg : Str → Option Value) (aw : Addr)
def tE (Lt Lc : List Nat) (d : Sto → M D) : TE := fun σ H Q => ∃ (U : Addr → Prop) (O : Nat → Option Addr) (ρ : Sto) (w : Wd) (v0 : D) (w' : Wd), SR K mg aw U O σ H ρ w ∧ d ρ w = .ok v0 w' ∧
  ∀ v H', Ext aw H H' → WR aw H' w' → RepC K mg aw (UO U O Lt) (UO U O Lc) H' v v0 → Q v H'
def tT (d : Sto → M Bool) : TT := fun σ H Q => ∃ (U : Addr → Prop) (O : Nat → Option Addr) (ρ : Sto) (w : Wd) (b : Bool) (w' : Wd), SR K mg aw U O σ H ρ w ∧ d ρ w = .ok b w' ∧
  ∀ H', Ext aw H H' → WR aw H' w' → Q b H'
def tA (Lt Lc : List Nat) (d : Sto → M (List D)) : TA := fun σ H Q => ∃ (U : Addr → Prop) (O : Nat → Option Addr) (ρ : Sto) (w : Wd) (ds : List D) (w' : Wd), SR K mg aw U O σ H ρ w ∧ d ρ w = .ok ds w' ∧
  ∀ vs H', Ext aw H H' → WR aw H' w' → RepCs K mg aw (UO U O Lt) (UO U O Lc) H' vs ds → Q vs H'
end
def VE (X : Cx) (aw : Addr) (e : Expr) (Lt Lc : List Nat) (d : Sto → M D) : Prop := PE X e (tE X.K X.mg aw Lt Lc d) ∧ ∀ i, i ∈ Lc → i ∈ Lt
def VT (X : Cx) (aw : Addr) (e : Expr) (d : Sto → M Bool) : Prop := PT X e (tT X.K X.mg aw d)
def VW (X : Cx) (aw : Addr) (e : Expr) (d : Sto → M Bool) : Prop := PW X e (tT X.K X.mg aw d)
def VA (X : Cx) (aw : Addr) (es : List Expr) (Lt Lc : List Nat) (d : Sto → M (List D)) : Prop := PA X es (tA X.K X.mg aw Lt Lc d) ∧ ∀ i, i ∈ Lc → i ∈ Lt

theorem PE.weak {X : Cx} {e : Expr} {t t' : TE} (h : PE X e t) (k : ∀ σ H Q, t' σ H Q → t σ H Q) : PE X e t' := ⟨fun pins s σ H Q I q => h.run pins s σ H Q I (k σ H Q q)⟩
theorem PT.weak {X : Cx} {e : Expr} {t t' : TT} (h : PT X e t) (k : ∀ σ H Q, t' σ H Q → t σ H Q) : PT X e t' := ⟨fun pins s σ H Q I q => h.run pins s σ H Q I (k σ H Q q)⟩
theorem PW.weak {X : Cx} {e : Expr} {t t' : TT} (h : PW X e t) (k : ∀ σ H Q, t' σ H Q → t σ H Q) : PW X e t' := ⟨fun wh pins s σ H Q I q => h.run wh pins s σ H Q I (k σ H Q q)⟩
theorem PA.weak {X : Cx} {e : List Expr} {t t' : TA} (h : PA X e t) (k : ∀ σ H Q, t' σ H Q → t σ H Q) : PA X e t' := ⟨fun pos pins s σ H Q I q => h.run pos pins s σ H Q I (k σ H Q q)⟩
theorem PS.weak {X : Cx} {e : Stmt} {t t' : TS} (h : PS X e t) (k : ∀ D σ H, t' D σ H → t D σ H) : PS X e t' := ⟨fun pins s σ H D I q => h.run pins s σ H D I (k D σ H q)⟩
theorem PSs.weak {X : Cx} {e : List Stmt} {t t' : TS} (h : PSs X e t) (k : ∀ D σ H, t' D σ H → t D σ H) : PSs X e t' := ⟨fun pins s σ H D I q => h.run pins s σ H D I (k D σ H q)⟩
theorem PI.weak {X : Cx} {g e : Expr} {t t' : TI} (h : PI X g e t) (k : ∀ σ H Q, t' σ H Q → t σ H Q) : PI X g e t' := ⟨fun pins s σ H Q I q => h.run pins s σ H Q I (k σ H Q q)⟩
theorem PG.weak {X : Cx} {g : Expr} {t t' : TG} (h : PG X g t) (k : ∀ v σ H Q, t' v σ H Q → t v σ H Q) : PG X g t' := by
  obtain ⟨run⟩ := h
  exact ⟨by
    intros
    apply run <;> first | assumption | (apply k; assumption)⟩

/-! ### lifting -/
def lift {α : Type} : Option α → M α
  | some a => Pure.pure a
  | none => M.bad
@[simp] theorem lift_some {α : Type} (a : α) : lift (some a) = Pure.pure a := rfl
@[simp] theorem lift_none {α : Type} : (lift none : M α) = M.bad := rfl
theorem lift_ok {α : Type} {o : Option α} {a : α} {w w' : Wd} (h : lift o w = .ok a w') : o = some a ∧ w = w' := by
  cases o with
  | none => cases h
  | some b => cases h; exact ⟨rfl, rfl⟩

/-! ### names and constants -/
def dV (i : Nat) : Sto → M D := fun ρ => match ρ[i]? with
  | some (some (_, d)) => Pure.pure d
  | _ => M.bad
/-- a name whose thing is not one's own alone -/
def dVs (i : Nat) : Sto → M D := fun ρ => match ρ[i]? with
  | some (some (false, d)) => Pure.pure d
  | _ => M.bad
def dC (d : D) : Sto → M D := fun _ => Pure.pure d
section
variable {X : Cx} {aw : Addr} {pos : Pos}
theorem ve_v (i : Nat) {x : Str} (hN : X.N[i]? = some x := by rfl) (hv : Vis X.env.scope x := by first | exact Or.inl rfl | exact Or.inr (Or.inl rfl) | exact Or.inr (Or.inr rfl)) (hd : (x == ("__debug__" : Str)) = false := by decide)
    (hcd : (x == ("__classdict__" : Str)) = false := by decide) : VE X aw (.Name x pos) [i] [] (dV i) := by
  refine ⟨PE.weak (pe_var hN hv hd hcd) fun σ H Q ⟨U, O, ρ, w, v0, w', S, h, k⟩ => ?_, fun _ z => absurd z (by simp)⟩
  unfold dV at h
  cases e : ρ[i]? with
  | none => rw [e] at h; cases h
  | some z =>
   rw [e] at h
   cases z with
   | none => cases h
   | some z =>
    obtain ⟨b, d⟩ := z
    obtain ⟨rfl, rfl⟩ := pure_ok h
    cases b with
    | false =>
      obtain ⟨v, h1, h2⟩ := S.sh i _ e
      exact ⟨v, h1, k v H (Ext.refl _ _) S.wld (.any h2 (UO.mono (by simp)))⟩
    | true =>
      obtain ⟨a, h1, h2, h3⟩ := S.own i _ e
      refine ⟨_, h1, k _ H (Ext.refl _ _) S.wld ?_⟩
      have n : ¬ UO U O [i] a := fun z => z.elim (S.onU i a h2) fun ⟨j, hj, ej⟩ => hj (by rw [S.inj j i a ej h2]; simp)
      cases h3 with
      | lst x y => exact .lst x n y
      | dK x y => exact .dK (.inl x) n y
      | dT x y => exact .dT (.inl x) n y
theorem ve_vs (i : Nat) {x : Str} (hN : X.N[i]? = some x := by rfl) (hv : Vis X.env.scope x := by first | exact Or.inl rfl | exact Or.inr (Or.inl rfl) | exact Or.inr (Or.inr rfl)) (hd : (x == ("__debug__" : Str)) = false := by decide)
    (hcd : (x == ("__classdict__" : Str)) = false := by decide) : VE X aw (.Name x pos) [] [] (dVs i) := by
  refine ⟨PE.weak (pe_var hN hv hd hcd) fun σ H Q ⟨U, O, ρ, w, v0, w', S, h, k⟩ => ?_, fun _ z => z⟩
  unfold dVs at h
  cases e : ρ[i]? with
  | none => rw [e] at h; cases h
  | some z =>
   rw [e] at h
   cases z with
   | none => cases h
   | some z =>
    obtain ⟨b, d⟩ := z
    cases b with
    | false =>
      obtain ⟨rfl, rfl⟩ := pure_ok h
      obtain ⟨v, h1, h2⟩ := S.sh i _ e
      exact ⟨v, h1, k v H (Ext.refl _ _) S.wld h2.c⟩
    | true => cases h
theorem ve_c {e : Expr} {v : V} {d : D} (h : PE X e (tC v)) (r : ∀ U H, Rep X.K X.mg aw U H v d) : VE X aw e [] [] (dC d) :=
  ⟨PE.weak h fun σ H Q ⟨U, O, ρ, w, v0, w', S, h, k⟩ => by
    obtain ⟨rfl, rfl⟩ := pure_ok h
    exact k v H (Ext.refl _ _) S.wld ((r _ H).c), fun _ z => z⟩
theorem ve_int {i : Int} {j : Nat} : VE X aw (.Constant (.int i) j pos) [] [] (dC (.int i)) := ve_c pe_int fun _ _ => .int i
theorem ve_bl {b : Bool} {j : Nat} : VE X aw (.Constant (.bool b) j pos) [] [] (dC (.bl b)) := ve_c pe_bl fun _ _ => .bl b
theorem ve_non {j : Nat} : VE X aw (.Constant .none j pos) [] [] (dC .non) := ve_c pe_non fun _ _ => .non
theorem ve_str {x : Str} {j : Nat} : VE X aw (.Constant (.str x) j pos) [] [] (dC (.str x)) := ve_c pe_str fun _ _ => .str x
theorem ve_gint {x : Str} {i : Int} (hg : Gl X x) (hm : ∃ t, X.mg x = some (.int i t)) (hd : (x == ("__debug__" : Str)) = false := by decide) : VE X aw (.Name x pos) [] [] (dC (.int i)) := by
  obtain ⟨t, e⟩ := hm
  exact ve_c (v := .int i) (pe_glob hg e ⟨t, rfl⟩ hd) fun _ _ => .int i
theorem ve_gstr {x z : Str} (hg : Gl X x) (hm : ∃ t, X.mg x = some (.str z t)) (hd : (x == ("__debug__" : Str)) = false := by decide) : VE X aw (.Name x pos) [] [] (dC (.str z)) := by
  obtain ⟨t, e⟩ := hm
  exact ve_c (v := .str z) (pe_glob hg e ⟨t, rfl⟩ hd) fun _ _ => .str z
theorem ve_gfn {x : Str} {a : Addr} (hg : Gl X x) (hm : X.mg x = some (.ref a)) (hd : (x == ("__debug__" : Str)) = false := by decide) : VE X aw (.Name x pos) [] [] (dC (.fn x)) :=
  ve_c (v := .ref a) (pe_glob hg hm rfl hd) fun _ _ => .fn hm
end

/-! ### operators -/
def d1 (g : D → Option D) (a : Sto → M D) : Sto → M D := fun ρ => a ρ >>= fun x => lift (g x)
def d2 (g : D → D → Option D) (a b : Sto → M D) : Sto → M D := fun ρ => a ρ >>= fun x => b ρ >>= fun y => lift (g x y)
def OpOk (K : PySem.W.Frag) (mg : Str → Option Value) (aw : Addr) (r : R2) (g : D → D → Option D) : Prop := ∀ (U : Addr → Prop) (H : Hp) (x y : V) (a b v0 : D) (Q : VK), (∀ q, U q → H q ≠ none) → RepC K mg aw No U H x a → RepC K mg aw No U H y b → g a b = some v0 →
  (∀ v H', Same H H' → Rep K mg aw U H' v v0 → Q v H') → r x y H Q
def UnOk (K : PySem.W.Frag) (mg : Str → Option Value) (aw : Addr) (r : V → Hp → VK → Prop) (g : D → Option D) : Prop := ∀ (U : Addr → Prop) (H : Hp) (x : V) (a v0 : D) (Q : VK), (∀ q, U q → H q ≠ none) → RepC K mg aw No U H x a → g a = some v0 →
  (∀ v H', Same H H' → Rep K mg aw U H' v v0 → Q v H') → r x H Q
section
variable {X : Cx} {aw : Addr} {pos : Pos} {a b : Expr} {La Ca Lb Cb : List Nat} {da db : Sto → M D}
theorem VE.pe {e : Expr} (h : VE X aw e La Ca da) : PE X e (tE X.K X.mg aw La Ca da) := h.1
/-- the reading of an operator on two -/
theorem t_op {r : R2} {g : D → D → Option D} (ok : OpOk X.K X.mg aw r g) (σ : L2.St) (H : Hp) (Q : VK) (h : tE X.K X.mg aw (Ca ++ Cb) (Ca ++ Cb) (d2 g da db) σ H Q) (wa : ∀ i, i ∈ Ca → i ∈ La) (wb : ∀ i, i ∈ Cb → i ∈ Lb) :
    tOp r (tE X.K X.mg aw La Ca da) (tE X.K X.mg aw Lb Cb db) σ H Q := by
  obtain ⟨U, O, ρ, w, v0, w', S, h, k⟩ := h
  obtain ⟨x, w1, h1, h⟩ := bind_ok h
  obtain ⟨y, w2, h2, h⟩ := bind_ok h
  obtain ⟨h3, rfl⟩ := lift_ok h
  refine ⟨U, O, ρ, w, x, w1, S, h1, fun v1 H1 e1 r1 c1 => ?_⟩
  have S1 := S.ext e1 r1
  refine ⟨U, O, ρ, w1, y, _, S1, h2, fun v2 H2 e2 r2 c2 => ?_⟩
  have S2 := S1.ext e2 r2
  have c1' := c1.ext e2 r1 S1.un S1.un
  refine ok (UO U O (Ca ++ Cb)) H2 v1 v2 x y v0 Q S2.utr (c1'.rd UO.appL) (c2.rd UO.appR) h3 fun v H3 sm rv => ?_
  exact k v H3 ((e1.trans e2).trans (Ext.of_same sm)) (r2.same sm) rv.c
theorem ve_op {op : Operator} {r : R2} {g : D → D → Option D} (ho : OpR X (binaryOp op) r) (ok : OpOk X.K X.mg aw r g) (ha : VE X aw a La Ca da) (hb : VE X aw b Lb Cb db) : VE X aw (.BinOp a op b pos) (Ca ++ Cb) (Ca ++ Cb) (d2 g da db) :=
  ⟨PE.weak (pe_op ho ha.1 hb.1) fun σ H Q h => t_op ok σ H Q h ha.2 hb.2, fun _ z => z⟩
end
end Vw

namespace Vw
open PySem PySem.Spec PyProof.Rows L2

/-! ### arithmetic -/
def lineN : Nat := 16777216
theorem lineN_eq : lineN = sizeLine := sizeLine_eq.symm
def mulOk (i j : Int) : Bool := decide ((-18446744073709551616 < i ∧ i < 18446744073709551616) ∨ (-18446744073709551616 < j ∧ j < 18446744073709551616)) || decide (i.natAbs.log2 + j.natAbs.log2 < 1000000)
theorem mulOk_left {i j : Int} (h1 : -18446744073709551616 < i) (h2 : i < 18446744073709551616) : mulOk i j = true := by
  unfold mulOk
  rw [decide_eq_true (.inl ⟨h1, h2⟩)]
  rfl
theorem mulOk_right {i j : Int} (h1 : -18446744073709551616 < j) (h2 : j < 18446744073709551616) : mulOk i j = true := by
  unfold mulOk
  rw [decide_eq_true (.inr ⟨h1, h2⟩)]
  rfl
theorem mulOk_cases {i j : Int} (h : mulOk i j = true) : CMul i j ∨ CMulW i j := by
  unfold mulOk at h
  rw [Bool.or_eq_true] at h
  rcases h with h | h
  · exact .inl (by have q := of_decide_eq_true h; unfold CMul; omega)
  · exact .inr (show i.natAbs.log2 + j.natAbs.log2 < 1000000 from of_decide_eq_true h)
def oAdd : D → D → Option D
  | .int i, .int j => some (.int (i + j))
  | .str x, .str y => if x.length + y.length ≤ lineN then some (.str (x ++ y)) else none
  | .tup x, .tup y => if x.length + y.length ≤ lineN then some (.tup (x ++ y)) else none
  | .lst x, .lst y => if x.length + y.length ≤ lineN then some (.lst (x ++ y)) else none
  | _, _ => none
def oSub : D → D → Option D
  | .int i, .int j => some (.int (i - j))
  | _, _ => none
def oMul : D → D → Option D
  | .int i, .int j => if mulOk i j then some (.int (i * j)) else none
  | .lst x, .int j => if x.length * j.toNat ≤ lineN ∧ -9223372036854775808 ≤ j ∧ j < 9223372036854775808 then some (.lst (List.replicate j.toNat x).flatten) else none
  | _, _ => none
def oDiv : D → D → Option D
  | .int i, .int j => if 0 < j ∧ j.natAbs.log2 < 9000 then some (.int (i / j)) else none
  | _, _ => none
def oMod : D → D → Option D
  | .int i, .int j => if 0 < j then some (.int (i % j)) else none
  | _, _ => none
def oShl : D → D → Option D
  | .int i, .int j => if 0 ≤ j ∧ j ≤ 1000000 ∧ i.natAbs < 18446744073709551616 then some (.int (i * 2 ^ j.toNat)) else none
  | _, _ => none
def oShr : D → D → Option D
  | .int i, .int j => if 0 ≤ j then some (.int (i / 2 ^ j.toNat)) else none
  | _, _ => none
def oAnd : D → D → Option D
  | .int i, .int j => some (.int (Builtin.bitAnd i j))
  | _, _ => none
def oOr : D → D → Option D
  | .int i, .int j => some (.int (Builtin.bitOr i j))
  | _, _ => none
section
variable {X : Cx} {aw : Addr}
theorem ok_int2 {K : PySem.W.Frag} {mg : Str → Option Value} {r : R2} {g : D → D → Option D} (h : ∀ a b v0, g a b = some v0 → ∃ i j, a = .int i ∧ b = .int j ∧ ∀ (H : Hp) (Q : VK), (∀ x, (∀ U, Rep K mg aw U H x v0) → Q x H) → r (.int i) (.int j) H Q) : OpOk K mg aw r g :=
  fun U H x y a b v0 Q _ ra rb e k => by
    obtain ⟨i, j, rfl, rfl, q⟩ := h a b v0 e
    have e1 := ra.inv_int
    have e2 := rb.inv_int
    subst e1 e2
    exact q H Q fun x hx => k x H (Same.refl H) (hx U)
theorem ok_sub {K mg} : OpOk K mg aw (rI0 fun i j => .int (i - j)) oSub := ok_int2 fun a b v0 e => by
  cases a <;> cases b <;> simp only [oSub] at e <;> try cases e
  rename_i i j
  exact ⟨i, j, rfl, rfl, fun H Q k => ⟨i, j, rfl, rfl, k _ fun U => .int _⟩⟩
theorem ok_div {K mg} : OpOk K mg aw (rI CDivW fun i j => .int (i / j)) oDiv := ok_int2 fun a b v0 e => by
  cases a <;> cases b <;> simp only [oDiv] at e <;> try cases e
  rename_i i j
  split at e
  · cases e
    exact ⟨i, j, rfl, rfl, fun H Q k => ⟨i, j, rfl, rfl, by assumption, k _ fun U => .int _⟩⟩
  · cases e
theorem ok_mod {K mg} : OpOk K mg aw (rI (fun _ j => 0 < j) fun i j => .int (i % j)) oMod := ok_int2 fun a b v0 e => by
  cases a <;> cases b <;> simp only [oMod] at e <;> try cases e
  rename_i i j
  split at e
  · cases e
    exact ⟨i, j, rfl, rfl, fun H Q k => ⟨i, j, rfl, rfl, by assumption, k _ fun U => .int _⟩⟩
  · cases e
theorem ok_shl {K mg} : OpOk K mg aw (rI CPow fun i j => .int (i * 2 ^ j.toNat)) oShl := ok_int2 fun a b v0 e => by
  cases a <;> cases b <;> simp only [oShl] at e <;> try cases e
  rename_i i j
  split at e
  · cases e
    exact ⟨i, j, rfl, rfl, fun H Q k => ⟨i, j, rfl, rfl, by assumption, k _ fun U => .int _⟩⟩
  · cases e
theorem ok_shr {K mg} : OpOk K mg aw (rI (fun _ j => 0 ≤ j) fun i j => .int (i / 2 ^ j.toNat)) oShr := ok_int2 fun a b v0 e => by
  cases a <;> cases b <;> simp only [oShr] at e <;> try cases e
  rename_i i j
  split at e
  · cases e
    exact ⟨i, j, rfl, rfl, fun H Q k => ⟨i, j, rfl, rfl, by assumption, k _ fun U => .int _⟩⟩
  · cases e
theorem ok_and {K mg} : OpOk K mg aw (rI0 fun i j => .int (Builtin.bitAnd i j)) oAnd := ok_int2 fun a b v0 e => by
  cases a <;> cases b <;> simp only [oAnd] at e <;> try cases e
  rename_i i j
  exact ⟨i, j, rfl, rfl, fun H Q k => ⟨i, j, rfl, rfl, k _ fun U => .int _⟩⟩
theorem ok_or {K mg} : OpOk K mg aw (rI0 fun i j => .int (Builtin.bitOr i j)) oOr := ok_int2 fun a b v0 e => by
  cases a <;> cases b <;> simp only [oOr] at e <;> try cases e
  rename_i i j
  exact ⟨i, j, rfl, rfl, fun H Q k => ⟨i, j, rfl, rfl, k _ fun U => .int _⟩⟩
/-! sums of all kinds -/
def rAddA (K : PySem.W.Frag) : R2 := fun x y H Q => (((∃ i j, x = .int i ∧ y = .int j ∧ Q (.int (i + j)) H) ∨ ∃ i j, x = .str i ∧ y = .str j ∧ i.length + j.length ≤ sizeLine ∧ Q (.str (i ++ j)) H) ∨ rCatA K x y H Q) ∨ rCat x y H Q
theorem op_addA : OpR X (binaryOp .Add) (rAddA X.K) := ((op_add.or op_add_str).or op_catA).or op_cat
theorem new_lst {K : PySem.W.Frag} {mg : Str → Option Value} {U : Addr → Prop} {H : Hp} {p : Addr} {xs : List V} {ds : List D} (tr : ∀ q, U q → H q ≠ none) (n : H p = none) (r : RepL K mg aw U H xs ds) : Rep K mg aw U (upd H p (.lst xs)) (.ref p) (.lst ds) :=
  .lst upd_same (fun z => tr p z n) (RepL.keep (Pres.of_same (same_upd n)) (fun _ z => z) r)
theorem new_tup {K : PySem.W.Frag} {mg : Str → Option Value} {U : Addr → Prop} {H : Hp} {p : Addr} {xs : List V} {ds : List D} (n : H p = none) (r : RepL K mg aw U H xs ds) : Rep K mg aw U (upd H p (.tup xs)) (.ref p) (.tup ds) :=
  .tup upd_same (RepL.keep (Pres.of_same (same_upd n)) (fun _ z => z) r)
theorem ok_add {K mg} : OpOk K mg aw (rAddA K) oAdd := fun U H x y a b v0 Q tr ra rb e k => by
  cases a <;> cases b <;> simp only [oAdd] at e <;> try cases e
  · rename_i i j
    have e1 := ra.inv_int
    have e2 := rb.inv_int
    subst e1 e2
    exact .inl (.inl (.inl ⟨i, j, rfl, rfl, k _ H (Same.refl H) (.int _)⟩))
  · rename_i i j
    have e1 := ra.inv_str
    have e2 := rb.inv_str
    subst e1 e2
    split at e
    · rename_i hl
      cases e
      exact .inl (.inl (.inr ⟨i, j, rfl, rfl, lineN_eq ▸ hl, k _ H (Same.refl H) (.str _)⟩))
    · cases e
  · rename_i ds es
    split at e
    · rename_i hl
      cases e
      obtain ⟨p, xs, rfl, h1, r1⟩ := ra.inv_tup
      obtain ⟨q, ys, rfl, h2, r2⟩ := rb.inv_tup
      have l1 := r1.length
      have l2 := r2.length
      refine .inl (.inr ⟨p, q, xs, ys, rfl, rfl, h1.sq, h2.sq, by rw [l1, l2]; exact lineN_eq ▸ hl, fun e => ?_, fun _ e => ?_, fun _ _ t n => ?_⟩)
      · subst e
        cases r1
        exact k _ H (Same.refl H) (.tup h2 r2)
      · subst e
        cases r2
        rw [List.append_nil] at k
        exact k _ H (Same.refl H) (.tup h1 r1)
      · exact k _ _ (same_upd n) (new_tup n (r1.append r2))
    · cases e
  · rename_i ds es
    split at e
    · rename_i hl
      cases e
      obtain ⟨p, xs, rfl, h1, r1⟩ := ra.inv_lst
      obtain ⟨q, ys, rfl, h2, r2⟩ := rb.inv_lst
      have l1 := r1.length
      have l2 := r2.length
      exact .inr ⟨p, q, xs, ys, rfl, rfl, h1, h2, by rw [l1, l2]; exact lineN_eq ▸ hl, fun t n => k _ _ (same_upd n) (new_lst tr n (r1.append r2))⟩
    · cases e
def rMulA : R2 := fun x y H Q => ((∃ i j, x = .int i ∧ y = .int j ∧ CMul i j ∧ Q (.int (i * j)) H) ∨ ∃ i j, x = .int i ∧ y = .int j ∧ CMulW i j ∧ Q (.int (i * j)) H) ∨ rRep x y H Q
theorem op_mulA : OpR X (binaryOp .Mult) rMulA := (op_mul.or op_mulW).or op_rep
theorem ok_mul {K mg} : OpOk K mg aw rMulA oMul := fun U H x y a b v0 Q tr ra rb e k => by
  cases a <;> cases b <;> simp only [oMul] at e <;> try cases e
  · rename_i i j
    have e1 := ra.inv_int
    have e2 := rb.inv_int
    subst e1 e2
    split at e
    · rename_i hm
      cases e
      rcases mulOk_cases hm with hm | hm
      · exact .inl (.inl ⟨i, j, rfl, rfl, hm, k _ H (Same.refl H) (.int _)⟩)
      · exact .inl (.inr ⟨i, j, rfl, rfl, hm, k _ H (Same.refl H) (.int _)⟩)
    · cases e
  · rename_i ds j
    have e2 := rb.inv_int
    subst e2
    split at e
    · rename_i hl
      cases e
      obtain ⟨p, xs, rfl, h1, r1⟩ := ra.inv_lst
      have l1 := r1.length
      exact .inr ⟨p, j, xs, rfl, rfl, h1, hl.2.1, hl.2.2, by rw [l1]; exact lineN_eq ▸ hl.1, fun t n => k _ _ (same_upd n) (new_lst tr n (RepL.rep _ r1))⟩
    · cases e

/-! ### comparisons -/
mutual
def toP : D → PyData
  | .non => .none
  | .bl b => .bool b
  | .int i => .int i
  | .str x => .str x
  | .tup xs => .tuple (toPs xs)
  | .lst xs => .list (toPs xs)
  | .dK _ => .none
  | .dT _ => .none
  | .fn _ => .none
  | .tok => .none
def toPs : List D → List PyData
  | [] => []
  | x :: xs => toP x :: toPs xs
end
mutual
/-- it may be compared, at most n deep -/
def okE : Nat → D → Bool
  | _, .non => true
  | _, .bl _ => true
  | _, .int _ => true
  | _, .str x => PyData.strOk x
  | n + 1, .tup xs => okEs n xs
  | n + 1, .lst xs => okEs n xs
  | 0, .tup _ => false
  | 0, .lst _ => false
  | _, .dK _ => false
  | _, .dT _ => false
  | _, .fn _ => false
  | _, .tok => false
def okEs : Nat → List D → Bool
  | _, [] => true
  | n, x :: xs => okE n x && okEs n xs
end
mutual
theorem okE_shape : ∀ (n : Nat) (d : D), okE n d = true → (toP d).canLay0 = true ∧ (toP d).depth ≤ n
  | _, .non, _ => ⟨by simp [toP, PyData.canLay0], by simp [toP, PyData.depth]⟩
  | _, .bl _, _ => ⟨by simp [toP, PyData.canLay0], by simp [toP, PyData.depth]⟩
  | _, .int _, _ => ⟨by simp [toP, PyData.canLay0], by simp [toP, PyData.depth]⟩
  | _, .str x, h => ⟨by simp only [toP, PyData.canLay0]; simpa [okE] using h, by simp [toP, PyData.depth]⟩
  | n + 1, .tup xs, h => by
    obtain ⟨a, b⟩ := okEs_shape n xs (by simpa [okE] using h)
    exact ⟨by simp only [toP, PyData.canLay0]; exact a, by simp only [toP, PyData.depth]; omega⟩
  | n + 1, .lst xs, h => by
    obtain ⟨a, b⟩ := okEs_shape n xs (by simpa [okE] using h)
    exact ⟨by simp only [toP, PyData.canLay0]; exact a, by simp only [toP, PyData.depth]; omega⟩
  | 0, .tup _, h => by simp [okE] at h
  | 0, .lst _, h => by simp [okE] at h
  | _, .dK _, h => by simp [okE] at h
  | _, .dT _, h => by simp [okE] at h
  | _, .fn _, h => by simp [okE] at h
  | _, .tok, h => by simp [okE] at h
theorem okEs_shape : ∀ (n : Nat) (ds : List D), okEs n ds = true → PyData.canLayAll0 (toPs ds) = true ∧ PyData.depthAll (toPs ds) ≤ n
  | _, [], _ => ⟨by simp [toPs, PyData.canLayAll0], by simp [toPs, PyData.depthAll]⟩
  | n, x :: xs, h => by
    have h' : okE n x = true ∧ okEs n xs = true := by simpa [okEs] using h
    obtain ⟨a, b⟩ := okE_shape n x h'.1
    obtain ⟨c, d⟩ := okEs_shape n xs h'.2
    exact ⟨by simp [toPs, PyData.canLayAll0, a, c], by simp only [toPs, PyData.depthAll]; omega⟩
end
theorem okE_shaped {d : D} (h : okE 64 d = true) : SeqAt.shaped (toP d) = true := by
  obtain ⟨a, b⟩ := okE_shape 64 d h
  unfold SeqAt.shaped
  rw [a, decide_eq_true b]
  rfl
mutual
theorem Rep.dp {K : PySem.W.Frag} {mg : Str → Option Value} {U : Addr → Prop} {H : Hp} : ∀ {n : Nat} {d : D} {v : V}, okE n d = true → Rep K mg aw U H v d → Dp K H v (toP d)
  | _, _, _, _, .non => by simp only [toP]; exact .non
  | _, _, _, _, .bl b => by simp only [toP]; exact .bl b
  | _, _, _, _, .int i => by simp only [toP]; exact .int i
  | _, _, _, _, .str x => by simp only [toP]; exact .str x
  | n + 1, .tup _, _, h, .tup a r => by simp only [toP]; exact .tup a.sq (RepL.dp (n := n) (by simpa [okE] using h) r)
  | n + 1, .lst _, _, h, .lst a _ r => by simp only [toP]; exact .lst (SqL.of a) (RepL.dp (n := n) (by simpa [okE] using h) r)
  | 0, .tup _, _, h, _ => by simp [okE] at h
  | 0, .lst _, _, h, _ => by simp [okE] at h
  | _, .dK _, _, h, _ => by simp [okE] at h
  | _, .dT _, _, h, _ => by simp [okE] at h
  | _, .fn _, _, h, _ => by simp [okE] at h
  | _, .tok, _, h, _ => by simp [okE] at h
theorem RepL.dp {K : PySem.W.Frag} {mg : Str → Option Value} {U : Addr → Prop} {H : Hp} : ∀ {n : Nat} {ds : List D} {vs : List V}, okEs n ds = true → RepL K mg aw U H vs ds → DpAll K H vs (toPs ds)
  | _, _, _, _, .nil => by simp only [toPs]; exact .nil
  | n, _ :: _, _, h, .cons a r => by
    have h' := (by simpa [okEs] using h : okE n _ = true ∧ okEs n _ = true)
    simp only [toPs]
    exact .cons (Rep.dp h'.1 a) (RepL.dp h'.2 r)
end
theorem RepC.dp {K : PySem.W.Frag} {mg : Str → Option Value} {Ut U : Addr → Prop} {H : Hp} {n : Nat} {d : D} {v : V} (h : okE n d = true) (r : RepC K mg aw Ut U H v d) : Dp K H v (toP d) := by
  cases r with
  | any r _ => exact r.dp h
  | lst a _ r =>
    cases n with
    | zero => simp [okE] at h
    | succ n => simp only [toP]; exact .lst (SqL.of a) (RepL.dp (n := n) (by simpa [okE] using h) r)
  | dK _ _ _ => simp [okE] at h
  | dT _ _ _ => simp [okE] at h
def eqd (a b : D) : Bool := PyData.eqv (toP a) (toP b)
def oEq (a b : D) : Option D := if okE 64 a && okE 64 b then some (.bl (eqd a b)) else none
def oNe (a b : D) : Option D := if okE 64 a && okE 64 b then some (.bl (!eqd a b)) else none
theorem ok_eq {K mg} : OpOk K mg aw (rEqD K) oEq := fun U H x y a b v0 Q tr ra rb e k => by
  unfold oEq at e
  split at e
  · rename_i h
    rw [Bool.and_eq_true] at h
    cases e
    exact ⟨_, _, ra.dp h.1, rb.dp h.2, okE_shaped h.1, okE_shaped h.2, k _ H (Same.refl H) (.bl _)⟩
  · cases e
theorem ok_ne {K mg} : OpOk K mg aw (rNeD K) oNe := fun U H x y a b v0 Q tr ra rb e k => by
  unfold oNe at e
  split at e
  · rename_i h
    rw [Bool.and_eq_true] at h
    cases e
    exact ⟨_, _, ra.dp h.1, rb.dp h.2, okE_shaped h.1, okE_shaped h.2, k _ H (Same.refl H) (.bl _)⟩
  · cases e
def oLt : D → D → Option D
  | .int i, .int j => some (.bl (decide (i < j)))
  | _, _ => none
def oLe : D → D → Option D
  | .int i, .int j => some (.bl (decide (i ≤ j)))
  | _, _ => none
def oGt : D → D → Option D
  | .int i, .int j => some (.bl (decide (j < i)))
  | _, _ => none
def oGe : D → D → Option D
  | .int i, .int j => some (.bl (decide (j ≤ i)))
  | _, _ => none
theorem ok_lt {K mg} : OpOk K mg aw (rI0 fun i j => .bl (decide (i < j))) oLt := ok_int2 fun a b v0 e => by
  cases a <;> cases b <;> simp only [oLt] at e <;> try cases e
  exact ⟨_, _, rfl, rfl, fun H Q k => ⟨_, _, rfl, rfl, k _ fun U => .bl _⟩⟩
theorem ok_le {K mg} : OpOk K mg aw (rI0 fun i j => .bl (decide (i ≤ j))) oLe := ok_int2 fun a b v0 e => by
  cases a <;> cases b <;> simp only [oLe] at e <;> try cases e
  exact ⟨_, _, rfl, rfl, fun H Q k => ⟨_, _, rfl, rfl, k _ fun U => .bl _⟩⟩
theorem ok_gt {K mg} : OpOk K mg aw (rI0 fun i j => .bl (decide (j < i))) oGt := ok_int2 fun a b v0 e => by
  cases a <;> cases b <;> simp only [oGt] at e <;> try cases e
  exact ⟨_, _, rfl, rfl, fun H Q k => ⟨_, _, rfl, rfl, k _ fun U => .bl _⟩⟩
theorem ok_ge {K mg} : OpOk K mg aw (rI0 fun i j => .bl (decide (j ≤ i))) oGe := ok_int2 fun a b v0 e => by
  cases a <;> cases b <;> simp only [oGe] at e <;> try cases e
  exact ⟨_, _, rfl, rfl, fun H Q k => ⟨_, _, rfl, rfl, k _ fun U => .bl _⟩⟩
/-- a is None -/
def oIsN : D → D → Option D
  | .non, .non => some (.bl true)
  | .tok, _ => none
  | .fn _, _ => none
  | _, .non => some (.bl false)
  | _, _ => none
def oNotN : D → D → Option D
  | .non, .non => some (.bl false)
  | .tok, _ => none
  | .fn _, _ => none
  | _, .non => some (.bl true)
  | _, _ => none
theorem Rep.not_non {K : PySem.W.Frag} {mg : Str → Option Value} {Ut U : Addr → Prop} {H : Hp} {v : V} {d : D} (h : RepC K mg aw Ut U H v d) (n : d ≠ .non) : v ≠ .non := by
  rintro rfl
  cases h with
  | any h _ => cases h; exact n rfl
theorem ok_isN {K mg} : OpOk K mg aw (fun x y H Q => y = .non ∧ Q (.bl (decide (x = .non))) H) oIsN := fun U H x y a b v0 Q tr ra rb e k => by
  by_cases hb : b = .non
  · subst hb
    refine ⟨rb.inv_non, ?_⟩
    by_cases ha : a = .non
    · subst ha
      cases ra.inv_non
      simp only [oIsN] at e
      cases e
      exact k _ H (Same.refl H) (.bl _)
    · have n := Rep.not_non ra ha
      rw [decide_eq_false n]
      have e' : v0 = .bl false := by cases a <;> simp_all [oIsN]
      subst e'
      exact k _ H (Same.refl H) (.bl _)
  · exfalso
    cases a <;> cases b <;> simp_all [oIsN]
theorem ok_notN {K mg} : OpOk K mg aw (fun x y H Q => y = .non ∧ Q (.bl (!decide (x = .non))) H) oNotN := fun U H x y a b v0 Q tr ra rb e k => by
  by_cases hb : b = .non
  · subst hb
    refine ⟨rb.inv_non, ?_⟩
    by_cases ha : a = .non
    · subst ha
      cases ra.inv_non
      simp only [oNotN] at e
      cases e
      exact k _ H (Same.refl H) (.bl _)
    · have n := Rep.not_non ra ha
      rw [decide_eq_false n]
      have e' : v0 = .bl true := by cases a <;> simp_all [oNotN]
      subst e'
      exact k _ H (Same.refl H) (.bl _)
  · exfalso
    cases a <;> cases b <;> simp_all [oNotN]
end
end Vw

namespace Vw
open PySem PySem.Spec PyProof.Rows L2

def asB : D → M Bool
  | .bl b => Pure.pure b
  | _ => M.bad
@[simp] theorem asB_bl (b : Bool) : asB (.bl b) = Pure.pure b := rfl
theorem asB_ok {d : D} {b : Bool} {w w' : Wd} (h : asB d w = .ok b w') : d = .bl b ∧ w = w' := by
  cases d <;> first
    | (obtain ⟨rfl, rfl⟩ := pure_ok h; exact ⟨rfl, rfl⟩)
    | cases h
section
variable {X : Cx} {aw : Addr} {pos : Pos} {a b c e : Expr} {La Ca Lb Cb Lc Cc : List Nat} {da db dc : Sto → M D} {ta tb : Sto → M Bool} {rest : List Expr}
theorem VE.pe' (h : VE X aw e La Ca da) : PE X e (tE X.K X.mg aw La Ca da) := h.1
/-- weaker leaks -/
theorem tE_mono {K : PySem.W.Frag} {mg : Str → Option Value} {L L' C C' : List Nat} {d : Sto → M D} {σ : L2.St} {H : Hp} {Q : VK} (hl : ∀ i, i ∈ L → i ∈ L') (hc : ∀ i, i ∈ C → i ∈ C') (hq : ∀ i, i ∈ C' → i ∈ L') (h : tE K mg aw L' C' d σ H Q) : tE K mg aw L C d σ H Q := by
  obtain ⟨U, O, ρ, w, v0, w', S, h, k⟩ := h
  exact ⟨U, O, ρ, w, v0, w', S, h, fun v H' e r z => k v H' e r (z.mono (UO.mono hl) (UO.mono hc) (UO.mono hq))⟩
theorem VE.mono {L' C' : List Nat} (h : VE X aw e La Ca da) (hl : ∀ i, i ∈ La → i ∈ L') (hc : ∀ i, i ∈ Ca → i ∈ C') (hq : ∀ i, i ∈ C' → i ∈ L') : VE X aw e L' C' da :=
  ⟨PE.weak h.1 fun _ _ _ z => tE_mono hl hc hq z, hq⟩
/-! ### comparisons -/
theorem ve_cmp {op : CmpOp} {r : R2} {g : D → D → Option D} (ho : OpR X (compareOp op) r) (ok : OpOk X.K X.mg aw r g) (ha : VE X aw a La Ca da) (hb : VE X aw b Lb Cb db) (hm : behindInMarks op b = false) : VE X aw (.Compare a [op] [b] pos) (Ca ++ Cb) (Ca ++ Cb) (d2 g da db) :=
  ⟨PE.weak (pe_cmpR ho ha.1 hb.1 hm) fun σ H Q h => t_op ok σ H Q h ha.2 hb.2, fun _ z => z⟩
def dB (d : Sto → M D) : Sto → M Bool := fun ρ => d ρ >>= asB
theorem t_B {K : PySem.W.Frag} {mg : Str → Option Value} {L C : List Nat} {d : Sto → M D} {σ : L2.St} {H : Hp} {Q : Bool → Hp → Prop} (h : tT K mg aw (dB d) σ H Q) : tE K mg aw L C d σ H (fun x H' => ∃ k, x = .bl k ∧ Q k H') := by
  obtain ⟨U, O, ρ, w, v0, w', S, h, k⟩ := h
  obtain ⟨x, w1, h1, h2⟩ := bind_ok h
  obtain ⟨rfl, rfl⟩ := asB_ok h2
  exact ⟨U, O, ρ, w, _, _, S, h1, fun v H' e r z => ⟨v0, z.inv_bl, k H' e r⟩⟩
theorem vt_cmp {op : CmpOp} {r : R2} {g : D → D → Option D} (ho : OpR X (compareOp op) r) (ok : OpOk X.K X.mg aw r g) (ha : VE X aw a La Ca da) (hb : VE X aw b Lb Cb db) (hm : behindInMarks op b = false) : VT X aw (.Compare a [op] [b] pos) (dB (d2 g da db)) :=
  PT.weak (pt_cmpR ho ha.1 hb.1 hm) fun σ H Q h => t_op ok σ H _ (t_B h) ha.2 hb.2
/-- a value as a test, where it is a truth value -/
theorem vt_val (h : VE X aw e La Ca da) (he : ∀ whole, isTrue e X.env whole = (do let v ← whole; standAt e.pos; holding [v] (truthy v)) := by intro _; rfl) : VT X aw e (dB da) :=
  PT.weak (pt_val h.1 he) fun σ H Q z => t_B z
/-! a op b op c -/
def dChain (g g' : D → D → Option D) (da db dc : Sto → M D) : Sto → M D := fun ρ => da ρ >>= fun x => db ρ >>= fun y => lift (g x y) >>= asB >>= fun k => if k then dc ρ >>= fun z => lift (g' y z) else Pure.pure (.bl false)
theorem t_chain {r r' : R2} {g g' : D → D → Option D} (ok : OpOk X.K X.mg aw r g) (ok' : OpOk X.K X.mg aw r' g') (wa : ∀ i, i ∈ Ca → i ∈ La) (wb : ∀ i, i ∈ Cb → i ∈ Lb) (wc : ∀ i, i ∈ Cc → i ∈ Lc) {σ : L2.St} {H : Hp} {Q : VK}
    (h : tE X.K X.mg aw (Ca ++ (Cb ++ Cc)) (Ca ++ (Cb ++ Cc)) (dChain g g' da db dc) σ H Q) : tChain r r' (tE X.K X.mg aw La Ca da) (tE X.K X.mg aw Lb Cb db) (tE X.K X.mg aw Lc Cc dc) σ H Q := by
  obtain ⟨U, O, ρ, w, v0, w', S, h, k⟩ := h
  obtain ⟨x, w1, h1, h⟩ := bind_ok h
  obtain ⟨y, w2, h2, h⟩ := bind_ok h
  obtain ⟨kb, w3, h3, h⟩ := bind_ok h
  obtain ⟨z, w4, h4, h5⟩ := bind_ok h3
  obtain ⟨g4, rfl⟩ := lift_ok h4
  obtain ⟨rfl, rfl⟩ := asB_ok h5
  refine ⟨U, O, ρ, w, x, w1, S, h1, fun v1 H1 e1 r1 c1 => ?_⟩
  have S1 := S.ext e1 r1
  refine ⟨U, O, ρ, w1, y, _, S1, h2, fun v2 H2 e2 r2 c2 => ?_⟩
  have S2 := S1.ext e2 r2
  have c1' := c1.ext e2 r1 S1.un S1.un
  refine ok (UO U O (Ca ++ (Cb ++ Cc))) H2 v1 v2 x y _ _ S2.utr (c1'.rd UO.appL) (c2.rd fun a z => UO.appL _ (UO.appR _ z)) g4 fun v H3 sm rv => ?_
  refine ⟨kb, rv.c.inv_bl, ?_⟩
  cases kb with
  | false =>
    obtain ⟨rfl, rfl⟩ := pure_ok h
    rw [if_neg Bool.false_ne_true]
    exact k _ H3 ((e1.trans e2).trans (Ext.of_same sm)) (r2.same sm) (Rep.c (.bl false))
  | true =>
    rw [if_pos rfl]
    rw [if_pos rfl] at h
    obtain ⟨z, w5, h6, h7⟩ := bind_ok h
    obtain ⟨g7, rfl⟩ := lift_ok h7
    have S3 := S2.ext (Ext.of_same sm) (r2.same sm)
    refine ⟨U, O, ρ, _, z, _, S3, h6, fun v3 H4 e3 r3 c3 => ?_⟩
    have S4 := S3.ext e3 r3
    have c2' := (c2.ext (Ext.of_same sm) r2 S2.un S2.un).ext e3 (r2.same sm) S3.un S3.un
    refine ok' (UO U O (Ca ++ (Cb ++ Cc))) H4 v2 v3 y z v0 Q S4.utr (c2'.rd fun a z => UO.appL _ (UO.appR _ z)) (c3.rd fun a z => UO.appR _ (UO.appR _ z)) g7 fun v H5 sm' rv' => ?_
    exact k v H5 ((((e1.trans e2).trans (Ext.of_same sm)).trans e3).trans (Ext.of_same sm')) (r3.same sm') rv'.c
theorem ve_chain {op op' : CmpOp} {r r' : R2} {g g' : D → D → Option D} (ho : OpR X (compareOp op) r) (ok : OpOk X.K X.mg aw r g) (ho' : OpR X (compareOp op') r') (ok' : OpOk X.K X.mg aw r' g') (ha : VE X aw a La Ca da) (hb : VE X aw b Lb Cb db) (hc : VE X aw c Lc Cc dc)
    (hm : lastMarks [op, op'] [b, c] = false := by with_unfolding_all rfl) : VE X aw (.Compare a [op, op'] [b, c] pos) (Ca ++ (Cb ++ Cc)) (Ca ++ (Cb ++ Cc)) (dChain g g' da db dc) :=
  ⟨PE.weak (pe_chain ho ho' ha.1 hb.1 hc.1 hm) fun σ H Q h => t_chain ok ok' ha.2 hb.2 hc.2 h, fun _ z => z⟩
theorem vt_chain {op op' : CmpOp} {r r' : R2} {g g' : D → D → Option D} (ho : OpR X (compareOp op) r) (ok : OpOk X.K X.mg aw r g) (ho' : OpR X (compareOp op') r') (ok' : OpOk X.K X.mg aw r' g') (ha : VE X aw a La Ca da) (hb : VE X aw b Lb Cb db) (hc : VE X aw c Lc Cc dc)
    (hm : lastMarks [op, op'] [b, c] = false := by with_unfolding_all rfl) : VT X aw (.Compare a [op, op'] [b, c] pos) (dB (dChain g g' da db dc)) :=
  PT.weak (pt_chain ho ho' ha.1 hb.1 hc.1 hm) fun σ H Q h => t_chain ok ok' ha.2 hb.2 hc.2 (t_B h)
/-! ### truth of anything -/
def oTru : D → Option Bool
  | .non => some false
  | .bl b => some b
  | .int i => some (i != 0)
  | .str y => if y.length ≤ lineN then some ((y.length : Int) != 0) else none
  | .tup xs => some (!xs.isEmpty)
  | .lst xs => some (!xs.isEmpty)
  | _ => none
def dTru (d : Sto → M D) : Sto → M Bool := fun ρ => d ρ >>= fun x => lift (oTru x)
theorem tru_of {K : PySem.W.Frag} {mg : Str → Option Value} {Ut U : Addr → Prop} {H : Hp} {v : V} {d : D} {k : Bool} (h : oTru d = some k) (r : RepC K mg aw Ut U H v d) : TruV K v H k := by
  cases d <;> simp only [oTru] at h <;> try cases h
  · cases r.inv_non; rfl
  · cases r.inv_bl; rfl
  · cases r.inv_int; rfl
  · split at h
    · cases h
      cases r.inv_str
      rename_i hl
      exact ⟨lineN_eq ▸ hl, rfl⟩
    · cases h
  · obtain ⟨a, xs, rfl, h1, r1⟩ := r.inv_tup
    refine .inr (.inl ⟨xs, h1.sq, ?_⟩)
    cases r1 <;> rfl
  · obtain ⟨a, xs, rfl, h1, r1⟩ := r.inv_lst
    refine .inl ⟨xs, SqL.of h1, ?_⟩
    cases r1 <;> rfl
theorem vt_tru (h : VE X aw e La Ca da) (he : ∀ whole, isTrue e X.env whole = (do let v ← whole; standAt e.pos; holding [v] (truthy v)) := by intro _; rfl) : VT X aw e (dTru da) :=
  PT.weak (pt_truth h.1 he) fun σ H Q ⟨U, O, ρ, w, b, w', S, h, k⟩ => by
    obtain ⟨x, w1, h1, h2⟩ := bind_ok h
    obtain ⟨g2, rfl⟩ := lift_ok h2
    exact ⟨U, O, ρ, w, x, _, S, h1, fun v H' e r z => ⟨b, tru_of g2 z, k H' e r⟩⟩
/-! ### and, or, not -/
def bAnd (a b : Sto → M Bool) : Sto → M Bool := fun ρ => a ρ >>= fun k => if k then b ρ else Pure.pure false
def bOr (a b : Sto → M Bool) : Sto → M Bool := fun ρ => a ρ >>= fun k => if k then Pure.pure true else b ρ
def bNot (a : Sto → M Bool) : Sto → M Bool := fun ρ => a ρ >>= fun k => Pure.pure (!k)
theorem vw_and1 (h : VT X aw a ta) : VW X aw (.BoolOp .And [a] pos) ta := pw_and1 h
theorem vw_or1 (h : VT X aw a ta) : VW X aw (.BoolOp .Or [a] pos) ta := pw_or1 h
theorem vw_and (ha : VT X aw a ta) (hb : VW X aw (.BoolOp .And (b :: rest) pos) tb) : VW X aw (.BoolOp .And (a :: b :: rest) pos) (bAnd ta tb) :=
  PW.weak (pw_and ha hb) fun σ H Q ⟨U, O, ρ, w, k, w', S, h, q⟩ => by
    obtain ⟨x, w1, h1, h2⟩ := bind_ok h
    refine ⟨U, O, ρ, w, x, w1, S, h1, fun H1 e1 r1 => ?_⟩
    cases x with
    | true =>
      rw [if_pos rfl]
      rw [if_pos rfl] at h2
      exact ⟨U, O, ρ, w1, k, w', S.ext e1 r1, h2, fun H2 e2 r2 => q H2 (e1.trans e2) r2⟩
    | false =>
      rw [if_neg Bool.false_ne_true]
      rw [if_neg Bool.false_ne_true] at h2
      obtain ⟨rfl, rfl⟩ := pure_ok h2
      exact q H1 e1 r1
theorem vw_or (ha : VT X aw a ta) (hb : VW X aw (.BoolOp .Or (b :: rest) pos) tb) : VW X aw (.BoolOp .Or (a :: b :: rest) pos) (bOr ta tb) :=
  PW.weak (pw_or ha hb) fun σ H Q ⟨U, O, ρ, w, k, w', S, h, q⟩ => by
    obtain ⟨x, w1, h1, h2⟩ := bind_ok h
    refine ⟨U, O, ρ, w, x, w1, S, h1, fun H1 e1 r1 => ?_⟩
    cases x with
    | false =>
      rw [if_neg Bool.false_ne_true]
      rw [if_neg Bool.false_ne_true] at h2
      exact ⟨U, O, ρ, w1, k, w', S.ext e1 r1, h2, fun H2 e2 r2 => q H2 (e1.trans e2) r2⟩
    | true =>
      rw [if_pos rfl]
      rw [if_pos rfl] at h2
      obtain ⟨rfl, rfl⟩ := pure_ok h2
      exact q H1 e1 r1
theorem vt_w (h : VW X aw e ta) : VT X aw e ta := PW.pt h
theorem vt_not (ha : VT X aw a ta) : VT X aw (.UnaryOp .Not a pos) (bNot ta) :=
  PT.weak (pt_not ha) fun σ H Q ⟨U, O, ρ, w, k, w', S, h, q⟩ => by
    obtain ⟨x, w1, h1, h2⟩ := bind_ok h
    obtain ⟨rfl, rfl⟩ := pure_ok h2
    exact ⟨U, O, ρ, w, x, _, S, h1, fun H1 e1 r1 => q H1 e1 r1⟩
/-! as values, all truth values -/
def vAnd (a b : Sto → M D) : Sto → M D := fun ρ => a ρ >>= asB >>= fun k => if k then b ρ else Pure.pure (.bl false)
def vOr (a b : Sto → M D) : Sto → M D := fun ρ => a ρ >>= asB >>= fun k => if k then Pure.pure (.bl true) else b ρ
def vNot (a : Sto → M D) : Sto → M D := fun ρ => a ρ >>= asB >>= fun k => Pure.pure (.bl (!k))
theorem ve_one {op : BoolOp} (h : VE X aw a La Ca da) : VE X aw (.BoolOp op [a] pos) La Ca da := ⟨pe_one h.1, h.2⟩
theorem ve_and (ha : VE X aw a La Ca da) (hb : VE X aw (.BoolOp .And (b :: rest) pos) Lb Cb db) : VE X aw (.BoolOp .And (a :: b :: rest) pos) Lb Cb (vAnd da db) :=
  ⟨PE.weak (pe_and ha.1 hb.1) fun σ H Q ⟨U, O, ρ, w, k, w', S, h, q⟩ => by
    obtain ⟨x, w1, h1, h2⟩ := bind_ok h
    obtain ⟨y, w2, h3, h4⟩ := bind_ok h1
    obtain ⟨rfl, rfl⟩ := asB_ok h4
    refine ⟨U, O, ρ, w, _, _, S, h3, fun v H1 e1 r1 c1 => ⟨x, c1.inv_bl, ?_⟩⟩
    cases x with
    | true =>
      rw [if_pos rfl]
      rw [if_pos rfl] at h2
      exact ⟨U, O, ρ, _, k, w', S.ext e1 r1, h2, fun v H2 e2 r2 z => q v H2 (e1.trans e2) r2 z⟩
    | false =>
      rw [if_neg Bool.false_ne_true]
      rw [if_neg Bool.false_ne_true] at h2
      obtain ⟨rfl, rfl⟩ := pure_ok h2
      exact q _ H1 e1 r1 (.any (.bl false) (UO.mono hb.2)), hb.2⟩
theorem ve_or (ha : VE X aw a La Ca da) (hb : VE X aw (.BoolOp .Or (b :: rest) pos) Lb Cb db) : VE X aw (.BoolOp .Or (a :: b :: rest) pos) Lb Cb (vOr da db) :=
  ⟨PE.weak (pe_or ha.1 hb.1) fun σ H Q ⟨U, O, ρ, w, k, w', S, h, q⟩ => by
    obtain ⟨x, w1, h1, h2⟩ := bind_ok h
    obtain ⟨y, w2, h3, h4⟩ := bind_ok h1
    obtain ⟨rfl, rfl⟩ := asB_ok h4
    refine ⟨U, O, ρ, w, _, _, S, h3, fun v H1 e1 r1 c1 => ⟨x, c1.inv_bl, ?_⟩⟩
    cases x with
    | false =>
      rw [if_neg Bool.false_ne_true]
      rw [if_neg Bool.false_ne_true] at h2
      exact ⟨U, O, ρ, _, k, w', S.ext e1 r1, h2, fun v H2 e2 r2 z => q v H2 (e1.trans e2) r2 z⟩
    | true =>
      rw [if_pos rfl]
      rw [if_pos rfl] at h2
      obtain ⟨rfl, rfl⟩ := pure_ok h2
      exact q _ H1 e1 r1 (.any (.bl true) (UO.mono hb.2)), hb.2⟩
theorem ve_not (ha : VE X aw a La Ca da) : VE X aw (.UnaryOp .Not a pos) [] [] (vNot da) :=
  ⟨PE.weak (pe_not ha.1) fun σ H Q ⟨U, O, ρ, w, k, w', S, h, q⟩ => by
    obtain ⟨x, w1, h1, h2⟩ := bind_ok h
    obtain ⟨y, w2, h3, h4⟩ := bind_ok h1
    obtain ⟨rfl, rfl⟩ := asB_ok h4
    obtain ⟨rfl, rfl⟩ := pure_ok h2
    exact ⟨U, O, ρ, w, _, _, S, h3, fun v H1 e1 r1 c1 => ⟨x, c1.inv_bl, q _ H1 e1 r1 (Rep.c (.bl _))⟩⟩, fun _ z => z⟩
/-! a if t else b -/
def dIf (t : Sto → M Bool) (a b : Sto → M D) : Sto → M D := fun ρ => t ρ >>= fun k => if k then a ρ else b ρ
theorem ve_if (hc : VT X aw c ta) (ha : VE X aw a La Ca da) (hb : VE X aw b Lb Cb db) : VE X aw (.IfExp c a b pos) (La ++ Lb) (Ca ++ Cb) (dIf ta da db) := by
  have hq : ∀ i, i ∈ Ca ++ Cb → i ∈ La ++ Lb := fun i z => by
    rcases List.mem_append.mp z with z | z
    · exact List.mem_append_left _ (ha.2 i z)
    · exact List.mem_append_right _ (hb.2 i z)
  refine ⟨PE.weak (pe_ifExp hc (VE.mono ha (fun i => List.mem_append_left _) (fun i => List.mem_append_left _) hq).1 (VE.mono hb (fun i => List.mem_append_right _) (fun i => List.mem_append_right _) hq).1) fun σ H Q ⟨U, O, ρ, w, k, w', S, h, q⟩ => ?_, hq⟩
  obtain ⟨x, w1, h1, h2⟩ := bind_ok h
  refine ⟨U, O, ρ, w, x, w1, S, h1, fun H1 e1 r1 => ?_⟩
  cases x with
  | true =>
    rw [if_pos rfl]
    rw [if_pos rfl] at h2
    exact ⟨U, O, ρ, w1, k, w', S.ext e1 r1, h2, fun v H2 e2 r2 z => q v H2 (e1.trans e2) r2 z⟩
  | false =>
    rw [if_neg Bool.false_ne_true]
    rw [if_neg Bool.false_ne_true] at h2
    exact ⟨U, O, ρ, w1, k, w', S.ext e1 r1, h2, fun v H2 e2 r2 z => q v H2 (e1.trans e2) r2 z⟩
/-! -a -/
def oNeg : D → Option D
  | .int i => some (.int (-i))
  | _ => none
theorem ve_neg (ha : VE X aw a La Ca da) : VE X aw (.UnaryOp .USub a pos) [] [] (d1 oNeg da) :=
  ⟨PE.weak (pe_un un_neg ha.1) fun σ H Q ⟨U, O, ρ, w, k, w', S, h, q⟩ => by
    obtain ⟨x, w1, h1, h2⟩ := bind_ok h
    obtain ⟨g2, rfl⟩ := lift_ok h2
    refine ⟨U, O, ρ, w, x, _, S, h1, fun v H1 e1 r1 c1 => ?_⟩
    cases x <;> simp only [oNeg] at g2 <;> try cases g2
    exact ⟨_, c1.inv_int, q _ H1 e1 r1 (Rep.c (.int _))⟩, fun _ z => z⟩
/-! ### lists of expressions, displays -/
def aNil : Sto → M (List D) := fun _ => Pure.pure []
def aCons (d : Sto → M D) (r : Sto → M (List D)) : Sto → M (List D) := fun ρ => d ρ >>= fun x => r ρ >>= fun xs => Pure.pure (x :: xs)
variable {es : List Expr} {dr : Sto → M (List D)}
theorem va_nil : VA X aw [] [] [] aNil := ⟨PA.weak pa_nil fun σ H Q ⟨U, O, ρ, w, k, w', S, h, q⟩ => by
  obtain ⟨rfl, rfl⟩ := pure_ok h
  exact q [] H (Ext.refl _ _) S.wld .nil, fun _ z => z⟩
theorem va_cons (ha : VE X aw e La Ca da) (hr : VA X aw es Lb Cb dr) (hs : starEach (e :: es) X.env = (false, eval e X.env) :: starEach es X.env := by rfl) : VA X aw (e :: es) (La ++ Lb) (Ca ++ Cb) (aCons da dr) := by
  have hq : ∀ i, i ∈ Ca ++ Cb → i ∈ La ++ Lb := fun i z => by
    rcases List.mem_append.mp z with z | z
    · exact List.mem_append_left _ (ha.2 i z)
    · exact List.mem_append_right _ (hr.2 i z)
  refine ⟨PA.weak (pa_cons ha.1 hr.1 hs) fun σ H Q ⟨U, O, ρ, w, k, w', S, h, q⟩ => ?_, hq⟩
  obtain ⟨x, w1, h1, h2⟩ := bind_ok h
  obtain ⟨xs, w2, h3, h4⟩ := bind_ok h2
  obtain ⟨rfl, rfl⟩ := pure_ok h4
  refine ⟨U, O, ρ, w, x, w1, S, h1, fun v H1 e1 r1 c1 => ?_⟩
  have S1 := S.ext e1 r1
  refine ⟨U, O, ρ, w1, xs, _, S1, h3, fun vs H2 e2 r2 c2 => ?_⟩
  have c1' := c1.ext e2 r1 S1.un S1.un
  exact q _ H2 (e1.trans e2) r2 (.cons (c1'.mono UO.appL UO.appL (UO.mono hq)) (c2.mono UO.appR UO.appR (UO.mono hq)))
def mkTup (ds : List D) : M D := if ds.length ≤ lineN then Pure.pure (.tup ds) else M.bad
def mkLst (ds : List D) : M D := if ds.length ≤ lineN then Pure.pure (.lst ds) else M.bad
def dTup (d : Sto → M (List D)) : Sto → M D := fun ρ => d ρ >>= mkTup
def dLst (d : Sto → M (List D)) : Sto → M D := fun ρ => d ρ >>= mkLst
theorem mkTup_ok {ds : List D} {d : D} {w w' : Wd} (h : mkTup ds w = .ok d w') : ds.length ≤ sizeLine ∧ d = .tup ds ∧ w = w' := by
  unfold mkTup at h
  split at h
  · rename_i hl
    obtain ⟨rfl, rfl⟩ := pure_ok h
    exact ⟨lineN_eq ▸ hl, rfl, rfl⟩
  · cases h
theorem mkLst_ok {ds : List D} {d : D} {w w' : Wd} (h : mkLst ds w = .ok d w') : ds.length ≤ sizeLine ∧ d = .lst ds ∧ w = w' := by
  unfold mkLst at h
  split at h
  · rename_i hl
    obtain ⟨rfl, rfl⟩ := pure_ok h
    exact ⟨lineN_eq ▸ hl, rfl, rfl⟩
  · cases h
theorem ve_tup {x1} (h : VA X aw es La Ca dr) : VE X aw (.Tuple es x1 pos) La La (dTup dr) :=
  ⟨PE.weak (pe_tup h.1) fun σ H Q ⟨U, O, ρ, w, k, w', S, hd, q⟩ => by
    obtain ⟨xs, w1, h1, h2⟩ := bind_ok hd
    obtain ⟨hl, rfl, rfl⟩ := mkTup_ok h2
    refine ⟨U, O, ρ, w, xs, _, S, h1, fun vs H1 e1 r1 c1 => ⟨by rw [c1.length]; exact hl, fun p n => ?_⟩⟩
    exact q _ _ (e1.trans (Ext.of_same (same_upd n))) (r1.same (same_upd n)) (new_tup n (c1.weak (fun _ z => z) (UO.mono h.2))).c, fun _ z => z⟩
theorem ve_lst (h : VA X aw es La Ca dr) : VE X aw (.List es pos) La La (dLst dr) :=
  ⟨PE.weak (pe_lst h.1) fun σ H Q ⟨U, O, ρ, w, k, w', S, hd, q⟩ => by
    obtain ⟨xs, w1, h1, h2⟩ := bind_ok hd
    obtain ⟨hl, rfl, rfl⟩ := mkLst_ok h2
    refine ⟨U, O, ρ, w, xs, _, S, h1, fun vs H1 e1 r1 c1 => ⟨by rw [c1.length]; exact hl, fun p n => ?_⟩⟩
    exact q _ _ (e1.trans (Ext.of_same (same_upd n))) (r1.same (same_upd n)) (new_lst (S.ext e1 r1).utr n (c1.weak (fun _ z => z) (UO.mono h.2))).c, fun _ z => z⟩
/-! ### calls of built-ins -/
/-- what a built-in does with its arguments -/
def CaOk (K : PySem.W.Frag) (mg : Str → Option Value) (aw : Addr) (r : List V → Hp → VK → Prop) (g : List D → Option D) : Prop := ∀ (U : Addr → Prop) (H : Hp) (xs : List V) (as : List D) (v0 : D) (Q : VK), (∀ q, U q → H q ≠ none) → RepCs K mg aw No U H xs as → g as = some v0 →
  (∀ v H', Same H H' → Rep K mg aw U H' v v0 → Q v H') → r xs H Q
def dCa (g : List D → Option D) (d : Sto → M (List D)) : Sto → M D := fun ρ => d ρ >>= fun xs => lift (g xs)
theorem t_ca {r : List V → Hp → VK → Prop} {g : List D → Option D} (ok : CaOk X.K X.mg aw r g) {σ : L2.St} {H : Hp} {Q : VK} (h : tE X.K X.mg aw Ca Ca (dCa g dr) σ H Q) : tCB r (tA X.K X.mg aw La Ca dr) σ H Q := by
  obtain ⟨U, O, ρ, w, k, w', S, hd, q⟩ := h
  obtain ⟨xs, w1, h1, h2⟩ := bind_ok hd
  obtain ⟨g2, rfl⟩ := lift_ok h2
  refine ⟨U, O, ρ, w, xs, _, S, h1, fun vs H1 e1 r1 c1 => ?_⟩
  have S1 := S.ext e1 r1
  refine ok (UO U O Ca) H1 vs xs k Q S1.utr (c1.mono (fun _ z => z.elim) (fun _ z => z) fun _ z => z.elim) g2 fun v H' sm rv => ?_
  exact q v H' (e1.trans (Ext.of_same sm)) (r1.same sm) rv.c
variable {x : Str} {p : Pos}
theorem ve_callB {id : String} {r : List V → Hp → VK → Prop} {g : List D → Option D} (hc : CallR X (.builtin id) r) (ok : CaOk X.K X.mg aw r g) (hg : Gl X x) (hm : X.mg x = none) (hv : bootBuiltins x = some (.builtin id)) (ha : VA X aw (e :: es) La Ca dr)
    (hn : x ≠ "__name__" := by decide) (hdb : (x == ("__debug__" : Str)) = false := by decide)
    (he : starEach (e :: es) X.env = (false, eval e X.env) :: starEach es X.env := by rfl) (hpl : (backTo pos (starEach es X.env)).any (·.1) = false := by rfl) : VE X aw (.Call (.Name x p) (e :: es) [] pos) Ca Ca (dCa g dr) :=
  ⟨PE.weak (pe_callB hc hg hm hv ha.1 hn hdb he hpl) fun σ H Q h => t_ca ok h, fun _ z => z⟩
theorem ve_callTy {T : String} {r : List V → Hp → VK → Prop} {g : List D → Option D} (hc : CallR X (.type T) r) (ok : CaOk X.K X.mg aw r g) (hg : Gl X x) (hm : X.mg x = none) (hv : bootBuiltins x = some (.type T)) (ha : VA X aw (e :: es) La Ca dr)
    (hn : x ≠ "__name__" := by decide) (hdb : (x == ("__debug__" : Str)) = false := by decide)
    (he : starEach (e :: es) X.env = (false, eval e X.env) :: starEach es X.env := by rfl) (hpl : (backTo pos (starEach es X.env)).any (·.1) = false := by rfl) : VE X aw (.Call (.Name x p) (e :: es) [] pos) Ca Ca (dCa g dr) :=
  ⟨PE.weak (pe_callTy hc hg hm hv ha.1 hn hdb he hpl) fun σ H Q h => t_ca ok h, fun _ z => z⟩
end
end Vw

namespace Vw
open PySem PySem.Spec PyProof.Rows L2

/-! ### readings joined -/
theorem PE.or {X : Cx} {e : Expr} {t t' : TE} (h : PE X e t) (h' : PE X e t') : PE X e (fun σ H Q => t σ H Q ∨ t' σ H Q) := ⟨fun pins s σ H Q I q => q.elim (h.run pins s σ H Q I) (h'.run pins s σ H Q I)⟩

/-! ### keys -/
def keyOf : D → Option Key
  | .int i => some (.inl i)
  | .str x => some (.inr x)
  | _ => none
def keysOf : List D → Option (List Key)
  | [] => some []
  | d :: ds => match keyOf d, keysOf ds with
    | some k, some ks => some (k :: ks)
    | _, _ => none
def keyD : Key → D
  | .inl i => .int i
  | .inr x => .str x
theorem keyOf_eq {d : D} {k : Key} (h : keyOf d = some k) : d = keyD k := by
  cases d <;> simp only [keyOf] at h <;> first | (cases h; rfl) | cases h
theorem keysOf_eq : ∀ {ds : List D} {ks : List Key}, keysOf ds = some ks → ds = ks.map keyD
  | [], ks, h => by cases h; rfl
  | d :: ds, ks, h => by
    unfold keysOf at h
    cases e1 : keyOf d with
    | none => rw [e1] at h; cases h
    | some k =>
      cases e2 : keysOf ds with
      | none => rw [e1, e2] at h; cases h
      | some ks' =>
        rw [e1, e2] at h
        cases h
        rw [keyOf_eq e1, keysOf_eq e2]
        rfl
def getK {κ : Type} [DecidableEq κ] (kvs : List (κ × D)) (k : κ) : Option D := (kvs.find? fun kv => decide (kv.1 = k)).map (·.2)
def putD {κ : Type} [DecidableEq κ] (kvs : List (κ × D)) (k : κ) (v : D) : List (κ × D) :=
  if (kvs.any fun kv => decide (kv.1 = k)) = true then kvs.map (fun kv => if kv.1 = k then (kv.1, v) else kv) else kvs ++ [(k, v)]
section
variable {K : PySem.W.Frag} {mg : Str → Option Value} {aw : Addr} {U Ut Uc : Addr → Prop} {H H' : Hp} {v : V} {d : D}
theorem Rep.key {k : Key} (h : Rep K mg aw U H v (keyD k)) : v = kV k := by
  cases k with
  | inl i => cases h; rfl
  | inr x => cases h; rfl
theorem RepC.key {k : Key} (h : RepC K mg aw Ut U H v (keyD k)) : v = kV k := by
  cases k with
  | inl i => exact h.inv_int
  | inr x => exact h.inv_str
theorem RepL.keys : ∀ {ks : List Key} {vs : List V}, RepL K mg aw U H vs (ks.map keyD) → vs = ks.map kV
  | [], _, h => by cases h; rfl
  | k :: ks, _, h => by
    cases h with
    | cons a r => rw [Rep.key a, RepL.keys r]; rfl
theorem RepK.val : ∀ {ds : List (Key × D)} {kvs : List (Key × V)} (k : Key), RepK K mg aw U H kvs ds → (∀ d, getK ds k = some d → ∃ v, valV kvs k = some v ∧ Rep K mg aw U H v d) ∧ (getK ds k = none → valV kvs k = none)
  | _, _, k, .nil => ⟨fun _ z => (nomatch z), fun _ => rfl⟩
  | (j, d) :: ds, (_, v) :: kvs, k, .cons h r => by
    by_cases e : j = k
    · subst e
      have e1 : getK ((j, d) :: ds) j = some d := by simp [getK]
      have e2 : valV ((j, v) :: kvs) j = some v := by simp [valV]
      refine ⟨fun d' z => ?_, fun z => ?_⟩
      · rw [e1] at z; cases z; exact ⟨v, e2, h⟩
      · rw [e1] at z; cases z
    · have e1 : getK ((j, d) :: ds) k = getK ds k := by simp [getK, e]
      have e2 : valV ((j, v) :: kvs) k = valV kvs k := by simp [valV, e]
      rw [e1, e2]
      exact RepK.val k r
theorem RepT.val : ∀ {ds : List (List Key × D)} {kvs : List (List Key × V)} (k : List Key), RepT K mg aw U H kvs ds → (∀ d, getK ds k = some d → ∃ v, valV kvs k = some v ∧ Rep K mg aw U H v d) ∧ (getK ds k = none → valV kvs k = none)
  | _, _, k, .nil => ⟨fun _ z => (nomatch z), fun _ => rfl⟩
  | (j, d) :: ds, (_, v) :: kvs, k, .cons h r => by
    by_cases e : j = k
    · subst e
      have e1 : getK ((j, d) :: ds) j = some d := by simp [getK]
      have e2 : valV ((j, v) :: kvs) j = some v := by simp [valV]
      refine ⟨fun d' z => ?_, fun z => ?_⟩
      · rw [e1] at z; cases z; exact ⟨v, e2, h⟩
      · rw [e1] at z; cases z
    · have e1 : getK ((j, d) :: ds) k = getK ds k := by simp [getK, e]
      have e2 : valV ((j, v) :: kvs) k = valV kvs k := by simp [valV, e]
      rw [e1, e2]
      exact RepT.val k r
theorem RepK.length : ∀ {ds : List (Key × D)} {kvs : List (Key × V)}, RepK K mg aw U H kvs ds → kvs.length = ds.length
  | _, _, .nil => rfl
  | _, _, .cons _ r => congrArg (· + 1) (RepK.length r)
theorem RepT.length : ∀ {ds : List (List Key × D)} {kvs : List (List Key × V)}, RepT K mg aw U H kvs ds → kvs.length = ds.length
  | _, _, .nil => rfl
  | _, _, .cons _ r => congrArg (· + 1) (RepT.length r)
end

/-! ### items -/
def oGet : D → D → Option D
  | .dK kvs, k => (keyOf k).bind (getK kvs)
  | .dT kvs, .tup ks => (keysOf ks).bind (getK kvs)
  | _, _ => none
/-- what stands at a key, if it stands there -/
def oFind : D → D → Option (Option D)
  | .dK kvs, k => (keyOf k).map (getK kvs)
  | .dT kvs, .tup ks => (keysOf ks).map (getK kvs)
  | _, _ => none
def oIxS : D → D → Option D
  | .tup xs, .int i => atI xs i
  | .lst xs, .int i => atI xs i
  | .str z, .int i => if z.length ≤ lineN then (atI z.cps.toList i).map (fun c => .str ⟨#[c]⟩) else none
  | _, _ => none
def oIx (a b : D) : Option D := match oFind a b with
  | some o => o
  | none => oIxS a b
section
variable {K : PySem.W.Frag} {mg : Str → Option Value} {aw : Addr} {U Ut Uc : Addr → Prop} {H H' : Hp} {v : V} {d : D}
theorem RepL.atI {ds : List D} {vs : List V} {i : Int} {d : D} (r : RepL K mg aw U H vs ds) (h : L2.atI ds i = some d) : ∃ v, L2.atI vs i = some v ∧ Rep K mg aw U H v d := by
  unfold L2.atI at h ⊢
  rw [r.length]
  cases e : ixN ds.length i with
  | none => rw [e] at h; cases h
  | some j =>
    rw [e] at h
    exact RepL.get r h
/-- what stands at a key of a dict -/
theorem dget_of {x y : V} {a k : D} {o : Option D} (ra : RepC K mg aw No U H x a) (rk : RepC K mg aw No U H y k) (h : oFind a k = some o) : ∃ p r, x = .ref p ∧ DGet H p y r ∧ (∀ d, o = some d → ∃ v, r = some v ∧ Rep K mg aw U H v d) ∧ (o = none → r = none) := by
  cases a <;> try (cases h; done)
  · rename_i ds
    obtain ⟨p, kvs, rfl, hp, r⟩ := ra.inv_dK
    simp only [oFind] at h
    cases e : keyOf k with
    | none => rw [e] at h; cases h
    | some j =>
      rw [e] at h
      cases h
      rw [keyOf_eq e] at rk
      have q := RepK.val j r
      refine ⟨p, valV kvs j, rfl, .inl ⟨kvs, j, hp, rk.key, rfl⟩, fun d z => q.1 d z, q.2⟩
  · rename_i ds
    obtain ⟨p, kvs, rfl, hp, r⟩ := ra.inv_dT
    cases k <;> try (cases h; done)
    rename_i ks
    simp only [oFind] at h
    cases e : keysOf ks with
    | none => rw [e] at h; cases h
    | some j =>
      rw [e] at h
      cases h
      rw [keysOf_eq e] at rk
      obtain ⟨b, xs, rfl, hb, rb⟩ := rk.inv_tup
      have e2 := rb.keys
      subst e2
      have q := RepT.val j r
      refine ⟨p, valV kvs j, rfl, .inr ⟨kvs, j, b, hp, rfl, hb, rfl⟩, fun d z => q.1 d z, q.2⟩
end
section
variable {X : Cx} {aw : Addr} {pos : Pos} {a b c e : Expr} {La Ca Lb Cb Lc Cc : List Nat} {da db dc : Sto → M D} {ta tb : Sto → M Bool}
theorem d2_ok {g : D → D → Option D} {ρ : Sto} {w w' : Wd} {v : D} (h : d2 g da db ρ w = .ok v w') : ∃ x w1 y, da ρ w = .ok x w1 ∧ db ρ w1 = .ok y w' ∧ g x y = some v := by
  obtain ⟨x, w1, h1, h⟩ := bind_ok h
  obtain ⟨y, w2, h2, h⟩ := bind_ok h
  obtain ⟨h3, rfl⟩ := lift_ok h
  exact ⟨x, w1, y, h1, h2, h3⟩
theorem d2_of {g : D → D → Option D} {ρ : Sto} {w w1 w' : Wd} {x y v : D} (h1 : da ρ w = .ok x w1) (h2 : db ρ w1 = .ok y w') (h : g x y = some v) : d2 g da db ρ w = .ok v w' := by
  unfold d2
  rw [bind_run, h1]
  simp only
  rw [bind_run, h2]
  simp only
  rw [h]
  rfl
theorem ok_ix {K mg} : OpOk K mg aw (rIx K) oIxS := fun U H x y a b v0 Q tr ra rb e k => by
  unfold oIxS at e
  split at e
  · rename_i ds i
    cases rb.inv_int
    obtain ⟨p, xs, rfl, h1, r1⟩ := ra.inv_tup
    obtain ⟨v, h2, r2⟩ := r1.atI e
    exact .inr (.inl ⟨p, xs, i, v, rfl, rfl, h1.sq, h2, k v H (Same.refl H) r2⟩)
  · rename_i ds i
    cases rb.inv_int
    obtain ⟨p, xs, rfl, h1, r1⟩ := ra.inv_lst
    obtain ⟨v, h2, r2⟩ := r1.atI e
    exact .inl ⟨p, xs, i, v, rfl, rfl, SqL.of h1, h2, k v H (Same.refl H) r2⟩
  · rename_i z i
    cases ra.inv_str
    cases rb.inv_int
    split at e
    · rename_i hl
      cases e2 : L2.atI z.cps.toList i with
      | none => rw [e2] at e; cases e
      | some ch =>
        rw [e2] at e
        cases e
        exact .inr (.inr ⟨z, i, ch, rfl, rfl, lineN_eq ▸ hl, e2, k _ H (Same.refl H) (.str _)⟩)
    · cases e
  · cases e
theorem ve_ix (hu : X.A.units + 1 < cLine) (ha : VE X aw a La Ca da) (hb : VE X aw b Lb Cb db) (hs : PlainIx b := by exact fun _ _ => rfl) : VE X aw (.Subscript a b pos) (Ca ++ Cb) (Ca ++ Cb) (d2 oIx da db) :=
  ⟨PE.weak (PE.or (pe_ix ix_seq ha.1 hb.1 hs) (pe_dget hu ha.1 hb.1 hs)) fun σ H Q ⟨U, O, ρ, w, v0, w', S, h, k⟩ => by
    obtain ⟨x, w1, y, h1, h2, h3⟩ := d2_ok h
    unfold oIx at h3
    cases hf : oFind x y with
    | none =>
      rw [hf] at h3
      exact .inl (t_op ok_ix σ H Q ⟨U, O, ρ, w, v0, w', S, d2_of h1 h2 h3, k⟩ ha.2 hb.2)
    | some o =>
      rw [hf] at h3
      simp only at h3
      subst h3
      refine .inr ⟨U, O, ρ, w, x, w1, S, h1, fun v1 H1 e1 r1 c1 => ?_⟩
      have S1 := S.ext e1 r1
      refine ⟨U, O, ρ, w1, y, _, S1, h2, fun v2 H2 e2 r2 c2 => ?_⟩
      have c1' := c1.ext e2 r1 S1.un S1.un
      obtain ⟨p, r, rfl, g, q1, q2⟩ := dget_of (U := UO U O (Ca ++ Cb)) (c1'.rd UO.appL) (c2.rd UO.appR) hf
      obtain ⟨v, rfl, rv⟩ := q1 v0 rfl
      exact ⟨p, v, rfl, g, k v H2 (e1.trans e2) r2 rv.c⟩, fun _ z => z⟩
/-! ### slices -/
def cutD {α : Type} (xs : List α) (lo hi : Option Int) : List α := (xs.drop (HT.sIx xs.length 0 lo)).take (HT.sIx xs.length xs.length hi - HT.sIx xs.length 0 lo)
def oSl : D → Option Int → Option Int → Option D
  | .tup xs, lo, hi => some (.tup (cutD xs lo hi))
  | .lst xs, lo, hi => some (.lst (cutD xs lo hi))
  | _, _, _ => none
/-- an end of a slice -/
abbrev OD := Option (Sto → M D)
def asI : D → M (Option Int)
  | .int i => Pure.pure (some i)
  | _ => M.bad
@[simp] theorem asI_int (i : Int) : asI (.int i) = Pure.pure (some i) := rfl
def dO : OD → Sto → M (Option Int)
  | none, _ => Pure.pure none
  | some d, ρ => d ρ >>= asI
def dSl (d : Sto → M D) (l h : OD) : Sto → M D := fun ρ => d ρ >>= fun x => dO l ρ >>= fun i => dO h ρ >>= fun j => lift (oSl x i j)
def tO (K : PySem.W.Frag) (mg : Str → Option Value) (aw : Addr) (d : OD) : TO := fun σ H Q => ∃ (U : Addr → Prop) (O : Nat → Option Addr) (ρ : Sto) (w : Wd) (v0 : Option Int) (w' : Wd), SR K mg aw U O σ H ρ w ∧ dO d ρ w = .ok v0 w' ∧
  ∀ H', Ext aw H H' → WR aw H' w' → Q v0 H'
def VO (X : Cx) (aw : Addr) (e : Option Expr) (d : OD) : Prop := PO X e (tO X.K X.mg aw d)
theorem PO.weak {X : Cx} {e : Option Expr} {t t' : TO} (h : PO X e t) (k : ∀ σ H Q, t' σ H Q → t σ H Q) : PO X e t' := by
  obtain ⟨run⟩ := h
  exact ⟨by
    intros
    apply run <;> first | assumption | (apply k; assumption)⟩
theorem vo_none : VO X aw none none := PO.weak po_none fun σ H Q ⟨U, O, ρ, w, v0, w', S, h, k⟩ => by
  obtain ⟨rfl, rfl⟩ := pure_ok h
  exact k H (Ext.refl _ _) S.wld
theorem vo_some (ha : VE X aw a La Ca da) : VO X aw (some a) (some da) := PO.weak (po_some ha.1) fun σ H Q ⟨U, O, ρ, w, v0, w', S, h, k⟩ => by
  obtain ⟨x, w1, h1, h2⟩ := bind_ok h
  refine ⟨U, O, ρ, w, x, w1, S, h1, fun v H1 e1 r1 c1 => ?_⟩
  cases x <;> try (cases h2; done)
  obtain ⟨rfl, rfl⟩ := pure_ok h2
  exact ⟨_, c1.inv_int, k H1 e1 r1⟩
theorem RepL.cut {K : PySem.W.Frag} {mg : Str → Option Value} {U : Addr → Prop} {H : Hp} {ds : List D} {vs : List V} (r : RepL K mg aw U H vs ds) (lo hi : Option Int) : RepL K mg aw U H (cutV vs lo hi) (cutD ds lo hi) := by
  unfold cutV cutD
  rw [r.length]
  exact (r.drop _).take _
theorem cutV_all {xs : List V} {lo hi : Option Int} (h : HT.sIx xs.length 0 lo = 0 ∧ HT.sIx xs.length xs.length hi = xs.length) : cutV xs lo hi = xs := by
  unfold cutV
  rw [h.1, h.2]
  simp
theorem SlR.or' {r r' : V → Option Int → Option Int → Hp → VK → Prop} (h : SlR X r) (h' : SlR X r') : SlR X (fun x lo hi H Q => r x lo hi H Q ∨ r' x lo hi H Q) := h.or h'
theorem ve_slice {l h : Option Expr} {dl dh : OD} {p2 : Pos} (he : VE X aw e La Ca da) (hl : VO X aw l dl) (hh : VO X aw h dh) : VE X aw (.Subscript e (.Slice l h none p2) pos) Ca Ca (dSl da dl dh) :=
  ⟨PE.weak (pe_slice (sl_tupA.or sl_list) he.1 hl hh) fun σ H Q ⟨U, O, ρ, w, v0, w', S, h, k⟩ => by
    obtain ⟨x, w1, h1, h⟩ := bind_ok h
    obtain ⟨i, w2, h2, h⟩ := bind_ok h
    obtain ⟨j, w3, h3, h⟩ := bind_ok h
    obtain ⟨h4, rfl⟩ := lift_ok h
    refine ⟨U, O, ρ, w, x, w1, S, h1, fun v1 H1 e1 r1 c1 => ?_⟩
    have S1 := S.ext e1 r1
    refine ⟨U, O, ρ, w1, i, w2, S1, h2, fun H2 e2 r2 => ?_⟩
    have S2 := S1.ext e2 r2
    refine ⟨U, O, ρ, w2, j, _, S2, h3, fun H3 e3 r3 => ?_⟩
    have S3 := S2.ext e3 r3
    have c3 := ((c1.ext e2 r1 S1.un S1.un).ext e3 r2 S2.un S2.un).rd (Uc' := UO U O Ca) fun _ z => z
    have ee := (e1.trans e2).trans e3
    unfold oSl at h4
    split at h4
    · cases h4
      obtain ⟨p, xs, rfl, hp, rp⟩ := c3.inv_tup
      refine .inl ⟨p, xs, rfl, hp.sq, fun z => ?_, fun z q n => ?_⟩
      · refine k _ H3 ee r3 (Rep.c (.tup hp ?_))
        have := rp.cut i j
        rw [cutV_all z] at this
        exact this
      · exact k _ _ (ee.trans (Ext.of_same (same_upd n))) (r3.same (same_upd n)) (new_tup n (rp.cut i j)).c
    · cases h4
      obtain ⟨p, xs, rfl, hp, rp⟩ := c3.inv_lst
      exact .inr ⟨p, xs, rfl, SqL.of hp, fun q n => k _ _ (ee.trans (Ext.of_same (same_upd n))) (r3.same (same_upd n)) (new_lst S3.utr n (rp.cut i j)).c⟩
    · exact (nomatch h4), fun _ z => z⟩
/-! ### built-ins -/
def asInts : List D → Option (List Int)
  | [] => some []
  | .int i :: r => (asInts r).map (i :: ·)
  | _ => none
theorem asInts_eq : ∀ {ds : List D} {ns : List Int}, asInts ds = some ns → ds = ns.map D.int
  | [], ns, h => by cases h; rfl
  | d :: r, ns, h => by
    cases d <;> simp only [asInts] at h <;> try (cases h; done)
    cases e : asInts r with
    | none => rw [e] at h; cases h
    | some ms => rw [e] at h; cases h; rw [asInts_eq e]; rfl
@[simp] theorem asInts_map : ∀ ns : List Int, asInts (ns.map D.int) = some ns
  | [] => rfl
  | n :: ns => by simp [asInts, asInts_map ns]
def asBls : List D → Option (List Bool)
  | [] => some []
  | .bl i :: r => (asBls r).map (i :: ·)
  | _ => none
theorem asBls_eq : ∀ {ds : List D} {ns : List Bool}, asBls ds = some ns → ds = ns.map D.bl
  | [], ns, h => by cases h; rfl
  | d :: r, ns, h => by
    cases d <;> simp only [asBls] at h <;> try (cases h; done)
    cases e : asBls r with
    | none => rw [e] at h; cases h
    | some ms => rw [e] at h; cases h; rw [asBls_eq e]; rfl
@[simp] theorem asBls_map : ∀ ns : List Bool, asBls (ns.map D.bl) = some ns
  | [] => rfl
  | n :: ns => by simp [asBls, asBls_map ns]
def oLen : List D → Option D
  | [.tup xs] => some (.int xs.length)
  | [.lst xs] => some (.int xs.length)
  | [.str y] => if y.length ≤ lineN then some (.int y.length) else none
  | _ => none
theorem ok_len {K mg} : CaOk K mg aw (fun xs H Q => ∃ x n, xs = [x] ∧ LenV K x H n ∧ Q (.int n) H) oLen := fun U H xs as v0 Q tr r e k => by
  unfold oLen at e
  split at e
  · cases e
    cases r with
    | cons r1 r2 =>
      cases r2
      obtain ⟨p, xs, rfl, hp, rp⟩ := r1.inv_tup
      exact ⟨_, _, rfl, .inr ⟨xs, hp.sq, rp.length.symm⟩, k _ H (Same.refl H) (.int _)⟩
  · cases e
    cases r with
    | cons r1 r2 =>
      cases r2
      obtain ⟨p, xs, rfl, hp, rp⟩ := r1.inv_lst
      exact ⟨_, _, rfl, .inl ⟨xs, SqL.of hp, rp.length.symm⟩, k _ H (Same.refl H) (.int _)⟩
  · split at e
    · rename_i hl
      cases e
      cases r with
      | cons r1 r2 =>
        cases r2
        cases r1.inv_str
        exact ⟨_, _, rfl, ⟨lineN_eq ▸ hl, rfl⟩, k _ H (Same.refl H) (.int _)⟩
    · cases e
  · cases e
/-! isinstance(x, T) -/
def oIsi (T : String) : D → Option D
  | .bl _ => some (.bl (T == "bool" || T == "int"))
  | .int _ => some (.bl (T == "int"))
  | .str _ => some (.bl (T == "str"))
  | .non => some (.bl false)
  | .tup _ => some (.bl (T == "tuple"))
  | .lst _ => some (.bl (T == "list"))
  | _ => none
structure IsTy (T : String) : Prop where
  bl : kitB "bool" T = some (T == "bool" || T == "int")
  int : kitB "int" T = some (T == "int")
  str : kitB "str" T = some (T == "str")
  non : kitB "NoneType" T = some false
  tup : kitB "tuple" T = some (T == "tuple")
  lst : kitB "list" T = some (T == "list")
theorem ty_int : IsTy "int" := ⟨by decide +kernel, by decide +kernel, by decide +kernel, by decide +kernel, by decide +kernel, by decide +kernel⟩
theorem ty_bool : IsTy "bool" := ⟨by decide +kernel, by decide +kernel, by decide +kernel, by decide +kernel, by decide +kernel, by decide +kernel⟩
theorem ty_str : IsTy "str" := ⟨by decide +kernel, by decide +kernel, by decide +kernel, by decide +kernel, by decide +kernel, by decide +kernel⟩
theorem ty_tuple : IsTy "tuple" := ⟨by decide +kernel, by decide +kernel, by decide +kernel, by decide +kernel, by decide +kernel, by decide +kernel⟩
theorem ty_list : IsTy "list" := ⟨by decide +kernel, by decide +kernel, by decide +kernel, by decide +kernel, by decide +kernel, by decide +kernel⟩
theorem ve_isi {T : String} {x : Str} {p p2 : Pos} (IT : IsTy T) (hg : Gl X "isinstance") (hm : X.mg "isinstance" = none) (hg2 : Gl X x) (hm2 : X.mg x = none) (hv2 : bootBuiltins x = some (.type T)) (ha : VE X aw a La Ca da) (hn : x ≠ "__name__" := by decide) (hd : (x == ("__debug__" : Str)) = false := by decide)
    (hs : starEach (a :: [.Name x p2]) X.env = (false, eval a X.env) :: starEach [.Name x p2] X.env := by rfl) : VE X aw (.Call (.Name "isinstance" p) [a, .Name x p2] [] pos) [] [] (d1 (oIsi T) da) :=
  ⟨PE.weak (pe_callB call_isi hg hm (by decide +kernel) (pa_cons ha.1 (pa_cons (pe_bltn (v := .ty T) hg2 hm2 hv2 rfl hn hd) pa_nil) hs) (he := hs)) fun σ H Q ⟨U, O, ρ, w, v0, w', S, h, k⟩ => by
    obtain ⟨x, w1, h1, h⟩ := bind_ok h
    obtain ⟨h2, rfl⟩ := lift_ok h
    refine ⟨U, O, ρ, w, x, _, S, h1, fun v1 H1 e1 r1 c1 => ?_⟩
    have fin : ∀ {b : Bool} {t : String}, oIsi T x = some (.bl b) → TyX X.K H1 v1 (.type t) → kitB t T = some b → rIsi X.K [v1, .ty T] H1 Q := fun {b t} e ty kb => by
      rw [h2] at e
      cases e
      exact ⟨v1, .ty T, _, _, b, rfl, .ty T, ty, L2.kit_ty kb, k _ H1 e1 r1 (Rep.c (.bl b))⟩
    show rIsi X.K [v1, .ty T] H1 Q
    cases x with
    | non => cases c1.inv_non; exact fin rfl (.base .non) IT.non
    | bl b => cases c1.inv_bl; exact fin rfl (.base (.bl _)) IT.bl
    | int i => cases c1.inv_int; exact fin rfl (.base (.int _)) IT.int
    | str z => cases c1.inv_str; exact fin rfl (.base (.str _)) IT.str
    | tup ds =>
      obtain ⟨p, xs, rfl, hp, rp⟩ := c1.inv_tup
      exact fin rfl (.base (.tup hp)) IT.tup
    | lst ds =>
      obtain ⟨p, xs, rfl, hp, rp⟩ := c1.inv_lst
      exact fin rfl (.base (.lst hp)) IT.lst
    | dK _ => cases h2
    | dT _ => cases h2
    | fn _ => cases h2
    | tok => exact (nomatch h2), fun _ z => z⟩
end
end Vw

namespace Vw
open PySem PySem.Spec PyProof.Rows L2

def seqOf : D → Option (List D)
  | .tup xs => some xs
  | .lst xs => some xs
  | _ => none
section
variable {K : PySem.W.Frag} {mg : Str → Option Value} {aw : Addr} {U Ut : Addr → Prop} {H : Hp} {v : V} {d : D}
theorem RepC.seq {ds : List D} (h : seqOf d = some ds) (r : RepC K mg aw Ut U H v d) : ∃ p xs, v = .ref p ∧ RepL K mg aw U H xs ds ∧ ((d = .lst ds ∧ H p = some (.lst xs)) ∨ (d = .tup ds ∧ H p = some (.tup xs))) := by
  cases d <;> try (cases h; done)
  · cases h
    obtain ⟨p, xs, rfl, hp, rp⟩ := r.inv_tup
    exact ⟨p, xs, rfl, rp, .inr ⟨rfl, hp⟩⟩
  · cases h
    obtain ⟨p, xs, rfl, hp, rp⟩ := r.inv_lst
    exact ⟨p, xs, rfl, rp, .inl ⟨rfl, hp⟩⟩
theorem RepCs.one {Ut U : Addr → Prop} {xs : List V} {d : D} (h : RepCs K mg aw Ut U H xs [d]) : ∃ v, xs = [v] ∧ RepC K mg aw Ut U H v d := by
  cases h with
  | cons a b => cases b; exact ⟨_, rfl, a⟩
theorem RepCs.two {Ut U : Addr → Prop} {xs : List V} {d e : D} (h : RepCs K mg aw Ut U H xs [d, e]) : ∃ v u, xs = [v, u] ∧ RepC K mg aw Ut U H v d ∧ RepC K mg aw Ut U H u e := by
  cases h with
  | cons a b =>
    obtain ⟨u, rfl, c⟩ := b.one
    exact ⟨_, _, rfl, a, c⟩
theorem RepCs.three {Ut U : Addr → Prop} {xs : List V} {d e f : D} (h : RepCs K mg aw Ut U H xs [d, e, f]) : ∃ v u t, xs = [v, u, t] ∧ RepC K mg aw Ut U H v d ∧ RepC K mg aw Ut U H u e ∧ RepC K mg aw Ut U H t f := by
  cases h with
  | cons a b =>
    obtain ⟨u, t, rfl, c, e⟩ := b.two
    exact ⟨_, _, _, rfl, a, c, e⟩
end
section
variable {X : Cx} {aw : Addr}
/-! sum of ints -/
def oSum : List D → Option D
  | [d] => ((seqOf d).bind asInts).map fun ns => .int ns.sum
  | _ => none
def rSumT (K : PySem.W.Frag) : List V → Hp → VK → Prop := fun vs H Q => ∃ (a : Addr) (ns : List Int), vs = [V.ref a] ∧ SqT K H a (ns.map V.int) ∧ Q (.int ns.sum) H
theorem cr_sumT (hc : X.calm = true) : CallR X (.builtin "sum") (rSumT X.K) := by
  intro pins s σ H vs us Q I r h
  obtain ⟨a, ns, rfl, hs, q⟩ := h
  obtain ⟨its, rv, hl, _⟩ := I.tuple hs
  rw [Vals.ref1 r]
  have hi := rv.ints
  obtain ⟨xs, e⟩ := hi.allInts.items
  have hn : numsOf (intItems xs).toList = ns := by rw [← e]; exact hi.numsOf
  rw [nums_intItems] at hn
  rw [e] at hl
  obtain ⟨o, ho, hcl, n, hd⟩ := hl
  refine PySem.W.ktm_sumG (I.ok.hd hc) ⟨o, ho, hcl, n, hd⟩ fun h' tk t' hk => ?_
  rw [preSum_eq, List.take_of_length_le (by simp), hn]
  exact ⟨.int _, H, I.kept hk, ⟨_, rfl⟩, q⟩
theorem ok_sum {K mg} : CaOk K mg aw (fun xs H Q => rSum K xs H Q ∨ rSumT K xs H Q) oSum := fun U H xs as v0 Q tr r e k => by
  unfold oSum at e
  split at e
  · rename_i d
    obtain ⟨v, rfl, rv⟩ := r.one
    cases e1 : seqOf d with
    | none => rw [e1] at e; cases e
    | some ds =>
      cases e2 : asInts ds with
      | none => rw [e1] at e; simp only [Option.bind_some] at e; rw [e2] at e; cases e
      | some ns =>
        rw [e1] at e
        simp only [Option.bind_some] at e
        rw [e2] at e
        cases e
        obtain ⟨p, ys, rfl, rl, hp⟩ := rv.seq e1
        rw [asInts_eq e2] at rl
        have := rl.ints
        subst this
        rcases hp with ⟨_, hp⟩ | ⟨_, hp⟩
        · exact .inl ⟨p, ns, rfl, SqL.of hp, k _ H (Same.refl H) (.int _)⟩
        · exact .inr ⟨p, ns, rfl, SqT.of hp, k _ H (Same.refl H) (.int _)⟩
  · cases e
theorem CallR.or' {f : Value} {r r' : List V → Hp → VK → Prop} (h : CallR X f r) (h' : CallR X f r') : CallR X f (fun xs H Q => r xs H Q ∨ r' xs H Q) := h.or h'
theorem call_sumA (hc : X.calm = true) : CallR X (.builtin "sum") (fun xs H Q => rSum X.K xs H Q ∨ rSumT X.K xs H Q) := (cr_sum hc).or (cr_sumT hc)
/-! max, min -/
def maxL (n : Int) (ns : List Int) : Int := ns.foldl max n
def minL (n : Int) (ns : List Int) : Int := ns.foldl min n
theorem maxL_ge : ∀ (ns : List Int) (n : Int), n ≤ maxL n ns ∧ (∀ y ∈ ns, y ≤ maxL n ns) ∧ (maxL n ns = n ∨ maxL n ns ∈ ns)
  | [], n => ⟨Int.le_refl n, fun _ h => (nomatch h), .inl rfl⟩
  | m :: ns, n => by
    obtain ⟨h1, h2, h3⟩ := maxL_ge ns (max n m)
    have e : maxL n (m :: ns) = maxL (max n m) ns := rfl
    rw [e]
    refine ⟨Int.le_trans (Int.le_max_left n m) h1, fun y hy => ?_, ?_⟩
    · rcases List.mem_cons.mp hy with rfl | hy
      · exact Int.le_trans (Int.le_max_right n y) h1
      · exact h2 y hy
    · rcases h3 with h3 | h3
      · rw [h3]
        rcases Int.le_total n m with c | c
        · rw [Int.max_eq_right c]; exact .inr (List.mem_cons_self ..)
        · rw [Int.max_eq_left c]; exact .inl rfl
      · exact .inr (List.mem_cons_of_mem _ h3)
theorem minL_le : ∀ (ns : List Int) (n : Int), minL n ns ≤ n ∧ (∀ y ∈ ns, minL n ns ≤ y) ∧ (minL n ns = n ∨ minL n ns ∈ ns)
  | [], n => ⟨Int.le_refl n, fun _ h => (nomatch h), .inl rfl⟩
  | m :: ns, n => by
    obtain ⟨h1, h2, h3⟩ := minL_le ns (min n m)
    have e : minL n (m :: ns) = minL (min n m) ns := rfl
    rw [e]
    refine ⟨Int.le_trans h1 (Int.min_le_left n m), fun y hy => ?_, ?_⟩
    · rcases List.mem_cons.mp hy with rfl | hy
      · exact Int.le_trans h1 (Int.min_le_right n y)
      · exact h2 y hy
    · rcases h3 with h3 | h3
      · rw [h3]
        rcases Int.le_total n m with c | c
        · rw [Int.min_eq_left c]; exact .inl rfl
        · rw [Int.min_eq_right c]; exact .inr (List.mem_cons_self ..)
      · exact .inr (List.mem_cons_of_mem _ h3)
def oMax : List D → Option D
  | [.lst ds] => match asInts ds with
    | some (n :: ns) => some (.int (maxL n ns))
    | _ => none
  | [.int i, .int j] => some (.int (max i j))
  | _ => none
def oMin : List D → Option D
  | [.lst ds] => match asInts ds with
    | some (n :: ns) => some (.int (minL n ns))
    | _ => none
  | [.int i, .int j] => some (.int (min i j))
  | _ => none
theorem call_maxA (hc : X.calm = true) : CallR X (.builtin "max") (fun xs H Q => rMax X.K xs H Q ∨ ∃ i j, xs = [.int i, .int j] ∧ Q (.int (if j > i then j else i)) H) := (cr_max hc).or (call_max2 hc)
theorem call_minA (hc : X.calm = true) : CallR X (.builtin "min") (fun xs H Q => rMin X.K xs H Q ∨ ∃ i j, xs = [.int i, .int j] ∧ Q (.int (if j < i then j else i)) H) := (cr_min hc).or (call_min2 hc)
theorem ok_max {K mg} : CaOk K mg aw (fun xs H Q => rMax K xs H Q ∨ ∃ i j, xs = [.int i, .int j] ∧ Q (.int (if j > i then j else i)) H) oMax := fun U H xs as v0 Q tr r e k => by
  unfold oMax at e
  split at e
  · rename_i ds
    obtain ⟨v, rfl, rv⟩ := r.one
    split at e
    · rename_i n ns e2
      cases e
      obtain ⟨p, ys, rfl, hp, rl⟩ := rv.inv_lst
      rw [asInts_eq e2] at rl
      have := rl.ints
      subst this
      refine .inl ⟨p, n :: ns, rfl, SqL.of hp, Nat.zero_lt_succ _, fun m hm hle => ?_⟩
      obtain ⟨h1, h2, h3⟩ := maxL_ge ns n
      have e3 : m = maxL n ns := by
        refine Int.le_antisymm ?_ ?_
        · rcases List.mem_cons.mp hm with rfl | hm
          · exact h1
          · exact h2 m hm
        · refine hle _ ?_
          rcases h3 with h3 | h3
          · rw [h3]; exact List.mem_cons_self ..
          · exact List.mem_cons_of_mem _ h3
      subst e3
      exact k _ H (Same.refl H) (.int _)
    · cases e
  · rename_i i j
    cases e
    obtain ⟨v, u, rfl, r1, r2⟩ := r.two
    cases r1.inv_int
    cases r2.inv_int
    refine .inr ⟨i, j, rfl, ?_⟩
    have e3 : (if j > i then j else i) = max i j := by split <;> omega
    rw [e3]
    exact k _ H (Same.refl H) (.int _)
  · cases e
theorem ok_min {K mg} : CaOk K mg aw (fun xs H Q => rMin K xs H Q ∨ ∃ i j, xs = [.int i, .int j] ∧ Q (.int (if j < i then j else i)) H) oMin := fun U H xs as v0 Q tr r e k => by
  unfold oMin at e
  split at e
  · rename_i ds
    obtain ⟨v, rfl, rv⟩ := r.one
    split at e
    · rename_i n ns e2
      cases e
      obtain ⟨p, ys, rfl, hp, rl⟩ := rv.inv_lst
      rw [asInts_eq e2] at rl
      have := rl.ints
      subst this
      refine .inl ⟨p, n :: ns, rfl, SqL.of hp, Nat.zero_lt_succ _, fun m hm hle => ?_⟩
      obtain ⟨h1, h2, h3⟩ := minL_le ns n
      have e3 : m = minL n ns := by
        refine Int.le_antisymm ?_ ?_
        · refine hle _ ?_
          rcases h3 with h3 | h3
          · rw [h3]; exact List.mem_cons_self ..
          · exact List.mem_cons_of_mem _ h3
        · rcases List.mem_cons.mp hm with rfl | hm
          · exact h1
          · exact h2 m hm
      subst e3
      exact k _ H (Same.refl H) (.int _)
    · cases e
  · rename_i i j
    cases e
    obtain ⟨v, u, rfl, r1, r2⟩ := r.two
    cases r1.inv_int
    cases r2.inv_int
    refine .inr ⟨i, j, rfl, ?_⟩
    have e3 : (if j < i then j else i) = min i j := by split <;> omega
    rw [e3]
    exact k _ H (Same.refl H) (.int _)
  · cases e
/-! abs, int -/
def oAbs : List D → Option D
  | [.int i] => some (.int (if i < 0 then -i else i))
  | _ => none
theorem ok_abs {K mg} : CaOk K mg aw (fun xs H Q => ∃ i, xs = [.int i] ∧ Q (.int (if i < 0 then -i else i)) H) oAbs := fun U H xs as v0 Q tr r e k => by
  unfold oAbs at e
  split at e
  · cases e
    obtain ⟨v, rfl, rv⟩ := r.one
    cases rv.inv_int
    exact ⟨_, rfl, k _ H (Same.refl H) (.int _)⟩
  · cases e
def oInt : List D → Option D
  | [.int i] => some (.int i)
  | [.bl b] => some (.int (if b then 1 else 0))
  | _ => none
theorem ok_int {K mg} : CaOk K mg aw (fun xs H Q => (∃ i, xs = [.int i] ∧ Q (.int i) H) ∨ ∃ k, xs = [.bl k] ∧ Q (.int (if k then 1 else 0)) H) oInt := fun U H xs as v0 Q tr r e k => by
  unfold oInt at e
  split at e
  · cases e
    obtain ⟨v, rfl, rv⟩ := r.one
    cases rv.inv_int
    exact .inl ⟨_, rfl, k _ H (Same.refl H) (.int _)⟩
  · cases e
    obtain ⟨v, rfl, rv⟩ := r.one
    cases rv.inv_bl
    exact .inr ⟨_, rfl, k _ H (Same.refl H) (.int _)⟩
  · cases e
/-! all, any of a list of truth values -/
def oAll : List D → Option D
  | [.lst ds] => (asBls ds).map fun bs => .bl (bs.all id)
  | _ => none
def oAny : List D → Option D
  | [.lst ds] => (asBls ds).map fun bs => .bl (bs.any id)
  | _ => none
theorem ok_all {K mg} : CaOk K mg aw (rAll K) oAll := fun U H xs as v0 Q tr r e k => by
  unfold oAll at e
  split at e
  · rename_i ds
    obtain ⟨v, rfl, rv⟩ := r.one
    cases e2 : asBls ds with
    | none => rw [e2] at e; cases e
    | some bs =>
      rw [e2] at e
      cases e
      obtain ⟨p, ys, rfl, hp, rl⟩ := rv.inv_lst
      rw [asBls_eq e2] at rl
      have := rl.bls
      subst this
      exact ⟨p, bs, rfl, SqL.of hp, k _ H (Same.refl H) (.bl _)⟩
  · cases e
theorem ok_any {K mg} : CaOk K mg aw (rAny K) oAny := fun U H xs as v0 Q tr r e k => by
  unfold oAny at e
  split at e
  · rename_i ds
    obtain ⟨v, rfl, rv⟩ := r.one
    cases e2 : asBls ds with
    | none => rw [e2] at e; cases e
    | some bs =>
      rw [e2] at e
      cases e
      obtain ⟨p, ys, rfl, hp, rl⟩ := rv.inv_lst
      rw [asBls_eq e2] at rl
      have := rl.bls
      subst this
      exact ⟨p, bs, rfl, SqL.of hp, k _ H (Same.refl H) (.bl _)⟩
  · cases e
/-! tuple(x), list(x) -/
def oTupOf : List D → Option D
  | [.lst xs] => some (.tup xs)
  | [.tup xs] => some (.tup xs)
  | _ => none
def oLstOf : List D → Option D
  | [.lst xs] => some (.lst xs)
  | [.tup xs] => some (.lst xs)
  | _ => none
theorem ok_tupOf {K mg} : CaOk K mg aw (fun xs H Q => ∃ p ys, xs = [.ref p] ∧ ((SqL K H p ys ∧ ∀ l, H l = none → Q (.ref l) (upd H l (.tup ys))) ∨ (SqT K H p ys ∧ Q (.ref p) H))) oTupOf := fun U H xs as v0 Q tr r e k => by
  unfold oTupOf at e
  split at e
  · cases e
    obtain ⟨v, rfl, rv⟩ := r.one
    obtain ⟨p, ys, rfl, hp, rl⟩ := rv.inv_lst
    exact ⟨p, ys, rfl, .inl ⟨SqL.of hp, fun l n => k _ _ (same_upd n) (new_tup n rl)⟩⟩
  · cases e
    obtain ⟨v, rfl, rv⟩ := r.one
    obtain ⟨p, ys, rfl, hp, rl⟩ := rv.inv_tup
    exact ⟨p, ys, rfl, .inr ⟨hp.sq, k _ H (Same.refl H) (.tup hp rl)⟩⟩
  · cases e
theorem ok_lstOf {K mg} : CaOk K mg aw (fun xs H Q => ∃ p ys, xs = [.ref p] ∧ (SqL K H p ys ∨ SqT K H p ys) ∧ ∀ l, H l = none → Q (.ref l) (upd H l (.lst ys))) oLstOf := fun U H xs as v0 Q tr r e k => by
  unfold oLstOf at e
  split at e
  · cases e
    obtain ⟨v, rfl, rv⟩ := r.one
    obtain ⟨p, ys, rfl, hp, rl⟩ := rv.inv_lst
    exact ⟨p, ys, rfl, .inl (SqL.of hp), fun l n => k _ _ (same_upd n) (new_lst tr n rl)⟩
  · cases e
    obtain ⟨v, rfl, rv⟩ := r.one
    obtain ⟨p, ys, rfl, hp, rl⟩ := rv.inv_tup
    exact ⟨p, ys, rfl, .inr hp.sq, fun l n => k _ _ (same_upd n) (new_lst tr n rl)⟩
  · cases e
/-! sorted of ints -/
def sortI (ns : List Int) : List Int := ns.mergeSort fun a b => decide (a ≤ b)
theorem sortI_perm (ns : List Int) : (sortI ns).Perm ns := List.mergeSort_perm _ _
theorem sortI_le (ns : List Int) : (sortI ns).Pairwise (· ≤ ·) := by
  have h := List.pairwise_mergeSort (le := fun a b : Int => decide (a ≤ b)) (fun a b c h1 h2 => by simp at *; omega) (fun a b => by simp; omega) ns
  exact h.imp fun h => of_decide_eq_true h
theorem sortI_unique {ns ms : List Int} (p : ms.Perm ns) (h : ms.Pairwise (· ≤ ·)) : ms = sortI ns :=
  List.Perm.eq_of_pairwise (le := fun a b : Int => a ≤ b) (fun a b _ _ h1 h2 => Int.le_antisymm h1 h2) h (sortI_le ns) (p.trans (sortI_perm ns).symm)
def oSortI : List D → Option D
  | [.lst ds] => (asInts ds).map fun ns => .lst ((sortI ns).map .int)
  | _ => none
theorem ok_sortI {K mg} : CaOk K mg aw (rSortedI K) oSortI := fun U H xs as v0 Q tr r e k => by
  unfold oSortI at e
  split at e
  · rename_i ds
    obtain ⟨v, rfl, rv⟩ := r.one
    cases e2 : asInts ds with
    | none => rw [e2] at e; cases e
    | some ns =>
      rw [e2] at e
      cases e
      obtain ⟨p, ys, rfl, hp, rl⟩ := rv.inv_lst
      rw [asInts_eq e2] at rl
      have := rl.ints
      subst this
      refine ⟨p, ns, rfl, SqL.of hp, fun ns' q hpm hsr n => ?_⟩
      rw [sortI_unique hpm hsr]
      exact k _ _ (same_upd n) (new_lst tr n (RepL.of_ints _))
  · cases e
end
end Vw

namespace Vw
open PySem PySem.Spec PyProof.Rows L2

/-! ### what is walked -/
/-- while all but P is kept, the items come, apart from U -/
structure Wk (K : PySem.W.Frag) (mg : Str → Option Value) (aw : Addr) (P U : Addr → Prop) (J : It) (H1 : Hp) (ds : List D) : Prop where
  goes : ∀ (i : Nat) (H : Hp), i < ds.length → Pres P H1 H → J.go i H
  stops : ∀ H : Hp, Pres P H1 H → J.stop ds.length H
  yields : ∀ (i : Nat) (H : Hp) (x : V) (H' : Hp), i < ds.length → Pres P H1 H → J.yld i H x H' → ∃ d, ds[i]? = some d ∧ Same H H' ∧ Rep K mg aw U H' x d
section
variable {K : PySem.W.Frag} {mg : Str → Option Value} {aw : Addr} {P U : Addr → Prop} {H : Hp} {a b : Addr} {xs ys : List V} {ds es : List D}
theorem wk_list (h : H a = some (.lst xs)) (n : ¬ P a) (u : ∀ a, P a → U a) (r : RepL K mg aw U H xs ds) : Wk K mg aw P U (Itl K a) H ds := by
  have w := walk_list (K := K) (a := a) (xs := xs)
  have g : ∀ H', Pres P H H' → SqL K H' a xs := fun H' p => SqL.of (p _ _ h fun z => absurd z n)
  refine ⟨fun i H' hi p => w.goes i H' (by rw [r.length]; exact hi) (g H' p), fun H' p => by rw [← r.length]; exact w.stops H' (g H' p), fun i H' x H'' hi p y => ?_⟩
  obtain ⟨rfl, e⟩ := w.yields i H' x H'' (by rw [r.length]; exact hi) (g H' p) y
  obtain ⟨d, e1, e2⟩ := r.getV e
  exact ⟨d, e1, Same.refl _, e2.keep (p.mono u) fun _ z => z⟩
theorem wk_tup (h : H a = some (.tup xs)) (u : ∀ a, P a → U a) (r : RepL K mg aw U H xs ds) : Wk K mg aw P U (Itt K a) H ds := by
  have w := walk_tup (K := K) (a := a) (xs := xs)
  have g : ∀ H', Pres P H H' → SqT K H' a xs := fun H' p => SqT.of (p _ _ h fun z => ⟨_, rfl⟩)
  refine ⟨fun i H' hi p => w.goes i H' (by rw [r.length]; exact hi) (g H' p), fun H' p => by rw [← r.length]; exact w.stops H' (g H' p), fun i H' x H'' hi p y => ?_⟩
  obtain ⟨rfl, e⟩ := w.yields i H' x H'' (by rw [r.length]; exact hi) (g H' p) y
  obtain ⟨d, e1, e2⟩ := r.getV e
  exact ⟨d, e1, Same.refl _, e2.keep (p.mono u) fun _ z => z⟩
/-- lo, lo + 1, .. (n of them) -/
def rgD (lo : Int) (n : Nat) : List D := (List.range n).map fun i => .int (lo + (i : Nat))
@[simp] theorem rgD_length (lo : Int) (n : Nat) : (rgD lo n).length = n := by simp [rgD]
theorem rgD_get {lo : Int} {n i : Nat} (h : i < n) : (rgD lo n)[i]? = some (.int (lo + (i : Nat))) := by simp [rgD, h]
theorem wk_range {lo : Int} {n : Nat} : Wk K mg aw P U (Itr lo n) H (rgD lo n) := by
  have w := walk_range (lo := lo) (n := n)
  refine ⟨fun i H' hi p => w.goes i H' (by simpa using hi) trivial, fun H' p => by rw [rgD_length]; exact w.stops H' trivial, fun i H' x H'' hi p y => ?_⟩
  rw [rgD_length] at hi
  obtain ⟨rfl, rfl⟩ := w.yields i H' x H'' hi trivial y
  exact ⟨_, rgD_get hi, Same.refl _, .int _⟩
def zipD (xs ys : List D) : List D := (xs.zip ys).map fun p => .tup [p.1, p.2]
theorem zipD_length (xs ys : List D) : (zipD xs ys).length = min xs.length ys.length := by simp [zipD]
theorem zipD_get {xs ys : List D} {i : Nat} {x y : D} (h1 : xs[i]? = some x) (h2 : ys[i]? = some y) : (zipD xs ys)[i]? = some (.tup [x, y]) := by
  unfold zipD
  rw [List.getElem?_map, (List.getElem?_zip_eq_some (z := (x, y))).mpr ⟨h1, h2⟩]
  rfl
theorem pair_rep {T : Addr} {x y : V} {d e : D} {H : Hp} (n : H T = none) (r1 : Rep K mg aw U H x d) (r2 : Rep K mg aw U H y e) : Rep K mg aw U (upd H T (.tup [x, y])) (.ref T) (.tup [d, e]) :=
  new_tup n (.cons r1 (.cons r2 .nil))
theorem wk_zip (u : ∀ a, P a → U a) (h : H a = some (.lst xs)) (n : ¬ P a) (r : RepL K mg aw U H xs ds) (h' : H b = some (.lst ys)) (n' : ¬ P b) (r' : RepL K mg aw U H ys es) : Wk K mg aw P U (Itz K a b) H (zipD ds es) := by
  have w := walk_zip (K := K) (a := a) (b := b) (xs := xs) (ys := ys) rfl
  have g : ∀ H', Pres P H H' → SqL K H' a xs ∧ SqL K H' b ys := fun H' p => ⟨SqL.of (p _ _ h fun z => absurd z n), SqL.of (p _ _ h' fun z => absurd z n')⟩
  have el : min xs.length ys.length = (zipD ds es).length := by rw [zipD_length, r.length, r'.length]
  rw [el] at w
  refine ⟨fun i H' hi p => w.goes i H' hi (g H' p), fun H' p => w.stops H' (g H' p), fun i H' x H'' hi p y => ?_⟩
  obtain ⟨T, x1, x2, rfl, nT, rfl, e1, e2⟩ := w.yields i H' x H'' hi (g H' p) y
  obtain ⟨d, f1, f2⟩ := r.getV e1
  obtain ⟨e, g1, g2⟩ := r'.getV e2
  exact ⟨_, zipD_get f1 g1, same_upd nT, pair_rep nT (f2.keep (p.mono u) fun _ z => z) (g2.keep (p.mono u) fun _ z => z)⟩
end

/-! ### the judgement of what is walked -/
def tI (K : PySem.W.Frag) (mg : Str → Option Value) (aw : Addr) (Lt Lc : List Nat) (d : Sto → M (List D)) : TI := fun σ H R => ∃ (U : Addr → Prop) (O : Nat → Option Addr) (ρ : Sto) (w : Wd) (ds : List D) (w' : Wd), SR K mg aw U O σ H ρ w ∧ d ρ w = .ok ds w' ∧
  ∀ J H', Ext aw H H' → WR aw H' w' → (∀ P U' : Addr → Prop, (∀ a, P a → UO U O Lt a) → (∀ a, P a → U' a) → (∀ a, U' a → UO U O Lc a ∨ H' a = none) → Wk K mg aw P U' J H' ds) → R J H'
def VI (X : Cx) (aw : Addr) (tg e : Expr) (Lt Lc : List Nat) (d : Sto → M (List D)) : Prop := PI X tg e (tI X.K X.mg aw Lt Lc d) ∧ ∀ i, i ∈ Lc → i ∈ Lt
theorem PI.or {X : Cx} {g e : Expr} {t t' : TI} (h : PI X g e t) (h' : PI X g e t') : PI X g e (fun σ H Q => t σ H Q ∨ t' σ H Q) := ⟨fun pins s σ H Q I q => q.elim (h.run pins s σ H Q I) (h'.run pins s σ H Q I)⟩
def iSeq (d : Sto → M D) : Sto → M (List D) := fun ρ => d ρ >>= fun x => lift (seqOf x)
section
variable {X : Cx} {aw : Addr} {pos : Pos} {a b c e tg : Expr} {La Ca Lb Cb Lc Cc : List Nat} {da db dc : Sto → M D} {dr : Sto → M (List D)}
theorem inv_lstU {K mg aw} {Ut Uc : Addr → Prop} {H : Hp} {v : V} {ds : List D} (c1 : RepC K mg aw Ut Uc H v (.lst ds)) : ∃ a xs, v = .ref a ∧ H a = some (.lst xs) ∧ ¬ Ut a ∧ RepL K mg aw Uc H xs ds := by
  cases c1 with
  | lst hp n rp => exact ⟨_, _, rfl, hp, n, rp⟩
  | any h z =>
    cases h with
    | lst hp n rp => exact ⟨_, _, rfl, hp, fun y => n (z _ y), rp⟩
theorem vi_seq (ha : VE X aw e La Ca da) : VI X aw tg e La Ca (iSeq da) :=
  ⟨PI.weak (PI.or (pi_list ha.1) (pi_tup ha.1)) fun σ H R ⟨U, O, ρ, w, ds, w', S, h, k⟩ => by
    obtain ⟨x, w1, h1, h⟩ := bind_ok h
    obtain ⟨h2, rfl⟩ := lift_ok h
    cases x <;> try (cases h2; done)
    · cases h2
      refine .inr ⟨U, O, ρ, w, _, _, S, h1, fun v H1 e1 r1 c1 => ?_⟩
      obtain ⟨p, xs, rfl, hp, rp⟩ := c1.inv_tup
      exact ⟨p, rfl, ⟨xs, hp.sq⟩, k _ H1 e1 r1 fun P U' u u' n' => wk_tup hp u' (rp.offs n')⟩
    · cases h2
      refine .inl ⟨U, O, ρ, w, _, _, S, h1, fun v H1 e1 r1 c1 => ?_⟩
      obtain ⟨p, xs, rfl, hp, n, rp⟩ := inv_lstU c1
      exact ⟨_, rfl, ⟨_, SqL.of hp⟩, k _ H1 e1 r1 fun P U' u u' n' => wk_list hp (fun z => n (u _ z)) u' (rp.offs n')⟩, ha.2⟩
def small62 (i : Int) : Bool := decide (-4611686018427387904 ≤ i ∧ i < 4611686018427387904)
theorem small62_ok {i : Int} (h : small62 i = true) : -(2 ^ 62) ≤ i ∧ i < 2 ^ 62 := by
  have := of_decide_eq_true h
  omega
def oRg1 : List D → Option (List D)
  | [.int j] => if small62 j then some (rgD 0 j.toNat) else none
  | _ => none
def oRg2 : List D → Option (List D)
  | [.int i, .int j] => if small62 i && small62 j then some (rgD i (j - i).toNat) else none
  | _ => none
def iRg1 (d : Sto → M (List D)) : Sto → M (List D) := fun ρ => d ρ >>= fun xs => lift (oRg1 xs)
def iRg2 (d : Sto → M (List D)) : Sto → M (List D) := fun ρ => d ρ >>= fun xs => lift (oRg2 xs)
theorem vi_range1 {p : Pos} (hg : Gl X "range") (hm : X.mg "range" = none) (ha : VA X aw [a] La Ca dr) (hs : starEach [a] X.env = [(false, eval a X.env)] := by rfl) : VI X aw tg (.Call (.Name "range" p) [a] [] pos) [] [] (iRg1 dr) :=
  ⟨PI.weak (pi_range1 hg hm ha.1 hs) fun σ H R ⟨U, O, ρ, w, ds, w', S, h, k⟩ => by
    obtain ⟨x, w1, h1, h⟩ := bind_ok h
    obtain ⟨h2, rfl⟩ := lift_ok h
    refine ⟨U, O, ρ, w, x, _, S, h1, fun vs H1 e1 r1 c1 => ?_⟩
    unfold oRg1 at h2
    split at h2
    · split at h2
      · rename_i hj
        cases h2
        obtain ⟨v, rfl, rv⟩ := c1.one
        cases rv.inv_int
        exact ⟨_, rfl, (small62_ok hj).1, (small62_ok hj).2, k _ H1 e1 r1 fun P U' u u' n' => wk_range⟩
      · cases h2
    · exact (nomatch h2), fun _ z => z⟩
theorem vi_range2 {p : Pos} (hg : Gl X "range") (hm : X.mg "range" = none) (ha : VA X aw [a, b] La Ca dr) (hs : starEach [a, b] X.env = [(false, eval a X.env), (false, eval b X.env)] := by rfl) (hs2 : starEach [b] X.env = [(false, eval b X.env)] := by rfl) : VI X aw tg (.Call (.Name "range" p) [a, b] [] pos) [] [] (iRg2 dr) :=
  ⟨PI.weak (pi_range2 hg hm ha.1 hs hs2) fun σ H R ⟨U, O, ρ, w, ds, w', S, h, k⟩ => by
    obtain ⟨x, w1, h1, h⟩ := bind_ok h
    obtain ⟨h2, rfl⟩ := lift_ok h
    refine ⟨U, O, ρ, w, x, _, S, h1, fun vs H1 e1 r1 c1 => ?_⟩
    unfold oRg2 at h2
    split at h2
    · split at h2
      · rename_i i j hj
        cases h2
        rw [Bool.and_eq_true] at hj
        obtain ⟨v, u, rfl, rv, ru⟩ := c1.two
        cases rv.inv_int
        cases ru.inv_int
        have q1 := small62_ok hj.1
        have q2 := small62_ok hj.2
        exact ⟨i, j, rfl, ⟨q1.1, q1.2, q2.1, q2.2⟩, k _ H1 e1 r1 fun P U' u u' n' => wk_range⟩
      · cases h2
    · exact (nomatch h2), fun _ z => z⟩
def oZip : List D → Option (List D)
  | [.lst xs, .lst ys] => some (zipD xs ys)
  | _ => none
def iZp (d : Sto → M (List D)) : Sto → M (List D) := fun ρ => d ρ >>= fun xs => lift (oZip xs)
theorem vi_zip {p tpos : Pos} {elts : List Expr} {kk : Nat} (hg : Gl X "zip") (hm : X.mg "zip" = none) (ha : VA X aw [a, b] La Ca dr) (hs : starEach [a, b] X.env = (false, eval a X.env) :: starEach [b] X.env := by rfl) (hs2 : (backTo pos (starEach [b] X.env)).any (·.1) = false := by rfl) : VI X aw (.Tuple elts kk tpos) (.Call (.Name "zip" p) [a, b] [] pos) La Ca (iZp dr) :=
  ⟨PI.weak (pi_zip hg hm ha.1 hs hs2) fun σ H R ⟨U, O, ρ, w, ds, w', S, h, k⟩ => by
    obtain ⟨x, w1, h1, h⟩ := bind_ok h
    obtain ⟨h2, rfl⟩ := lift_ok h
    refine ⟨U, O, ρ, w, x, _, S, h1, fun vs H1 e1 r1 c1 => ?_⟩
    unfold oZip at h2
    split at h2
    · cases h2
      obtain ⟨v, u, rfl, rv, ru⟩ := c1.two
      obtain ⟨p1, xs, rfl, hp1, n1, q1⟩ := inv_lstU rv
      obtain ⟨p2, ys, rfl, hp2, n2, q2⟩ := inv_lstU ru
      exact ⟨p1, p2, xs, ys, rfl, SqL.of hp1, SqL.of hp2, k _ H1 e1 r1 fun P U' u u' n' => wk_zip u' hp1 (fun z => n1 (u _ z)) (q1.offs n') hp2 (fun z => n2 (u _ z)) (q2.offs n')⟩
    · exact (nomatch h2), ha.2⟩
end

/-! ### targets -/
/-- what a target leaves -/
structure Upd (K : PySem.W.Frag) (mg : Str → Option Value) (aw : Addr) (U : Addr → Prop) (H : Hp) (vs : List Nat) (σ : L2.St) (ρ : Sto) (σ' : L2.St) (ρ' : Sto) : Prop where
  l1 : σ'.length = σ.length
  l2 : ρ'.length = ρ.length
  at_ : ∀ i : Nat, (σ'[i]? = σ[i]? ∧ ρ'[i]? = ρ[i]?) ∨ (i ∈ vs ∧ ∃ v d, ρ'[i]? = some (some (false, d)) ∧ σ'[i]? = some (some v) ∧ Rep K mg aw U H v d)
section
variable {K : PySem.W.Frag} {mg : Str → Option Value} {aw : Addr} {U : Addr → Prop} {H : Hp} {vs vs' : List Nat} {σ σ' σ'' : L2.St} {ρ ρ' ρ'' : Sto}
theorem Upd.refl : Upd K mg aw U H vs σ ρ σ ρ := ⟨rfl, rfl, fun _ => .inl ⟨rfl, rfl⟩⟩
theorem Upd.trans (a : Upd K mg aw U H vs σ ρ σ' ρ') (b : Upd K mg aw U H vs' σ' ρ' σ'' ρ'') : Upd K mg aw U H (vs ++ vs') σ ρ σ'' ρ'' := by
  refine ⟨b.l1.trans a.l1, b.l2.trans a.l2, fun i => ?_⟩
  rcases b.at_ i with ⟨h1, h2⟩ | ⟨h1, h2⟩
  · rw [h1, h2]
    rcases a.at_ i with h | ⟨h3, h4⟩
    · exact .inl h
    · exact .inr ⟨List.mem_append_left _ h3, h4⟩
  · exact .inr ⟨List.mem_append_right _ h1, h2⟩
theorem upd_set {i : Nat} {v : V} {d : D} (l : σ.length = ρ.length) (r : Rep K mg aw U H v d) : Upd K mg aw U H [i] σ ρ (σ.set i (some v)) (ρ.set i (some (false, d))) := by
  refine ⟨by simp, by simp, fun j => ?_⟩
  by_cases hj : j = i
  · subst hj
    by_cases hl : j < ρ.length
    · exact .inr ⟨by simp, v, d, by simp [hl], by simp [l, hl], r⟩
    · exact .inl ⟨by simp [l, hl], by simp [hl]⟩
  · exact .inl ⟨by rw [List.getElem?_set_ne (Ne.symm hj)], by rw [List.getElem?_set_ne (Ne.symm hj)]⟩
end
def GOk (K : PySem.W.Frag) (mg : Str → Option Value) (aw : Addr) (gt : TG) (vs : List Nat) (gd : D → Sto → Option Sto) : Prop := ∀ (U : Addr → Prop) (H : Hp) (v : V) (d : D) (ρ ρ' : Sto) (σ : L2.St) (Q : L2.St → Hp → Prop), Rep K mg aw U H v d → gd d ρ = some ρ' → σ.length = ρ.length →
  (∀ σ', Upd K mg aw U H vs σ ρ σ' ρ' → Q σ' H) → gt v σ H Q
def GsOk (K : PySem.W.Frag) (mg : Str → Option Value) (aw : Addr) (gt : TGs) (vs : List Nat) (gd : List D → Sto → Option Sto) : Prop := ∀ (U : Addr → Prop) (H : Hp) (xs : List V) (ds : List D) (ρ ρ' : Sto) (σ : L2.St) (Q : L2.St → Hp → Prop), RepL K mg aw U H xs ds → gd ds ρ = some ρ' → σ.length = ρ.length →
  (∀ σ', Upd K mg aw U H vs σ ρ σ' ρ' → Q σ' H) → gt xs σ H Q
def gdN (i : Nat) : D → Sto → Option Sto := fun d ρ => some (ρ.set i (some (false, d)))
def gdNil : List D → Sto → Option Sto
  | [], ρ => some ρ
  | _, _ => none
def gdCons (g : D → Sto → Option Sto) (r : List D → Sto → Option Sto) : List D → Sto → Option Sto
  | d :: ds, ρ => (g d ρ).bind (r ds)
  | _, _ => none
def gdTup (n : Nat) (r : List D → Sto → Option Sto) : D → Sto → Option Sto
  | .tup ds, ρ => if ds.length = n then r ds ρ else none
  | _, _ => none
section
variable {K : PySem.W.Frag} {mg : Str → Option Value} {aw : Addr} {gt : TG} {gts : TGs} {vs vs' : List Nat} {gd : D → Sto → Option Sto} {gds : List D → Sto → Option Sto}
theorem gok_name (i : Nat) : GOk K mg aw (gName i) [i] (gdN i) := fun U H v d ρ ρ' σ Q r e l k => by
  cases e
  exact k _ (upd_set l r)
theorem gok_nil : GsOk K mg aw gNil [] gdNil := fun U H xs ds ρ ρ' σ Q r e l k => by
  cases ds with
  | nil => cases e; cases r; exact ⟨rfl, k _ Upd.refl⟩
  | cons _ _ => cases e
theorem gok_cons (h : GOk K mg aw gt vs gd) (h' : GsOk K mg aw gts vs' gds) : GsOk K mg aw (gCons gt gts) (vs ++ vs') (gdCons gd gds) := fun U H xs ds ρ ρ' σ Q r e l k => by
  cases ds with
  | nil => cases e
  | cons d ds =>
    cases r with
    | cons r1 r2 =>
      simp only [gdCons] at e
      cases e1 : gd d ρ with
      | none => rw [e1] at e; cases e
      | some ρ1 =>
        rw [e1] at e
        refine ⟨_, _, rfl, h U H _ d ρ ρ1 σ _ r1 e1 l fun σ1 u1 => ?_⟩
        exact h' U H _ ds ρ1 ρ' σ1 Q r2 e (by rw [u1.l1, u1.l2, l]) fun σ2 u2 => k σ2 (u1.trans u2)
theorem gok_tup {n : Nat} (h : GsOk K mg aw gts vs gds) : GOk K mg aw (gTup K n gts) vs (gdTup n gds) := fun U H v d ρ ρ' σ Q r e l k => by
  unfold gdTup at e
  split at e
  · split at e
    · rename_i hl
      cases r with
      | tup hp rp => exact ⟨_, _, rfl, hp.sq, by rw [rp.length]; exact hl, h U H _ _ ρ ρ' σ Q rp e l k⟩
    · cases e
  · cases e
end

/-! ### wiping -/
def wipeS (ρ : Sto) : List Nat → Sto
  | [] => ρ
  | v :: vs => (wipeS ρ vs).set v none
theorem wipeS_length (ρ : Sto) : ∀ vs : List Nat, (wipeS ρ vs).length = ρ.length
  | [] => rfl
  | v :: vs => by unfold wipeS; rw [List.length_set, wipeS_length ρ vs]
theorem wipeS_some {ρ : Sto} {i : Nat} {x : Bool × D} : ∀ {vs : List Nat}, (wipeS ρ vs)[i]? = some (some x) → ρ[i]? = some (some x) ∧ i ∉ vs
  | [], h => ⟨h, by simp⟩
  | v :: vs, h => by
    unfold wipeS at h
    by_cases e : v = i
    · subst e
      by_cases hl : v < (wipeS ρ vs).length
      · rw [List.getElem?_set_self hl] at h; cases h
      · rw [List.getElem?_eq_none (by simpa using Nat.le_of_not_lt hl)] at h; cases h
    · rw [List.getElem?_set_ne e] at h
      obtain ⟨h1, h2⟩ := wipeS_some h
      exact ⟨h1, fun z => (List.mem_cons.mp z).elim (fun z => e z.symm) h2⟩
theorem wipe_ext {σ σ' : L2.St} : ∀ {vs : List Nat}, σ'.length = σ.length → (∀ i, i ∉ vs → σ'[i]? = σ[i]?) → wipe σ' vs = wipe σ vs := fun {vs} hl h => by
  apply List.ext_getElem?
  intro i
  by_cases hi : i ∈ vs
  · have g : ∀ (τ : L2.St) (vs : List Nat), i ∈ vs → (wipe τ vs)[i]? = if i < τ.length then some none else none := by
      intro τ vs hm
      induction vs with
      | nil => cases hm
      | cons v vs ih =>
        unfold wipe
        by_cases e : v = i
        · subst e
          by_cases hl : v < τ.length
          · rw [List.getElem?_set_self (by rw [wipe_length]; exact hl), if_pos hl]
          · rw [if_neg hl, List.getElem?_eq_none (by rw [List.length_set, wipe_length]; omega)]
        · rw [List.getElem?_set_ne e]
          exact ih ((List.mem_cons.mp hm).resolve_left fun z => e z.symm)
    rw [g σ' vs hi, g σ vs hi, hl]
  · rw [wipe_out hi, wipe_out hi, h i hi]
section
variable {K : PySem.W.Frag} {mg : Str → Option Value} {aw : Addr} {U : Addr → Prop} {O : Nat → Option Addr} {H H' : Hp} {vs : List Nat} {σ σ' : L2.St} {ρ ρ' : Sto} {w : Wd}
theorem SR.wipe (S : SR K mg aw U O σ H ρ w) (vs : List Nat) : SR K mg aw U O (wipe σ vs) H (wipeS ρ vs) w := by
  refine ⟨by rw [wipe_length, wipeS_length, S.len], S.tr, S.wU, S.otr, S.onU, S.inj, fun i d e => ?_, fun i d e => ?_, S.wld, S.wac, S.ob⟩
  · obtain ⟨e1, e2⟩ := wipeS_some e
    rw [wipe_out e2]
    exact S.sh i d e1
  · obtain ⟨e1, e2⟩ := wipeS_some e
    rw [wipe_out e2]
    exact S.own i d e1
/-- behind a target's store -/
theorem SR.upd (S : SR K mg aw U O σ H ρ w) (u : Upd K mg aw (UO U O []) H vs σ ρ σ' ρ') : SR K mg aw U O σ' H ρ' w := by
  refine ⟨by rw [u.l1, u.l2, S.len], S.tr, S.wU, S.otr, S.onU, S.inj, fun i d e => ?_, fun i d e => ?_, S.wld, S.wac, S.ob⟩
  · rcases u.at_ i with ⟨h1, h2⟩ | ⟨_, v, d', h1, h2, h3⟩
    · rw [h1]
      exact S.sh i d (h2 ▸ e)
    · rw [h1] at e
      cases e
      exact ⟨v, h2, h3⟩
  · rcases u.at_ i with ⟨h1, h2⟩ | ⟨_, v, d', h1, h2, h3⟩
    · rw [h1]
      exact S.own i d (h2 ▸ e)
    · rw [h1] at e
      cases e
end
end Vw

namespace Vw
open PySem PySem.Spec PyProof.Rows L2

/-! ### new things -/
def tF (K : PySem.W.Frag) (mg : Str → Option Value) (aw : Addr) (L : List Nat) (d : Sto → M D) : TE := fun σ H Q => ∃ (U : Addr → Prop) (O : Nat → Option Addr) (ρ : Sto) (w : Wd) (v0 : D) (w' : Wd), SR K mg aw U O σ H ρ w ∧ d ρ w = .ok v0 w' ∧
  ∀ a H', H a = none → Ext aw H H' → WR aw H' w' → OwnAt K mg aw (fun b => UO U O L b ∨ b = a) H' a v0 → Q (.ref a) H'
def VF (X : Cx) (aw : Addr) (e : Expr) (L : List Nat) (d : Sto → M D) : Prop := PE X e (tF X.K X.mg aw L d)
section
variable {X : Cx} {aw : Addr} {pos : Pos} {a b c e : Expr} {La Ca Lb Cb L : List Nat} {da db : Sto → M D} {dr : Sto → M (List D)} {es : List Expr}
theorem OwnAt.repC {K mg aw} {U : Addr → Prop} {H : Hp} {a : Addr} {d : D} (h : OwnAt K mg aw U H a d) (n : ¬ U a) : RepC K mg aw U U H (.ref a) d := by
  cases h with
  | lst x y => exact .lst x n y
  | dK x y => exact .dK (.inl x) n y
  | dT x y => exact .dT (.inl x) n y
theorem VF.ve (h : VF X aw e L da) : VE X aw e L L da :=
  ⟨PE.weak h fun σ H Q ⟨U, O, ρ, w, v0, w', S, h, k⟩ => ⟨U, O, ρ, w, v0, w', S, h, fun a H' n e r o => k _ H' e r ((o.weak fun _ z => .inl z).repC fun z => S.utr a z n)⟩, fun _ z => z⟩
theorem Ext.none {aw : Addr} {H H' : Hp} {w : Wd} (e : Ext aw H H') (r : WR aw H' w) {a : Addr} (n : H' a = none) : H a = none := by
  cases q : H a with
  | none => rfl
  | some o => exact absurd n (e.tracked r (by rw [q]; exact fun z => by cases z))
theorem new_own {K : PySem.W.Frag} {mg : Str → Option Value} {U : Addr → Prop} {H : Hp} {p : Addr} {xs : List V} {ds : List D} (n : H p = none) (r : RepL K mg aw U H xs ds) : OwnAt K mg aw (fun b => U b ∨ b = p) (upd H p (.lst xs)) p (.lst ds) :=
  .lst upd_same (RepL.keep (Pres.of_same (same_upd n)) (fun _ z => z) (r.offs fun b z => z.elim .inl fun z => .inr (z ▸ n)))
theorem vf_lst (h : VA X aw es La Ca dr) : VF X aw (.List es pos) La (dLst dr) :=
  PE.weak (pe_lst h.1) fun σ H Q ⟨U, O, ρ, w, k, w', S, hd, q⟩ => by
    obtain ⟨xs, w1, h1, h2⟩ := bind_ok hd
    obtain ⟨hl, rfl, rfl⟩ := mkLst_ok h2
    refine ⟨U, O, ρ, w, xs, _, S, h1, fun vs H1 e1 r1 c1 => ⟨by rw [c1.length]; exact hl, fun p n => ?_⟩⟩
    exact q p _ (e1.none r1 n) (e1.trans (Ext.of_same (same_upd n))) (r1.same (same_upd n)) (new_own n (c1.weak (fun _ z => z) (UO.mono h.2)))
/-! ### comprehensions -/
def compL (gd : D → Sto → Option Sto) (t : Sto → M Bool) (el : Sto → M D) (ρ : Sto) : List D → M (List D)
  | [] => Pure.pure []
  | d :: ds => lift (gd d ρ) >>= fun ρ1 => t ρ1 >>= fun k => if k then el ρ1 >>= fun y => compL gd t el ρ ds >>= fun ys => Pure.pure (y :: ys) else compL gd t el ρ ds
def dComp (it : Sto → M (List D)) (vs : List Nat) (gd : D → Sto → Option Sto) (t : Sto → M Bool) (el : Sto → M D) : Sto → M D := fun ρ => it ρ >>= fun ds => compL gd t el (wipeS ρ vs) ds >>= mkLst
def bYes : Sto → M Bool := fun _ => Pure.pure true
/-- the tests of a comprehension -/
def VTs (X : Cx) (aw : Addr) (ifs : List Expr) (d : Sto → M Bool) : Prop := PTs X ifs (tT X.K X.mg aw d)
theorem PTs.weak {X : Cx} {e : List Expr} {t t' : TT} (h : PTs X e t) (k : ∀ σ H Q, t' σ H Q → t σ H Q) : PTs X e t' := ⟨fun pins s σ H Q I q => h.run pins s σ H Q I (k σ H Q q)⟩
theorem vts_nil : VTs X aw [] bYes := PTs.weak pts_nil fun σ H Q ⟨U, O, ρ, w, b, w', S, h, k⟩ => by
  obtain ⟨rfl, rfl⟩ := pure_ok h
  exact k H (Ext.refl _ _) S.wld
theorem vts_one {t : Sto → M Bool} (h : VT X aw c t) : VTs X aw [c] t := pts_one h
theorem Wk.walk {K mg aw} {P U : Addr → Prop} {J : It} {H1 : Hp} {ds : List D} (w : Wk K mg aw P U J H1 ds) : Walk J ds.length (fun H => Pres P H1 H) (fun i H x H' => ∃ d, ds[i]? = some d ∧ Same H H' ∧ Rep K mg aw U H' x d) :=
  ⟨w.goes, w.stops, fun i H x H' hi p y => w.yields i H x H' hi p y⟩
/-- what a comprehension asks for is there -/
theorem t_comp {K mg} {Lt : List Nat} {it : Sto → M (List D)} {gt : TG} {vs : List Nat} {gd : D → Sto → Option Sto} {t : Sto → M Bool} {el : Sto → M D} (gk : GOk K mg aw gt vs gd) (hq : ∀ i, i ∈ Ca → i ∈ La) {σ : L2.St} {H : Hp} {Q : VK}
    (h : tF K mg aw La (dComp it vs gd t el) σ H Q) : tLc (tI K mg aw Lt [] it) gt (tT K mg aw t) (tE K mg aw La Ca el) vs σ H Q := by
  obtain ⟨U, O, ρ, w, v0, w', S, h, k⟩ := h
  obtain ⟨ds, w1, h1, h⟩ := bind_ok h
  obtain ⟨tot, w2, h2, h3⟩ := bind_ok h
  obtain ⟨hl, rfl, rfl⟩ := mkLst_ok h3
  refine ⟨U, O, ρ, w, ds, w1, S, h1, fun J H1 e1 r1 wk => ?_⟩
  have S1 := S.ext e1 r1
  intro A nA
  obtain ⟨j, hj, hjL⟩ := S1.free La
  have wk1 := (wk (fun a => a = aw) (UO U (addO O j A) []) (fun a z => z ▸ S1.un) (fun a z => z ▸ .inl S1.wU) (fun a z => (UO.add a z).elim .inl fun z => .inr (z ▸ nA))).walk
  refine lc_it wk1 (fun i H' => ∃ wi acc accD rest, SR K mg aw U (addO O j A) (wipe σ vs) H' (wipeS ρ vs) wi ∧ Ext aw H1 H' ∧ H' A = some (.lst acc) ∧ RepL K mg aw (UO U (addO O j A) La) H' acc accD ∧
    compL gd t el (wipeS ρ vs) (ds.drop i) wi = .ok rest w2 ∧ accD ++ rest = tot) ?_ ?_ ?_ ?_
  · exact ⟨w1, [], [], tot, (S1.add nA hj).wipe vs, Ext.of_same (same_upd nA), upd_same, .nil, h2, rfl⟩
  · rintro i H' hi ⟨wi, acc, accD, rest, SB, eB, _⟩
    exact eB.pres rfl r1
  · rintro i x H' H'' hi ⟨wi, acc, accD, rest, SB, eB, hA, rA, hc, htot⟩ ⟨d, hd, sm, rd⟩
    have hdrop : ds.drop i = d :: ds.drop (i + 1) := by
      obtain ⟨hi', e⟩ := List.getElem?_eq_some_iff.mp hd
      rw [List.drop_eq_getElem_cons hi', e]
    rw [hdrop] at hc
    obtain ⟨ρ1, w3, g1, hc⟩ := bind_ok hc
    obtain ⟨g1', rfl⟩ := lift_ok g1
    obtain ⟨kb, w4, g2, hc⟩ := bind_ok hc
    have SB' := SB.ext (Ext.of_same sm) (SB.wld.same sm)
    refine gk (UO U (addO O j A) []) H'' x d (wipeS ρ vs) ρ1 (wipe σ vs) _ rd g1' SB'.len fun σ2 up => ?_
    refine ⟨?_, ?_⟩
    · have e1 : wipe σ2 vs = wipe (wipe σ vs) vs := wipe_ext up.l1 fun i hi => (up.at_ i).elim (fun z => z.1) fun z => absurd z.1 hi
      rw [e1]
      exact wipe_ext (wipe_length _ _) fun i hi => wipe_out hi
    · have S2 := SB'.upd up
      refine ⟨U, addO O j A, ρ1, _, kb, w4, S2, g2, fun H3 e3 r3 => ?_⟩
      have S3 := S2.ext e3 r3
      have nAw : A ≠ aw := fun z => by
        rw [z] at nA
        exact r1.some nA
      have hA3 : H3 A = some (.lst acc) := e3.k _ _ (sm _ _ hA) nAw
      have pr : Pres (UO U (addO O j A) La) H' H3 := ((Ext.of_same sm).trans e3).pres SB.un SB.wld
      have rA3 := RepL.keep pr (fun _ z => z) rA
      have SB3 := SB'.ext e3 r3
      cases kb with
      | false =>
        rw [if_neg Bool.false_ne_true] at hc
        refine iteF ?_
        exact ⟨w4, acc, accD, rest, SB3, (eB.trans (Ext.of_same sm)).trans e3, hA3, rA3, hc, htot⟩
      | true =>
        rw [if_pos rfl] at hc
        refine iteT ?_
        obtain ⟨y, w5, g3, hc⟩ := bind_ok hc
        obtain ⟨ys, w6, g4, hc⟩ := bind_ok hc
        obtain ⟨rfl, rfl⟩ := pure_ok hc
        refine ⟨U, addO O j A, ρ1, _, y, w5, S3, g3, fun v H4 e4 r4 c4 => ?_⟩
        have SB4 := SB3.ext e4 r4
        have hA4 : H4 A = some (.lst acc) := e4.k _ _ hA3 nAw
        have pr4 : Pres (UO U (addO O j A) La) H3 H4 := e4.pres S3.un S3.wld
        have rA4 := (RepL.keep pr4 (fun _ z => z) rA3).append (.cons (c4.weak (U := UO U (addO O j A) La) (fun _ z => z) (UO.mono hq)) .nil)
        have hOA : addO O j A j = some A := by unfold addO; rw [if_pos rfl]
        have hjA : ∀ d, (wipeS ρ vs)[j]? ≠ some (some (true, d)) := fun d z => by
          obtain ⟨a, _, q, _⟩ := S.own j d (wipeS_some z).1
          rw [hj] at q
          cases q
        have lenA := rA4.length
        have lenT : accD.length + (ys.length + 1) = tot.length := by rw [← htot]; simp
        refine ⟨acc, hA4, ?_, w5, acc ++ [v], accD ++ [y], ys, SB4.mut hOA hA4 trivial hjA, ?_, upd_same, ?_, g4, by rw [← htot]; simp⟩
        · have := rA.length
          omega
        · exact (((eB.trans (Ext.of_same sm)).trans e3).trans e4).upd nA nAw
        · exact RepL.keep (pres_upd hA4 trivial (.inr ⟨j, hjL, hOA⟩)) (fun _ z => z) rA4
  · rintro H' ⟨wi, acc, accD, rest, SB, eB, hA, rA, hc, htot⟩
    rw [List.drop_length] at hc
    obtain ⟨rfl, rfl⟩ := pure_ok hc
    rw [List.append_nil] at htot
    subst htot
    refine k A H' (e1.none r1 nA) ?_ SB.wld (.lst hA (RepL.keep (Pres.refl _ _) (fun b z => z.elim (UO.added hj b) fun z => .inr ⟨j, hjL, by rw [z]; unfold addO; rw [if_pos rfl]⟩) rA))
    exact e1.trans eB
theorem vf_comp {elt tg iter : Expr} {ifs : List Expr} {scope : Scope} {own : List (Str × Nat)} {Lt : List Nat} {it : Sto → M (List D)} {gt : TG} {gd : D → Sto → Option Sto} {t : Sto → M Bool} {el : Sto → M D} (hc : X.calm = true) (hN : X.N.Nodup) (hi : VI X aw tg iter Lt [] it) (ok : BlkOk X.N X.env.scope scope own)
    (gk : GOk X.K X.mg aw gt (own.map (·.2)) gd)
    (hg : ∀ (s : Shared) (H : Hp) (C : Addr) (cl : List (Str × Addr)) (fp : List Addr), PG (X.blk s H scope (compEnvC scope cl C X.env) fp) tg gt) (ht : ∀ (s : Shared) (H : Hp) (C : Addr) (cl : List (Str × Addr)) (fp : List Addr), VTs (X.blk s H scope (compEnvC scope cl C X.env) fp) aw ifs t)
    (he : ∀ (s : Shared) (H : Hp) (C : Addr) (cl : List (Str × Addr)) (fp : List Addr), VE (X.blk s H scope (compEnvC scope cl C X.env) fp) aw elt La Ca el) (hq : ∀ i, i ∈ Ca → i ∈ La) (hs : ∀ x, foldedSetIterable iter X.env x = pure x := by intro _; rfl) :
    VF X aw (.ListComp elt [⟨tg, iter, ifs, 0⟩] scope pos) La (dComp it (own.map (·.2)) gd t el) :=
  PE.weak (pe_lc hc hN hi.1 ok hg (fun s H C cl fp => show PTs _ _ (tT X.K X.mg aw t) from ht s H C cl fp) (fun s H C cl fp => show PE _ _ (tE X.K X.mg aw La Ca el) from (he s H C cl fp).1) hs) fun σ H Q h => t_comp gk hq h
end
end Vw

namespace Vw
open PySem PySem.Spec PyProof.Rows L2

/-! ### statements -/
inductive Fl where
  | nx (ρ : Sto) | rt (d : D) | bk (ρ : Sto) | ct (ρ : Sto)
structure SS (K : PySem.W.Frag) (mg : Str → Option Value) (aw : Addr) (U : Addr → Prop) (H0 : Hp) (O : Nat → Option Addr) (σ : L2.St) (H : Hp) (ρ : Sto) (w : Wd) : Prop where
  s : SR K mg aw U O σ H ρ w
  e : Ext aw H0 H
  f : ∀ i a, O i = some a → H0 a = none
/-- what a statement leaves of what stood -/
structure Stp (U : Addr → Prop) (O : Nat → Option Addr) (H : Hp) (O' : Nat → Option Addr) (H' : Hp) : Prop where
  p : Pres (UO U O []) H H'
  o : ∀ i a, O' i = some a → (∃ j, O j = some a) ∨ H a = none
  t : ∀ a, H a ≠ none → H' a ≠ none
theorem Stp.refl {U : Addr → Prop} {O : Nat → Option Addr} {H : Hp} : Stp U O H O H := ⟨Pres.refl _ _, fun i a h => .inl ⟨i, h⟩, fun _ h => h⟩
theorem Stp.trans {U : Addr → Prop} {O O1 O2 : Nat → Option Addr} {H H1 H2 : Hp} (a : Stp U O H O1 H1) (b : Stp U O1 H1 O2 H2) : Stp U O H O2 H2 := by
  refine ⟨fun c o h u => b.p c o (a.p c o h u) fun z => u ?_, fun i c h => ?_, fun c h => b.t c (a.t c h)⟩
  · rcases z with z | ⟨i, _, z⟩
    · exact .inl z
    · rcases a.o i c z with ⟨j, hj⟩ | z
      · exact .inr ⟨j, by simp, hj⟩
      · rw [z] at h; cases h
  · rcases b.o i c h with ⟨j, hj⟩ | z
    · exact a.o j c hj
    · refine .inr ?_
      cases q : H c with
      | none => rfl
      | some o => exact absurd z (a.t c (by rw [q]; exact fun z => by cases z))
def Cont (K : PySem.W.Frag) (mg : Str → Option Value) (aw : Addr) (U : Addr → Prop) (H0 : Hp) (O : Nat → Option Addr) (H : Hp) (D : Ends) (w' : Wd) : Fl → Prop
  | .nx ρ' => ∀ σ' H' O', SS K mg aw U H0 O' σ' H' ρ' w' → Stp U O H O' H' → D.nx σ' H'
  | .rt v0 => ∀ v H', Ext aw H0 H' → WR aw H' w' → Rep K mg aw U H' v v0 → D.rt v H'
  | .bk ρ' => ∀ σ' H' O', SS K mg aw U H0 O' σ' H' ρ' w' → Stp U O H O' H' → D.bk σ' H'
  | .ct ρ' => ∀ σ' H' O', SS K mg aw U H0 O' σ' H' ρ' w' → Stp U O H O' H' → D.ct σ' H'
/-- it may begin later -/
theorem Cont.step {K : PySem.W.Frag} {mg : Str → Option Value} {aw : Addr} {U : Addr → Prop} {H0 : Hp} {O O1 : Nat → Option Addr} {H H1 : Hp} {D : Ends} {w' : Wd} {fl : Fl} (s : Stp U O H O1 H1) (k : Cont K mg aw U H0 O H D w' fl) : Cont K mg aw U H0 O1 H1 D w' fl := by
  cases fl with
  | nx ρ' => exact fun σ' H' O' S t => k σ' H' O' S (s.trans t)
  | rt v => exact k
  | bk ρ' => exact fun σ' H' O' S t => k σ' H' O' S (s.trans t)
  | ct ρ' => exact fun σ' H' O' S t => k σ' H' O' S (s.trans t)
def tS (K : PySem.W.Frag) (mg : Str → Option Value) (aw : Addr) (d : Sto → M Fl) : TS := fun D σ H => ∃ (U : Addr → Prop) (H0 : Hp) (O : Nat → Option Addr) (ρ : Sto) (w : Wd) (fl : Fl) (w' : Wd), SS K mg aw U H0 O σ H ρ w ∧ d ρ w = .ok fl w' ∧ Cont K mg aw U H0 O H D w' fl
def VS (X : Cx) (aw : Addr) (st : Stmt) (d : Sto → M Fl) : Prop := PS X st (tS X.K X.mg aw d)
def VSs (X : Cx) (aw : Addr) (st : List Stmt) (d : Sto → M Fl) : Prop := PSs X st (tS X.K X.mg aw d)

/-! ### giving away -/
def share (L : List Nat) (ρ : Sto) : Sto := match L with
  | [] => ρ
  | _ => ρ.mapIdx fun i x => if i ∈ L then x.map (fun p => (false, p.2)) else x
def offO (O : Nat → Option Addr) (L : List Nat) : Nat → Option Addr := fun i => if i ∈ L then none else O i
theorem offO_some {O : Nat → Option Addr} {L : List Nat} {i : Nat} {a : Addr} (h : offO O L i = some a) : O i = some a ∧ i ∉ L := by
  unfold offO at h
  split at h
  · cases h
  · exact ⟨h, by assumption⟩
theorem share_len (L : List Nat) (ρ : Sto) : (share L ρ).length = ρ.length := by
  unfold share
  split <;> simp
theorem share_get {L : List Nat} {ρ : Sto} {i : Nat} {b : Bool} {d : D} (h : (share L ρ)[i]? = some (some (b, d))) : (i ∉ L ∧ ρ[i]? = some (some (b, d))) ∨ (i ∈ L ∧ b = false ∧ ∃ b', ρ[i]? = some (some (b', d))) := by
  unfold share at h
  split at h
  · exact .inl ⟨by simp, h⟩
  · rw [List.getElem?_mapIdx] at h
    cases e : ρ[i]? with
    | none => rw [e] at h; cases h
    | some x =>
      rw [e] at h
      simp only [Option.map_some, Option.some.injEq] at h
      split at h
      · rename_i hm
        cases x with
        | none => cases h
        | some p => cases h; exact .inr ⟨hm, rfl, p.1, rfl⟩
      · rename_i hm
        subst h
        exact .inl ⟨hm, rfl⟩
section
variable {K : PySem.W.Frag} {mg : Str → Option Value} {aw : Addr} {U : Addr → Prop} {H0 : Hp} {O : Nat → Option Addr} {H H' : Hp} {σ σ' : L2.St} {ρ ρ' : Sto} {w w' : Wd} {L : List Nat}
theorem UO.off : ∀ a, UO U (offO O L) [] a → UO U O L a := fun a z => by
  rcases z with z | ⟨i, _, e⟩
  · exact .inl z
  · obtain ⟨e1, e2⟩ := offO_some e
    exact .inr ⟨i, e2, e1⟩
theorem UO.offs : ∀ a, UO U (offO O L) [] a → UO U O [] a := fun a z => UO.mono (by simp) a (UO.off a z)
theorem UO.of_off : ∀ a, UO U O L a → UO U (offO O L) [] a := fun a z => by
  rcases z with z | ⟨i, n, e⟩
  · exact .inl z
  · refine .inr ⟨i, by simp, ?_⟩
    unfold offO
    rw [if_neg n]
    exact e
theorem SR.share (S : SR K mg aw U O σ H ρ w) (L : List Nat) : SR K mg aw U (offO O L) σ H (share L ρ) w := by
  refine ⟨by rw [share_len, S.len], S.tr, S.wU, fun i a z => S.otr i a (offO_some z).1, fun i a z => S.onU i a (offO_some z).1, fun i j a y z => S.inj i j a (offO_some y).1 (offO_some z).1, fun i d h => ?_, fun i d h => ?_, S.wld, S.wac, ?_⟩
  · rcases share_get h with ⟨_, h⟩ | ⟨hm, _, b', h⟩
    · obtain ⟨v, h1, h2⟩ := S.sh i d h
      exact ⟨v, h1, h2.keep (Pres.refl _ _) UO.offs⟩
    · cases b' with
      | false =>
        obtain ⟨v, h1, h2⟩ := S.sh i d h
        exact ⟨v, h1, h2.keep (Pres.refl _ _) UO.offs⟩
      | true =>
        obtain ⟨a, h1, h2, h3⟩ := S.own i d h
        refine ⟨_, h1, ?_⟩
        have n : ¬ UO U (offO O L) [] a := fun z => z.elim (S.onU i a h2) fun ⟨j, _, ej⟩ => by
          obtain ⟨e1, e2⟩ := offO_some ej
          rw [S.inj j i a e1 h2] at e2
          exact e2 hm
        exact ((h3.weak (U' := UO U (offO O L) []) UO.offs).repC n).all
  · rcases share_get h with ⟨hm, h⟩ | ⟨hm, e, _⟩
    · obtain ⟨a, h1, h2, h3⟩ := S.own i d h
      refine ⟨a, h1, ?_, h3.weak UO.offs⟩
      unfold offO
      rw [if_neg hm]
      exact h2
    · cases e
  · obtain ⟨m, hm⟩ := S.ob
    exact ⟨m, fun i a z => hm i a (offO_some z).1⟩
theorem SS.share (S : SS K mg aw U H0 O σ H ρ w) (L : List Nat) : SS K mg aw U H0 (offO O L) σ H (Vw.share L ρ) w := ⟨S.s.share L, S.e, fun i a z => S.f i a (offO_some z).1⟩
theorem SS.ext (S : SS K mg aw U H0 O σ H ρ w) (e : Ext aw H H') (r : WR aw H' w') : SS K mg aw U H0 O σ H' ρ w' := ⟨S.s.ext e r, S.e.trans e, S.f⟩
/-- behind sharing all that leaks, what comes is apart from all -/
theorem off_all {L La : List Nat} (h : ∀ i, i ∈ La → i ∈ L) : ∀ a, UO U (offO O L) [] a → UO U (offO O L) La a := fun a z => by
  rcases z with z | ⟨i, _, e⟩
  · exact .inl z
  · exact .inr ⟨i, fun hi => (offO_some e).2 (h i hi), e⟩
theorem SR.setSh (S : SR K mg aw U O σ H ρ w) {i : Nat} {v : V} {d : D} (r : Rep K mg aw (UO U O []) H v d) : SR K mg aw U O (σ.set i (some v)) H (ρ.set i (some (false, d))) w := S.upd (upd_set S.len r)
/-- one of the new things goes to a slot -/
def setO (O : Nat → Option Addr) (i : Nat) (a : Addr) : Nat → Option Addr := fun k => if k = i then some a else O k
theorem SR.setOwn {A : List Addr} {a : Addr} (S : SR K mg aw (fun b => U b ∨ b ∈ a :: A) O σ H ρ w) {i : Nat} {d : D} (na : ¬ U a) (nA : a ∉ A) (r : OwnAt K mg aw (UO (fun b => U b ∨ b ∈ a :: A) O []) H a d) (wU : U aw) (wac : ∀ ac r, H aw = some (.lst (.ref ac :: r)) → U ac) :
    SR K mg aw (fun b => U b ∨ b ∈ A) (setO O i a) (σ.set i (some (.ref a))) H (ρ.set i (some (true, d))) w := by
  have inA : ∀ b, U b ∨ b ∈ A → (U b ∨ b ∈ a :: A) := fun b z => z.elim .inl fun z => .inr (List.mem_cons_of_mem _ z)
  have sub : ∀ b, UO (fun b => U b ∨ b ∈ A) (setO O i a) [] b → UO (fun b => U b ∨ b ∈ a :: A) O [] b := fun b z => by
    rcases z with z | ⟨k, _, e⟩
    · exact .inl (inA b z)
    · unfold setO at e
      split at e
      · cases e; exact .inl (.inr (List.mem_cons_self ..))
      · exact .inr ⟨k, by simp, e⟩
  have oa : ∀ k, O k ≠ some a := fun k e => S.onU k a e (.inr (List.mem_cons_self ..))
  refine ⟨by simp [S.len], fun b z => S.tr b (inA b z), .inl wU, fun k b e => ?_, fun k b e z => ?_, fun k l b e z => ?_, fun k d' e => ?_, fun k d' e => ?_, S.wld, fun ac r z => .inl (wac ac r z), ?_⟩
  · unfold setO at e
    split at e
    · cases e; exact S.tr _ (.inr (List.mem_cons_self ..))
    · exact S.otr k b e
  · unfold setO at e
    split at e
    · cases e; exact z.elim na nA
    · exact S.onU k b e (inA b z)
  · unfold setO at e z
    split at e
    · rename_i e1
      cases e
      split at z
      · rename_i e2; rw [e1, e2]
      · exact absurd z (oa l)
    · split at z
      · cases z; exact absurd e (oa k)
      · exact S.inj k l b e z
  · by_cases hk : k = i
    · subst hk
      by_cases hl : k < ρ.length
      · rw [List.getElem?_set_self hl] at e; cases e
      · rw [List.getElem?_eq_none (by simpa using Nat.le_of_not_lt hl)] at e; cases e
    · rw [List.getElem?_set_ne (Ne.symm hk)] at e ⊢
      obtain ⟨v, h1, h2⟩ := S.sh k d' e
      exact ⟨v, h1, h2.keep (Pres.refl _ _) sub⟩
  · by_cases hk : k = i
    · subst hk
      by_cases hl : k < ρ.length
      · rw [List.getElem?_set_self hl] at e
        cases e
        refine ⟨a, by rw [List.getElem?_set_self (by rw [S.len]; exact hl)], by simp [setO], r.weak sub⟩
      · rw [List.getElem?_eq_none (by simpa using Nat.le_of_not_lt hl)] at e; cases e
    · rw [List.getElem?_set_ne (Ne.symm hk)] at e ⊢
      obtain ⟨b, h1, h2, h3⟩ := S.own k d' e
      exact ⟨b, h1, by unfold setO; rw [if_neg hk]; exact h2, h3.weak sub⟩
  · obtain ⟨m, hm⟩ := S.ob
    refine ⟨m + i + 1, fun k b e => ?_⟩
    unfold setO at e
    split at e
    · omega
    · have := hm k b e
      omega
/-- new things stand apart from all that there was -/
theorem SR.toA (S : SR K mg aw U O σ H ρ w) (e : Ext aw H H') (r : WR aw H' w') {A : List Addr} (hA : ∀ a, a ∈ A → H a = none ∧ H' a ≠ none) : SR K mg aw (fun b => U b ∨ b ∈ A) O σ H' ρ w' := by
  have S' := S.ext e r
  have p : Pres (UO (fun b => U b ∨ b ∈ A) O []) H H' := e.pres (.inl (.inl S.wU)) S.wld
  have off : ∀ a, UO (fun b => U b ∨ b ∈ A) O [] a → UO U O [] a ∨ H a = none := fun a z => by
    rcases z with (z | z) | ⟨i, n, e⟩
    · exact .inl (.inl z)
    · exact .inr (hA a z).1
    · exact .inl (.inr ⟨i, n, e⟩)
  refine ⟨S.len, fun a z => z.elim (S'.tr a) fun z => (hA a z).2, .inl S.wU, S'.otr, fun i a y z => z.elim (S.onU i a y) fun z => S.otr i a y (hA a z).1, S.inj, fun i d z => ?_, fun i d z => ?_, r, fun ac q z => .inl (S'.wac ac q z), S.ob⟩
  · obtain ⟨v, h1, h2⟩ := S.sh i d z
    exact ⟨v, h1, (h2.offs off).keep p fun _ z => z⟩
  · obtain ⟨a, h1, h2, h3⟩ := S.own i d z
    have n : a ≠ aw := fun z => S.onU i a h2 (z ▸ S.wU)
    refine ⟨a, h1, h2, ?_⟩
    cases h3.offs off with
    | lst x y => exact .lst (e.k _ _ x n) (RepL.keep p (fun _ z => z) y)
    | dK x y => exact .dK (e.k _ _ x n) (RepK.keep p (fun _ z => z) y)
    | dT x y => exact .dT (e.k _ _ x n) (RepT.keep p (fun _ z => z) y)
theorem SS.stp (S : SS K mg aw U H0 O σ H ρ w) (e : Ext aw H H') (r : WR aw H' w') : Stp U O H O H' := ⟨e.pres S.s.un S.s.wld, fun i a h => .inl ⟨i, h⟩, fun a h => e.tracked r h⟩
theorem Stp.off : Stp U O H (offO O L) H := ⟨Pres.refl _ _, fun i a h => .inl ⟨i, (offO_some h).1⟩, fun _ h => h⟩
end
end Vw

namespace Vw
open PySem PySem.Spec PyProof.Rows L2

section
variable {X : Cx} {aw : Addr} {pos : Pos} {a b c e tg : Expr} {La Ca Lb Cb L : List Nat} {da db : Sto → M D} {dr : Sto → M (List D)} {es : List Expr} {st : Stmt} {rest sa sb : List Stmt} {ds dt : Sto → M Fl} {tb : Sto → M Bool}
def sNext : Sto → M Fl := fun ρ => Pure.pure (.nx ρ)
def fSeq (b : Sto → M Fl) : Fl → M Fl
  | .nx ρ => b ρ
  | f => Pure.pure f
def sSeq (a b : Sto → M Fl) : Sto → M Fl := fun ρ => a ρ >>= fSeq b
theorem vss_nil : VSs X aw [] sNext := PSs.weak pss_nil fun D σ H ⟨U, H0, O, ρ, w, fl, w', S, h, k⟩ => by
  obtain ⟨rfl, rfl⟩ := pure_ok h
  exact k σ H O S Stp.refl
theorem vss_cons (h1 : VS X aw st ds) (h2 : VSs X aw rest dt) : VSs X aw (st :: rest) (sSeq ds dt) :=
  PSs.weak (pss_cons h1 h2) fun D σ H ⟨U, H0, O, ρ, w, fl, w', S, h, k⟩ => by
    obtain ⟨f1, w1, g1, g2⟩ := bind_ok h
    refine ⟨U, H0, O, ρ, w, f1, w1, S, g1, ?_⟩
    cases f1 with
    | nx ρ1 => exact fun σ' H' O' S' t => ⟨U, H0, O', ρ1, w1, fl, w', S', g2, k.step t⟩
    | rt v => obtain ⟨rfl, rfl⟩ := pure_ok g2; exact k
    | bk ρ1 => obtain ⟨rfl, rfl⟩ := pure_ok g2; exact k
    | ct ρ1 => obtain ⟨rfl, rfl⟩ := pure_ok g2; exact k
theorem vss_one (h1 : VS X aw st ds) : VSs X aw [st] ds := PSs.weak (pss_one h1) fun _ _ _ h => h
theorem vs_pass : VS X aw (.Pass pos) sNext := PS.weak ps_pass fun D σ H ⟨U, H0, O, ρ, w, fl, w', S, h, k⟩ => by
  obtain ⟨rfl, rfl⟩ := pure_ok h
  exact k σ H O S Stp.refl
theorem vs_break : VS X aw (.Break pos) (fun ρ => Pure.pure (.bk ρ)) := PS.weak ps_break fun D σ H ⟨U, H0, O, ρ, w, fl, w', S, h, k⟩ => by
  obtain ⟨rfl, rfl⟩ := pure_ok h
  exact k σ H O S Stp.refl
theorem vs_cont : VS X aw (.Continue pos) (fun ρ => Pure.pure (.ct ρ)) := PS.weak ps_continue fun D σ H ⟨U, H0, O, ρ, w, fl, w', S, h, k⟩ => by
  obtain ⟨rfl, rfl⟩ := pure_ok h
  exact k σ H O S Stp.refl
def sBad : Sto → M Fl := fun _ => M.bad
theorem vs_never : VS X aw st sBad := PS.weak ps_never fun D σ H ⟨U, H0, O, ρ, w, fl, w', S, h, k⟩ => by cases h
def sRet (d : Sto → M D) : Sto → M Fl := fun ρ => d ρ >>= fun v => Pure.pure (.rt v)
theorem vs_ret (ha : VE X aw e La Ca da) : VS X aw (.Return (some e) pos) (sRet da) := PS.weak (ps_ret ha.1) fun D σ H ⟨U, H0, O, ρ, w, fl, w', S, h, k⟩ => by
  obtain ⟨v, w1, g1, g2⟩ := bind_ok h
  obtain ⟨rfl, rfl⟩ := pure_ok g2
  exact ⟨U, O, ρ, w, v, _, S.s, g1, fun v H' e1 r1 c1 => k v H' (S.e.trans e1) r1 (c1.weak (fun a z => .inl z) fun a z => .inl z)⟩
theorem vs_retN : VS X aw (.Return none pos) (sRet (dC .non)) := PS.weak ps_retN fun D σ H ⟨U, H0, O, ρ, w, fl, w', S, h, k⟩ => by
  obtain ⟨v, w1, g1, g2⟩ := bind_ok h
  obtain ⟨rfl, rfl⟩ := pure_ok g2
  obtain ⟨rfl, rfl⟩ := pure_ok g1
  exact k .non H S.e S.s.wld .non
def sDrop (d : Sto → M D) : Sto → M Fl := fun ρ => d ρ >>= fun _ => Pure.pure (.nx ρ)
theorem vs_expr (ha : VE X aw e La Ca da) (hs : swapsWith e none pos.line X.env = pure false := by rfl) : VS X aw (.Expr e pos) (sDrop da) := PS.weak (ps_expr ha.1 hs) fun D σ H ⟨U, H0, O, ρ, w, fl, w', S, h, k⟩ => by
  obtain ⟨v, w1, g1, g2⟩ := bind_ok h
  obtain ⟨rfl, rfl⟩ := pure_ok g2
  exact ⟨U, O, ρ, w, v, _, S.s, g1, fun v H' e1 r1 c1 => k σ H' O (S.ext e1 r1) (S.stp e1 r1)⟩
def sIf (t : Sto → M Bool) (a b : Sto → M Fl) : Sto → M Fl := fun ρ => t ρ >>= fun k => if k then a ρ else b ρ
theorem vs_if (hc : VT X aw c tb) (ha : VSs X aw sa ds) (hb : VSs X aw sb dt) : VS X aw (.If c sa sb pos) (sIf tb ds dt) := PS.weak (ps_if hc ha hb) fun D σ H ⟨U, H0, O, ρ, w, fl, w', S, h, k⟩ => by
  obtain ⟨kb, w1, g1, g2⟩ := bind_ok h
  refine ⟨U, O, ρ, w, kb, w1, S.s, g1, fun H1 e1 r1 => ?_⟩
  cases kb with
  | true =>
    rw [if_pos rfl] at g2 ⊢
    exact ⟨U, H0, O, ρ, w1, fl, w', S.ext e1 r1, g2, k.step (S.stp e1 r1)⟩
  | false =>
    rw [if_neg Bool.false_ne_true] at g2 ⊢
    exact ⟨U, H0, O, ρ, w1, fl, w', S.ext e1 r1, g2, k.step (S.stp e1 r1)⟩
/-! ### stores -/
def sSet (L : List Nat) (i : Nat) (d : Sto → M D) : Sto → M Fl := fun ρ => d (share L ρ) >>= fun v => Pure.pure (.nx ((share L ρ).set i (some (false, v))))
theorem t_set {i : Nat} {σ : L2.St} {H : Hp} {D : Ends} (hl : ∀ i, i ∈ Ca → i ∈ La) (h : tS X.K X.mg aw (sSet La i da) D σ H) : tAsg (tE X.K X.mg aw La Ca da) (gName i) D σ H := by
  obtain ⟨U, H0, O, ρ, w, fl, w', S, h, k⟩ := h
  obtain ⟨v, w1, g1, g2⟩ := bind_ok h
  obtain ⟨rfl, rfl⟩ := pure_ok g2
  have S' := S.share La
  refine ⟨U, _, _, w, v, _, S'.s, g1, fun x H1 e1 r1 c1 => ?_⟩
  have S1 := S'.ext e1 r1
  exact k _ H1 _ ⟨S1.s.setSh (c1.weak (off_all fun _ z => z) (off_all hl)), S1.e, S1.f⟩ (Stp.off.trans (S'.stp e1 r1))
theorem vs_set {i : Nat} {x : Str} {pos' : Pos} (hN : X.N.Nodup) (hi : X.N[i]? = some x) (hx : Loc X.env.scope x) (ha : VE X aw e La Ca da) (hs : swapsWith e (some (.Name x pos')) pos.line X.env = pure false := by rfl) (hf : X.fn x = true ∨ X.env.scope.names.lookup x = some .local := by first | exact .inl rfl | exact .inr rfl | assumption) :
    VS X aw (.Assign [.Name x pos'] e pos) (sSet La i da) := PS.weak (ps_set hN hi hx ha.1 hs hf) fun D σ H h => t_set ha.2 h
def sSetF (L : List Nat) (i : Nat) (d : Sto → M D) : Sto → M Fl := fun ρ => d (share L ρ) >>= fun v => Pure.pure (.nx ((share L ρ).set i (some (true, v))))
theorem SS.own1 {K mg} {U : Addr → Prop} {H0 : Hp} {O : Nat → Option Addr} {σ : L2.St} {H H1 : Hp} {ρ : Sto} {w w1 : Wd} {i : Nat} {p : Addr} {v : D} (S : SS K mg aw U H0 O σ H ρ w) (n : H p = none) (e1 : Ext aw H H1) (r1 : WR aw H1 w1) (o : OwnAt K mg aw (fun b => UO U O [] b ∨ b = p) H1 p v) (o' : H1 p ≠ none) :
    SS K mg aw U H0 (setO O i p) (σ.set i (some (.ref p))) H1 (ρ.set i (some (true, v))) w1 := by
  have T := S.s.toA e1 r1 (A := [p]) fun a z => by
    have : a = p := by simpa using z
    subst this
    exact ⟨n, o'⟩
  have S1 := S.ext e1 r1
  have nU : ¬ U p := fun z => S.s.tr p z n
  have q : OwnAt K mg aw (UO (fun b => U b ∨ b ∈ [p]) O []) H1 p v := by
    refine o.weak fun b z => ?_
    rcases z with (z | z) | ⟨k, m, z⟩
    · exact .inl (.inl z)
    · exact .inr (by simpa using z)
    · exact .inl (.inr ⟨k, m, z⟩)
  have Z := T.setOwn (i := i) (d := v) nU (by simp) q S.s.wU (S1.s.wac)
  have e0 : (fun b => U b ∨ b ∈ ([] : List Addr)) = U := by funext b; simp
  rw [e0] at Z
  refine ⟨Z, S.e.trans e1, fun k a z => ?_⟩
  unfold setO at z
  split at z
  · cases z
    exact S.e.none S.s.wld n
  · exact S.f k a z
theorem SS.stpO {K mg} {U : Addr → Prop} {H0 : Hp} {O : Nat → Option Addr} {σ : L2.St} {H H1 : Hp} {ρ : Sto} {w w1 : Wd} {i : Nat} {p : Addr} (S : SS K mg aw U H0 O σ H ρ w) (n : H p = none) (e1 : Ext aw H H1) (r1 : WR aw H1 w1) : Stp U O H (setO O i p) H1 := by
  refine ⟨e1.pres S.s.un S.s.wld, fun k a z => ?_, fun a h => e1.tracked r1 h⟩
  unfold setO at z
  split at z
  · cases z; exact .inr n
  · exact .inl ⟨k, z⟩
theorem OwnAt.there {K mg} {U : Addr → Prop} {H : Hp} {a : Addr} {d : D} (h : OwnAt K mg aw U H a d) : H a ≠ none := by
  cases h with
  | lst x _ => rw [x]; exact fun z => by cases z
  | dK x _ => rw [x]; exact fun z => by cases z
  | dT x _ => rw [x]; exact fun z => by cases z
theorem t_setF {i : Nat} {σ : L2.St} {H : Hp} {D : Ends} (h : tS X.K X.mg aw (sSetF La i da) D σ H) : tAsg (tF X.K X.mg aw La da) (gName i) D σ H := by
  obtain ⟨U, H0, O, ρ, w, fl, w', S, h, k⟩ := h
  obtain ⟨v, w1, g1, g2⟩ := bind_ok h
  obtain ⟨rfl, rfl⟩ := pure_ok g2
  have S' := S.share La
  refine ⟨U, _, _, w, v, _, S'.s, g1, fun p H1 n e1 r1 o => ?_⟩
  exact k _ H1 _ (S'.own1 n e1 r1 (o.weak fun b z => z.elim (fun z => .inl (off_all (fun _ z => z) b z)) .inr) o.there) (Stp.off.trans (S'.stpO n e1 r1))
theorem vs_setF {i : Nat} {x : Str} {pos' : Pos} (hN : X.N.Nodup) (hi : X.N[i]? = some x) (hx : Loc X.env.scope x) (ha : VF X aw e La da) (hs : swapsWith e (some (.Name x pos')) pos.line X.env = pure false := by rfl) (hf : X.fn x = true ∨ X.env.scope.names.lookup x = some .local := by first | exact .inl rfl | exact .inr rfl | assumption) :
    VS X aw (.Assign [.Name x pos'] e pos) (sSetF La i da) := PS.weak (ps_set hN hi hx ha hs hf) fun D σ H h => t_setF h
theorem tF_tE {K mg} {σ : L2.St} {H : Hp} {Q : VK} (h : tE K mg aw L L da σ H Q) : tF K mg aw L da σ H Q := by
  obtain ⟨U, O, ρ, w, v0, w', S, h, k⟩ := h
  exact ⟨U, O, ρ, w, v0, w', S, h, fun a H' n e r o => k _ H' e r ((o.weak fun _ z => .inl z).repC fun z => S.utr a z n)⟩
/-- y = [.. for ..], y a local name alone; own or not -/
theorem vs_setLc {i : Nat} {y : Str} {py spos : Pos} {elt tg iter : Expr} {ifs : List Expr} {scope : Scope} {own : List (Str × Nat)} {Lt : List Nat} {it : Sto → M (List D)} {gt : TG} {gd : D → Sto → Option Sto} {t : Sto → M Bool} {el : Sto → M D} (hc : X.calm = true) (hN : X.N.Nodup) (hy : X.N[i]? = some y) (hyl : X.env.scope.names.lookup y = some .local)
    (hsw : swapsWith (.ListComp elt [⟨tg, iter, ifs, 0⟩] scope pos) (some (.Name y py)) spos.line X.env = pure true) (hi : VI X aw tg iter Lt [] it) (ok : BlkOk X.N X.env.scope scope own)
    (gk : GOk X.K X.mg aw gt (own.map (·.2)) gd)
    (hg : ∀ (s : Shared) (H : Hp) (C : Addr) (cl : List (Str × Addr)) (fp : List Addr), PG (X.blk s H scope (compEnvC scope cl C X.env) fp) tg gt) (ht : ∀ (s : Shared) (H : Hp) (C : Addr) (cl : List (Str × Addr)) (fp : List Addr), VTs (X.blk s H scope (compEnvC scope cl C X.env) fp) aw ifs t)
    (he : ∀ (s : Shared) (H : Hp) (C : Addr) (cl : List (Str × Addr)) (fp : List Addr), VE (X.blk s H scope (compEnvC scope cl C X.env) fp) aw elt La Ca el) (hq : ∀ i, i ∈ Ca → i ∈ La) (hs : ∀ x, foldedSetIterable iter X.env x = pure x := by intro _; rfl) :
    VS X aw (.Assign [.Name y py] (.ListComp elt [⟨tg, iter, ifs, 0⟩] scope pos) spos) (sSet La i (dComp it (own.map (·.2)) gd t el)) ∧ VS X aw (.Assign [.Name y py] (.ListComp elt [⟨tg, iter, ifs, 0⟩] scope pos) spos) (sSetF La i (dComp it (own.map (·.2)) gd t el)) := by
  have P := ps_setLc hc hN hy hyl hsw hi.1 ok hg (fun s H C cl fp => show PTs _ _ (tT X.K X.mg aw t) from ht s H C cl fp) (fun s H C cl fp => show PE _ _ (tE X.K X.mg aw La Ca el) from (he s H C cl fp).1) hs
  refine ⟨PS.weak P fun D σ H h => ?_, PS.weak P fun D σ H h => ?_⟩
  · exact t_comp gk hq (tF_tE (t_set (Ca := La) (fun _ z => z) h))
  · exact t_comp gk hq (t_setF h)
/-! a, b = e -/
def sUn (L : List Nat) (gd : D → Sto → Option Sto) (d : Sto → M D) : Sto → M Fl := fun ρ => d (share L ρ) >>= fun v => lift (gd v (share L ρ)) >>= fun ρ' => Pure.pure (.nx ρ')
theorem vs_un {gt : TG} {vs : List Nat} {gd : D → Sto → Option Sto} (gk : GOk X.K X.mg aw gt vs gd) (ha : VE X aw e La Ca da) (hg : PG X tg gt) (hs : swapsWithSole [tg] e pos.line X.env = pure false := by rfl) (hw : swappedStores [tg] e X.env = pure none := by rfl)
    (h1 : (assignEach [tg] X.env).map (·.2) = [assign tg X.env] := by rfl) : VS X aw (.Assign [tg] e pos) (sUn La gd da) := PS.weak (ps_asg ha.1 hg hs hw h1) fun D σ H ⟨U, H0, O, ρ, w, fl, w', S, h, k⟩ => by
  obtain ⟨v, w1, g1, g2⟩ := bind_ok h
  obtain ⟨ρ', w2, g3, g4⟩ := bind_ok g2
  obtain ⟨g3', rfl⟩ := lift_ok g3
  obtain ⟨rfl, rfl⟩ := pure_ok g4
  have S' := S.share La
  refine ⟨U, _, _, w, v, _, S'.s, g1, fun x H1 e1 r1 c1 => ?_⟩
  have S1 := S'.ext e1 r1
  refine gk (UO U (offO O La) []) H1 x v _ ρ' σ D.nx (c1.weak (off_all fun _ z => z) (off_all ha.2)) g3' S1.s.len fun σ' u => ?_
  exact k σ' H1 _ ⟨S1.s.upd u, S1.e, S1.f⟩ (Stp.off.trans (S'.stp e1 r1))
/-! ### own lists grow -/
def ownL (ρ : Sto) (i : Nat) : Option (List D) := match ρ[i]? with
  | some (some (true, .lst ds)) => some ds
  | _ => none
theorem ownL_eq {ρ : Sto} {i : Nat} {ds : List D} (h : ownL ρ i = some ds) : ρ[i]? = some (some (true, .lst ds)) := by
  unfold ownL at h
  split at h
  · cases h; assumption
  · cases h
def sApp (L : List Nat) (i : Nat) (d : Sto → M D) : Sto → M Fl := fun ρ => d (share L ρ) >>= fun v => lift (ownL (share L ρ) i) >>= fun ds => if ds.length < lineN then Pure.pure (.nx ((share L ρ).set i (some (true, .lst (ds ++ [v]))))) else M.bad
theorem SR.grow {K mg} {U : Addr → Prop} {O : Nat → Option Addr} {σ : L2.St} {H : Hp} {ρ : Sto} {w : Wd} {i : Nat} {ds es : List D} {p : Addr} {xs ys : List V} (S : SR K mg aw U O σ H ρ w) (h1 : σ[i]? = some (some (.ref p))) (h2 : O i = some p) (h3 : H p = some (.lst xs)) (he : RepL K mg aw (UO U O []) H ys es) :
    SR K mg aw U O σ (L2.upd H p (.lst ys)) (ρ.set i (some (true, .lst es))) w := by
  have S0 : SR K mg aw U O σ H (ρ.set i none) w := by
    refine ⟨by simp [S.len], S.tr, S.wU, S.otr, S.onU, S.inj, fun j d e => ?_, fun j d e => ?_, S.wld, S.wac, S.ob⟩
    · by_cases hj : j = i
      · subst hj
        by_cases hl : j < ρ.length
        · rw [List.getElem?_set_self hl] at e; cases e
        · rw [List.getElem?_eq_none (by simpa using Nat.le_of_not_lt hl)] at e; cases e
      · rw [List.getElem?_set_ne (Ne.symm hj)] at e
        exact S.sh j d e
    · by_cases hj : j = i
      · subst hj
        by_cases hl : j < ρ.length
        · rw [List.getElem?_set_self hl] at e; cases e
        · rw [List.getElem?_eq_none (by simpa using Nat.le_of_not_lt hl)] at e; cases e
      · rw [List.getElem?_set_ne (Ne.symm hj)] at e
        exact S.own j d e
  have M := S0.mut h2 h3 (o' := .lst ys) trivial (fun d z => by
    by_cases hl : i < ρ.length
    · rw [List.getElem?_set_self hl] at z; cases z
    · rw [List.getElem?_eq_none (by simpa using Nat.le_of_not_lt hl)] at z; cases z)
  have p0 : Pres (UO U O []) H (L2.upd H p (.lst ys)) := pres_upd h3 trivial (.inr ⟨i, by simp, h2⟩)
  refine ⟨by simp [S.len], M.tr, M.wU, M.otr, M.onU, M.inj, fun j d e => ?_, fun j d e => ?_, M.wld, M.wac, M.ob⟩
  · by_cases hj : j = i
    · subst hj
      by_cases hl : j < ρ.length
      · rw [List.getElem?_set_self hl] at e; cases e
      · rw [List.getElem?_eq_none (by simpa using Nat.le_of_not_lt hl)] at e; cases e
    · rw [List.getElem?_set_ne (Ne.symm hj)] at e
      exact M.sh j d (by rw [List.getElem?_set_ne (Ne.symm hj)]; exact e)
  · by_cases hj : j = i
    · subst hj
      by_cases hl : j < ρ.length
      · rw [List.getElem?_set_self hl] at e
        cases e
        exact ⟨p, h1, h2, .lst upd_same (RepL.keep p0 (fun _ z => z) he)⟩
      · rw [List.getElem?_eq_none (by simpa using Nat.le_of_not_lt hl)] at e; cases e
    · rw [List.getElem?_set_ne (Ne.symm hj)] at e
      exact M.own j d (by rw [List.getElem?_set_ne (Ne.symm hj)]; exact e)
theorem SS.grow {K mg} {U : Addr → Prop} {H0 : Hp} {O : Nat → Option Addr} {σ : L2.St} {H : Hp} {ρ : Sto} {w : Wd} {i : Nat} {es : List D} {p : Addr} {xs ys : List V} (S : SS K mg aw U H0 O σ H ρ w) (h1 : σ[i]? = some (some (.ref p))) (h2 : O i = some p) (h3 : H p = some (.lst xs)) (he : RepL K mg aw (UO U O []) H ys es) :
    SS K mg aw U H0 O σ (L2.upd H p (.lst ys)) (ρ.set i (some (true, .lst es))) w :=
  ⟨S.s.grow (ds := []) h1 h2 h3 he, S.e.upd (S.f i p h2) fun z => S.s.onU i p h2 (z ▸ S.s.wU), S.f⟩
theorem Stp.grow {U : Addr → Prop} {O : Nat → Option Addr} {H : Hp} {i : Nat} {p : Addr} {o o' : HO} (h2 : O i = some p) (h3 : H p = some o) (m : Mu o) : Stp U O H O (L2.upd H p o') := by
  refine ⟨pres_upd h3 m (.inr ⟨i, by simp, h2⟩), fun i a h => .inl ⟨i, h⟩, fun a h => ?_⟩
  by_cases e : a = p
  · rw [e, upd_same]; exact fun z => by cases z
  · rw [upd_ne e]; exact h
theorem vs_append {i : Nat} {x : Str} {p1 apos cpos : Pos} (ho : PE X (.Name x p1) (tVar i)) (he : VE X aw e La Ca da)
    (hs1 : swapsWith (.Call (.Attribute (.Name x p1) "append" apos) [e] [] cpos) none pos.line X.env = pure false := by rfl)
    (hbase : attributeBase (.Name x p1) "append" X.env (eval (.Name x p1) X.env) = eval (.Name x p1) X.env := by rfl)
    (hfew : ((backTo cpos (starEach [e] X.env)).all (fun x => !x.1) && (backToKw cpos (keywordEach [] X.env)).all (fun x => x.1.isSome)
      && decide (([e] : List Expr).length + ([] : List Keyword).length + (if ([] : List Keyword).isEmpty then 0 else 1) < 30)) = true := by rfl)
    (hline : (apos.endLine == cpos.line) = true := by rfl) (hs : starEach [e] X.env = (false, eval e X.env) :: starEach [] X.env := by rfl) (hplain : (backTo cpos (starEach ([] : List Expr) X.env)).any (·.1) = false := by rfl) :
    VS X aw (.Expr (.Call (.Attribute (.Name x p1) "append" apos) [e] [] cpos) pos) (sApp La i da) := by
  refine PS.weak (ps_expr (pe_bm PySem.F.plainAttrs_list PySem.F.slot_list_append PySem.F.type_list_append mt_append ho (pa_cons he.1 pa_nil hs) hbase hfew hline hs hplain) hs1) fun D σ H ⟨U, H0, O, ρ, w, fl, w', S, h, k⟩ => ?_
  obtain ⟨v, w1, g1, g2⟩ := bind_ok h
  obtain ⟨ds, w2, g3, g4⟩ := bind_ok g2
  obtain ⟨g3', rfl⟩ := lift_ok g3
  split at g4
  · rename_i hl
    obtain ⟨rfl, rfl⟩ := pure_ok g4
    have S' := S.share La
    have hρ := ownL_eq g3'
    obtain ⟨p, h1, h2, h3⟩ := S'.s.own i _ hρ
    cases h3 with
    | lst hp rp =>
      rename_i xs
      refine ⟨.ref p, h1, .inl ⟨rfl, xs, SqL.of hp⟩, ?_⟩
      refine ⟨U, _, _, w, v, _, S'.s, g1, fun y H1 e1 r1 c1 => ?_⟩
      have S1 := S'.ext e1 r1
      have nw : p ≠ aw := fun z => S'.s.onU i p h2 (z ▸ S'.s.wU)
      have hp1 := e1.k _ _ hp nw
      have rp1 := RepL.keep (e1.pres S'.s.un S'.s.wld) (fun _ z => z) rp
      have ry := c1.weak (off_all fun _ z => z) (off_all he.2)
      refine ⟨p, xs, y, rfl, rfl, hp1, ?_, ?_⟩
      · rw [rp1.length]
        exact lineN_eq ▸ hl
      · exact k σ _ _ (S1.grow h1 h2 hp1 (rp1.append (.cons ry .nil))) ((Stp.off.trans (S'.stp e1 r1)).trans (Stp.grow h2 hp1 trivial))
  · cases g4
def ownSeq : D → Option (List D)
  | .lst ds => some ds
  | _ => none
def sExt (L : List Nat) (i : Nat) (d : Sto → M D) : Sto → M Fl := fun ρ => d (share L ρ) >>= fun v => lift (ownSeq v) >>= fun es => lift (ownL (share L ρ) i) >>= fun ds => if ds.length + es.length ≤ lineN then Pure.pure (.nx ((share L ρ).set i (some (true, .lst (ds ++ es))))) else M.bad
theorem vs_extend {i : Nat} {x : Str} {p1 apos cpos : Pos} (ho : PE X (.Name x p1) (tVar i)) (he : VE X aw e La Ca da)
    (hs1 : swapsWith (.Call (.Attribute (.Name x p1) "extend" apos) [e] [] cpos) none pos.line X.env = pure false := by rfl)
    (hbase : attributeBase (.Name x p1) "extend" X.env (eval (.Name x p1) X.env) = eval (.Name x p1) X.env := by rfl)
    (hfew : ((backTo cpos (starEach [e] X.env)).all (fun x => !x.1) && (backToKw cpos (keywordEach [] X.env)).all (fun x => x.1.isSome)
      && decide (([e] : List Expr).length + ([] : List Keyword).length + (if ([] : List Keyword).isEmpty then 0 else 1) < 30)) = true := by rfl)
    (hline : (apos.endLine == cpos.line) = true := by rfl) (hs : starEach [e] X.env = (false, eval e X.env) :: starEach [] X.env := by rfl) (hplain : (backTo cpos (starEach ([] : List Expr) X.env)).any (·.1) = false := by rfl) :
    VS X aw (.Expr (.Call (.Attribute (.Name x p1) "extend" apos) [e] [] cpos) pos) (sExt La i da) := by
  refine PS.weak (ps_expr (pe_bm PySem.F.plainAttrs_list PySem.F.slot_list_extend PySem.F.type_list_extend mt_extend ho (pa_cons he.1 pa_nil hs) hbase hfew hline hs hplain) hs1) fun D σ H ⟨U, H0, O, ρ, w, fl, w', S, h, k⟩ => ?_
  obtain ⟨v, w1, g1, g2⟩ := bind_ok h
  obtain ⟨es, w2, g5, g2⟩ := bind_ok g2
  obtain ⟨g5', rfl⟩ := lift_ok g5
  obtain ⟨ds, w2, g3, g4⟩ := bind_ok g2
  obtain ⟨g3', rfl⟩ := lift_ok g3
  split at g4
  · rename_i hl
    obtain ⟨rfl, rfl⟩ := pure_ok g4
    have S' := S.share La
    have hρ := ownL_eq g3'
    obtain ⟨p, h1, h2, h3⟩ := S'.s.own i _ hρ
    cases h3 with
    | lst hp rp =>
      rename_i xs
      refine ⟨.ref p, h1, .inl ⟨rfl, xs, SqL.of hp⟩, ?_⟩
      refine ⟨U, _, _, w, v, _, S'.s, g1, fun y H1 e1 r1 c1 => ?_⟩
      have S1 := S'.ext e1 r1
      have nw : p ≠ aw := fun z => S'.s.onU i p h2 (z ▸ S'.s.wU)
      have hp1 := e1.k _ _ hp nw
      have rp1 := RepL.keep (e1.pres S'.s.un S'.s.wld) (fun _ z => z) rp
      cases v <;> try (cases g5'; done)
      cases g5'
      obtain ⟨b, ys, rfl, hb, rb⟩ := (c1.weak (off_all fun _ z => z) (off_all he.2)).c.inv_lst
      refine ⟨p, b, xs, ys, rfl, rfl, hp1, hb, ?_, ?_⟩
      · rw [rp1.length, rb.length]
        exact lineN_eq ▸ hl
      · exact k σ _ _ (S1.grow h1 h2 hp1 (rp1.append rb)) ((Stp.off.trans (S'.stp e1 r1)).trans (Stp.grow h2 hp1 trivial))
  · cases g4
end
end Vw

namespace Vw
open PySem PySem.Spec PyProof.Rows L2

section
variable {X : Cx} {aw : Addr} {pos : Pos} {a b c e tg iter : Expr} {La Ca Lb Cb L : List Nat} {da db : Sto → M D} {dr : Sto → M (List D)} {es : List Expr} {st : Stmt} {body : List Stmt} {ds dt dbd : Sto → M Fl} {tb : Sto → M Bool}
/-! ### for -/
theorem SR.forget {K mg} {U : Addr → Prop} {O : Nat → Option Addr} {σ : L2.St} {H : Hp} {ρ : Sto} {w : Wd} (S : SR K mg aw U O σ H ρ w) (vs : List Nat) : SR K mg aw U O σ H (wipeS ρ vs) w :=
  ⟨by rw [wipeS_length, S.len], S.tr, S.wU, S.otr, S.onU, S.inj, fun i d e => S.sh i d (wipeS_some e).1, fun i d e => S.own i d (wipeS_some e).1, S.wld, S.wac, S.ob⟩
theorem SS.forget {K mg} {U : Addr → Prop} {H0 : Hp} {O : Nat → Option Addr} {σ : L2.St} {H : Hp} {ρ : Sto} {w : Wd} (S : SS K mg aw U H0 O σ H ρ w) (vs : List Nat) : SS K mg aw U H0 O σ H (wipeS ρ vs) w := ⟨S.s.forget vs, S.e, S.f⟩
/-- what a turn leaves -/
def turn (kl : List Nat) (next : Sto → M Fl) : Fl → M Fl
  | .nx ρ => next (wipeS ρ kl)
  | .ct ρ => next (wipeS ρ kl)
  | .bk ρ => Pure.pure (.nx (wipeS ρ kl))
  | .rt v => Pure.pure (.rt v)
def forL (gd : D → Sto → Option Sto) (body : Sto → M Fl) (kl : List Nat) : List D → Sto → M Fl
  | [], ρ => Pure.pure (.nx ρ)
  | d :: ds, ρ => lift (gd d ρ) >>= fun ρ1 => body ρ1 >>= turn kl (forL gd body kl ds)
def sFor (L : List Nat) (it : Sto → M (List D)) (gd : D → Sto → Option Sto) (kl : List Nat) (body : Sto → M Fl) : Sto → M Fl := fun ρ => it (share L ρ) >>= fun ds => forL gd body kl ds (wipeS (share L ρ) kl)
theorem vs_for {it : Sto → M (List D)} {gt : TG} {vs kl : List Nat} {gd : D → Sto → Option Sto} (hp : PassesOwn (model X.prog X.w) X.A X.env X.xe) (hc : X.calm = true) (gk : GOk X.K X.mg aw gt vs gd) (hi : VI X aw tg iter La Ca it) (hg : PG X tg gt) (hb : VSs X aw body dbd)
    (hs : ∀ x, foldedSetIterable iter X.env x = pure x := by intro _; rfl) : VS X aw (.For tg iter body [] pos) (sFor La it gd kl dbd) :=
  PS.weak (ps_for hp hc hi.1 hg hb hs) fun D σ H ⟨U, H0, O, ρ, w, fl, w', S, h, k⟩ => by
    obtain ⟨ds, w1, h1, h⟩ := bind_ok h
    have S' := S.share La
    refine ⟨U, offO O La, _, w, ds, w1, S'.s, h1, fun J H1 e1 r1 wk => ?_⟩
    have S1 := (S'.ext e1 r1).forget kl
    have wk1 := (wk (UO U (offO O La) []) (fun a => UO U (offO O La) [] a ∨ H1 a = none) (off_all fun _ z => z) (fun _ z => .inl z) (fun a z => z.elim (fun z => .inl (off_all hi.2 a z)) .inr)).walk
    have k1 : Cont X.K X.mg aw U H0 (offO O La) H1 D w' fl := k.step (Stp.off.trans (S'.stp e1 r1))
    refine for_it wk1 (fun i σ' H' => ∃ O' ρ' wi, SS X.K X.mg aw U H0 O' σ' H' ρ' wi ∧ Stp U (offO O La) H1 O' H' ∧ forL gd dbd kl (ds.drop i) ρ' wi = .ok fl w') ⟨_, _, w1, S1, Stp.refl, h⟩ ?_ ?_ ?_
    · rintro i σ' H' hi' ⟨O', ρ', wi, Si, ti, _⟩
      exact ti.p
    · rintro i x σ' H' H'' hi' ⟨O', ρ', wi, Si, ti, hf⟩ ⟨d, hd, sm, rd⟩
      have hdrop : ds.drop i = d :: ds.drop (i + 1) := by
        obtain ⟨hi', e⟩ := List.getElem?_eq_some_iff.mp hd
        rw [List.drop_eq_getElem_cons hi', e]
      rw [hdrop] at hf
      obtain ⟨ρ1, w3, g1, hf⟩ := bind_ok hf
      obtain ⟨g1', rfl⟩ := lift_ok g1
      obtain ⟨f1, w4, g2, hf⟩ := bind_ok hf
      have Si' := Si.ext (Ext.of_same sm) (Si.s.wld.same sm)
      have ti' := ti.trans (Si.stp (Ext.of_same sm) (Si.s.wld.same sm))
      have rd' : Rep X.K X.mg aw (UO U O' []) H'' x d := rd.keep (Pres.refl _ _) fun a z => by
        rcases z with z | ⟨j, _, z⟩
        · exact .inl (.inl z)
        · rcases ti.o j a z with ⟨l, hl⟩ | z
          · exact .inl (.inr ⟨l, by simp, hl⟩)
          · exact .inr z
      refine gk (UO U O' []) H'' x d ρ' ρ1 σ' _ rd' g1' Si'.s.len fun σ2 up => ?_
      have S2 : SS X.K X.mg aw U H0 O' σ2 H'' ρ1 _ := ⟨Si'.s.upd up, Si'.e, Si'.f⟩
      refine ⟨U, H0, O', ρ1, _, f1, w4, S2, g2, ?_⟩
      cases f1 with
      | nx ρ2 => exact fun σ3 H3 O3 S3 t3 => ⟨O3, _, w4, S3.forget kl, ti'.trans t3, hf⟩
      | ct ρ2 => exact fun σ3 H3 O3 S3 t3 => ⟨O3, _, w4, S3.forget kl, ti'.trans t3, hf⟩
      | bk ρ2 =>
        obtain ⟨rfl, rfl⟩ := pure_ok hf
        exact fun σ3 H3 O3 S3 t3 => k1 σ3 H3 O3 (S3.forget kl) (ti'.trans t3)
      | rt v =>
        obtain ⟨rfl, rfl⟩ := pure_ok hf
        exact k1
    · rintro σ' H' ⟨O', ρ', wi, Si, ti, hf⟩
      rw [List.drop_length] at hf
      obtain ⟨rfl, rfl⟩ := pure_ok hf
      exact k1 σ' H' O' Si ti
/-! ### while -/
def whileL (t : Sto → M Bool) (body : Sto → M Fl) (kl : List Nat) : Nat → Sto → M Fl
  | 0, _ => M.bad
  | n + 1, ρ => t ρ >>= fun k => if k then body ρ >>= turn kl (whileL t body kl n) else Pure.pure (.nx ρ)
/-- more turns than any of these whiles takes -/
def manyTurns : Nat := 1000000
def sWhile (t : Sto → M Bool) (kl : List Nat) (body : Sto → M Fl) : Sto → M Fl := fun ρ => whileL t body kl manyTurns (wipeS ρ kl)
theorem vs_while {kl : List Nat} (hp : PassesOwn (model X.prog X.w) X.A X.env X.xe) (hc : VT X aw c tb) (hb : VSs X aw body dbd) : VS X aw (.While c body [] pos) (sWhile tb kl dbd) :=
  PS.weak (ps_while hp hc hb) fun D σ H ⟨U, H0, O, ρ, w, fl, w', S, h, k⟩ => by
    refine ⟨fun m σ' H' => ∃ O' ρ' wi, SS X.K X.mg aw U H0 O' σ' H' ρ' wi ∧ Stp U O H O' H' ∧ whileL tb dbd kl m ρ' wi = .ok fl w', ⟨manyTurns, O, _, w, S.forget kl, Stp.refl, h⟩, ?_⟩
    rintro m σ' H' ⟨O', ρ', wi, Si, ti, hf⟩
    cases m with
    | zero => cases hf
    | succ m =>
      obtain ⟨kb, w1, g1, hf⟩ := bind_ok hf
      refine ⟨U, O', ρ', wi, kb, w1, Si.s, g1, fun H1 e1 r1 => ?_⟩
      have S1 := Si.ext e1 r1
      have t1 := ti.trans (Si.stp e1 r1)
      cases kb with
      | false =>
        rw [if_neg Bool.false_ne_true] at hf
        refine iteF ?_
        obtain ⟨rfl, rfl⟩ := pure_ok hf
        exact k σ' H1 O' S1 t1
      | true =>
        rw [if_pos rfl] at hf
        refine iteT ?_
        obtain ⟨f1, w2, g2, hf⟩ := bind_ok hf
        refine ⟨fun σ3 H3 => ∃ O3 ρ3 w3, SS X.K X.mg aw U H0 O3 σ3 H3 ρ3 w3 ∧ Stp U O H O3 H3 ∧ whileL tb dbd kl m ρ3 w3 = .ok fl w', fun σ3 H3 q => ⟨m, Nat.lt_succ_self m, q⟩, ?_⟩
        refine ⟨U, H0, O', ρ', _, f1, w2, S1, g2, ?_⟩
        cases f1 with
        | nx ρ2 => exact fun σ3 H3 O3 S3 t3 => ⟨O3, _, w2, S3.forget kl, t1.trans t3, hf⟩
        | ct ρ2 => exact fun σ3 H3 O3 S3 t3 => ⟨O3, _, w2, S3.forget kl, t1.trans t3, hf⟩
        | bk ρ2 =>
          obtain ⟨rfl, rfl⟩ := pure_ok hf
          exact fun σ3 H3 O3 S3 t3 => k σ3 H3 O3 (S3.forget kl) (t1.trans t3)
        | rt v =>
          obtain ⟨rfl, rfl⟩ := pure_ok hf
          exact k
/-! ### several names at once -/
/-- own or not -/
abbrev Its := Sto → M (List (Bool × D))
inductive PR (K : PySem.W.Frag) (mg : Str → Option Value) (aw : Addr) (U : Addr → Prop) (H : Hp) : List Addr → List V → List (Bool × D) → Prop
  | nil : PR K mg aw U H [] [] []
  | sh {A : List Addr} {v : V} {d : D} {vs : List V} {ds : List (Bool × D)} : Rep K mg aw U H v d → PR K mg aw U H A vs ds → PR K mg aw U H A (v :: vs) ((false, d) :: ds)
  | own {A : List Addr} {a : Addr} {d : D} {vs : List V} {ds : List (Bool × D)} : a ∉ A → OwnAt K mg aw U H a d → PR K mg aw U H A vs ds → PR K mg aw U H (a :: A) (.ref a :: vs) ((true, d) :: ds)
def tP (K : PySem.W.Frag) (mg : Str → Option Value) (aw : Addr) (L : List Nat) (d : Its) : TA := fun σ H Q => ∃ (U : Addr → Prop) (O : Nat → Option Addr) (ρ : Sto) (w : Wd) (ds : List (Bool × D)) (w' : Wd), SR K mg aw U O σ H ρ w ∧ (∀ i, i ∈ L → O i = none) ∧ d ρ w = .ok ds w' ∧
  ∀ A vs H', (∀ a, a ∈ A → H a = none ∧ H' a ≠ none) → Ext aw H H' → WR aw H' w' → PR K mg aw (fun b => UO U O [] b ∨ b ∈ A) H' A vs ds → Q vs H'
def VP (X : Cx) (aw : Addr) (es : List Expr) (L : List Nat) (d : Its) : Prop := PA X es (tP X.K X.mg aw L d)
def pNil : Its := fun _ => Pure.pure []
def pSh (d : Sto → M D) (r : Its) : Its := fun ρ => d ρ >>= fun x => r ρ >>= fun xs => Pure.pure ((false, x) :: xs)
def pOwn (d : Sto → M D) (r : Its) : Its := fun ρ => d ρ >>= fun x => r ρ >>= fun xs => Pure.pure ((true, x) :: xs)
theorem PR.mono {K mg} {U U' : Addr → Prop} {H : Hp} (u : ∀ a, U' a → U a) : ∀ {A : List Addr} {vs : List V} {ds : List (Bool × D)}, PR K mg aw U H A vs ds → PR K mg aw U' H A vs ds
  | _, _, _, .nil => .nil
  | _, _, _, .sh h r => .sh (h.keep (Pres.refl _ _) u) (PR.mono u r)
  | _, _, _, .own n h r => .own n (h.weak u) (PR.mono u r)
theorem PR.same {K mg} {U : Addr → Prop} {H H' : Hp} (s : Same H H') : ∀ {A : List Addr} {vs : List V} {ds : List (Bool × D)}, PR K mg aw U H A vs ds → PR K mg aw U H' A vs ds
  | _, _, _, .nil => .nil
  | _, _, _, .sh h r => .sh (h.keep (Pres.of_same s) fun _ z => z) (PR.same s r)
  | _, _, _, .own n h r => .own n (h.same s) (PR.same s r)
theorem PR.length {K mg} {U : Addr → Prop} {H : Hp} : ∀ {A : List Addr} {vs : List V} {ds : List (Bool × D)}, PR K mg aw U H A vs ds → vs.length = ds.length
  | _, _, _, .nil => rfl
  | _, _, _, .sh _ r => congrArg (· + 1) (PR.length r)
  | _, _, _, .own _ _ r => congrArg (· + 1) (PR.length r)
theorem OwnAt.ext {K mg} {U : Addr → Prop} {H H' : Hp} {p : Addr} {d : D} {w : Wd} (h : OwnAt K mg aw U H p d) (e : Ext aw H H') (wr : WR aw H w) (u : U aw) (n : p ≠ aw) : OwnAt K mg aw U H' p d := by
  have q := e.pres u wr
  cases h with
  | lst x y => exact .lst (e.k _ _ x n) (RepL.keep q (fun _ z => z) y)
  | dK x y => exact .dK (e.k _ _ x n) (RepK.keep q (fun _ z => z) y)
  | dT x y => exact .dT (e.k _ _ x n) (RepT.keep q (fun _ z => z) y)
theorem vp_nil : VP X aw [] L pNil := PA.weak pa_nil fun σ H Q ⟨U, O, ρ, w, ds, w', S, _, h, k⟩ => by
  obtain ⟨rfl, rfl⟩ := pure_ok h
  exact k [] [] H (fun _ z => (nomatch z)) (Ext.refl _ _) S.wld .nil
theorem off_none {U : Addr → Prop} {O : Nat → Option Addr} (h : ∀ i, i ∈ L → O i = none) (hl : ∀ i, i ∈ La → i ∈ L) : ∀ a, UO U O [] a → UO U O La a := fun a z => by
  rcases z with z | ⟨i, _, e⟩
  · exact .inl z
  · exact .inr ⟨i, fun m => (by rw [h i (hl i m)] at e; cases e), e⟩
theorem vp_sh {dp : Its} (ha : VE X aw e La Ca da) (hr : VP X aw es L dp) (hl : ∀ i, i ∈ La → i ∈ L) (hs : starEach (e :: es) X.env = (false, eval e X.env) :: starEach es X.env := by rfl) : VP X aw (e :: es) L (pSh da dp) :=
  PA.weak (pa_cons ha.1 hr hs) fun σ H Q ⟨U, O, ρ, w, ds, w', S, hO, h, k⟩ => by
    obtain ⟨x, w1, g1, h⟩ := bind_ok h
    obtain ⟨xs, w2, g2, h⟩ := bind_ok h
    obtain ⟨rfl, rfl⟩ := pure_ok h
    refine ⟨U, O, ρ, w, x, w1, S, g1, fun v H1 e1 r1 c1 => ?_⟩
    have S1 := S.ext e1 r1
    refine ⟨U, O, ρ, w1, xs, _, S1, hO, g2, fun A vs H2 hA e2 r2 pr => ?_⟩
    refine k A (v :: vs) H2 (fun a z => ⟨e1.none r1 (hA a z).1, (hA a z).2⟩) (e1.trans e2) r2 (.sh ?_ pr)
    have c2 := c1.weak (off_none hO hl) (off_none hO fun i z => hl i (ha.2 i z))
    exact (c2.offs (U' := fun b => UO U O [] b ∨ b ∈ A) fun a z => z.elim .inl fun z => .inr (hA a z).1).keep (e2.pres (.inl S1.un) S1.wld) fun _ z => z
theorem vp_own {dp : Its} (ha : VF X aw e La da) (hr : VP X aw es L dp) (hl : ∀ i, i ∈ La → i ∈ L) (hs : starEach (e :: es) X.env = (false, eval e X.env) :: starEach es X.env := by rfl) : VP X aw (e :: es) L (pOwn da dp) :=
  PA.weak (pa_cons ha hr hs) fun σ H Q ⟨U, O, ρ, w, ds, w', S, hO, h, k⟩ => by
    obtain ⟨x, w1, g1, h⟩ := bind_ok h
    obtain ⟨xs, w2, g2, h⟩ := bind_ok h
    obtain ⟨rfl, rfl⟩ := pure_ok h
    refine ⟨U, O, ρ, w, x, w1, S, g1, fun p H1 n e1 r1 o => ?_⟩
    have S1 := S.ext e1 r1
    have T := S.toA e1 r1 (A := [p]) fun a z => by
      have : a = p := by simpa using z
      subst this
      exact ⟨n, o.there⟩
    refine ⟨_, O, ρ, w1, xs, _, T, hO, g2, fun A vs H2 hA e2 r2 pr => ?_⟩
    have np : p ∉ A := fun z => o.there (hA p z).1
    have nw : p ≠ aw := fun z => S.wld.some (z ▸ n)
    refine k (p :: A) (.ref p :: vs) H2 (fun a z => ?_) (e1.trans e2) r2 (.own np ?_ (pr.mono fun b z => ?_))
    · rcases List.mem_cons.mp z with rfl | z
      · exact ⟨n, e2.tracked r2 o.there⟩
      · exact ⟨e1.none r1 (hA a z).1, (hA a z).2⟩
    · have o1 : OwnAt X.K X.mg aw (fun b => UO U O [] b ∨ b ∈ p :: A) H1 p x := o.offs fun b z => by
        rcases z with z | z
        · exact .inl (.inl (off_none hO hl b z))
        · rcases List.mem_cons.mp z with rfl | z
          · exact .inl (.inr rfl)
          · exact .inr (hA b z).1
      exact o1.ext e2 r1 (.inl S1.un) nw
    · rcases z with z | z
      · rcases z with z | ⟨i, m, z⟩
        · exact .inl (.inl (.inl z))
        · exact .inl (.inr ⟨i, m, z⟩)
      · rcases List.mem_cons.mp z with rfl | z
        · exact .inl (.inl (.inr (List.mem_cons_self ..)))
        · exact .inr z
def setsS : List Nat → List (Bool × D) → Sto → Sto
  | i :: is, x :: xs, ρ => setsS is xs (ρ.set i (some x))
  | _, _, ρ => ρ
def setsV : List Nat → List V → L2.St → L2.St
  | i :: is, x :: xs, σ => setsV is xs (σ.set i (some x))
  | _, _, σ => σ
theorem sets_ok {K mg} {U B : Addr → Prop} {H : Hp} {w : Wd} (wU : U aw) (wac : ∀ ac r, H aw = some (.lst (.ref ac :: r)) → U ac) : ∀ (is : List Nat) (A : List Addr) (vs : List V) (ds : List (Bool × D)) (O : Nat → Option Addr) (σ : L2.St) (ρ : Sto), is.length = ds.length → PR K mg aw B H A vs ds →
    (∀ a, a ∈ A → ¬ U a) → SR K mg aw (fun b => U b ∨ b ∈ A) O σ H ρ w → (∀ b, UO (fun b => U b ∨ b ∈ A) O [] b → B b) →
    ∃ O', SR K mg aw U O' (setsV is vs σ) H (setsS is ds ρ) w ∧ ∀ i a, O' i = some a → (∃ j, O j = some a) ∨ a ∈ A
  | [], A, vs, ds, O, σ, ρ, hl, pr, nU, S, hB => by
    cases pr with
    | nil =>
      have e0 : (fun b => U b ∨ b ∈ ([] : List Addr)) = U := by funext b; simp
      rw [e0] at S
      exact ⟨O, S, fun i a z => .inl ⟨i, z⟩⟩
    | sh _ _ => cases hl
    | own _ _ _ => cases hl
  | i :: is, A, vs, ds, O, σ, ρ, hl, pr, nU, S, hB => by
    cases pr with
    | nil => cases hl
    | sh h r => exact sets_ok wU wac is _ _ _ _ _ _ (Nat.succ.inj hl) r nU (S.setSh (i := i) (h.keep (Pres.refl _ _) hB)) hB
    | @own A a d vs ds n h r =>
      have S1 := S.setOwn (i := i) (nU a (List.mem_cons_self ..)) n (h.weak hB) wU wac
      obtain ⟨O', S2, h2⟩ := sets_ok wU wac is A vs ds _ _ _ (Nat.succ.inj hl) r (fun b z => nU b (List.mem_cons_of_mem _ z)) S1 (fun b z => hB b (by
        rcases z with (z | z) | ⟨k, _, e⟩
        · exact .inl (.inl z)
        · exact .inl (.inr (List.mem_cons_of_mem _ z))
        · unfold setO at e
          split at e
          · cases e; exact .inl (.inr (List.mem_cons_self ..))
          · exact .inr ⟨k, by simp, e⟩))
      refine ⟨O', S2, fun k b z => ?_⟩
      rcases h2 k b z with ⟨j, e⟩ | z
      · unfold setO at e
        split at e
        · cases e; exact .inr (List.mem_cons_self ..)
        · exact .inl ⟨j, e⟩
      · exact .inr (List.mem_cons_of_mem _ z)
def sPar (L : List Nat) (is : List Nat) (d : Its) : Sto → M Fl := fun ρ => d (share L ρ) >>= fun ds => if ds.length = is.length then Pure.pure (.nx (setsS is ds (share L ρ))) else M.bad
/-- what comes behind several stores -/
theorem par_end {K mg} {U : Addr → Prop} {H0 : Hp} {O : Nat → Option Addr} {σ : L2.St} {H H1 : Hp} {ρ : Sto} {w w' : Wd} {is : List Nat} {A : List Addr} {vs : List V} {ds : List (Bool × D)} (S : SS K mg aw U H0 O σ H ρ w) (hl : is.length = ds.length) (hA : ∀ a, a ∈ A → H a = none ∧ H1 a ≠ none) (e1 : Ext aw H H1) (r1 : WR aw H1 w') (pr : PR K mg aw (fun b => UO U O [] b ∨ b ∈ A) H1 A vs ds) :
    ∃ O', SS K mg aw U H0 O' (setsV is vs σ) H1 (setsS is ds ρ) w' ∧ Stp U O H O' H1 := by
  have T := S.s.toA e1 r1 hA
  obtain ⟨O', S2, h2⟩ := sets_ok S.s.wU (e1.wac S.s.wld S.s.wac) is A vs ds O σ ρ hl pr (fun a z y => S.s.tr a y (hA a z).1) T fun b z => by
    rcases z with (z | z) | ⟨k, m, e⟩
    · exact .inl (.inl z)
    · exact .inr z
    · exact .inl (.inr ⟨k, m, e⟩)
  refine ⟨O', ⟨S2, S.e.trans e1, fun i a z => ?_⟩, ⟨e1.pres S.s.un S.s.wld, fun i a z => ?_, fun a h => e1.tracked r1 h⟩⟩
  · rcases h2 i a z with ⟨j, e⟩ | z
    · exact S.f j a e
    · exact S.e.none S.s.wld (hA a z).1
  · rcases h2 i a z with ⟨j, e⟩ | z
    · exact .inl ⟨j, e⟩
    · exact .inr (hA a z).1
theorem t_par {is : List Nat} {dp : Its} {σ : L2.St} {H : Hp} {D : Ends} {Q : List V → Hp → Prop} (h : tS X.K X.mg aw (sPar L is dp) D σ H) (q : ∀ vs H1, vs.length = is.length → D.nx (setsV is vs σ) H1 → Q vs H1) : tP X.K X.mg aw L dp σ H Q := by
  obtain ⟨U, H0, O, ρ, w, fl, w', S, h, k⟩ := h
  obtain ⟨ds, w1, g1, g2⟩ := bind_ok h
  split at g2
  · rename_i hl
    obtain ⟨rfl, rfl⟩ := pure_ok g2
    have S' := S.share L
    refine ⟨U, _, _, w, ds, _, S'.s, fun i hi => by unfold offO; rw [if_pos hi], g1, fun A vs H1 hA e1 r1 pr => ?_⟩
    obtain ⟨O', S2, t2⟩ := par_end (is := is) S' hl.symm hA e1 r1 pr
    exact q vs H1 (by rw [pr.length, hl]) (k _ _ O' S2 (Stp.off.trans t2))
  · cases g2
theorem vs_par2 {i j : Nat} {x y : Str} {px py pt : Pos} {kt k2 pt2} {dp : Its} (hc : X.calm = true) (hN : X.N.Nodup) (hi : X.N[i]? = some x) (hj : X.N[j]? = some y) (hij : i ≠ j)
    (hx : X.env.scope.names.lookup x = some .local) (hy : X.env.scope.names.lookup y = some .local) (ha : VP X aw [a, b] L dp)
    (hw : swappedStores [.Tuple [.Name x px, .Name y py] kt pt] (.Tuple [a, b] k2 pt2) X.env = pure (some [x, y]))
    (hs : swapsWithSole [.Tuple [.Name x px, .Name y py] kt pt] (.Tuple [a, b] k2 pt2) pos.line X.env = pure false := by rfl) :
    VS X aw (.Assign [.Tuple [.Name x px, .Name y py] kt pt] (.Tuple [a, b] k2 pt2) pos) (sPar L [i, j] dp) :=
  PS.weak (ps_par hc hN hi hj hij hx hy ha hw hs) fun D σ H h => t_par h fun vs H1 hl q => by
    match vs, hl with
    | [v, u], _ => exact ⟨v, u, rfl, q⟩
theorem vs_par3 {i j l : Nat} {x y z : Str} {px py pz pt : Pos} {kt k2 pt2} {dp : Its} (hc : X.calm = true) (hN : X.N.Nodup) (hi : X.N[i]? = some x) (hj : X.N[j]? = some y) (hl : X.N[l]? = some z) (hij : i ≠ j) (hil : i ≠ l) (hjl : j ≠ l)
    (hx : X.env.scope.names.lookup x = some .local) (hy : X.env.scope.names.lookup y = some .local) (hz : X.env.scope.names.lookup z = some .local) (ha : VP X aw [a, b, c] L dp)
    (hw : swappedStores [.Tuple [.Name x px, .Name y py, .Name z pz] kt pt] (.Tuple [a, b, c] k2 pt2) X.env = pure (some [x, y, z]))
    (hs : swapsWithSole [.Tuple [.Name x px, .Name y py, .Name z pz] kt pt] (.Tuple [a, b, c] k2 pt2) pos.line X.env = pure false := by rfl) :
    VS X aw (.Assign [.Tuple [.Name x px, .Name y py, .Name z pz] kt pt] (.Tuple [a, b, c] k2 pt2) pos) (sPar L [i, j, l] dp) :=
  PS.weak (ps_par3 hc hN hi hj hl hij hil hjl hx hy hz ha hw hs) fun D σ H h => t_par h fun vs H1 hl q => by
    match vs, hl with
    | [v, u, t], _ => exact ⟨v, u, t, rfl, q⟩
/-- names in a row -/
def gNames : List Nat → TGs
  | [] => gNil
  | i :: is => gCons (gName i) (gNames is)
theorem gNames_run {H : Hp} {Q : L2.St → Hp → Prop} : ∀ {is : List Nat} {vs : List V} {σ : L2.St}, vs.length = is.length → Q (setsV is vs σ) H → gNames is vs σ H Q
  | [], [], _, _, q => ⟨rfl, q⟩
  | i :: is, v :: vs, σ, h, q => ⟨v, vs, rfl, gNames_run (σ := σ.set i (some v)) (is := is) (vs := vs) (Nat.succ.inj h) q⟩
  | [], _ :: _, _, h, _ => by cases h
  | _ :: _, [], _, h, _ => by cases h
theorem vs_parN {is : List Nat} {dp : Its} {k2 pt2} (ha : VP X aw es L dp) (hg : PG X tg (gTup X.K is.length (gNames is))) (hz : is.length ≤ 1000) (hs : swapsWithSole [tg] (.Tuple es k2 pt2) pos.line X.env = pure false := by rfl) (hw : swappedStores [tg] (.Tuple es k2 pt2) X.env = pure none := by rfl)
    (h1 : (assignEach [tg] X.env).map (·.2) = [assign tg X.env] := by rfl) : VS X aw (.Assign [tg] (.Tuple es k2 pt2) pos) (sPar L is dp) :=
  PS.weak (ps_asg (pe_tup ha) hg hs hw h1) fun D σ H ⟨U, H0, O, ρ, w, fl, w', S, h, k⟩ => by
    obtain ⟨ds, w1, g1, g2⟩ := bind_ok h
    split at g2
    · rename_i hl
      obtain ⟨rfl, rfl⟩ := pure_ok g2
      have S' := S.share L
      refine ⟨U, _, _, w, ds, _, S'.s, fun i hi => by unfold offO; rw [if_pos hi], g1, fun A vs H1 hA e1 r1 pr => ?_⟩
      have hv : vs.length = is.length := by rw [pr.length, hl]
      refine ⟨Nat.le_of_lt (small1000 (by rw [hv]; exact hz)), fun p n => ?_⟩
      have sm : Same H1 (upd H1 p (.tup vs)) := same_upd n
      obtain ⟨O', S2, t2⟩ := par_end (is := is) (vs := vs) S' hl.symm (fun a z => ⟨(hA a z).1, (Ext.of_same (aw := aw) sm).tracked (r1.same sm) (hA a z).2⟩) (e1.trans (Ext.of_same sm)) (r1.same sm) (pr.same sm)
      exact ⟨p, vs, rfl, SqT.of upd_same, hv, gNames_run hv (k _ _ O' S2 (Stp.off.trans t2))⟩
    · cases g2
end
end Vw

namespace Vw
open PySem PySem.Spec PyProof.Rows L2

/-! ### defs -/
/-- a def's promise: it does what f says -/
def spD (K : PySem.W.Frag) (mg : Str → Option Value) (aw : Addr) (n : Nat) (f : List D → M D) : Sp := fun vs H Q _ => ∃ (U : Addr → Prop) (ds : List D) (w : Wd) (v0 : D) (w' : Wd), (∀ a, U a → H a ≠ none) ∧ U aw ∧ (∀ ac r, H aw = some (.lst (.ref ac :: r)) → U ac) ∧
  RepL K mg aw U H vs ds ∧ WR aw H w ∧ ds.length = n ∧ f ds w = .ok v0 w' ∧ ∀ x H', Ext aw H H' → WR aw H' w' → Rep K mg aw U H' x v0 → Q x H'
def endD : Fl → M D
  | .nx _ => Pure.pure .non
  | .rt v => Pure.pure v
  | _ => M.bad
def stoD (m n : Nat) (ds : List D) : Sto := ds.map (fun d => some (false, d)) ++ List.replicate (m - n) none
/-- the def with m names of which n are parameters -/
def fnD (m n : Nat) (body : Sto → M Fl) : List D → M D := fun ds => if ds.length = n then body (stoD m n ds) >>= endD else M.bad
section
variable {P : Program} {w : World} {K : PySem.W.Frag} {mg : Str → Option Value} {base : Heap} {x qual : Str} {params : Arguments} {body : List Stmt} {scope : Scope} {dvs : List V} {kws : List (Str × V)} {f : Addr} {fd : FuncData} {aw : Addr}
theorem fn_ok {N ps : List Str} {k : Nat} {d : Sto → M Fl} (F : FunD K x qual params body scope dvs kws f fd) (S : FnScope N ps scope)
    (hb : ∀ (cdv : Value) (A : Around) (outer : List Env) (s : Shared) (H : Hp) (E : XK), Room k (A.deeper (envOfC qual scope s.heap.objs.size f cdv)) → VSs (cxOf CX0 P w K mg base N qual scope f cdv A outer s H E).nox aw body d) :
    FnOk P w K mg base CX0 (k + 1) f fd ps (spD K mg aw ps.length (fnD N.length ps.length d)) := by
  refine F.ok S (fun vs H Q E h => ?_) (fun cdv A outer s H vs Q E hr h => ⟨tS K mg aw d, PSs.nox (hb cdv A outer s H E hr), ?_⟩)
  · obtain ⟨U, ds, w, v0, w', _, _, _, r, _, hl, _⟩ := h
    rw [r.length, hl]
  · obtain ⟨U, ds, wd, v0, w', tr, uw, wac, r, wr, hl, hf, k⟩ := h
    unfold fnD at hf
    rw [if_pos hl] at hf
    obtain ⟨fl, w1, h1, h2⟩ := bind_ok hf
    have hpl : ps.length ≤ N.length := by have := congrArg List.length S.pre; rw [List.length_take] at this; omega
    have e0 : ∀ a, UO U (fun _ => none) [] a → U a := fun a z => z.elim id fun ⟨_, _, e⟩ => by cases e
    have SRs : SR K mg aw U (fun _ => none) (L2.start N vs) H (stoD N.length ps.length ds) wd := by
      refine ⟨by unfold L2.start stoD; simp [r.length, hl], tr, uw, fun i a e => (by cases e), fun i a e => (by cases e), fun i j a e => (by cases e), fun i d e => ?_, fun i d e => ?_, wr, wac, ⟨0, fun i a e => (by cases e)⟩⟩
      · unfold stoD at e
        by_cases hi : i < ds.length
        · rw [List.getElem?_append_left (by simpa using hi), List.getElem?_map] at e
          cases q : ds[i]? with
          | none => rw [q] at e; cases e
          | some d' =>
            rw [q] at e
            cases e
            obtain ⟨v, hv, rv⟩ := r.get q
            refine ⟨v, ?_, rv.keep (Pres.refl _ _) e0⟩
            unfold L2.start
            rw [List.getElem?_append_left (by rw [List.length_map, r.length]; exact hi), List.getElem?_map, hv]
            rfl
        · rw [List.getElem?_append_right (by simpa using hi), List.getElem?_replicate] at e
          split at e <;> cases e
      · unfold stoD at e
        by_cases hi : i < ds.length
        · rw [List.getElem?_append_left (by simpa using hi), List.getElem?_map] at e
          cases q : ds[i]? with
          | none => rw [q] at e; cases e
          | some d' => rw [q] at e; cases e
        · rw [List.getElem?_append_right (by simpa using hi), List.getElem?_replicate] at e
          split at e <;> cases e
    refine ⟨U, H, fun _ => none, _, wd, fl, w1, ⟨SRs, Ext.refl _ _, fun i a e => (by cases e)⟩, h1, ?_⟩
    cases fl with
    | nx ρ =>
      obtain ⟨rfl, rfl⟩ := pure_ok h2
      exact fun σ' H' O' S' _ => k .non H' S'.e S'.s.wld .non
    | rt v =>
      obtain ⟨rfl, rfl⟩ := pure_ok h2
      exact fun v' H' e r rv => k v' H' e r rv
    | bk ρ => cases h2
    | ct ρ => cases h2
end
/-! ### calls -/
section
variable {X : Cx} {aw : Addr} {pos p : Pos} {e : Expr} {es : List Expr} {La Ca : List Nat} {dr : Sto → M (List D)} {k n : Nat} {f : Addr} {fd : FuncData} {ps : List Str} {fden : List D → M D} {x : Str}
def dCall (f : List D → M D) (dd : List D) (d : Sto → M (List D)) : Sto → M D := fun ρ => d ρ >>= fun ds => f (ds ++ dd)
/-- a constant as a value -/
def cV : D → V
  | .bl b => .bl b
  | .int i => .int i
  | .str x => .str x
  | _ => .non
def isC : D → Bool
  | .bl _ => true
  | .int _ => true
  | .str _ => true
  | .non => true
  | _ => false
theorem rep_c {K mg} {U : Addr → Prop} {H : Hp} : ∀ {ds : List D}, ds.all isC = true → RepL K mg aw U H (ds.map cV) ds
  | [], _ => .nil
  | d :: ds, h => by
    rw [List.all_cons, Bool.and_eq_true] at h
    refine .cons ?_ (rep_c h.2)
    cases d <;> first
      | exact .non
      | exact .bl _
      | exact .int _
      | exact .str _
      | cases h.1
theorem ve_call {dd : List D} {ds : List Value} (G : FnOk X.prog X.w X.K X.mg X.base CX0 k f fd ps (spD X.K X.mg aw n fden)) (hr : Room k X.A) (hg : Gl X x) (hm : X.mg x = some (.ref f)) (hk : PySem.W.keepIn X.K (.ref f) = true) (hb : Binds X.K fd ps ds) (hd : Vals (dd.map cV) ds) (hc : dd.all isC = true) (hn : ∀ ds w v w', fden ds w = .ok v w' → ds.length = n)
    (ha : VA X aw (e :: es) La Ca dr) (hdb : (x == ("__debug__" : Str)) = false := by decide) (he : starEach (e :: es) X.env = (false, eval e X.env) :: starEach es X.env := by rfl) (hpl : (backTo pos (starEach es X.env)).any (·.1) = false := by rfl) :
    VE X aw (.Call (.Name x p) (e :: es) [] pos) La La (dCall fden dd dr) :=
  ⟨PE.weak (pe_call G hr hg hm hk hb hd (E := E0) pass0 ha.1 hdb he hpl) fun σ H Q ⟨U, O, ρ, w, v0, w', S, h, q⟩ => by
    obtain ⟨xs, w1, h1, h2⟩ := bind_ok h
    refine ⟨U, O, ρ, w, xs, w1, S, h1, fun vs H1 e1 r1 c1 => ?_⟩
    have S1 := S.ext e1 r1
    refine ⟨UO U O La, xs ++ dd, w1, v0, w', S1.utr, S1.un, fun ac r z => .inl (S1.wac ac r z), (c1.weak (fun _ z => z) (UO.mono ha.2)).append (rep_c hc), r1, hn _ _ _ _ h2, h2, fun y H' e2 r2 ry => ?_⟩
    exact q y H' (e1.trans e2) r2 ry.c, fun _ z => z⟩
theorem fnD_len {m n : Nat} {b : Sto → M Fl} (ds : List D) (w : Wd) (v : D) (w' : Wd) (h : fnD m n b ds w = .ok v w') : ds.length = n := by
  unfold fnD at h
  split at h
  · assumption
  · cases h
/-- a def that is known: ways are the defaults that may fill up -/
structure DefOk (P : Program) (w : World) (K : PySem.W.Frag) (mg : Str → Option Value) (base : Heap) (aw : Addr) (x : Str) (k n : Nat) (fden : List D → M D) (ways : List (List D)) : Prop where
  ex : ∃ (f : Addr) (fd : FuncData) (ps : List Str), FnOk P w K mg base CX0 k f fd ps (spD K mg aw n fden) ∧ mg x = some (.ref f) ∧ PySem.W.keepIn K (.ref f) = true ∧ ∀ dd, dd ∈ ways → ∃ ds, Binds K fd ps ds ∧ Vals (dd.map cV) ds
  ln : ∀ ds w v w', fden ds w = .ok v w' → ds.length = n
theorem ve_callD {ways : List (List D)} (dd : List D) (G : DefOk X.prog X.w X.K X.mg X.base aw x k n fden ways) (hr : Room k X.A) (hg : Gl X x) (hw : dd ∈ ways) (hc : dd.all isC = true)
    (ha : VA X aw (e :: es) La Ca dr) (hdb : (x == ("__debug__" : Str)) = false := by decide) (he : starEach (e :: es) X.env = (false, eval e X.env) :: starEach es X.env := by rfl) (hpl : (backTo pos (starEach es X.env)).any (·.1) = false := by rfl) :
    VE X aw (.Call (.Name x p) (e :: es) [] pos) La La (dCall fden dd dr) := by
  obtain ⟨f, fd, ps, F, hm, hk, hb⟩ := G.ex
  obtain ⟨ds, b, v⟩ := hb dd hw
  exact ve_call F hr hg hm hk b v hc G.ln ha hdb he hpl
end
section
variable {P : Program} {w : World} {K : PySem.W.Frag} {mg : Str → Option Value} {base : Heap} {x qual : Str} {params : Arguments} {body : List Stmt} {scope : Scope} {dvs : List V} {f : Addr} {fd : FuncData} {aw : Addr}
/-- a def's promise, from its body; no defaults -/
theorem def_ok0 {N ps : List Str} {k : Nat} {d : Sto → M Fl} (F : FunD K x qual params body scope [] [] f fd) (hm : mg x = some (.ref f)) (S : FnScope N ps scope)
    (hbi : ∀ (kV doc pm : Value) (an : Option Addr) (cdv ct : Value) (us : List Value), us.length = ps.length → bindArgs (PySem.W.fnOf x qual params body scope .none kV doc pm an cdv ct) ⟨us, []⟩ = pure (ps.zip us))
    (hb : ∀ (cdv : Value) (A : Around) (outer : List Env) (s : Shared) (H : Hp) (E : XK), Room k (A.deeper (envOfC qual scope s.heap.objs.size f cdv)) → VSs (cxOf CX0 P w K mg base N qual scope f cdv A outer s H E).nox aw body d) :
    DefOk P w K mg base aw x (k + 1) ps.length (fnD N.length ps.length d) [[]] :=
  ⟨⟨f, fd, ps, fn_ok F S hb, hm, F.kp, fun dd h => by
    have e : dd = [] := by simpa using h
    subst e
    exact ⟨[], F.bindsN hbi, .nil⟩⟩, fun ds w v w' h => fnD_len ds w v w' h⟩
theorem map_drop_cV {dd : List D} (h : dvs = dd.map cV) (j : Nat) : dvs.drop j = (dd.drop j).map cV := by rw [h, List.map_drop]
theorem bindsW (F : FunD K x qual params body scope dvs [] f fd) {ps : List Str} (dd : List D) (hd : dvs = dd.map cV) (n j : Nat) (hne : dvs ≠ []) (hn : n + (dvs.length - j) = ps.length)
    (h : ∀ (T : Addr) (kV doc pm : Value) (an : Option Addr) (cdv ct : Value) (us its : List Value), us.length = n → its.length = dvs.length →
      ∃ k, bindArgs (PySem.W.fnOf x qual params body scope (.ref T) kV doc pm an cdv ct) ⟨us, []⟩ = seqItems? (.ref T) >>= k ∧ k (some its.toArray) = pure (ps.zip (us ++ its.drop j))) : ∃ ds, Binds K fd ps ds ∧ Vals ((dd.drop j).map cV) ds := by
  obtain ⟨ds, a, b⟩ := F.binds1 n j hne hn h
  exact ⟨ds, b, by rw [← map_drop_cV hd]; exact a⟩
end
end Vw

namespace Vw
open PySem PySem.Spec PyProof.Rows L2

/-! ### list(range(..)), tuple(range(..)) -/
section
variable {X : Cx} {aw : Addr} {pos p : Pos} {a b e : Expr} {La Ca Lb Cb : List Nat} {da db : Sto → M D}
def VR (X : Cx) (aw : Addr) (e : Expr) (d : Sto → M (Int × Int)) : Prop := PRg X e (fun σ H Q => ∃ (U : Addr → Prop) (O : Nat → Option Addr) (ρ : Sto) (w : Wd) (i j : Int) (w' : Wd), SR X.K X.mg aw U O σ H ρ w ∧ d ρ w = .ok (i, j) w' ∧ ∀ H', Ext aw H H' → WR aw H' w' → Q i j H')
def asN : D → M Int
  | .int i => Pure.pure i
  | _ => M.bad
@[simp] theorem asN_int (i : Int) : asN (.int i) = Pure.pure i := rfl
theorem asN_ok {d : D} {i : Int} {w w' : Wd} (h : asN d w = .ok i w') : d = .int i ∧ w = w' := by
  cases d <;> first
    | (obtain ⟨rfl, rfl⟩ := pure_ok h; exact ⟨rfl, rfl⟩)
    | cases h
def rg1 (a : Sto → M D) : Sto → M (Int × Int) := fun ρ => a ρ >>= asN >>= fun j => Pure.pure (0, j)
def rg2 (a b : Sto → M D) : Sto → M (Int × Int) := fun ρ => a ρ >>= asN >>= fun i => b ρ >>= asN >>= fun j => Pure.pure (i, j)
theorem PRg.weak {X : Cx} {e : Expr} {t t' : L2.St → Hp → (Int → Int → Hp → Prop) → Prop} (h : PRg X e t) (k : ∀ σ H Q, t' σ H Q → t σ H Q) : PRg X e t' := by
  unfold PRg at h ⊢
  intros
  apply h <;> first | assumption | (apply k; assumption)
theorem vrg1 (hg : Gl X "range") (hm : X.mg "range" = none) (ha : VE X aw a La Ca da) (na : starEach [a] X.env = (false, eval a X.env) :: starEach [] X.env := by rfl) : VR X aw (.Call (.Name "range" p) [a] [] pos) (rg1 da) :=
  PRg.weak (prg_1 hg hm ha.1 na) fun σ H Q ⟨U, O, ρ, w, i, j, w', S, h, k⟩ => by
    obtain ⟨n, w1, h1, h2⟩ := bind_ok h
    obtain ⟨x, w2, h3, h4⟩ := bind_ok h1
    obtain ⟨rfl, rfl⟩ := asN_ok h4
    obtain ⟨e, rfl⟩ := pure_ok h2
    cases e
    exact ⟨U, O, ρ, w, _, _, S, h3, fun v H1 e1 r1 c1 => ⟨_, c1.inv_int, k H1 e1 r1⟩⟩
theorem vrg2 (hg : Gl X "range") (hm : X.mg "range" = none) (ha : VE X aw a La Ca da) (hb : VE X aw b Lb Cb db) (na : starEach [a, b] X.env = (false, eval a X.env) :: starEach [b] X.env := by rfl) (nb : starEach [b] X.env = (false, eval b X.env) :: starEach [] X.env := by rfl) (hp : ((backTo pos (starEach [b] X.env)).any (·.1)) = false := by rfl) : VR X aw (.Call (.Name "range" p) [a, b] [] pos) (rg2 da db) :=
  PRg.weak (prg_2 hg hm ha.1 hb.1 na nb hp) fun σ H Q ⟨U, O, ρ, w, i, j, w', S, h, k⟩ => by
    obtain ⟨n, w1, h1, h2⟩ := bind_ok h
    obtain ⟨x, w2, h3, h4⟩ := bind_ok h1
    obtain ⟨rfl, rfl⟩ := asN_ok h4
    obtain ⟨m, w3, h5, h6⟩ := bind_ok h2
    obtain ⟨y, w4, h7, h8⟩ := bind_ok h5
    obtain ⟨rfl, rfl⟩ := asN_ok h8
    obtain ⟨e, rfl⟩ := pure_ok h6
    cases e
    refine ⟨U, O, ρ, w, _, _, S, h3, fun v H1 e1 r1 c1 => ⟨U, O, ρ, _, _, _, S.ext e1 r1, h7, fun u H2 e2 r2 c2 => ⟨_, _, c1.inv_int, c2.inv_int, k H2 (e1.trans e2) r2⟩⟩⟩
def rgOk (a b : Int) : Bool := small62 a && (small62 b && decide ((b - a).toNat ≤ lineN))
def mkRg (k : List D → D) (p : Int × Int) : M D := if rgOk p.1 p.2 then Pure.pure (k (rgD p.1 (p.2 - p.1).toNat)) else M.bad
def dLstRg (d : Sto → M (Int × Int)) : Sto → M D := fun ρ => d ρ >>= mkRg .lst
def dTupRg (d : Sto → M (Int × Int)) : Sto → M D := fun ρ => d ρ >>= mkRg .tup
theorem rgV_rgD {K mg} {U : Addr → Prop} {H : Hp} (a : Int) (n : Nat) : RepL K mg aw U H ((List.range n).map fun i => V.int (a + (i : Nat))) (rgD a n) := by
  unfold rgD
  generalize List.range n = l
  induction l with
  | nil => exact .nil
  | cons x l ih => exact .cons (.int _) ih
theorem rgOk_ok {a b : Int} (h : rgOk a b = true) : RgOk a b := by
  unfold rgOk at h
  rw [Bool.and_eq_true, Bool.and_eq_true] at h
  have h1 := small62_ok h.1
  have h2 := small62_ok h.2.1
  have h3 := of_decide_eq_true h.2.2
  exact ⟨h1.1, h1.2, h2.1, h2.2, h3⟩
theorem mkRg_ok {k : List D → D} {i j : Int} {v : D} {w w' : Wd} (h : mkRg k (i, j) w = .ok v w') : RgOk i j ∧ v = k (rgD i (j - i).toNat) ∧ w = w' := by
  unfold mkRg at h
  split at h
  · obtain ⟨rfl, rfl⟩ := pure_ok h
    exact ⟨rgOk_ok (by assumption), rfl, rfl⟩
  · cases h
theorem vf_listRg {d : Sto → M (Int × Int)} (hc : X.calm = true) (hg : Gl X "list") (hm : X.mg "list" = none) (he : VR X aw e d) (na : starEach [e] X.env = (false, eval e X.env) :: starEach [] X.env := by rfl) : VF X aw (.Call (.Name "list" p) [e] [] pos) [] (dLstRg d) :=
  PE.weak (pe_listRg hc hg hm he na) fun σ H Q ⟨U, O, ρ, w, v0, w', S, h, k⟩ => by
    obtain ⟨⟨i, j⟩, w1, h1, h2⟩ := bind_ok h
    obtain ⟨ok, rfl, rfl⟩ := mkRg_ok h2
    refine ⟨U, O, ρ, w, i, j, _, S, h1, fun H1 e1 r1 => ⟨ok, fun q n => ?_⟩⟩
    exact k q _ (e1.none r1 n) (e1.trans (Ext.of_same (same_upd n))) (r1.same (same_upd n)) (new_own n (rgV_rgD i _))
theorem ve_listRg {d : Sto → M (Int × Int)} (hg : Gl X "list") (hm : X.mg "list" = none) (he : VR X aw e d) (hc : X.calm = true := by rfl) (na : starEach [e] X.env = (false, eval e X.env) :: starEach [] X.env := by rfl) : VE X aw (.Call (.Name "list" p) [e] [] pos) [] [] (dLstRg d) := VF.ve (vf_listRg hc hg hm he na)
theorem ve_tupleRg {d : Sto → M (Int × Int)} (hg : Gl X "tuple") (hm : X.mg "tuple" = none) (he : VR X aw e d) (hc : X.calm = true := by rfl) (na : starEach [e] X.env = (false, eval e X.env) :: starEach [] X.env := by rfl) : VE X aw (.Call (.Name "tuple" p) [e] [] pos) [] [] (dTupRg d) :=
  ⟨PE.weak (pe_tupRg hc hg hm he na) fun σ H Q ⟨U, O, ρ, w, v0, w', S, h, k⟩ => by
    obtain ⟨⟨i, j⟩, w1, h1, h2⟩ := bind_ok h
    obtain ⟨ok, rfl, rfl⟩ := mkRg_ok h2
    refine ⟨U, O, ρ, w, i, j, _, S, h1, fun H1 e1 r1 => ⟨ok, fun q n => ?_⟩⟩
    exact k _ _ (e1.trans (Ext.of_same (same_upd n))) (r1.same (same_upd n)) (new_tup n (rgV_rgD i _)).c, fun _ z => z⟩
end

/-! ### the draws -/
def fillW (w : Wd) : Wd := if w.left = 0 ∧ w.pos < w.cells.length then { w with cur := w.cells.getD w.pos.toNat 0, left := 60, pos := w.pos + 1 } else w
def drawV (v : Wd) (m : Int) : Int × Wd :=
  if 0 < v.left then (v.cur % m, { v with cur := v.cur / m, left := if 0 < v.cur / m then v.left - 1 else 0 })
  else (((v.seed * 48271 + (v.cnt + 1) * (v.cnt + 1) * 69621 + 11) % 2147483647 / 13) % m, { v with cnt := v.cnt + 1, seed := (v.seed * 48271 + (v.cnt + 1) * (v.cnt + 1) * 69621 + 11) % 2147483647 })
def drawn (w : Wd) (m : Int) : Int × Wd := drawV (fillW w) m
def drawOk (w : Wd) (m : Int) : Bool := decide (0 < m ∧ m < 1073741824 ∧ 0 ≤ w.pos ∧ 0 ≤ w.cnt ∧ w.cnt < 1073741824)
def drawD : List D → M D
  | [.tok, .int m] => fun w => if drawOk w m then .ok (.int (drawn w m).1) (drawn w m).2 else .bad
  | _ => M.bad
/-- it has been drawn at most n times -/
structure WB (w : Wd) (n : Int) : Prop where
  p : 0 ≤ w.pos
  c : 0 ≤ w.cnt
  n : w.cnt ≤ n
theorem WB.mono {w : Wd} {n m : Int} (h : WB w n) (l : n ≤ m) : WB w m := ⟨h.p, h.c, Int.le_trans h.n l⟩
theorem draw_eq {w : Wd} {n m : Int} (h : WB w n) (hn : n < 1073741824) (h1 : 0 < m) (h2 : m < 1073741824) : ∃ r w', drawD [.tok, .int m] w = .ok (.int r) w' ∧ 0 ≤ r ∧ r < m ∧ WB w' (n + 1) := by
  have ok : drawOk w m = true := decide_eq_true ⟨h1, h2, h.p, h.c, by have := h.n; omega⟩
  refine ⟨(drawn w m).1, (drawn w m).2, by unfold drawD; simp only [ok, if_true], ?_⟩
  have hp := h.p
  have hc := h.c
  have hcn := h.n
  have hf : WB (fillW w) n := by
    unfold fillW
    split
    · exact ⟨by simp only; omega, hc, hcn⟩
    · exact h
  unfold drawn
  generalize fillW w = v at hf
  have hp := hf.p
  have hc := hf.c
  have hcn := hf.n
  unfold drawV
  split
  · exact ⟨Int.emod_nonneg _ (by omega), Int.emod_lt_of_pos _ h1, ⟨hp, hc, by simp only; omega⟩⟩
  · exact ⟨Int.emod_nonneg _ (by omega), Int.emod_lt_of_pos _ h1, ⟨hp, by simp only; omega, by simp only; omega⟩⟩
end Vw

namespace Vw
open PySem PySem.Spec PyProof.Rows L2

/-! ### the draws' state, read and written -/
def getW : Int → Wd → Option Int
  | 1, w => some w.pos
  | 2, w => some w.cur
  | 3, w => some w.left
  | 4, w => some w.seed
  | 5, w => some w.cnt
  | _, _ => none
def setW : Int → Int → Wd → Option Wd
  | 1, v, w => some { w with pos := v }
  | 2, v, w => some { w with cur := v }
  | 3, v, w => some { w with left := v }
  | 4, v, w => some { w with seed := v }
  | 5, v, w => some { w with cnt := v }
  | _, _, _ => none
def asTok : D → M Unit
  | .tok => Pure.pure ()
  | _ => M.bad
theorem asTok_ok {d : D} {u : Unit} {w w' : Wd} (h : asTok d w = .ok u w') : d = .tok ∧ w = w' := by
  cases d <;> first
    | (obtain ⟨_, rfl⟩ := pure_ok h; exact ⟨rfl, rfl⟩)
    | cases h
def onW {α : Type} (g : Wd → Option α) : M α := fun w => match g w with
  | some v => .ok v w
  | none => .bad
theorem onW_ok {α : Type} {g : Wd → Option α} {v : α} {w w' : Wd} (h : onW g w = .ok v w') : g w = some v ∧ w = w' := by
  unfold onW at h
  split at h
  · cases h; exact ⟨by assumption, rfl⟩
  · cases h
def dTok (i : Nat) (k : Int) : Sto → M D := fun ρ => dVs i ρ >>= asTok >>= fun _ => onW (getW k) >>= fun v => Pure.pure (.int v)
def dTokN (i : Nat) : Sto → M D := fun ρ => dVs i ρ >>= asTok >>= fun _ => onW (fun w => some ((w.cells.length : Int))) >>= fun v => Pure.pure (.int v)
def cellAt (w : Wd) : Option Int := if 0 ≤ w.pos then w.cells[w.pos.toNat]? else none
def dTokC (i : Nat) : Sto → M D := fun ρ => dVs i ρ >>= asTok >>= fun _ => onW cellAt >>= fun v => Pure.pure (.int v)
theorem wr_at {aw : Addr} {H : Hp} {w : Wd} (h : WR aw H w) {k v : Int} (e : getW k w = some v) : ∃ xs, H aw = some (.lst xs) ∧ atI xs k = some (.int v) := by
  obtain ⟨ac, n, a, b⟩ := h
  refine ⟨_, a, ?_⟩
  unfold getW at e
  split at e <;> first
    | (cases e; rfl)
    | cases e
theorem wr_set {aw : Addr} {H : Hp} {w w' : Wd} (h : WR aw H w) {k v : Int} (e : setW k v w = some w') : ∃ xs j, H aw = some (.lst xs) ∧ ixN xs.length k = some j ∧ Ext aw H (upd H aw (.lst (xs.set j (.int v)))) ∧ WR aw (upd H aw (.lst (xs.set j (.int v)))) w' := by
  obtain ⟨ac, n, a, b⟩ := h
  unfold setW at e
  split at e <;> first
    | cases e; done
    | (cases e
       refine ⟨_, _, a, rfl, ⟨fun c o h n => by rw [upd_ne n]; exact h, fun ac' r h => ?_⟩, ⟨ac, n, by rw [upd_same]; rfl, by rw [upd_ne n]; exact b⟩⟩
       rw [a] at h
       cases h
       exact ⟨_, by rw [upd_same]; rfl⟩)
section
variable {X : Cx} {aw : Addr} {pos p p1 p2 : Pos} {a b c e tg : Expr} {La Ca Lb Cb L : List Nat} {da db : Sto → M D}
theorem tok_at {i : Nat} {U O σ H ρ w} {v0 : D} {w' : Wd} {u : Unit} (S : SR X.K X.mg aw U O σ H ρ w) (h : (dVs i ρ >>= asTok) w = .ok u w') : σ[i]? = some (some (.ref aw)) ∧ w = w' := by
  obtain ⟨x, w1, h1, h2⟩ := bind_ok h
  obtain ⟨rfl, rfl⟩ := asTok_ok h2
  unfold dVs at h1
  cases e : ρ[i]? with
  | none => rw [e] at h1; cases h1
  | some z =>
   rw [e] at h1
   cases z with
   | none => cases h1
   | some z =>
    obtain ⟨b, d⟩ := z
    cases b with
    | false =>
      obtain ⟨rfl, rfl⟩ := pure_ok h1
      obtain ⟨v, hv, rv⟩ := S.sh i _ e
      cases rv
      exact ⟨hv, rfl⟩
    | true => cases h1
theorem pe_tok (i : Nat) {k : Int} {x : Str} {j : Nat} (hN : X.N[i]? = some x := by rfl) (hv : Vis X.env.scope x := by first | exact Or.inl rfl | exact Or.inr (Or.inl rfl) | exact Or.inr (Or.inr rfl)) (hs : PlainIx (.Constant (.int k) j p2) := by intro _ _; rfl) (hd : (x == ("__debug__" : Str)) = false := by decide)
    (hcd : (x == ("__classdict__" : Str)) = false := by decide) : PE X (.Subscript (.Name x p1) (.Constant (.int k) j p2) pos) (fun σ H Q => ∃ q xs v, σ[i]? = some (some (.ref q)) ∧ SqL X.K H q xs ∧ atI xs k = some v ∧ Q v H) :=
  PE.weak (pe_ix ix_list (pe_var hN hv hd hcd) pe_int hs) fun σ H Q ⟨q, xs, v, h1, h2, h3, h4⟩ => ⟨.ref q, h1, q, xs, k, v, rfl, rfl, h2, h3, h4⟩
theorem ve_tok (i : Nat) {k : Int} {x : Str} {j : Nat} (hN : X.N[i]? = some x := by rfl) (hv : Vis X.env.scope x := by first | exact Or.inl rfl | exact Or.inr (Or.inl rfl) | exact Or.inr (Or.inr rfl)) (hs : PlainIx (.Constant (.int k) j p2) := by intro _ _; rfl) (hd : (x == ("__debug__" : Str)) = false := by decide)
    (hcd : (x == ("__classdict__" : Str)) = false := by decide) : VE X aw (.Subscript (.Name x p1) (.Constant (.int k) j p2) pos) [] [] (dTok i k) :=
  ⟨PE.weak (pe_tok i hN hv hs hd hcd) fun σ H Q ⟨U, O, ρ, w, v0, w', S, h, q⟩ => by
    obtain ⟨u, w1, h1, h2⟩ := bind_ok h
    obtain ⟨e1, rfl⟩ := tok_at (v0 := .non) S h1
    obtain ⟨v, w2, h3, h4⟩ := bind_ok h2
    obtain ⟨h5, rfl⟩ := onW_ok h3
    obtain ⟨rfl, rfl⟩ := pure_ok h4
    obtain ⟨xs, h6, h7⟩ := wr_at S.wld h5
    exact ⟨aw, xs, _, e1, .of h6, h7, q _ H (Ext.refl _ _) S.wld (Rep.int v).c⟩, fun _ z => z⟩
theorem ve_tokC (i : Nat) {x : Str} {j j' : Nat} {p3 p4 p5 p6 : Pos} (hN : X.N[i]? = some x := by rfl) (hv : Vis X.env.scope x := by first | exact Or.inl rfl | exact Or.inr (Or.inl rfl) | exact Or.inr (Or.inr rfl)) (hs0 : PlainIx (.Constant (.int 0) j p2) := by intro _ _; rfl) (hs1 : PlainIx (.Constant (.int 1) j' p5) := by intro _ _; rfl)
    (hs : PlainIx (.Subscript (.Name x p4) (.Constant (.int 1) j' p5) p6) := by intro _ _; rfl) (hd : (x == ("__debug__" : Str)) = false := by decide)
    (hcd : (x == ("__classdict__" : Str)) = false := by decide) : VE X aw (.Subscript (.Subscript (.Name x p1) (.Constant (.int 0) j p2) p3) (.Subscript (.Name x p4) (.Constant (.int 1) j' p5) p6) pos) [] [] (dTokC i) :=
  ⟨PE.weak (pe_ix ix_list (pe_tok i hN hv hs0 hd hcd) (pe_tok i hN hv hs1 hd hcd) hs) fun σ H Q ⟨U, O, ρ, w, v0, w', S, h, q⟩ => by
    obtain ⟨u, w1, h1, h2⟩ := bind_ok h
    obtain ⟨e1, rfl⟩ := tok_at (v0 := .non) S h1
    obtain ⟨v, w2, h3, h4⟩ := bind_ok h2
    obtain ⟨h5, rfl⟩ := onW_ok h3
    obtain ⟨rfl, rfl⟩ := pure_ok h4
    obtain ⟨ac, n, ha, hb⟩ := S.wld
    unfold cellAt at h5
    split at h5
    · rename_i h0
      refine ⟨aw, _, _, e1, .of ha, rfl, aw, _, _, e1, .of ha, rfl, ac, _, w.pos, .int v, rfl, rfl, .of hb, ?_, q _ H (Ext.refl _ _) ⟨ac, n, ha, hb⟩ (Rep.int v).c⟩
      have := atI_nat (xs := w.cells.map V.int) (j := w.pos.toNat) (v := V.int v) (by rw [List.getElem?_map, h5]; rfl)
      rwa [Int.toNat_of_nonneg h0] at this
    · (cases h5), fun _ z => z⟩
theorem ve_tokN (i : Nat) {x y : Str} {j : Nat} {p3 : Pos} (hg : Gl X y) (hm : X.mg y = none) (hb : bootBuiltins y = some (.builtin "len")) (hN : X.N[i]? = some x := by rfl) (hv : Vis X.env.scope x := by first | exact Or.inl rfl | exact Or.inr (Or.inl rfl) | exact Or.inr (Or.inr rfl)) (hs0 : PlainIx (.Constant (.int 0) j p2) := by intro _ _; rfl) (hd : (x == ("__debug__" : Str)) = false := by decide)
    (hcd : (x == ("__classdict__" : Str)) = false := by decide)
    (hn : y ≠ "__name__" := by decide) (hdb : (y == ("__debug__" : Str)) = false := by decide)
    (he : starEach [.Subscript (.Name x p1) (.Constant (.int 0) j p2) p3] X.env = (false, eval (.Subscript (.Name x p1) (.Constant (.int 0) j p2) p3) X.env) :: starEach [] X.env := by rfl) (hpl : (backTo pos (starEach [] X.env)).any (·.1) = false := by rfl) :
    VE X aw (.Call (.Name y p) [.Subscript (.Name x p1) (.Constant (.int 0) j p2) p3] [] pos) [] [] (dTokN i) :=
  ⟨PE.weak (pe_callB call_len hg hm hb (pa_cons (pe_tok i hN hv hs0 hd hcd) pa_nil) hn hdb he hpl) fun σ H Q ⟨U, O, ρ, w, v0, w', S, h, q⟩ => by
    obtain ⟨u, w1, h1, h2⟩ := bind_ok h
    obtain ⟨e1, rfl⟩ := tok_at (v0 := .non) S h1
    obtain ⟨v, w2, h3, h4⟩ := bind_ok h2
    obtain ⟨h5, rfl⟩ := onW_ok h3
    obtain ⟨rfl, rfl⟩ := pure_ok h4
    cases h5
    obtain ⟨ac, n, ha, hb⟩ := S.wld
    refine ⟨aw, _, _, e1, .of ha, rfl, ?_⟩
    refine ⟨_, _, rfl, .inl ⟨w.cells.map V.int, .of hb, ?_⟩, q _ H (Ext.refl _ _) ⟨ac, n, ha, hb⟩ (Rep.int _).c⟩
    simp, fun _ z => z⟩
def putW (g : Wd → Option Wd) : M Unit := fun w => match g w with
  | some w' => .ok () w'
  | none => .bad
theorem putW_ok {g : Wd → Option Wd} {u : Unit} {w w' : Wd} (h : putW g w = .ok u w') : g w = some w' := by
  unfold putW at h
  split at h
  · cases h; assumption
  · cases h
def sTok (i : Nat) (k : Int) (d : Sto → M D) : Sto → M Fl := fun ρ => d ρ >>= asN >>= fun v => dVs i ρ >>= asTok >>= fun _ => putW (setW k v) >>= fun _ => Pure.pure (.nx ρ)
theorem pg_tok (i : Nat) {k : Int} {x : Str} {j : Nat} (hN : X.N[i]? = some x := by rfl) (hv : Vis X.env.scope x := by first | exact Or.inl rfl | exact Or.inr (Or.inl rfl) | exact Or.inr (Or.inr rfl)) (hd : (x == ("__debug__" : Str)) = false := by decide)
    (hcd : (x == ("__classdict__" : Str)) = false := by decide)
    (hset : ∀ v, assign (.Subscript (.Name x p1) (.Constant (.int k) j p2) pos) X.env v = (do
      let ov ← holding [v] (eval (.Name x p1) X.env)
      let iv ← holding [v, ov] (eval (.Constant (.int k) j p2) X.env)
      standAt pos
      holding [v, ov, iv] (setItem ov iv v)
      release [v, ov, iv] []) := by intro _; rfl) : PG X (.Subscript (.Name x p1) (.Constant (.int k) j p2) pos) (fun v σ H Q => ∃ q xs n, σ[i]? = some (some (.ref q)) ∧ H q = some (.lst xs) ∧ ixN xs.length k = some n ∧ Q σ (upd H q (.lst (xs.set n v)))) :=
  PG.weak (pg_sub (pe_var hN hv hd hcd) pe_int set_list hset) fun v σ H Q ⟨q, xs, n, h1, h2, h3, h4⟩ => ⟨.ref q, h1, q, xs, k, n, rfl, rfl, h2, h3, h4⟩
theorem vs_tok {i : Nat} {k : Int} {e tg : Expr} (he : VE X aw e La Ca da) (hg : PG X tg (fun v σ H Q => ∃ q xs n, σ[i]? = some (some (.ref q)) ∧ H q = some (.lst xs) ∧ ixN xs.length k = some n ∧ Q σ (upd H q (.lst (xs.set n v)))))
    (hs : swapsWithSole [tg] e pos.line X.env = pure false := by rfl) (hw : swappedStores [tg] e X.env = pure none := by rfl)
    (h1 : (assignEach [tg] X.env).map (·.2) = [assign tg X.env] := by rfl) : VS X aw (.Assign [tg] e pos) (sTok i k da) :=
  PS.weak (ps_asg he.1 hg hs hw h1) fun D σ H ⟨U, H0, O, ρ, w, fl, w', S, h, q⟩ => by
    obtain ⟨v, w1, h1, h2⟩ := bind_ok h
    obtain ⟨d, w2, h3, h4⟩ := bind_ok h1
    obtain ⟨rfl, rfl⟩ := asN_ok h4
    refine ⟨U, O, ρ, w, _, _, S.s, h3, fun v1 H1 e1 r1 c1 => ?_⟩
    have S1 := S.ext e1 r1
    cases c1.inv_int
    obtain ⟨u, w3, h5, h6⟩ := bind_ok h2
    obtain ⟨e2, rfl⟩ := tok_at (v0 := .non) S1.s h5
    obtain ⟨u2, w4, h7, h8⟩ := bind_ok h6
    obtain ⟨rfl, rfl⟩ := pure_ok h8
    replace h7 := putW_ok h7
    obtain ⟨xs, n, h8, h9, e3, r3⟩ := wr_set r1 h7
    exact ⟨aw, xs, n, e2, h8, h9, q _ _ _ (S1.ext e3 r3) (S.stp (e1.trans e3) r3)⟩
/-- state[2], state[3], state[1] = .. -/
def set3 (k1 k2 k3 : Int) : List D → Wd → Option Wd
  | [.int v1, .int v2, .int v3], w => (setW k1 v1 w).bind fun w => (setW k2 v2 w).bind fun w => setW k3 v3 w
  | _, _ => none
def sTok3 (i : Nat) (k1 k2 k3 : Int) (dr : Sto → M (List D)) : Sto → M Fl := fun ρ => dr ρ >>= fun vs => dVs i ρ >>= asTok >>= fun _ => putW (set3 k1 k2 k3 vs) >>= fun _ => Pure.pure (.nx ρ)
theorem set3_ok {k1 k2 k3 : Int} {ds : List D} {w w' : Wd} (h : set3 k1 k2 k3 ds w = some w') : ∃ v1 v2 v3 wa wb, ds = [.int v1, .int v2, .int v3] ∧ setW k1 v1 w = some wa ∧ setW k2 v2 wa = some wb ∧ setW k3 v3 wb = some w' := by
  unfold set3 at h
  split at h
  · cases e1 : setW k1 _ w with
    | none => rw [e1] at h; cases h
    | some wa =>
      rw [e1] at h
      change (setW k2 _ wa).bind _ = _ at h
      cases e2 : setW k2 _ wa with
      | none => rw [e2] at h; cases h
      | some wb =>
        rw [e2] at h
        exact ⟨_, _, _, wa, wb, rfl, e1, e2, h⟩
  · cases h
theorem vs_tok3 {i : Nat} {k1 k2 k3 : Int} {e1 e2 e3 t1 t2 t3 : Expr} {kt k2' : Nat} {pt pt2 : Pos} {dr : Sto → M (List D)} (he : VA X aw [e1, e2, e3] La Ca dr)
    (g1 : PG X t1 (fun v σ H Q => ∃ q xs n, σ[i]? = some (some (.ref q)) ∧ H q = some (.lst xs) ∧ ixN xs.length k1 = some n ∧ Q σ (upd H q (.lst (xs.set n v)))))
    (g2 : PG X t2 (fun v σ H Q => ∃ q xs n, σ[i]? = some (some (.ref q)) ∧ H q = some (.lst xs) ∧ ixN xs.length k2 = some n ∧ Q σ (upd H q (.lst (xs.set n v)))))
    (g3 : PG X t3 (fun v σ H Q => ∃ q xs n, σ[i]? = some (some (.ref q)) ∧ H q = some (.lst xs) ∧ ixN xs.length k3 = some n ∧ Q σ (upd H q (.lst (xs.set n v)))))
    (hc : X.calm = true := by rfl)
    (n1 : (assignEach [t1, t2, t3] X.env).map (·.2) = assign t1 X.env :: (assignEach [t2, t3] X.env).map (·.2) := by rfl)
    (n2 : (assignEach [t2, t3] X.env).map (·.2) = assign t2 X.env :: (assignEach [t3] X.env).map (·.2) := by rfl)
    (n3 : (assignEach [t3] X.env).map (·.2) = assign t3 X.env :: (assignEach [] X.env).map (·.2) := by rfl)
    (hn : (assignEach [t1, t2, t3] X.env).length = 3 := by rfl) (hst : (assignEach [t1, t2, t3] X.env).findIdx? (·.1) = none := by rfl)
    (hs : swapsWithSole [.Tuple [t1, t2, t3] kt pt] (.Tuple [e1, e2, e3] k2' pt2) pos.line X.env = pure false := by rfl) (hw : swappedStores [.Tuple [t1, t2, t3] kt pt] (.Tuple [e1, e2, e3] k2' pt2) X.env = pure none := by rfl)
    (h1 : (assignEach [.Tuple [t1, t2, t3] kt pt] X.env).map (·.2) = [assign (.Tuple [t1, t2, t3] kt pt) X.env] := by rfl) : VS X aw (.Assign [.Tuple [t1, t2, t3] kt pt] (.Tuple [e1, e2, e3] k2' pt2) pos) (sTok3 i k1 k2 k3 dr) :=
  PS.weak (ps_asg (pe_tup he.1) (pg_tup hc (pgs_cons g1 (pgs_cons g2 (pgs_cons g3 pgs_nil n3) n2) n1) hn hst) hs hw h1) fun D σ H ⟨U, H0, O, ρ, w, fl, w', S, h, q⟩ => by
    obtain ⟨ds, w1, h1, h2⟩ := bind_ok h
    obtain ⟨u, w3, h5, h6⟩ := bind_ok h2
    refine ⟨U, O, ρ, w, _, _, S.s, h1, fun vs H1 x1 r1 c1 => ?_⟩
    have S1 := S.ext x1 r1
    obtain ⟨y2, rfl⟩ := tok_at (v0 := .non) S1.s h5
    obtain ⟨u2, w4, h7, h8⟩ := bind_ok h6
    obtain ⟨rfl, rfl⟩ := pure_ok h8
    replace h7 := putW_ok h7
    obtain ⟨v1, v2, v3, wa, wb, rfl, h8, h9, h10⟩ := set3_ok h7
    cases c1 with
    | cons a1 c1 => cases c1 with
      | cons a2 c1 => cases c1 with
        | cons a3 c1 =>
          cases c1
          cases a1.inv_int
          cases a2.inv_int
          cases a3.inv_int
          refine ⟨Nat.le_of_lt (small1000 (by simp only [List.length_cons, List.length_nil]; decide)), fun p n => ?_⟩
          have sm : Same H1 (upd H1 p (.tup [.int v1, .int v2, .int v3])) := same_upd n
          have r2 := r1.same sm
          obtain ⟨xs, j, a1, b1, e4, r4⟩ := wr_set r2 h8
          obtain ⟨xs5, j5, a5, b5, e5, r5⟩ := wr_set r4 h9
          obtain ⟨xs6, j6, a6, b6, e6, r6⟩ := wr_set r5 h10
          refine ⟨p, _, rfl, SqT.of upd_same, rfl, .int v1, _, rfl, aw, xs, j, y2, a1, b1, .int v2, _, rfl, aw, xs5, j5, y2, a5, b5, .int v3, _, rfl, aw, xs6, j6, y2, a6, b6, rfl, ?_⟩
          have eA := ((Ext.of_same (aw := aw) sm).trans e4).trans (e5.trans e6)
          exact q _ _ _ (S1.ext eA r6) (S.stp (x1.trans eA) r6)
end
/-! ### what a draw does, as its text says it -/
def d_draw : Sto → M Fl :=
  sSeq (sIf (bAnd (dB (d2 oEq (dTok 0 3) (dC (.int 0)))) (dB (d2 oLt (dTok 0 1) (dTokN 0)))) (sTok3 0 2 3 1 (aCons (dTokC 0) (aCons (dC (.int 60)) (aCons (d2 oAdd (dTok 0 1) (dC (.int 1))) aNil)))) sNext)
    (sSeq (sIf (dB (d2 oGt (dTok 0 3) (dC (.int 0))))
        (sSeq (sSet [] 2 (d2 oMod (dCa oInt (aCons (dTok 0 2) aNil)) (dVs 1)))
          (sSeq (sTok 0 2 (d2 oDiv (dTok 0 2) (dVs 1)))
            (sSeq (sTok 0 3 (dIf (dB (d2 oGt (dTok 0 2) (dC (.int 0)))) (d2 oSub (dTok 0 3) (dC (.int 1))) (dC (.int 0)))) (sRet (dVs 2)))))
        sNext)
      (sSeq (sTok 0 5 (d2 oAdd (dTok 0 5) (dC (.int 1))))
        (sSeq (sTok 0 4 (d2 oMod (dCa oInt (aCons (d2 oAdd (d2 oAdd (d2 oMul (dTok 0 4) (dC (.int 48271))) (d2 oMul (d2 oMul (dTok 0 5) (dTok 0 5)) (dC (.int 69621)))) (dC (.int 11))) aNil)) (dC (.int 2147483647))))
          (sRet (d2 oMod (dCa oInt (aCons (d2 oDiv (dTok 0 4) (dC (.int 13))) aNil)) (dVs 1))))))
def f_draw : List D → M D := fnD 3 2 d_draw
theorem eqd_int (i j : Int) : eqd (.int i) (.int j) = decide (i = j) := by
  unfold eqd toP PyData.eqv
  rfl
theorem okE_int (n : Nat) (i : Int) : okE n (.int i) = true := by
  unfold okE
  rfl
theorem dVs_at {ρ : Sto} {i : Nat} {d : D} (h : ρ[i]? = some (some (false, d))) : dVs i ρ = Pure.pure d := by
  unfold dVs
  rw [h]
theorem dV_at {ρ : Sto} {i : Nat} {b : Bool} {d : D} (h : ρ[i]? = some (some (b, d))) : dV i ρ = Pure.pure d := by
  unfold dV
  rw [h]
theorem logs {m : Int} (h1 : 0 < m) (h2 : m < 1073741824) : m.natAbs.log2 < 9000 := by
  have : m.natAbs < 2 ^ 30 := by omega
  have := PySem.Flt.log2_lt_of (by decide) this
  omega
/-- a draw -/
theorem f_draw_ok {w : Wd} {n m : Int} (h : WB w n) (hn : n < 1073741824) (h1 : 0 < m) (h2 : m < 1073741824) : ∃ r w', f_draw [.tok, .int m] w = .ok (.int r) w' ∧ 0 ≤ r ∧ r < m ∧ WB w' (n + 1) := by
  obtain ⟨hp, hc, hcn⟩ := h
  have hl := logs h1 h2
  -- the filling
  have fill : ∀ ρ : Sto, ρ[0]? = some (some (false, .tok)) → ∃ v, sIf (bAnd (dB (d2 oEq (dTok 0 3) (dC (.int 0)))) (dB (d2 oLt (dTok 0 1) (dTokN 0)))) (sTok3 0 2 3 1 (aCons (dTokC 0) (aCons (dC (.int 60)) (aCons (d2 oAdd (dTok 0 1) (dC (.int 1))) aNil)))) sNext ρ w = .ok (.nx ρ) v ∧ WB v n := by
    intro ρ h0
    have e0 := dVs_at h0
    by_cases c1 : w.left = 0
    · by_cases c2 : w.pos < w.cells.length
      · have c3 : w.cells[w.pos.toNat]? = some w.cells[w.pos.toNat] := List.getElem?_eq_getElem (by omega)
        refine ⟨{ w with cur := w.cells[w.pos.toNat], left := 60, pos := w.pos + 1 }, by simp [sIf, bAnd, dB, d2, dTok, dC, dTokN, sTok3, aCons, dTokC, aNil, e0, asTok, asB, onW, getW, putW, setW, set3, oEq, oLt, oAdd, okE_int, eqd_int, cellAt, bind_run, pure_run, c1, c2, c3, hp, lift], ⟨?_, hc, hcn⟩⟩
        simp only
        omega
      · exact ⟨w, by simp [sIf, bAnd, dB, d2, dTok, dC, dTokN, sNext, e0, asTok, asB, onW, getW, oEq, oLt, okE_int, eqd_int, bind_run, pure_run, c1, c2, lift], hp, hc, hcn⟩
    · exact ⟨w, by simp [sIf, bAnd, dB, d2, dTok, dC, dTokN, sNext, e0, asTok, asB, onW, getW, oEq, oLt, okE_int, eqd_int, bind_run, pure_run, c1, lift], hp, hc, hcn⟩
  obtain ⟨v, hv, hb⟩ := fill (stoD 3 2 [.tok, .int m]) rfl
  unfold f_draw fnD d_draw
  rw [if_pos (by rfl)]
  simp only [sSeq, bind_run, hv, fSeq]
  clear hv hp hc hcn
  obtain ⟨hp, hc, hcn⟩ := hb
  have z1 : 0 ≤ v.cur % m := Int.emod_nonneg _ (by omega)
  have z2 : v.cur % m < m := Int.emod_lt_of_pos _ h1
  by_cases c1 : 0 < v.left
  · by_cases c2 : 0 < v.cur / m
    · refine ⟨v.cur % m, { v with cur := v.cur / m, left := v.left - 1 }, ?_, z1, z2, hp, hc, by simp only; omega⟩
      simp [stoD, sSeq, sIf, dB, d2, d1, dTok, dC, dVs, sTok, sSet, share, sRet, dCa, aCons, aNil, oInt, oMod, oDiv, oGt, oSub, dIf, fSeq, endD, asTok, asN, asB, onW, getW, putW, setW, bind_run, pure_run, c1, c2, lift, h1, hl]
    · refine ⟨v.cur % m, { v with cur := v.cur / m, left := 0 }, ?_, z1, z2, hp, hc, by simp only; omega⟩
      simp [stoD, sSeq, sIf, dB, d2, d1, dTok, dC, dVs, sTok, sSet, share, sRet, dCa, aCons, aNil, oInt, oMod, oDiv, oGt, oSub, dIf, fSeq, endD, asTok, asN, asB, onW, getW, putW, setW, bind_run, pure_run, c1, c2, lift, h1, hl]
  · have m1 : mulOk v.seed 48271 = true := mulOk_right (by omega) (by omega)
    have m2 : mulOk (v.cnt + 1) (v.cnt + 1) = true := mulOk_right (by omega) (by omega)
    have m3 : mulOk ((v.cnt + 1) * (v.cnt + 1)) 69621 = true := mulOk_right (by omega) (by omega)
    have l13 : Nat.log2 13 < 9000 := by decide
    refine ⟨((v.seed * 48271 + (v.cnt + 1) * (v.cnt + 1) * 69621 + 11) % 2147483647 / 13) % m, { v with cnt := v.cnt + 1, seed := (v.seed * 48271 + (v.cnt + 1) * (v.cnt + 1) * 69621 + 11) % 2147483647 }, by
      simp [stoD, sSeq, sIf, dB, d2, d1, dTok, dC, dVs, sTok, sSet, share, sRet, sNext, dCa, aCons, aNil, oInt, oAdd, oMul, oMod, oDiv, oGt, oSub, dIf, fSeq, endD, asTok, asN, asB, onW, getW, putW, setW, bind_run, pure_run, c1, lift, h1, m1, m2, m3, l13], Int.emod_nonneg _ (by omega), Int.emod_lt_of_pos _ h1, hp, by simp only; omega, by simp only; omega⟩
end Vw

namespace Vw
open PySem PySem.Spec PyProof.Rows L2

/-! ### the start of the draws -/
section
variable {K : PySem.W.Frag} {mg : Str → Option Value}
theorem sqL_same {H H' : Hp} {a : Addr} {xs : List V} (h : SqL K H a xs) (e : Same H H') : SqL K H' a xs :=
  h.elim (fun h => .inl (h.elim (fun h => .inl (e _ _ h)) fun ⟨o, h⟩ => .inr ⟨o, e _ _ h⟩)) fun h => .inr h
abbrev rAd : R2 := rI0 fun i j => .int (i + j)
abbrev rMd : R2 := rI (fun _ j => 0 < j) fun i j => .int (i % j)
abbrev rMu : R2 := rI CMul fun i j => .int (i * j)
abbrev rIn1 : List V → Hp → VK → Prop := fun xs H Q => (∃ i, xs = [.int i] ∧ Q (.int i) H) ∨ ∃ k, xs = [.bl k] ∧ Q (.int (if k then 1 else 0)) H
abbrev rAb : List V → Hp → VK → Prop := fun xs H Q => ∃ i, xs = [.int i] ∧ Q (.int (if i < 0 then -i else i)) H
def t_cut (K : PySem.W.Frag) : TE := tSl (rSlL K) (tVar 0) tNoPart (tPart (tC (.int 63)))
def t_seed : TE := tOp rAd (tOp rMd (tCB rIn1 (tCons (tOp rAd (tOp rMu (tVar 1) (tC (.int 48271))) (tVar 2)) tNil)) (tC (.int 2147483629))) (tC (.int 1))
def t_cell : TE := tCB rAb (tCons (tCB rIn1 (tCons (tVar 2) tNil)) tNil)
def t_start (K : PySem.W.Frag) : TS := tSeq (tAsg (tC (.int 7)) (gName 1)) (tSeq (tFor (iList K (t_cut K)) (gName 2) (tAsg t_seed (gName 1)))
  (tRet (tLst (tCons (tLc (iList K (t_cut K)) (gName 2) tYes t_cell [2]) (tCons (tC (.int 0)) (tCons (tC (.int 0)) (tCons (tC (.int 0)) (tCons (tVar 1) (tCons (tC (.int 0)) tNil)))))))))
def spStart (K : PySem.W.Frag) : Sp := fun vs H Q _ => ∃ (a : Addr) (ns : List Int), vs = [.ref a] ∧ SqL K H a (ns.map V.int) ∧ ∀ q H' w, WR q H' w → WB w 0 → Q (.ref q) H'
def cut63 (ns : List Int) : List Int := cutD ns none (some 63)
theorem cut63_map (ns : List Int) : cutV (ns.map V.int) none (some 63) = (cut63 ns).map V.int := by
  unfold cutV cut63 cutD
  rw [List.length_map, List.map_take, List.map_drop]
theorem cut_ok {σ : L2.St} {H : Hp} {Q : VK} {a : Addr} {ns : List Int} (h0 : σ[0]? = some (some (.ref a))) (hs : SqL K H a (ns.map V.int)) (q : ∀ p, H p = none → Q (.ref p) (upd H p (.lst ((cut63 ns).map V.int)))) : t_cut K σ H Q :=
  ⟨_, h0, _, rfl, a, _, rfl, hs, fun p n => by rw [cut63_map]; exact q p n⟩
theorem pure_start (vs : List V) (H : Hp) (Q : VK) (E : XK) (h : spStart K vs H Q E) : t_start K { nx := fun _ H' => Q .non H', rt := Q } (L2.start ["script", "seed", "cell"] vs) H := by
  obtain ⟨a, ns, rfl, hs, hq⟩ := h
  have e : L2.start ["script", "seed", "cell"] [.ref a] = [some (.ref a), none, none] := rfl
  rw [e]
  unfold t_start
  show tSeq _ _ _ ([some (V.ref a), some (V.int 7), none] : L2.St) H
  refine cut_ok rfl hs fun p n => ?_
  have s1 : Same H (upd H p (.lst ((cut63 ns).map V.int))) := same_upd n
  refine ⟨p, rfl, ⟨_, SqL.of upd_same⟩, ?_⟩
  refine for_it (w := walk_list (K := K) (a := p) (xs := (cut63 ns).map V.int)) (fun _ σ H' => (∃ s c, σ = [some (.ref a), some (.int s), c]) ∧ SqL K H' a (ns.map V.int) ∧ SqL K H' p ((cut63 ns).map V.int)) ⟨⟨_, _, rfl⟩, sqL_same hs s1, SqL.of upd_same⟩ (fun _ _ _ _ z => z.2.2) ?_ ?_
  · rintro i x σ H1 H' hi ⟨⟨s, c, rfl⟩, h1, h2⟩ ⟨rfl, hx⟩
    rw [List.getElem?_map] at hx
    cases hc : (cut63 ns)[i]? with
    | none => rw [hc] at hx; cases hx
    | some cc =>
      rw [hc] at hx
      cases hx
      refine ⟨_, rfl, _, _, rfl, rfl, .inr ⟨by decide, by decide⟩, _, rfl, _, _, rfl, rfl, ?_⟩
      refine .inl ⟨_, rfl, _, _, rfl, rfl, (show (0 : Int) < 2147483629 by decide), _, _, rfl, rfl, ⟨_, _, rfl⟩, h1, h2⟩
  · rintro σ H1 ⟨⟨s, c, rfl⟩, h1, h2⟩
    refine cut_ok rfl h1 fun p2 n2 => ?_
    have s2 : Same H1 (upd H1 p2 (.lst ((cut63 ns).map V.int))) := same_upd n2
    refine ⟨p2, rfl, ⟨_, SqL.of upd_same⟩, fun A nA => ?_⟩
    have hpA : p2 ≠ A := fun z => by rw [← z, upd_same] at nA; cases nA
    refine lc_it (w := walk_list (K := K) (a := p2) (xs := (cut63 ns).map V.int)) (fun i H' => (∃ acc : List Int, H' A = some (.lst (acc.map V.int)) ∧ acc.length = i) ∧ H' p2 = some (.lst ((cut63 ns).map V.int))) ⟨⟨[], upd_same, rfl⟩, same_upd nA _ _ upd_same⟩ (fun _ _ _ z => SqL.of z.2) ?_ ?_
    · rintro i x H2 H' hi ⟨⟨acc, hA, hl⟩, h3⟩ ⟨rfl, hx⟩
      rw [List.getElem?_map] at hx
      cases hc : (cut63 ns)[i]? with
      | none => rw [hc] at hx; cases hx
      | some cc =>
        rw [hc] at hx
        cases hx
        refine ⟨rfl, ?_⟩
        simp only [tYes, if_true]
        refine ⟨_, rfl, .inl ⟨_, rfl, _, rfl, acc.map V.int, hA, ?_, ⟨acc ++ [if cc < 0 then -cc else cc], ?_, ?_⟩, ?_⟩⟩
        · rw [List.length_map] at hi ⊢
          rw [hl]
          refine Nat.lt_trans hi (small1000 ?_)
          unfold cut63 cutD
          rw [List.length_take]
          have : HT.sIx ns.length ns.length (some 63) ≤ 63 := by
            unfold HT.sIx
            simp only [show ¬ ((63 : Int) < 0) by decide, if_false]
            omega
          omega
        · rw [upd_same, List.map_append]; rfl
        · rw [List.length_append, hl]; rfl
        · rw [upd_ne hpA]; exact h3
    · rintro H2 ⟨⟨acc, hA, hl⟩, h3⟩
      refine ⟨_, rfl, Nat.le_of_lt (small1000 (by simp only [List.length_cons, List.length_nil]; decide)), fun q n => ?_⟩
      have hqA : A ≠ q := fun z => by rw [z, n] at hA; cases hA
      refine hq q _ ⟨acc, 0, 0, 0, s, 0⟩ ⟨A, hqA, upd_same, ?_⟩ ⟨Int.le_refl _, Int.le_refl _, Int.le_refl _⟩
      rw [upd_ne hqA]
      exact hA
/-- each promise keeps: after the start, what the rest says -/
def t_law (K : PySem.W.Frag) (mg : Str → Option Value) (d : Sto → M Fl) : TS := tSeq (tAsg (tCall (spStart K) [] E0 (tCons (tVar 0) tNil)) (gName 1)) (fun D σ H => ∃ aw, tS K mg aw d D σ H)
def spLaw (K : PySem.W.Frag) : Sp := fun vs H Q _ => ∃ (a : Addr) (ns : List Int), vs = [.ref a] ∧ SqL K H a (ns.map V.int) ∧ ∀ H', Q (.bl true) H'
/-- the law's own turns answer True -/
def Turns (d : Sto → M Fl) : Prop := ∀ w, WB w 0 → ∃ w', d [none, some (false, .tok), none] w = .ok (.rt (.bl true)) w'
theorem pure_law {d : Sto → M Fl} (ht : Turns d) (vs : List V) (H : Hp) (Q : VK) (E : XK) (h : spLaw K vs H Q E) : t_law K mg d { nx := fun _ H' => Q .non H', rt := Q } (L2.start ["script", "state", "turn"] vs) H := by
  obtain ⟨a, ns, rfl, hs, hq⟩ := h
  have e : L2.start ["script", "state", "turn"] [.ref a] = [some (.ref a), none, none] := rfl
  rw [e]
  refine ⟨_, rfl, a, ns, rfl, hs, fun q H' w hw hb => ?_⟩
  obtain ⟨w', hd⟩ := ht w hb
  obtain ⟨ac, n, h1, h2⟩ := hw
  refine ⟨q, fun b => b = q ∨ b = ac, H', fun _ => none, [none, some (false, .tok), none], w, _, w', ⟨⟨rfl, fun b z => ?_, .inl rfl, fun i b z => (by cases z), fun i b z => (by cases z), fun i j b z => (by cases z), fun i d z => ?_, fun i d z => ?_, ⟨ac, n, h1, h2⟩, fun ac' r z => ?_, ⟨0, fun i b z => (by cases z)⟩⟩, Ext.refl _ _, fun i b z => (by cases z)⟩, hd, ?_⟩
  · rcases z with rfl | rfl
    · rw [h1]; exact fun z => by cases z
    · rw [h2]; exact fun z => by cases z
  · match i, z with
    | 0, z => cases z
    | 1, z => cases z; exact ⟨_, rfl, .tok⟩
    | 2, z => cases z
    | i + 3, z => cases z
  · match i, z with
    | 0, z => cases z
    | 1, z => cases z
    | 2, z => cases z
    | i + 3, z => cases z
  · rw [h1] at z
    cases z
    exact .inr rfl
  · intro v H2 e2 r2 rv
    cases rv
    exact hq H2
end
section
variable {X : Cx} {rest : List Stmt} {d : Sto → M Fl}
theorem vss_ex (h : ∀ aw, VSs X aw rest d) : PSs X rest (fun D σ H => ∃ aw, tS X.K X.mg aw d D σ H) := ⟨fun pins s σ H D I ⟨aw, q⟩ => (h aw).run pins s σ H D I q⟩
end
end Vw

namespace Vw
open PySem PySem.Spec PyProof.Rows L2

/-! ### reckoning with what the text does -/
section
variable {ρ : Sto} {a b c : Sto → M D} {t u : Sto → M Bool} {s r : Sto → M Fl} {ds : Sto → M (List D)} {L : List Nat} {i : Nat}
@[simp] theorem ev_sNext : sNext ρ = Pure.pure (.nx ρ) := rfl
@[simp] theorem ev_sSeq : sSeq s r ρ = s ρ >>= fSeq r := rfl
@[simp] theorem ev_fSeq {ρ : Sto} : fSeq r (.nx ρ) = r ρ := rfl
@[simp] theorem ev_fSeqR {v : D} : fSeq r (.rt v) = Pure.pure (.rt v) := rfl
@[simp] theorem ev_fSeqB {ρ : Sto} : fSeq r (.bk ρ) = Pure.pure (.bk ρ) := rfl
@[simp] theorem ev_fSeqC {ρ : Sto} : fSeq r (.ct ρ) = Pure.pure (.ct ρ) := rfl
@[simp] theorem ev_sIf : sIf t s r ρ = t ρ >>= fun k => if k then s ρ else r ρ := rfl
@[simp] theorem ev_sRet : sRet a ρ = a ρ >>= fun v => Pure.pure (.rt v) := rfl
@[simp] theorem ev_sDrop : sDrop a ρ = a ρ >>= fun _ => Pure.pure (.nx ρ) := rfl
@[simp] theorem ev_share0 : share [] ρ = ρ := rfl
@[simp] theorem ev_sSet : sSet L i a ρ = a (share L ρ) >>= fun v => Pure.pure (.nx ((share L ρ).set i (some (false, v)))) := rfl
@[simp] theorem ev_sSetF : sSetF L i a ρ = a (share L ρ) >>= fun v => Pure.pure (.nx ((share L ρ).set i (some (true, v)))) := rfl
@[simp] theorem ev_sApp : sApp L i a ρ = a (share L ρ) >>= fun v => lift (ownL (share L ρ) i) >>= fun ds => if ds.length < lineN then Pure.pure (.nx ((share L ρ).set i (some (true, .lst (ds ++ [v]))))) else M.bad := rfl
@[simp] theorem ev_sPar {is : List Nat} {d : Its} : sPar L is d ρ = d (share L ρ) >>= fun ds => if ds.length = is.length then Pure.pure (.nx (setsS is ds (share L ρ))) else M.bad := rfl
@[simp] theorem ev_sFor {it : Sto → M (List D)} {gd : D → Sto → Option Sto} {kl : List Nat} : sFor L it gd kl s ρ = it (share L ρ) >>= fun ds => forL gd s kl ds (wipeS (share L ρ) kl) := rfl
@[simp] theorem ev_pNil : pNil ρ = Pure.pure [] := rfl
@[simp] theorem ev_pSh {p : Its} : pSh a p ρ = a ρ >>= fun x => p ρ >>= fun xs => Pure.pure ((false, x) :: xs) := rfl
@[simp] theorem ev_pOwn {p : Its} : pOwn a p ρ = a ρ >>= fun x => p ρ >>= fun xs => Pure.pure ((true, x) :: xs) := rfl
@[simp] theorem ev_dC {d : D} : dC d ρ = Pure.pure d := rfl
@[simp] theorem ev_d1 {g : D → Option D} : d1 g a ρ = a ρ >>= fun x => lift (g x) := rfl
@[simp] theorem ev_d2 {g : D → D → Option D} : d2 g a b ρ = a ρ >>= fun x => b ρ >>= fun y => lift (g x y) := rfl
@[simp] theorem ev_dB : dB a ρ = a ρ >>= asB := rfl
@[simp] theorem ev_dTru : dTru a ρ = a ρ >>= fun x => lift (oTru x) := rfl
@[simp] theorem ev_bAnd : bAnd t u ρ = t ρ >>= fun k => if k then u ρ else Pure.pure false := rfl
@[simp] theorem ev_bOr : bOr t u ρ = t ρ >>= fun k => if k then Pure.pure true else u ρ := rfl
@[simp] theorem ev_bNot : bNot t ρ = t ρ >>= fun k => Pure.pure (!k) := rfl
@[simp] theorem ev_vAnd : vAnd a b ρ = a ρ >>= asB >>= fun k => if k then b ρ else Pure.pure (.bl false) := rfl
@[simp] theorem ev_vOr : vOr a b ρ = a ρ >>= asB >>= fun k => if k then Pure.pure (.bl true) else b ρ := rfl
@[simp] theorem ev_vNot : vNot a ρ = a ρ >>= asB >>= fun k => Pure.pure (.bl (!k)) := rfl
@[simp] theorem ev_dIf : dIf t a b ρ = t ρ >>= fun k => if k then a ρ else b ρ := rfl
@[simp] theorem ev_dChain {g g' : D → D → Option D} : dChain g g' a b c ρ = a ρ >>= fun x => b ρ >>= fun y => lift (g x y) >>= asB >>= fun k => if k then c ρ >>= fun z => lift (g' y z) else Pure.pure (.bl false) := rfl
@[simp] theorem ev_aNil : aNil ρ = Pure.pure [] := rfl
@[simp] theorem ev_aCons : aCons a ds ρ = a ρ >>= fun x => ds ρ >>= fun xs => Pure.pure (x :: xs) := rfl
@[simp] theorem ev_dTup : dTup ds ρ = ds ρ >>= mkTup := rfl
@[simp] theorem ev_dLst : dLst ds ρ = ds ρ >>= mkLst := rfl
@[simp] theorem ev_dCa {g : List D → Option D} : dCa g ds ρ = ds ρ >>= fun xs => lift (g xs) := rfl
@[simp] theorem ev_dCall {f : List D → M D} {dd : List D} : dCall f dd ds ρ = ds ρ >>= fun xs => f (xs ++ dd) := rfl
@[simp] theorem ev_dSl {l h : OD} : dSl a l h ρ = a ρ >>= fun x => dO l ρ >>= fun i => dO h ρ >>= fun j => lift (oSl x i j) := rfl
@[simp] theorem ev_dO0 : dO none ρ = Pure.pure none := rfl
@[simp] theorem ev_dO1 : dO (some a) ρ = a ρ >>= asI := rfl
@[simp] theorem ev_iSeq : iSeq a ρ = a ρ >>= fun x => lift (seqOf x) := rfl
@[simp] theorem ev_iRg1 : iRg1 ds ρ = ds ρ >>= fun xs => lift (oRg1 xs) := rfl
@[simp] theorem ev_iRg2 : iRg2 ds ρ = ds ρ >>= fun xs => lift (oRg2 xs) := rfl
@[simp] theorem ev_iZp : iZp ds ρ = ds ρ >>= fun xs => lift (oZip xs) := rfl
@[simp] theorem ev_dComp {it : Sto → M (List D)} {vs : List Nat} {gd : D → Sto → Option Sto} : dComp it vs gd t a ρ = it ρ >>= fun ds => compL gd t a (wipeS ρ vs) ds >>= mkLst := rfl
@[simp] theorem ev_bYes : bYes ρ = Pure.pure true := rfl
@[simp] theorem ev_endN {ρ : Sto} : endD (.nx ρ) = Pure.pure .non := rfl
@[simp] theorem ev_endR {d : D} : endD (.rt d) = Pure.pure d := rfl
@[simp] theorem ev_sets0 : setsS [] [] ρ = ρ := rfl
@[simp] theorem ev_sets {is : List Nat} {x : Bool × D} {xs : List (Bool × D)} : setsS (i :: is) (x :: xs) ρ = setsS is xs (ρ.set i (some x)) := rfl
theorem ev_dVs : dVs i ρ = (match ρ[i]? with | some (some (false, d)) => Pure.pure d | _ => M.bad) := rfl
theorem ev_dV : dV i ρ = (match ρ[i]? with | some (some (_, d)) => Pure.pure d | _ => M.bad) := rfl
@[simp] theorem ev_dVs0 {d : D} {r : Sto} : dVs 0 (some (false, d) :: r) = Pure.pure d := rfl
@[simp] theorem ev_dVsS {x : Option (Bool × D)} {r : Sto} : dVs (i + 1) (x :: r) = dVs i r := rfl
@[simp] theorem ev_dV0 {d : D} {k : Bool} {r : Sto} : dV 0 (some (k, d) :: r) = Pure.pure d := rfl
@[simp] theorem ev_dVS {x : Option (Bool × D)} {r : Sto} : dV (i + 1) (x :: r) = dV i r := rfl
@[simp] theorem ev_wipe0 : wipeS ρ [] = ρ := rfl
@[simp] theorem ev_wipe {v : Nat} {vs : List Nat} : wipeS ρ (v :: vs) = (wipeS ρ vs).set v none := rfl
@[simp] theorem ev_turnN {kl : List Nat} {ρ : Sto} {n : Sto → M Fl} : turn kl n (.nx ρ) = n (wipeS ρ kl) := rfl
@[simp] theorem ev_turnC {kl : List Nat} {ρ : Sto} {n : Sto → M Fl} : turn kl n (.ct ρ) = n (wipeS ρ kl) := rfl
@[simp] theorem ev_turnB {kl : List Nat} {ρ : Sto} {n : Sto → M Fl} : turn kl n (.bk ρ) = Pure.pure (.nx (wipeS ρ kl)) := rfl
@[simp] theorem ev_turnR {kl : List Nat} {d : D} {n : Sto → M Fl} : turn kl n (.rt d) = Pure.pure (.rt d) := rfl
@[simp] theorem ev_forN {gd : D → Sto → Option Sto} {kl : List Nat} : forL gd s kl [] ρ = Pure.pure (.nx ρ) := rfl
theorem ev_forC {gd : D → Sto → Option Sto} {kl : List Nat} {d : D} {l : List D} : forL gd s kl (d :: l) ρ = lift (gd d ρ) >>= fun ρ1 => s ρ1 >>= turn kl (forL gd s kl l) := rfl
@[simp] theorem ev_compN {gd : D → Sto → Option Sto} : compL gd t a ρ [] = Pure.pure [] := rfl
theorem ev_compC {gd : D → Sto → Option Sto} {d : D} {l : List D} : compL gd t a ρ (d :: l) = lift (gd d ρ) >>= fun ρ1 => t ρ1 >>= fun k => if k then a ρ1 >>= fun y => compL gd t a ρ l >>= fun ys => Pure.pure (y :: ys) else compL gd t a ρ l := rfl
@[simp] theorem ev_gdN {d : D} : gdN i d ρ = some (ρ.set i (some (false, d))) := rfl
end
section
variable {i j : Int} {x y : List D} {d e : D}
@[simp] theorem o_add : oAdd (.int i) (.int j) = some (.int (i + j)) := rfl
@[simp] theorem o_sub : oSub (.int i) (.int j) = some (.int (i - j)) := rfl
@[simp] theorem o_lt : oLt (.int i) (.int j) = some (.bl (decide (i < j))) := rfl
@[simp] theorem o_le : oLe (.int i) (.int j) = some (.bl (decide (i ≤ j))) := rfl
@[simp] theorem o_gt : oGt (.int i) (.int j) = some (.bl (decide (j < i))) := rfl
@[simp] theorem o_ge : oGe (.int i) (.int j) = some (.bl (decide (j ≤ i))) := rfl
@[simp] theorem o_neg : oNeg (.int i) = some (.int (-i)) := rfl
@[simp] theorem o_mod (h : 0 < j) : oMod (.int i) (.int j) = some (.int (i % j)) := if_pos h
theorem log_lt {j : Int} (h : 0 < j) (h2 : j < 1000000000000000000) : j.natAbs.log2 < 9000 := by
  have : j.natAbs < 2 ^ 60 := by omega
  have := PySem.Flt.log2_lt_of (by decide) this
  omega
theorem o_div (h : 0 < j) (h2 : j < 1000000000000000000) : oDiv (.int i) (.int j) = some (.int (i / j)) := if_pos ⟨h, log_lt h h2⟩
theorem o_mulL (h : -18446744073709551616 < i) (h2 : i < 18446744073709551616) : oMul (.int i) (.int j) = some (.int (i * j)) := by
  unfold oMul
  simp only [mulOk_left h h2, if_true]
theorem o_mulR (h : -18446744073709551616 < j) (h2 : j < 18446744073709551616) : oMul (.int i) (.int j) = some (.int (i * j)) := by
  unfold oMul
  simp only [mulOk_right h h2, if_true]
@[simp] theorem o_eqI : oEq (.int i) (.int j) = some (.bl (decide (i = j))) := by
  unfold oEq
  rw [okE_int, okE_int, eqd_int]
  rfl
@[simp] theorem o_neI : oNe (.int i) (.int j) = some (.bl (!decide (i = j))) := by
  unfold oNe
  rw [okE_int, okE_int, eqd_int]
  rfl
mutual
theorem eqd_refl : ∀ (n : Nat) (d : D), okE n d = true → PyData.eqv (toP d) (toP d) = true
  | _, .non, _ => by simp [toP, PyData.eqv]
  | _, .bl _, _ => by simp [toP, PyData.eqv]
  | _, .int _, _ => by simp [toP, PyData.eqv]
  | _, .str x, h => by simp [toP, PyData.eqv]
  | n + 1, .tup xs, h => by
    simp only [toP, PyData.eqv]
    exact eqds_refl n xs (by simpa [okE] using h)
  | n + 1, .lst xs, h => by
    simp only [toP, PyData.eqv]
    exact eqds_refl n xs (by simpa [okE] using h)
  | 0, .tup _, h => by simp [okE] at h
  | 0, .lst _, h => by simp [okE] at h
  | _, .dK _, h => by simp [okE] at h
  | _, .dT _, h => by simp [okE] at h
  | _, .fn _, h => by simp [okE] at h
  | _, .tok, h => by simp [okE] at h
theorem eqds_refl : ∀ (n : Nat) (ds : List D), okEs n ds = true → PyData.eqvAll (toPs ds) (toPs ds) = true
  | _, [], _ => by simp [toPs, PyData.eqvAll]
  | n, x :: xs, h => by
    have h' : okE n x = true ∧ okEs n xs = true := by simpa [okEs] using h
    simp only [toPs, PyData.eqvAll, eqd_refl n x h'.1, eqds_refl n xs h'.2, Bool.and_self]
end
theorem o_eqS (h : okE 64 d = true) : oEq d d = some (.bl true) := by
  unfold oEq eqd
  rw [h, eqd_refl 64 d h]
  rfl
theorem o_neS (h : okE 64 d = true) : oNe d d = some (.bl false) := by
  unfold oNe eqd
  rw [h, eqd_refl 64 d h]
  rfl
@[simp] theorem okE_non {n : Nat} : okE n .non = true := by unfold okE; rfl
@[simp] theorem okE_bl {n : Nat} {k : Bool} : okE n (.bl k) = true := by unfold okE; rfl
@[simp] theorem okE_i {n : Nat} {k : Int} : okE n (.int k) = true := okE_int n k
@[simp] theorem okE_tup {n : Nat} : okE (n + 1) (.tup x) = okEs n x := by rw [okE]
@[simp] theorem okE_lst {n : Nat} : okE (n + 1) (.lst x) = okEs n x := by rw [okE]
@[simp] theorem okEs_nil {n : Nat} : okEs n [] = true := by rw [okEs]
@[simp] theorem okEs_cons {n : Nat} : okEs n (d :: x) = (okE n d && okEs n x) := by rw [okEs]
@[simp] theorem okEs_app {n : Nat} : okEs n (x ++ y) = (okEs n x && okEs n y) := by
  induction x with
  | nil => simp
  | cons a x ih => simp [ih, Bool.and_assoc]
theorem okEs_all {n : Nat} : okEs n x = true ↔ ∀ d, d ∈ x → okE n d = true := by
  induction x with
  | nil => simp
  | cons a x ih => simp [ih]
@[simp] theorem okEs_ints {n : Nat} (l : List Int) : okEs n (l.map D.int) = true := by rw [okEs_all]; simp
theorem okE_str {n : Nat} {s : Str} (h : PyData.strOk s = true) : okE n (.str s) = true := by unfold okE; exact h
@[simp] theorem o_tru_i : oTru (.int i) = some (i != 0) := rfl
@[simp] theorem o_tru_n : oTru .non = some false := rfl
@[simp] theorem o_tru_b {k : Bool} : oTru (.bl k) = some k := rfl
@[simp] theorem o_tru_t : oTru (.tup x) = some (!x.isEmpty) := rfl
@[simp] theorem o_tru_l : oTru (.lst x) = some (!x.isEmpty) := rfl
@[simp] theorem o_isn : oIsN .non .non = some (.bl true) := rfl
@[simp] theorem o_isn_i : oIsN (.int i) .non = some (.bl false) := rfl
@[simp] theorem o_isn_t : oIsN (.tup x) .non = some (.bl false) := rfl
@[simp] theorem o_isn_l : oIsN (.lst x) .non = some (.bl false) := rfl
@[simp] theorem o_notn : oNotN .non .non = some (.bl false) := rfl
@[simp] theorem o_notn_i : oNotN (.int i) .non = some (.bl true) := rfl
@[simp] theorem o_notn_t : oNotN (.tup x) .non = some (.bl true) := rfl
@[simp] theorem o_notn_l : oNotN (.lst x) .non = some (.bl true) := rfl
@[simp] theorem o_lenT : oLen [.tup x] = some (.int x.length) := rfl
@[simp] theorem o_lenL : oLen [.lst x] = some (.int x.length) := rfl
@[simp] theorem o_sumT (l : List Int) : oSum [.tup (l.map D.int)] = some (.int l.sum) := by
  show ((asInts (l.map D.int)).map fun ns => D.int ns.sum) = _
  rw [asInts_map]
  rfl
@[simp] theorem o_sumL (l : List Int) : oSum [.lst (l.map D.int)] = some (.int l.sum) := by
  show ((asInts (l.map D.int)).map fun ns => D.int ns.sum) = _
  rw [asInts_map]
  rfl
@[simp] theorem o_max2 : oMax [.int i, .int j] = some (.int (max i j)) := rfl
@[simp] theorem o_min2 : oMin [.int i, .int j] = some (.int (min i j)) := rfl
@[simp] theorem o_abs : oAbs [.int i] = some (.int (if i < 0 then -i else i)) := rfl
@[simp] theorem o_intI : oInt [.int i] = some (.int i) := rfl
@[simp] theorem o_intB {k : Bool} : oInt [.bl k] = some (.int (if k then 1 else 0)) := rfl
@[simp] theorem o_tupT : oTupOf [.tup x] = some (.tup x) := rfl
@[simp] theorem o_tupL : oTupOf [.lst x] = some (.tup x) := rfl
@[simp] theorem o_lstT : oLstOf [.tup x] = some (.lst x) := rfl
@[simp] theorem o_lstL : oLstOf [.lst x] = some (.lst x) := rfl
@[simp] theorem o_all (l : List Bool) : oAll [.lst (l.map D.bl)] = some (.bl (l.all id)) := by
  show (asBls (l.map D.bl)).map _ = _
  rw [asBls_map]
  rfl
@[simp] theorem o_any (l : List Bool) : oAny [.lst (l.map D.bl)] = some (.bl (l.any id)) := by
  show (asBls (l.map D.bl)).map _ = _
  rw [asBls_map]
  rfl
@[simp] theorem o_sort (l : List Int) : oSortI [.lst (l.map D.int)] = some (.lst ((sortI l).map .int)) := by
  show (asInts (l.map D.int)).map _ = _
  rw [asInts_map]
  rfl
@[simp] theorem o_seqT : seqOf (.tup x) = some x := rfl
@[simp] theorem o_seqL : seqOf (.lst x) = some x := rfl
@[simp] theorem o_ixT : oIx (.tup x) (.int i) = atI x i := rfl
@[simp] theorem o_ixL : oIx (.lst x) (.int i) = atI x i := rfl
@[simp] theorem o_slT {l h : Option Int} : oSl (.tup x) l h = some (.tup (cutD x l h)) := rfl
@[simp] theorem o_slL {l h : Option Int} : oSl (.lst x) l h = some (.lst (cutD x l h)) := rfl
theorem o_addT (h : x.length + y.length ≤ lineN) : oAdd (.tup x) (.tup y) = some (.tup (x ++ y)) := if_pos h
theorem o_addL (h : x.length + y.length ≤ lineN) : oAdd (.lst x) (.lst y) = some (.lst (x ++ y)) := if_pos h
theorem mkTup_le (h : x.length ≤ lineN) : mkTup x = Pure.pure (.tup x) := if_pos h
theorem mkLst_le (h : x.length ≤ lineN) : mkLst x = Pure.pure (.lst x) := if_pos h
@[simp] theorem mkTup0 : mkTup [] = Pure.pure (.tup []) := rfl
@[simp] theorem mkLst0 : mkLst [] = Pure.pure (.lst []) := rfl
@[simp] theorem mkTup1 : mkTup [d] = Pure.pure (.tup [d]) := rfl
@[simp] theorem mkLst1 : mkLst [d] = Pure.pure (.lst [d]) := rfl
@[simp] theorem mkTup2 : mkTup [d, e] = Pure.pure (.tup [d, e]) := rfl
@[simp] theorem mkLst2 : mkLst [d, e] = Pure.pure (.lst [d, e]) := rfl
@[simp] theorem mkTup3 {f : D} : mkTup [d, e, f] = Pure.pure (.tup [d, e, f]) := rfl
@[simp] theorem mkLst3 {f : D} : mkLst [d, e, f] = Pure.pure (.lst [d, e, f]) := rfl
@[simp] theorem mkTup4 {f g : D} : mkTup [d, e, f, g] = Pure.pure (.tup [d, e, f, g]) := rfl
@[simp] theorem mkLst4 {f g : D} : mkLst [d, e, f, g] = Pure.pure (.lst [d, e, f, g]) := rfl
end
theorem sm62 {i : Int} (h : -4611686018427387904 ≤ i) (h2 : i < 4611686018427387904) : small62 i = true := decide_eq_true ⟨h, h2⟩
theorem o_rg1 {i : Int} (h : -4611686018427387904 ≤ i) (h2 : i < 4611686018427387904) : oRg1 [.int i] = some (rgD 0 i.toNat) := by
  unfold oRg1
  simp only [sm62 h h2, if_true]
theorem o_rg2 {i j : Int} (h : -4611686018427387904 ≤ i) (h2 : i < 4611686018427387904) (h3 : -4611686018427387904 ≤ j) (h4 : j < 4611686018427387904) : oRg2 [.int i, .int j] = some (rgD i (j - i).toNat) := by
  unfold oRg2
  simp only [sm62 h h2, sm62 h3 h4, Bool.and_self, if_true]
/-- the ints from a on -/
def rgI (a : Int) (n : Nat) : List Int := (List.range n).map fun k : Nat => a + (k : Int)
theorem rgD_eq (a : Int) (n : Nat) : rgD a n = (rgI a n).map D.int := by
  unfold rgD rgI
  rw [List.map_map]
  rfl
theorem rgI_len (a : Int) (n : Nat) : (rgI a n).length = n := by unfold rgI; simp
theorem rgI_mem {a x : Int} {n : Nat} : x ∈ rgI a n ↔ a ≤ x ∧ x < a + n := by
  unfold rgI
  simp only [List.mem_map, List.mem_range]
  constructor
  · rintro ⟨k, h, rfl⟩; omega
  · rintro ⟨h1, h2⟩; exact ⟨(x - a).toNat, by omega, by omega⟩
theorem rgI_succ (a : Int) (n : Nat) : rgI a (n + 1) = a :: rgI (a + 1) n := by
  unfold rgI
  rw [List.range_succ_eq_map, List.map_cons, List.map_map]
  simp only [Int.natCast_zero, Int.add_zero, List.cons.injEq, true_and]
  refine List.map_congr_left fun k _ => ?_
  show a + ((k + 1 : Nat) : Int) = a + 1 + k
  omega
theorem rgI_last (a : Int) (n : Nat) : rgI a (n + 1) = rgI a n ++ [a + n] := by
  unfold rgI
  rw [List.range_succ, List.map_append]
  rfl
theorem small_line {n : Nat} (h : n ≤ 1000) : n ≤ lineN := Nat.le_trans h (by decide)
/-! ### running -/
def Run {α : Type} (m : M α) (w : Wd) (Q : α → Wd → Prop) : Prop := ∃ a w', m w = .ok a w' ∧ Q a w'
theorem run_pure {α : Type} {a : α} {w : Wd} {Q : α → Wd → Prop} (h : Q a w) : Run (Pure.pure a) w Q := ⟨a, w, rfl, h⟩
theorem run_bind {α β : Type} {m : M α} {f : α → M β} {w : Wd} {Q : β → Wd → Prop} (h : Run m w fun a w' => Run (f a) w' Q) : Run (m >>= f) w Q := by
  obtain ⟨a, w1, h1, b, w2, h2, q⟩ := h
  exact ⟨b, w2, by rw [bind_run, h1]; exact h2, q⟩
theorem run_mono {α : Type} {m : M α} {w : Wd} {Q Q' : α → Wd → Prop} (h : Run m w Q) (k : ∀ a w', Q a w' → Q' a w') : Run m w Q' := by
  obtain ⟨a, w1, h1, q⟩ := h
  exact ⟨a, w1, h1, k _ _ q⟩
/-- a draw, then the rest -/
theorem run_draw {β : Type} {f : D → M β} {w : Wd} {n m : Int} {Q : β → Wd → Prop} (h : WB w n) (hn : n < 1000000000) (h1 : 0 < m) (h2 : m < 1073741824) (k : ∀ r w', 0 ≤ r → r < m → WB w' (n + 1) → Run (f (.int r)) w' Q) : Run (f_draw [.tok, .int m] >>= f) w Q := by
  obtain ⟨r, w', e, a, b, c⟩ := f_draw_ok h (by omega) h1 h2
  exact run_bind ⟨_, _, e, k r w' a b c⟩
/-- a comprehension whose elements are drawn -/
theorem run_comp {β : Type} {f : List D → M β} {gd : D → Sto → Option Sto} {el : Sto → M D} {ρ : Sto} {P : D → Prop} {Q : β → Wd → Prop} (c : Int) (hc : 0 ≤ c) : ∀ (ds : List D) (w : Wd) (n : Int), WB w n → n + c * ds.length < 1000000000 →
    (∀ d w n, d ∈ ds → WB w n → n < 1000000000 → Run (lift (gd d ρ) >>= el) w fun y w' => P y ∧ WB w' (n + c)) → (∀ ys w', ys.length = ds.length → (∀ y, y ∈ ys → P y) → WB w' (n + c * ds.length) → Run (f ys) w' Q) → Run (compL gd bYes el ρ ds >>= f) w Q
  | [], w, n, hw, hb, h, k => k [] w rfl (fun _ z => nomatch z) (by simpa using hw)
  | d :: ds, w, n, hw, hb, h, k => by
    have e : n + c * ((d :: ds).length : Int) = n + c + c * ds.length := by
      rw [List.length_cons, Int.natCast_succ, Int.mul_add]; omega
    rw [e] at hb k
    have p0 : 0 ≤ c * (ds.length : Int) := Int.mul_nonneg hc (by omega)
    obtain ⟨y, w1, g1, hy, w1b⟩ := h d w n (List.mem_cons_self ..) hw (by omega)
    obtain ⟨ρ1, w2, g2, g3⟩ := bind_ok g1
    obtain ⟨g4, rfl⟩ := lift_ok g2
    rw [ev_compC]
    simp only [g4, lift_some, pure_bind', ev_bYes, if_true, bind_assoc']
    refine run_bind ⟨y, w1, g3, ?_⟩
    exact run_comp c hc ds w1 (n + c) w1b hb (fun d w n hd => h d w n (List.mem_cons_of_mem _ hd)) fun ys w' hl hp hw' => k (y :: ys) w' (by simp [hl]) (fun z hz => by
      rcases List.mem_cons.mp hz with rfl | hz
      · exact hy
      · exact hp z hz) hw'
/-- a comprehension without draws -/
theorem comp_pure {gd : D → Sto → Option Sto} {t : Sto → M Bool} {el : Sto → M D} {ρ : Sto} (p : D → Bool) (g : D → D) : ∀ ds : List D, (∀ d, d ∈ ds → ∃ ρ1, gd d ρ = some ρ1 ∧ t ρ1 = Pure.pure (p d) ∧ (p d = true → el ρ1 = Pure.pure (g d))) → compL gd t el ρ ds = Pure.pure ((ds.filter p).map g)
  | [], _ => rfl
  | d :: ds, h => by
    obtain ⟨ρ1, h1, h2, h3⟩ := h d (List.mem_cons_self ..)
    rw [ev_compC, h1, lift_some, pure_bind', h2, pure_bind', comp_pure p g ds fun d hd => h d (List.mem_cons_of_mem _ hd)]
    cases e : p d with
    | true => rw [if_pos rfl, h3 e, List.filter_cons_of_pos (by simpa using e)]; rfl
    | false => rw [if_neg (by simp), List.filter_cons_of_neg (by simp [e])]
/-- the same over ints -/
theorem comp_ints {i : Nat} {t : Sto → M Bool} {el : Sto → M D} {ρ : Sto} (p : Int → Bool) (g : Int → D) (ns : List Int) (h : ∀ n, n ∈ ns → t (ρ.set i (some (false, .int n))) = Pure.pure (p n) ∧ (p n = true → el (ρ.set i (some (false, .int n))) = Pure.pure (g n))) :
    compL (gdN i) t el ρ (ns.map D.int) = Pure.pure ((ns.filter p).map g) := by
  induction ns with
  | nil => rfl
  | cons n ns ih =>
    obtain ⟨h2, h3⟩ := h n (List.mem_cons_self ..)
    rw [List.map_cons, ev_compC, ev_gdN, lift_some, pure_bind', h2, pure_bind', ih fun m hm => h m (List.mem_cons_of_mem _ hm)]
    cases e : p n with
    | true => rw [if_pos rfl, h3 e, List.filter_cons_of_pos (by simpa using e)]; rfl
    | false => rw [if_neg (by simp), List.filter_cons_of_neg (by simp [e])]
theorem comp_ints1 {i : Nat} {el : Sto → M D} {ρ : Sto} (g : Int → D) (ns : List Int) (h : ∀ n, n ∈ ns → el (ρ.set i (some (false, .int n))) = Pure.pure (g n)) : compL (gdN i) bYes el ρ (ns.map D.int) = Pure.pure (ns.map g) := by
  have := comp_ints (i := i) (t := bYes) (el := el) (ρ := ρ) (fun _ => true) g ns fun n hn => ⟨rfl, fun _ => h n hn⟩
  rw [this, List.filter_eq_self.mpr fun _ _ => rfl]
/-- ints that were drawn -/
theorem ints_of {P : Int → Prop} : ∀ ys : List D, (∀ y, y ∈ ys → ∃ i, y = .int i ∧ P i) → ∃ ns : List Int, ys = ns.map D.int ∧ ∀ n, n ∈ ns → P n
  | [], _ => ⟨[], rfl, fun _ z => nomatch z⟩
  | y :: ys, h => by
    obtain ⟨ns, e, hp⟩ := ints_of ys fun y hy => h y (List.mem_cons_of_mem _ hy)
    obtain ⟨i, rfl, hi⟩ := h y (List.mem_cons_self ..)
    exact ⟨i :: ns, by rw [e]; rfl, fun n hn => by
      rcases List.mem_cons.mp hn with rfl | hn
      · exact hi
      · exact hp n hn⟩
/-- a loop without an early end -/
theorem for_fold {β : Type} {gd : D → Sto → Option Sto} {body : Sto → M Fl} {kl : List Nat} (S : β → Sto) (f : β → D → β) : ∀ (ds : List D) (b : β), (∀ b d, d ∈ ds → ∃ ρ1 ρ2, gd d (S b) = some ρ1 ∧ body ρ1 = Pure.pure (.nx ρ2) ∧ wipeS ρ2 kl = S (f b d)) → forL gd body kl ds (S b) = Pure.pure (.nx (S (ds.foldl f b)))
  | [], _, _ => rfl
  | d :: ds, b, h => by
    obtain ⟨ρ1, ρ2, h1, h2, h3⟩ := h b d (List.mem_cons_self ..)
    rw [ev_forC, h1, lift_some, pure_bind', h2, pure_bind', ev_turnN, h3]
    exact for_fold S f ds (f b d) fun b d hd => h b d (List.mem_cons_of_mem _ hd)
theorem max_is {l : List Int} {m : Int} (hm : m ∈ l) (h : ∀ x, x ∈ l → x ≤ m) : oMax [.lst (l.map D.int)] = some (.int m) := by
  cases l with
  | nil => cases hm
  | cons n ns =>
    have ea := asInts_map (n :: ns)
    show (match asInts ((n :: ns).map D.int) with | some (n :: ns) => some (D.int (maxL n ns)) | _ => none) = _
    rw [ea]
    obtain ⟨h1, h2, h3⟩ := maxL_ge ns n
    have e : maxL n ns = m := by
      refine Int.le_antisymm ?_ ?_
      · rcases h3 with h3 | h3
        · rw [h3]; exact h n (List.mem_cons_self ..)
        · exact h _ (List.mem_cons_of_mem _ h3)
      · rcases List.mem_cons.mp hm with rfl | hm
        · exact h1
        · exact h2 m hm
    show some (D.int (maxL n ns)) = _
    rw [e]
theorem min_is {l : List Int} {m : Int} (hm : m ∈ l) (h : ∀ x, x ∈ l → m ≤ x) : oMin [.lst (l.map D.int)] = some (.int m) := by
  cases l with
  | nil => cases hm
  | cons n ns =>
    have ea := asInts_map (n :: ns)
    show (match asInts ((n :: ns).map D.int) with | some (n :: ns) => some (D.int (minL n ns)) | _ => none) = _
    rw [ea]
    obtain ⟨h1, h2, h3⟩ := minL_le ns n
    have e : minL n ns = m := by
      refine Int.le_antisymm ?_ ?_
      · rcases List.mem_cons.mp hm with rfl | hm
        · exact h1
        · exact h2 m hm
      · rcases h3 with h3 | h3
        · rw [h3]; exact h n (List.mem_cons_self ..)
        · exact h _ (List.mem_cons_of_mem _ h3)
    show some (D.int (minL n ns)) = _
    rw [e]
theorem sort2 (a b : Int) : sortI [a, b] = [min a b, max a b] := by
  symm
  refine sortI_unique ?_ (by simp; omega)
  rcases Int.le_total a b with h | h
  · rw [Int.min_eq_left h, Int.max_eq_right h]
  · rw [Int.min_eq_right h, Int.max_eq_left h]
    exact List.Perm.swap ..
@[simp] theorem o_sort2 (a b : Int) : oSortI [.lst [.int a, .int b]] = some (.lst [.int (min a b), .int (max a b)]) := by
  have := o_sort [a, b]
  rw [sort2] at this
  exact this
@[simp] theorem o_max2L (a b : Int) : oMax [.lst [.int a, .int b]] = some (.int (max a b)) := rfl
/-- the law's loop, from one turn -/
theorem turns_of {k c : Int} {f : List D → M D} (hk : 0 ≤ k) (hk2 : k ≤ 10) (hc : 0 ≤ c) (hc2 : c ≤ 10000000) (h : ∀ w n, WB w n → n ≤ 100000000 → Run (f [.tok]) w fun v w' => v = .bl true ∧ WB w' (n + c)) :
    Turns (sSeq (sFor [] (iRg1 (aCons (dC (.int k)) aNil)) (gdN 2) [2] (sIf (bNot (dTru (dCall f [] (aCons (dVs 1) aNil)))) (sRet (dC (.bl false))) sNext)) (sRet (dC (.bl true)))) := by
  have loop : ∀ (ns : List Int) (w : Wd) (n : Int), WB w n → n + c * ns.length ≤ 100000000 → Run (forL (gdN 2) (sIf (bNot (dTru (dCall f [] (aCons (dVs 1) aNil)))) (sRet (dC (.bl false))) sNext) [2] (ns.map D.int) [none, some (false, .tok), none]) w fun fl _ => fl = .nx [none, some (false, .tok), none] := by
    intro ns
    induction ns with
    | nil => exact fun w n _ _ => run_pure rfl
    | cons m ns ih =>
      intro w n hw hb
      have e : n + c * ((m :: ns).length : Int) = n + c + c * ns.length := by
        rw [List.length_cons, Int.natCast_succ, Int.mul_add]; omega
      rw [e] at hb
      have p0 : 0 ≤ c * (ns.length : Int) := Int.mul_nonneg hc (by omega)
      rw [List.map_cons, ev_forC]
      simp only [ev_gdN, lift_some, pure_bind', ev_sIf, ev_bNot, ev_dTru, ev_dCall, ev_aCons, ev_aNil, List.set_cons_succ, List.set_cons_zero, ev_dVsS, ev_dVs0, bind_assoc', List.append_nil]
      refine run_bind (run_mono (h w n hw (by omega)) fun v w' ⟨e1, hw'⟩ => ?_)
      subst e1
      exact ih w' (n + c) hw' hb
  intro w hw
  have hl : (rgI 0 k.toNat).length = k.toNat := rgI_len 0 _
  have hm : c * (k.toNat : Int) ≤ 100000000 := by
    have : c * (k.toNat : Int) ≤ 10000000 * 10 := Int.mul_le_mul hc2 (by omega) (by omega) (by omega)
    omega
  obtain ⟨fl, w', h1, rfl⟩ := loop (rgI 0 k.toNat) w 0 hw (by rw [hl]; omega)
  refine ⟨w', ?_⟩
  simp only [ev_sSeq, ev_sFor, ev_iRg1, ev_aCons, ev_aNil, ev_dC, pure_bind', bind_assoc', ev_share0, ev_wipe, ev_wipe0, o_rg1 (show -4611686018427387904 ≤ k by omega) (show k < 4611686018427387904 by omega), lift_some, rgD_eq, List.set_cons_succ, List.set_cons_zero]
  rw [bind_run, h1]
  rfl
end Vw

namespace Vw
open PySem PySem.Spec PyProof.Rows L2

/-! ### xs[::k], xs a list -/
def stepIx (n : Nat) (k : Int) : List Nat := sliceRange (sliceBounds none none (some k) n).1 (sliceBounds none none (some k) n).2.1 (sliceBounds none none (some k) n).2.2
def pickL {α : Type} (xs : List α) (k : Int) : List α := (stepIx xs.length k).filterMap (xs[·]?)
theorem vals_pick {xs : List V} {us : List Value} (r : Vals xs us) : ∀ l : List Nat, Vals (l.filterMap (xs[·]?)) (l.filterMap (us[·]?))
  | [] => .nil
  | i :: l => by
    have ih := vals_pick r l
    cases hx : xs[i]? with
    | none =>
      have hu : us[i]? = none := by
        rw [List.getElem?_eq_none_iff] at hx ⊢
        rw [← r.length]; exact hx
      rw [List.filterMap_cons_none (by exact hx), List.filterMap_cons_none (by exact hu)]
      exact ih
    | some x =>
      obtain ⟨u, hu, ru⟩ := r.get hx
      rw [List.filterMap_cons_some (by exact hx), List.filterMap_cons_some (by exact hu)]
      exact .cons ru ih
theorem repL_pick {K mg} {aw : Addr} {U : Addr → Prop} {H : Hp} {xs : List V} {ds : List D} (r : RepL K mg aw U H xs ds) : ∀ l : List Nat, RepL K mg aw U H (l.filterMap (xs[·]?)) (l.filterMap (ds[·]?))
  | [] => .nil
  | i :: l => by
    have ih := repL_pick r l
    cases hx : ds[i]? with
    | none =>
      have hu : xs[i]? = none := by
        rw [List.getElem?_eq_none_iff] at hx ⊢
        rw [r.length]; exact hx
      rw [List.filterMap_cons_none (by exact hu), List.filterMap_cons_none (by exact hx)]
      exact ih
    | some x =>
      obtain ⟨u, hu, ru⟩ := r.get hx
      rw [List.filterMap_cons_some (by exact hu), List.filterMap_cons_some (by exact hx)]
      exact .cons ru ih
def tStepL (K : PySem.W.Frag) (te : TE) (ts : TO) : TE := fun σ H Q => te σ H fun x H1 => ts σ H1 fun o H2 => ∃ a xs k, o = some k ∧ k ≠ 0 ∧ x = .ref a ∧ SqL K H2 a xs ∧ (pickL xs k).length ≤ sizeLine ∧ ∀ p, H2 p = none → Q (.ref p) (upd H2 p (.lst (pickL xs k)))
section
variable {X : Cx} {aw : Addr} {pos p : Pos} {a b c e : Expr} {La Ca Lb Cb : List Nat} {da db : Sto → M D}
theorem pe_stepL {st : Option Expr} {te : TE} {ts : TO} {p3 : Pos} (he : PE X e te) (hst : PO X st ts) (hsub : ∀ o i, subscripted (.Slice none none st p3) false o i = operate [o, i] (getItem o i) := by intro _ _; rfl) : PE X (.Subscript e (.Slice none none st p3) pos) (tStepL X.K te ts) := by
  refine ⟨fun pins s σ H Q I h => ?_⟩
  refine Subscript_ (thn (he.run pins s σ H _ I h) fun v s1 ⟨x, H1, I1, r1, q1⟩ => ?_)
  refine wpAny_Slice (thn (po_none.run pins s1 σ H1 (fun o H2 => o = none ∧ H2 = H1) I1 ⟨rfl, rfl⟩) fun vl s2 ⟨l, H2, I2, pl, el, e2⟩ => ?_)
  subst el e2
  refine thn (po_none.run pins s2 σ H2 (fun o H3 => o = none ∧ H3 = H2) I2 ⟨rfl, rfl⟩) fun vu s3 ⟨u, H3, I3, pu, eu, e3⟩ => ?_
  subst eu e3
  refine thn (hst.run pins s3 σ H3 _ I3 q1) fun vs s4 ⟨o, H4, I4, ps, q4⟩ => ?_
  obtain ⟨a, xs, k, rfl, hk, rfl, hx, hz, q⟩ := q4
  cases r1
  have I5 : Inv X pins σ H4 { s4 with heap := s4.heap.push { cls := .type "slice", data := .fields #[vl, vu, vs] } } := I4.kept (t' := s4.toks) fun b ob q => Heap.get?_push_of_some _ q
  obtain ⟨its, r, ht, hz'⟩ := I5.list hx
  have hlen := r.length
  show wpAny (model X.prog X.w) X.A (subscriptTail e (.Slice none none st p3) (.ref a) (.ref s4.heap.objs.size)) (EP X pins σ Q) X.xe { s4 with heap := s4.heap.push { cls := .type "slice", data := .fields #[vl, vu, vs] } }
  refine tail_any (ops := [.ref a, .ref s4.heap.objs.size]) ht.isList.typeIs (PySem.slot_list_getitem.lookup) ?_ (hsub _ _)
  refine wpAny_getItem_list_slice ht.isList (Heap.IsSliceOf.new _ vl vu vs) pl pu ps (by simpa using hk) ?_ (by rw [List.size_toArray]; omega)
  have e9 : slicePick its.toArray none none (some k) = (pickL its k).toArray := by
    unfold slicePick pickL stepIx
    simp
  rw [e9]
  refine ⟨.ref _, _, I5.laid (t' := s4.toks) (o := .lst (pickL xs k)) (fun b ob q => Heap.get?_push_of_some _ q) (Nat.le_refl _) ?_, rfl, q _ (I5.hok.fresh (Nat.le_refl _))⟩
  refine ⟨hz, _, 0, ?_, Heap.get?_push_size _ rfl⟩
  unfold pickL
  rw [hlen]
  exact vals_pick r _
theorem stepIx_lt {n : Nat} {k : Int} (h : k ≠ 0) : (stepIx n k).length ≤ n := by
  unfold stepIx
  refine sliceRange_length_le _ _ _ n (fun hp => ?_) (fun hm => ?_)
  · unfold sliceBounds at hp ⊢
    simp only [Option.getD_some] at hp ⊢
    rw [if_pos hp, if_pos hp]
    omega
  · unfold sliceBounds at hm ⊢
    simp only [Option.getD_some] at hm ⊢
    rw [if_neg hm, if_neg hm]
    omega
theorem pickL_len {α : Type} {xs : List α} {k : Int} (h : k ≠ 0) : (pickL xs k).length ≤ xs.length := Nat.le_trans (List.length_filterMap_le _ _) (stepIx_lt h)
theorem pickL_mem {α : Type} {xs : List α} {k : Int} {x : α} (h : x ∈ pickL xs k) : x ∈ xs := by
  unfold pickL at h
  obtain ⟨i, _, hi⟩ := List.mem_filterMap.mp h
  exact List.mem_of_getElem? hi
def oStep : D → Option Int → Option D
  | .lst xs, some k => if k ≠ 0 ∧ xs.length ≤ lineN then some (.lst (pickL xs k)) else none
  | _, _ => none
def dStep (d : Sto → M D) (h : OD) : Sto → M D := fun ρ => d ρ >>= fun x => dO h ρ >>= fun j => lift (oStep x j)
theorem ve_step {st : Option Expr} {ds : OD} {p3 : Pos} (he : VE X aw e La Ca da) (hs : VO X aw st ds) (hsub : ∀ o i, subscripted (.Slice none none st p3) false o i = operate [o, i] (getItem o i) := by intro _ _; rfl) : VE X aw (.Subscript e (.Slice none none st p3) pos) Ca Ca (dStep da ds) :=
  ⟨PE.weak (pe_stepL he.1 hs hsub) fun σ H Q ⟨U, O, ρ, w, v0, w', S, h, k⟩ => by
    obtain ⟨x, w1, h1, h⟩ := bind_ok h
    obtain ⟨j, w3, h3, h⟩ := bind_ok h
    obtain ⟨h4, rfl⟩ := lift_ok h
    refine ⟨U, O, ρ, w, x, w1, S, h1, fun v1 H1 e1 r1 c1 => ?_⟩
    have S1 := S.ext e1 r1
    refine ⟨U, O, ρ, w1, j, _, S1, h3, fun H3 e3 r3 => ?_⟩
    have S3 := S1.ext e3 r3
    have c3 := (c1.ext e3 r1 S1.un S1.un).rd (Uc' := UO U O Ca) fun _ z => z
    unfold oStep at h4
    split at h4
    · split at h4
      · rename_i hk
        cases h4
        obtain ⟨p, xs, rfl, hp, rp⟩ := c3.inv_lst
        have ee := e1.trans e3
        refine ⟨p, xs, _, rfl, hk.1, rfl, SqL.of hp, ?_, fun q n => k _ _ (ee.trans (Ext.of_same (same_upd n))) (r3.same (same_upd n)) (new_lst S3.utr n ?_).c⟩
        · rw [← lineN_eq]
          refine Nat.le_trans (pickL_len hk.1) ?_
          rw [rp.length]; exact hk.2
        · unfold pickL
          rw [rp.length]
          exact repL_pick rp _
      · cases h4
    · exact (nomatch h4), fun _ z => z⟩
/-! ### x in xs: data of any depth, xs a list -/
def anyD (x : D) (ds : List D) : Bool := (toPs ds).any fun z => PyData.eqv z (toP x)
def oIn (x y : D) : Option D := match y with
  | .lst ds => if okE 64 x && okE 64 (.lst ds) then some (.bl (anyD x ds)) else none
  | _ => none
def oNotIn (x y : D) : Option D := match y with
  | .lst ds => if okE 64 x && okE 64 (.lst ds) then some (.bl (!anyD x ds)) else none
  | _ => none
theorem ok_in {K mg} : OpOk K mg aw (rInD K) oIn := fun U H x y a b v0 Q tr ra rb e k => by
  unfold oIn at e
  split at e
  · split at e
    · rename_i h
      rw [Bool.and_eq_true] at h
      cases e
      have z := rb.dp h.2
      simp only [toP] at z
      have sh := okE_shaped h.2
      simp only [toP] at sh
      exact ⟨_, _, ra.dp h.1, z, okE_shaped h.1, sh, k _ H (Same.refl H) (.bl _)⟩
    · cases e
  · cases e
theorem ok_notin {K mg} : OpOk K mg aw (rNotInD K) oNotIn := fun U H x y a b v0 Q tr ra rb e k => by
  unfold oNotIn at e
  split at e
  · split at e
    · rename_i h
      rw [Bool.and_eq_true] at h
      cases e
      have z := rb.dp h.2
      simp only [toP] at z
      have sh := okE_shaped h.2
      simp only [toP] at sh
      exact ⟨_, _, ra.dp h.1, z, okE_shaped h.1, sh, k _ H (Same.refl H) (.bl _)⟩
    · cases e
  · cases e
end
theorem room65 {A : Around} {k : Nat} (hr : Room k A) : A.units + 65 < cLine := by have := hr.un; omega
@[simp] theorem ev_dStep {ρ : Sto} {a : Sto → M D} {h : OD} : dStep a h ρ = a ρ >>= fun x => dO h ρ >>= fun j => lift (oStep x j) := rfl
theorem o_step {x : List D} {k : Int} (h : k ≠ 0) (h2 : x.length ≤ lineN) : oStep (.lst x) (some k) = some (.lst (pickL x k)) := if_pos ⟨h, h2⟩
section
variable {ρ : Sto} {d : D} {ds : List D} {g : D → Sto → Option Sto} {r : List D → Sto → Option Sto} {a : Sto → M D} {t : Sto → M Bool} {s : Sto → M Fl} {L kl : List Nat} {i n : Nat}
@[simp] theorem ev_gdNil : gdNil [] ρ = some ρ := rfl
@[simp] theorem ev_gdCons : gdCons g r (d :: ds) ρ = (g d ρ).bind (r ds) := rfl
@[simp] theorem ev_gdTup : gdTup n r (.tup ds) ρ = if ds.length = n then r ds ρ else none := rfl
@[simp] theorem ev_sUn {gd : D → Sto → Option Sto} : sUn L gd a ρ = a (share L ρ) >>= fun v => lift (gd v (share L ρ)) >>= fun ρ' => Pure.pure (.nx ρ') := rfl
@[simp] theorem ev_sExt : sExt L i a ρ = a (share L ρ) >>= fun v => lift (ownSeq v) >>= fun es => lift (ownL (share L ρ) i) >>= fun ds => if ds.length + es.length ≤ lineN then Pure.pure (.nx ((share L ρ).set i (some (true, .lst (ds ++ es))))) else M.bad := rfl
@[simp] theorem ev_sWhile : sWhile t kl s ρ = whileL t s kl manyTurns (wipeS ρ kl) := rfl
theorem ev_whS : whileL t s kl (n + 1) ρ = t ρ >>= fun k => if k then s ρ >>= turn kl (whileL t s kl n) else Pure.pure (.nx ρ) := rfl
@[simp] theorem ev_ownSeq : ownSeq (.lst ds) = some ds := rfl
@[simp] theorem ev_ownL0 {r : Sto} : ownL (some (true, .lst ds) :: r) 0 = some ds := rfl
@[simp] theorem ev_ownLS {x : Option (Bool × D)} {r : Sto} : ownL (x :: r) (i + 1) = ownL r i := rfl
end
theorem pickL_map {α β : Type} (f : α → β) (xs : List α) (k : Int) : pickL (xs.map f) k = (pickL xs k).map f := by
  unfold pickL
  rw [List.length_map, List.map_filterMap]
  congr 1
  funext i
  rw [List.getElem?_map]
theorem cutD_map {α β : Type} (f : α → β) (xs : List α) (lo hi : Option Int) : Vw.cutD (xs.map f) lo hi = (Vw.cutD xs lo hi).map f := by
  unfold Vw.cutD
  rw [List.length_map, List.map_take, List.map_drop]
theorem cutD_mem {α : Type} {xs : List α} {lo hi : Option Int} {x : α} (h : x ∈ Vw.cutD xs lo hi) : x ∈ xs := List.mem_of_mem_drop (List.mem_of_mem_take h)
theorem cutD_len {α : Type} (xs : List α) (lo hi : Option Int) : (Vw.cutD xs lo hi).length ≤ xs.length := by
  unfold Vw.cutD
  rw [List.length_take, List.length_drop]
  omega
/-- None among spans -/
theorem notin_non {ds : List D} (h : okEs 63 ds = true) : oNotIn .non (.lst ds) = some (.bl (!anyD .non ds)) := by
  unfold oNotIn
  simp [h]
end Vw

namespace Vw
open PySem PySem.Spec PyProof.Rows L2 HT

/-! ### t[::k], t a tuple -/
def adj (n : Nat) (k : Int) : Int × Int := Builtin.Slice.sliceAdjust none none k (n : Int)
def plc (n : Nat) (k : Int) : Nat := Builtin.Slice.slicePlaces (adj n k).1 (adj n k).2 k
def stepIxT (n : Nat) (k : Int) : List Nat := (List.range (plc n k)).map fun m : Nat => ((adj n k).1 + (m : Int) * k).toNat
def pickT {α : Type} (xs : List α) (k : Int) : List α := (stepIxT xs.length k).filterMap (xs[·]?)
section
variable {prog : Program} {wo : World} {Ar : Around} {Ex : Value → Shared → Prop} {s : Shared}
theorem applied_k {sl : Addr} {vl vu vs : Value} {k : Int} {n : Nat} {Q : Int × Int × Nat → Shared → Prop} (hs : s.heap.IsSliceOf sl vl vu vs) (pl : IsPart vl none) (pu : IsPart vu none) (pv : IsPart vs (some k)) (hk : k ≠ 0) (h : Q ((adj n k).1, k, plc n k) s) :
    wpAny (model prog wo) Ar (Builtin.Slice.sliceApplied (.ref sl) (pure (n : Int))) Q Ex s := by
  obtain ⟨os, ho, hc, hd⟩ := id hs
  unfold Builtin.Slice.sliceApplied
  unfold Builtin.Slice.sliceFields
  refine wpAny_bind (wpAny_bind (wpAny_field ho hd (x := vl) rfl (wpAny_bind (wpAny_field ho hd (x := vu) rfl (wpAny_bind (wpAny_field ho hd (x := vs) rfl (wpAny_pure ?_)))))))
  refine wpAny_bind (slicePart_ pv ?_)
  show wpAny _ _ (if (k == 0) = true then _ else _) _ _ s
  rw [if_neg (fun z => hk (eq_of_beq z))]
  refine wpAny_bind (slicePart_ pl (wpAny_bind (slicePart_ pu ?_)))
  exact wpAny_bind (wpAny_pure (wpAny_pure h))
theorem get_tup_k {t sl : Addr} {items : Array Value} {vl vu vs : Value} {k : Int} {Q : Value → Shared → Prop} (ht : IsTup s.heap t items) (hs : s.heap.IsSliceOf sl vl vu vs) (pl : IsPart vl none) (pu : IsPart vu none) (pv : IsPart vs (some k)) (hk : k ≠ 0)
    (hz : (pickT items.toList k).length ≤ sizeLine) (h0 : k = 1 ∧ (adj items.size k).1 = 0 ∧ plc items.size k = items.size → Q (.ref t) s) (h1 : Q (.ref s.heap.objs.size) { s with heap := s.heap.push { cls := .type "tuple", data := .seq (pickT items.toList k).toArray } }) :
    wpAny (model prog wo) Ar (getItem (.ref t) (.ref sl)) Q Ex s := by
  obtain ⟨os, ho, hc, hd⟩ := id hs
  have tys : s.TypeIs (.ref sl) "slice" := ⟨os, ho, hc⟩
  have e9 : ((List.range (plc items.size k)).filterMap fun m : Nat => items[((adj items.size k).1 + (m : Int) * k).toNat]?).toArray = (pickT items.toList k).toArray := by
    unfold pickT stepIxT
    rw [List.filterMap_map, Array.length_toList]
    congr 2
    funext m
    show _ = items.toList[_]?
    rw [Array.getElem?_toList]
  unfold getItem
  try with_reducible (refine wpAny_holding ?_)
  first | (refine wpAny_bind (wpAny_pure ?_)) | skip
  refine wpAny_bind (wpAny_sequenceKey ht.typeIs (by decide) (wpAny_bind (wpAny_callSpecial?_slot (name := Str.ofString "__getitem__") ht.typeIs PyProof.Rows.slot_tuple_getitem (wpAny_call_entry PyProof.Rows.slot_tuple_getitem ht.typeIs entry_tuple_getitem ?_ (args_tuple_getitem _ _)))))
  show wpAny _ _ (Builtin.Tuple.tupleItemsOf (.ref t) >>= _) _ _ s
  refine wpAny_bind (tupleItemsOf_ ht (wpAny_bind (wpAny_typeOf tys ?_)))
  rw [if_pos (by decide)]
  refine wpAny_bind (applied_k hs pl pu pv hk ?_)
  show wpAny _ _ (if ((adj items.size k).1 == 0 && k == 1 && plc items.size k == items.size) = true then _ else _) _ _ s
  have hsz : sizeOk (.seq (pickT items.toList k).toArray) := by
    show (pickT items.toList k).toArray.size ≤ sizeLine
    rw [List.size_toArray]
    exact hz
  by_cases hw : ((adj items.size k).1 == 0 && k == 1 && plc items.size k == items.size) = true
  · rw [if_pos hw]
    rw [Bool.and_eq_true, Bool.and_eq_true] at hw
    have q := h0 ⟨eq_of_beq hw.1.2, eq_of_beq hw.1.1, eq_of_beq hw.2⟩
    refine wpAny_bind ?_
    show wpAny _ _ (typeOf (.ref t) >>= fun T => pure (T == .type "tuple")) _ _ s
    refine wpAny_bind (wpAny_typeOf ht.typeIs (wpAny_pure ?_))
    first | rw [if_pos (by decide)] | simp only [beq_self_eq_true, if_true]
    first
      | exact wpAny_bind (wpAny_rule (wpAny_pure ⟨_, rfl, wpAny_pure q⟩))
      | exact wpAny_bind (wpAny_rule (wpAny_bind (wpAny_pure (wpAny_pure ⟨_, rfl, wpAny_pure q⟩))))
  · rw [if_neg hw, e9]
    first
      | exact wpAny_bind (m := Builtin.Tuple.tupleExact _) (wpAny_newObj_type (wpAny_pure ⟨_, rfl, wpAny_pure h1⟩) hsz)
      | exact wpAny_bind (m := Builtin.Tuple.tupleExact _) (wpAny_newObj_type (wpAny_bind (wpAny_pure (wpAny_pure ⟨_, rfl, wpAny_pure h1⟩))) hsz)
      | exact wpAny_bind (wpAny_bind (m := Builtin.Tuple.tupleExact _) (wpAny_newObj_type (wpAny_pure (wpAny_pure ⟨_, rfl, wpAny_pure h1⟩)) hsz))
      | exact wpAny_bind (wpAny_bind (m := Builtin.Tuple.tupleExact _) (wpAny_newObj_type (wpAny_pure ⟨_, rfl, wpAny_pure h1⟩) hsz))
end
/-- the whole of a tuple by steps of one -/
theorem pick_whole {α : Type} {xs : List α} (h : (adj xs.length 1).1 = 0 ∧ plc xs.length 1 = xs.length) : pickT xs 1 = xs := by
  unfold pickT stepIxT
  rw [h.1, h.2, List.filterMap_map]
  have : ((fun x : Nat => xs[x]?) ∘ fun m : Nat => ((0 : Int) + (m : Int) * 1).toNat) = fun m => xs[m]? := by
    funext m
    show xs[((0 : Int) + (m : Int) * 1).toNat]? = xs[m]?
    congr 1
    omega
  rw [this]
  clear this h
  induction xs with
  | nil => rfl
  | cons x xs ih =>
    rw [List.length_cons, List.range_succ_eq_map]
    refine Eq.trans (List.filterMap_cons_some (b := x) rfl) ?_
    rw [List.filterMap_map]
    exact congrArg (x :: ·) ih
theorem pickT_mem {α : Type} {xs : List α} {k : Int} {x : α} (h : x ∈ pickT xs k) : x ∈ xs := by
  unfold pickT at h
  obtain ⟨i, _, hi⟩ := List.mem_filterMap.mp h
  exact List.mem_of_getElem? hi
theorem pickT_map {α β : Type} (f : α → β) (xs : List α) (k : Int) : pickT (xs.map f) k = (pickT xs k).map f := by
  unfold pickT
  rw [List.length_map, List.map_filterMap]
  congr 1
  funext i
  rw [List.getElem?_map]
theorem pickT_pos {α : Type} {xs : List α} {k : Int} (h : 1 ≤ k) : (pickT xs k).length ≤ xs.length := by
  unfold pickT
  refine Nat.le_trans (List.length_filterMap_le _ _) ?_
  unfold stepIxT plc adj Builtin.Slice.sliceAdjust Builtin.Slice.slicePlaces
  rw [List.length_map, List.length_range]
  simp only [show ¬ (k < 0) by omega, if_false, show k > 0 by omega, if_true]
  split
  · have := Int.ediv_le_self k (show 0 ≤ (xs.length : Int) - 0 - 1 by omega)
    omega
  · omega
def tStepT (K : PySem.W.Frag) (te : TE) (ts : TO) : TE := fun σ H Q => te σ H fun x H1 => ts σ H1 fun o H2 => ∃ a xs k, o = some k ∧ k ≠ 0 ∧ x = .ref a ∧ SqT K H2 a xs ∧ (pickT xs k).length ≤ sizeLine ∧ (pickT xs k = xs → Q (.ref a) H2) ∧ ∀ p, H2 p = none → Q (.ref p) (upd H2 p (.tup (pickT xs k)))
section
variable {X : Cx} {aw : Addr} {pos p : Pos} {a b c e : Expr} {La Ca Lb Cb : List Nat} {da db : Sto → M D}
/-- e[::k], a list or a tuple -/
theorem pe_step {st : Option Expr} {te : TE} {ts : TO} {p3 : Pos} (he : PE X e te) (hst : PO X st ts) (hsub : ∀ o i, subscripted (.Slice none none st p3) false o i = operate [o, i] (getItem o i) := by intro _ _; rfl) :
    PE X (.Subscript e (.Slice none none st p3) pos) (fun σ H Q => tStepL X.K te ts σ H Q ∨ tStepT X.K te ts σ H Q) := by
  refine ⟨fun pins s σ H Q I h => ?_⟩
  rcases h with h | h
  · exact (pe_stepL he hst hsub).run pins s σ H Q I h
  refine Subscript_ (thn (he.run pins s σ H _ I h) fun v s1 z1 => ?_)
  obtain ⟨x, H1, I1, r1, q1⟩ := z1
  refine wpAny_Slice (thn (po_none.run pins s1 σ H1 (fun o J => o = none ∧ J = H1) I1 ⟨rfl, rfl⟩) fun vl s2 z2 => ?_)
  obtain ⟨l, H2, I2, pl, el, e2⟩ := z2
  subst el
  subst e2
  refine thn (po_none.run pins s2 σ H2 (fun o J => o = none ∧ J = H2) I2 ⟨rfl, rfl⟩) fun vu s3 z3 => ?_
  obtain ⟨u, H3, I3, pu, eu, e3⟩ := z3
  subst eu
  subst e3
  refine thn (hst.run pins s3 σ H3 _ I3 q1) fun vs s4 z4 => ?_
  obtain ⟨o, H4, I4, pv, y, xs, k, rfl, hk, rfl, hx, hz, qa, qb⟩ := z4
  cases r1
  have I5 : Inv X pins σ H4 { s4 with heap := s4.heap.push { cls := .type "slice", data := .fields #[vl, vu, vs] } } := I4.kept (t' := s4.toks) fun b ob q => Heap.get?_push_of_some _ q
  obtain ⟨its, r, ht, hz2⟩ := I5.tuple hx
  have hlen := r.length
  show wpAny (model X.prog X.w) X.A (subscriptTail e (.Slice none none st p3) (.ref y) (.ref s4.heap.objs.size)) (EP X pins σ Q) X.xe { s4 with heap := s4.heap.push { cls := .type "slice", data := .fields #[vl, vu, vs] } }
  refine tail_any (ops := [.ref y, .ref s4.heap.objs.size]) ht.typeIs (PyProof.Rows.slot_tuple_getitem.lookup) ?_ (hsub _ _)
  have vp : Vals (pickT xs k) (pickT its k) := by
    unfold pickT
    rw [hlen]
    exact vals_pick r _
  have e5 : its.toArray.toList = its := by simp
  refine get_tup_k ht (Heap.IsSliceOf.new _ vl vu vs) pl pu pv hk (by rw [e5, ← vp.length]; exact hz) (fun ⟨k1, w1, w2⟩ => ?_) ?_
  · refine ⟨.ref y, H4, I5, rfl, qa ?_⟩
    subst k1
    rw [List.size_toArray, ← hlen] at w1 w2
    exact pick_whole ⟨w1, w2⟩
  · rw [e5]
    refine ⟨.ref _, _, I5.laid (t' := s4.toks) (o := .tup (pickT xs k)) (fun b ob q => Heap.get?_push_of_some _ q) (Nat.le_refl _) ?_, rfl, qb _ (I5.hok.fresh (Nat.le_refl _))⟩
    exact ⟨hz, _, vp, ⟨_, Heap.get?_push_size _ rfl, rfl, _, rfl⟩⟩
def oSt : D → Option Int → Option D
  | .lst xs, some k => if k ≠ 0 ∧ xs.length ≤ lineN then some (.lst (pickL xs k)) else none
  | .tup xs, some k => if k ≠ 0 ∧ (pickT xs k).length ≤ lineN then some (.tup (pickT xs k)) else none
  | _, _ => none
def dSt (d : Sto → M D) (h : OD) : Sto → M D := fun ρ => d ρ >>= fun x => dO h ρ >>= fun j => lift (oSt x j)
theorem ve_st {st : Option Expr} {ds : OD} {p3 : Pos} (he : VE X aw e La Ca da) (hs : VO X aw st ds) (hsub : ∀ o i, subscripted (.Slice none none st p3) false o i = operate [o, i] (getItem o i) := by intro _ _; rfl) : VE X aw (.Subscript e (.Slice none none st p3) pos) Ca Ca (dSt da ds) :=
  ⟨PE.weak (pe_step he.1 hs hsub) fun σ H Q ⟨U, O, ρ, w, v0, w', S, h, k⟩ => by
    obtain ⟨x, w1, h1, h⟩ := bind_ok h
    obtain ⟨j, w3, h3, h⟩ := bind_ok h
    obtain ⟨h4, rfl⟩ := lift_ok h
    unfold oSt at h4
    split at h4
    · refine .inl ⟨U, O, ρ, w, _, w1, S, h1, fun v1 H1 e1 r1 c1 => ?_⟩
      have S1 := S.ext e1 r1
      refine ⟨U, O, ρ, w1, _, _, S1, h3, fun H3 e3 r3 => ?_⟩
      have S3 := S1.ext e3 r3
      have c3 := (c1.ext e3 r1 S1.un S1.un).rd (Uc' := UO U O Ca) fun _ z => z
      split at h4
      · rename_i hk
        cases h4
        obtain ⟨p, xs, rfl, hp, rp⟩ := c3.inv_lst
        have ee := e1.trans e3
        refine ⟨p, xs, _, rfl, hk.1, rfl, SqL.of hp, ?_, fun q n => k _ _ (ee.trans (Ext.of_same (same_upd n))) (r3.same (same_upd n)) (new_lst S3.utr n ?_).c⟩
        · rw [← lineN_eq]
          refine Nat.le_trans (pickL_len hk.1) ?_
          rw [rp.length]; exact hk.2
        · unfold pickL
          rw [rp.length]
          exact repL_pick rp _
      · cases h4
    · refine .inr ⟨U, O, ρ, w, _, w1, S, h1, fun v1 H1 e1 r1 c1 => ?_⟩
      have S1 := S.ext e1 r1
      refine ⟨U, O, ρ, w1, _, _, S1, h3, fun H3 e3 r3 => ?_⟩
      have S3 := S1.ext e3 r3
      have c3 := (c1.ext e3 r1 S1.un S1.un).rd (Uc' := UO U O Ca) fun _ z => z
      split at h4
      · rename_i zs kk _ hk
        cases h4
        obtain ⟨p, xs, rfl, hp, rp⟩ := c3.inv_tup
        have ee := e1.trans e3
        have rr : RepL X.K X.mg aw (UO U O Ca) H3 (pickT xs kk) (pickT zs kk) := by
          unfold pickT
          rw [rp.length]
          exact repL_pick rp _
        refine ⟨p, xs, _, rfl, hk.1, rfl, hp.sq, ?_, fun z => ?_, fun q n => k _ _ (ee.trans (Ext.of_same (same_upd n))) (r3.same (same_upd n)) (new_tup n rr).c⟩
        · rw [← lineN_eq, rr.length]
          exact hk.2
        · rw [z] at rr
          exact k _ H3 ee r3 (Rep.c (.tup hp rr))
      · cases h4
    · exact (nomatch h4), fun _ z => z⟩
@[simp] theorem ev_dSt {ρ : Sto} {a : Sto → M D} {h : OD} : dSt a h ρ = a ρ >>= fun x => dO h ρ >>= fun j => lift (oSt x j) := rfl
theorem o_stT {x : List D} {k : Int} (h : k ≠ 0) (h2 : (pickT x k).length ≤ lineN) : oSt (.tup x) (some k) = some (.tup (pickT x k)) := if_pos ⟨h, h2⟩
theorem o_stL {x : List D} {k : Int} (h : k ≠ 0) (h2 : x.length ≤ lineN) : oSt (.lst x) (some k) = some (.lst (pickL x k)) := if_pos ⟨h, h2⟩
end
end Vw

namespace Vw
open PySem PySem.Spec PyProof.Rows L2

/-! ### x op= e, x a name that is not one's own thing -/
def sAug (L : List Nat) (i : Nat) (g : D → D → Option D) (d : Sto → M D) : Sto → M Fl := fun ρ => dVs i (share L ρ) >>= fun x => d (share L ρ) >>= fun y => lift (g x y) >>= fun z => Pure.pure (.nx ((share L ρ).set i (some (false, z))))
section
variable {X : Cx} {aw : Addr} {pos : Pos} {a b c e tg : Expr} {La Ca Lb Cb L : List Nat} {da db : Sto → M D}
theorem vs_aug {i : Nat} {x : Str} {pos' : Pos} {op : Operator} {r : R2} {g : D → D → Option D} (hN : X.N.Nodup) (hi : X.N[i]? = some x) (hx : Loc X.env.scope x) (ho : OpR X (inplaceOp op) r) (ok : OpOk X.K X.mg aw r g) (ha : VE X aw e La Ca da) (hf : X.fn x = true ∨ X.env.scope.names.lookup x = some .local := by first | exact .inl rfl | exact .inr rfl | assumption) :
    VS X aw (.AugAssign (.Name x pos') op e pos) (sAug La i g da) := PS.weak (ps_aug hN hi hx ha.1 ho hf) fun D σ H ⟨U, H0, O, ρ, w, fl, w', S, h, k⟩ => by
  obtain ⟨x0, w1, g1, h⟩ := bind_ok h
  obtain ⟨y0, w2, g2, h⟩ := bind_ok h
  obtain ⟨z0, w3, g3, h⟩ := bind_ok h
  obtain ⟨g3', rfl⟩ := lift_ok g3
  obtain ⟨rfl, rfl⟩ := pure_ok h
  have S' := S.share La
  have hρ : (Vw.share La ρ)[i]? = some (some (false, x0)) ∧ w = w1 := by
    unfold dVs at g1
    cases e : (Vw.share La ρ)[i]? with
    | none => rw [e] at g1; cases g1
    | some z =>
      rw [e] at g1
      cases z with
      | none => cases g1
      | some z =>
        obtain ⟨b, d⟩ := z
        cases b with
        | false =>
          obtain ⟨rfl, rfl⟩ := pure_ok g1
          exact ⟨rfl, rfl⟩
        | true => cases g1
  obtain ⟨hρ, rfl⟩ := hρ
  obtain ⟨v, hv, rv⟩ := S'.s.sh i _ hρ
  refine ⟨v, hv, U, _, _, w, y0, _, S'.s, g2, fun y H1 e1 r1 c1 => ?_⟩
  have S1 := S'.ext e1 r1
  obtain ⟨v', hv', rv'⟩ := S1.s.sh i _ hρ
  rw [hv] at hv'
  cases hv'
  refine ok (UO U (offO O La) []) H1 v y x0 y0 z0 _ S1.s.utr rv'.cr (RepC.rd (c1.weak (off_all fun _ z => z) (off_all ha.2)).c fun _ z => z) g3' fun z H2 sm rz => ?_
  have S2 := S1.ext (Ext.of_same sm) (r1.same sm)
  exact k _ H2 _ ⟨S2.s.setSh rz, S2.e, S2.f⟩ (Stp.off.trans (S'.stp (e1.trans (Ext.of_same sm)) (r1.same sm)))
theorem iop_addS : OpR X (inplaceOp .Add) (fun x y H Q => rI0 (fun i j => .int (i + j)) x y H Q ∨ ∃ i j, x = .str i ∧ y = .str j ∧ i.length + j.length ≤ sizeLine ∧ Q (.str (i ++ j)) H) := iop_add.or iop_add_str
def oIAdd : D → D → Option D
  | .int i, .int j => some (.int (i + j))
  | .str x, .str y => if x.length + y.length ≤ lineN then some (.str (x ++ y)) else none
  | _, _ => none
theorem ok_iadd {K mg} : OpOk K mg aw (fun x y H Q => rI0 (fun i j => .int (i + j)) x y H Q ∨ ∃ i j, x = .str i ∧ y = .str j ∧ i.length + j.length ≤ sizeLine ∧ Q (.str (i ++ j)) H) oIAdd := fun U H x y a b v0 Q tr ra rb e k => by
  unfold oIAdd at e
  split at e
  · cases e
    cases ra.inv_int
    cases rb.inv_int
    exact .inl ⟨_, _, rfl, rfl, k _ H (Same.refl H) (.int _)⟩
  · split at e
    · rename_i hl
      cases e
      cases ra.inv_str
      cases rb.inv_str
      exact .inr ⟨_, _, rfl, rfl, lineN_eq ▸ hl, k _ H (Same.refl H) (.str _)⟩
    · cases e
  · cases e
def oISub : D → D → Option D := oSub
theorem ok_isub {K mg} : OpOk K mg aw (rI0 fun i j => .int (i - j)) oSub := ok_sub
def oIMul : D → D → Option D
  | .int i, .int j => if (-18446744073709551616 < i ∧ i < 18446744073709551616) ∨ (-18446744073709551616 < j ∧ j < 18446744073709551616) then some (.int (i * j)) else none
  | _, _ => none
theorem ok_imul {K mg} : OpOk K mg aw (rI CMul fun i j => .int (i * j)) oIMul := fun U H x y a b v0 Q tr ra rb e k => by
  unfold oIMul at e
  split at e
  · split at e
    · rename_i h
      cases e
      cases ra.inv_int
      cases rb.inv_int
      exact ⟨_, _, rfl, rfl, h, k _ H (Same.refl H) (.int _)⟩
    · cases e
  · cases e
def oIDiv : D → D → Option D
  | .int i, .int j => if 0 < j ∧ j < 1073741824 then some (.int (i / j)) else none
  | _, _ => none
theorem ok_idiv {K mg} : OpOk K mg aw (rI CDiv fun i j => .int (i / j)) oIDiv := fun U H x y a b v0 Q tr ra rb e k => by
  unfold oIDiv at e
  split at e
  · split at e
    · rename_i h
      cases e
      cases ra.inv_int
      cases rb.inv_int
      exact ⟨_, _, rfl, rfl, h, k _ H (Same.refl H) (.int _)⟩
    · cases e
  · cases e
@[simp] theorem ev_sAug {L : List Nat} {i : Nat} {g : D → D → Option D} {d : Sto → M D} {ρ : Sto} : sAug L i g d ρ = dVs i (share L ρ) >>= fun x => d (share L ρ) >>= fun y => lift (g x y) >>= fun z => Pure.pure (.nx ((share L ρ).set i (some (false, z)))) := rfl
@[simp] theorem o_iaddI {i j : Int} : oIAdd (.int i) (.int j) = some (.int (i + j)) := rfl
/-! ### x[k] = e, x a list of the frame's own -/
def sPut (L : List Nat) (i : Nat) (dk dv : Sto → M D) : Sto → M Fl := fun ρ => dv (share L ρ) >>= fun v => dk (share L ρ) >>= asN >>= fun k => lift (ownL (share L ρ) i) >>= fun ds => lift (ixN ds.length k) >>= fun j => Pure.pure (.nx ((share L ρ).set i (some (true, .lst (ds.set j v)))))
theorem vs_put {i : Nat} {x : Str} {p1 tpos : Pos} (ho : PE X (.Name x p1) (tVar i)) (hk : VE X aw b Lb Cb db) (he : VE X aw e La Ca da)
    (hset : ∀ v, assign (.Subscript (.Name x p1) b tpos) X.env v = (do
      let ov ← holding [v] (eval (.Name x p1) X.env)
      let iv ← holding [v, ov] (eval b X.env)
      standAt tpos
      holding [v, ov, iv] (setItem ov iv v)
      release [v, ov, iv] []) := by intro _; rfl)
    (hs : swapsWithSole [.Subscript (.Name x p1) b tpos] e pos.line X.env = pure false := by rfl) (hw : swappedStores [.Subscript (.Name x p1) b tpos] e X.env = pure none := by rfl)
    (h1 : (assignEach [.Subscript (.Name x p1) b tpos] X.env).map (·.2) = [assign (.Subscript (.Name x p1) b tpos) X.env] := by rfl) : VS X aw (.Assign [.Subscript (.Name x p1) b tpos] e pos) (sPut La i db da) :=
  PS.weak (ps_asg he.1 (pg_sub ho hk.1 set_list hset) hs hw h1) fun D σ H ⟨U, H0, O, ρ, w, fl, w', S, h, q⟩ => by
    obtain ⟨v, w1, g1, h⟩ := bind_ok h
    obtain ⟨k, w2, g2, h⟩ := bind_ok h
    obtain ⟨dk, w3, g3, g4⟩ := bind_ok g2
    obtain ⟨rfl, rfl⟩ := asN_ok g4
    obtain ⟨ds, w4, g5, h⟩ := bind_ok h
    obtain ⟨g5', rfl⟩ := lift_ok g5
    obtain ⟨j, w5, g6, h⟩ := bind_ok h
    obtain ⟨g6', rfl⟩ := lift_ok g6
    obtain ⟨rfl, rfl⟩ := pure_ok h
    have S' := S.share La
    have hρ := ownL_eq g5'
    refine ⟨U, _, _, w, v, _, S'.s, g1, fun y H1 e1 r1 c1 => ?_⟩
    have S1 := S'.ext e1 r1
    obtain ⟨p, z1, z2, z3⟩ := S1.s.own i _ hρ
    refine ⟨_, z1, U, _, _, w1, _, _, S1.s, g3, fun y2 H2 e2 r2 c2 => ?_⟩
    have S2 := S1.ext e2 r2
    cases c2.inv_int
    obtain ⟨p', y1, y2, y3⟩ := S2.s.own i _ hρ
    rw [z1] at y1
    cases y1
    cases y3 with
    | lst hp rp =>
      rename_i xs
      have ry : Rep X.K X.mg aw (UO U (offO O La) []) H2 y v := ((c1.weak (off_all fun _ z => z) (off_all he.2)).c.ext e2 r1 S1.s.un S1.s.un).all
      exact ⟨p, xs, k, j, rfl, rfl, hp, by rw [rp.length]; exact g6', q σ _ _ (S2.grow z1 y2 hp (RepL.set ry j rp)) ((Stp.off.trans (S'.stp (e1.trans e2) r2)).trans (Stp.grow y2 hp trivial))⟩
@[simp] theorem ev_sPut {L : List Nat} {i : Nat} {dk dv : Sto → M D} {ρ : Sto} : sPut L i dk dv ρ = dv (share L ρ) >>= fun v => dk (share L ρ) >>= asN >>= fun k => lift (ownL (share L ρ) i) >>= fun ds => lift (ixN ds.length k) >>= fun j => Pure.pure (.nx ((share L ρ).set i (some (true, .lst (ds.set j v))))) := rfl
theorem get_own : PGet X (rIxL X.K) := by
  intro pins s σ H x y v u Q I rx ry h
  obtain ⟨p, xs, i, z, rfl, rfl, hq, he, q⟩ := h
  cases rx
  obtain ⟨t, rfl⟩ := ry
  obtain ⟨its, r, pl, hz⟩ := I.list hq
  obtain ⟨j, h1, h2, h3, h4, h5⟩ := atI_get he
  obtain ⟨w0, ew, rw0⟩ := r.get h2
  have hl : xs.length = its.length := r.length
  have big := line63
  have fin : EP X pins σ Q w0 s := ⟨z, H, I, rw0, q⟩
  by_cases h0 : 0 ≤ i
  · have hj : i.toNat = j := Option.some.inj ((seqIndex_of h0 h5).symm.trans h1)
    exact wpAny_getItem_list pl.isList h0 (by omega) (by rw [hj]; simpa using ew) fin
  · have hj : (i + (its.toArray.size : Int)).toNat = j := by
      rw [List.size_toArray, ← hl]
      exact Option.some.inj ((seqIndex_neg (by omega) h4).symm.trans h1)
    exact wpAny_getItem_list_neg pl.isList (by omega) (by rw [List.size_toArray]; omega) (by omega) (by rw [hj]; simpa using ew) fin
/-- x[k] op= e, x a list of the frame's own -/
def sPutA (i : Nat) (g : D → D → Option D) (dk dv : Sto → M D) : Sto → M Fl := fun ρ => dk ρ >>= asN >>= fun k => lift (ownL ρ i) >>= fun ds => lift (atI ds k) >>= fun x => dv ρ >>= fun y => lift (g x y) >>= fun z => lift (ixN ds.length k) >>= fun j => Pure.pure (.nx (ρ.set i (some (true, .lst (ds.set j z)))))
theorem vs_putA {i : Nat} {x : Str} {p1 tpos : Pos} {op : Operator} {r : R2} {g : D → D → Option D} (ho : PE X (.Name x p1) (tVar i)) (hk : VE X aw b Lb [] db) (he : VE X aw e La [] da) (hop : OpR X (inplaceOp op) r) (ok : OpOk X.K X.mg aw r g)
    (haug : ∀ ov iv new, augStore b ov iv new = (do holding [new, ov, iv] (setItem ov iv new); release [new, ov, iv] []; pure .next) := by intros; rfl) : VS X aw (.AugAssign (.Subscript (.Name x p1) b tpos) op e pos) (sPutA i g db da) :=
  PS.weak (ps_augS ho hk.1 get_own he.1 hop set_list haug) fun D σ H ⟨U, H0, O, ρ, w, fl, w', S, h, q⟩ => by
    obtain ⟨k, w2, g2, h⟩ := bind_ok h
    obtain ⟨dk, w3, g3, g4⟩ := bind_ok g2
    obtain ⟨rfl, rfl⟩ := asN_ok g4
    obtain ⟨ds, w4, g5, h⟩ := bind_ok h
    obtain ⟨g5', rfl⟩ := lift_ok g5
    obtain ⟨x0, w5, g7, h⟩ := bind_ok h
    obtain ⟨g7', rfl⟩ := lift_ok g7
    obtain ⟨y0, w6, g8, h⟩ := bind_ok h
    obtain ⟨z0, w7, g9, h⟩ := bind_ok h
    obtain ⟨g9', rfl⟩ := lift_ok g9
    obtain ⟨j, w8, g6, h⟩ := bind_ok h
    obtain ⟨g6', rfl⟩ := lift_ok g6
    obtain ⟨rfl, rfl⟩ := pure_ok h
    have hρ := ownL_eq g5'
    obtain ⟨p0, z1, _, _⟩ := S.s.own i _ hρ
    refine ⟨_, z1, U, _, _, w, _, _, S.s, g3, fun y2 H2 e2 r2 c2 => ?_⟩
    have S2 := S.ext e2 r2
    cases c2.inv_int
    obtain ⟨p, y1, y2, y3⟩ := S2.s.own i _ hρ
    rw [z1] at y1
    cases y1
    cases y3 with
    | lst hp rp =>
      rename_i xs
      obtain ⟨jj, hj1, hj2⟩ : ∃ jj, ixN ds.length k = some jj ∧ ds[jj]? = some x0 := by
        unfold atI at g7'
        cases e : ixN ds.length k with
        | none => rw [e] at g7'; cases g7'
        | some jj => rw [e] at g7'; exact ⟨jj, rfl, g7'⟩
      rw [hj1] at g6'
      cases g6'
      obtain ⟨v0, hv0, rv0⟩ := rp.get hj2
      refine ⟨_, xs, k, v0, rfl, rfl, SqL.of hp, ?_, ?_⟩
      · unfold atI
        rw [rp.length, hj1]
        exact hv0
      · refine ⟨U, _, _, _, y0, _, S2.s, g8, fun v3 H3 e3 r3 c3 => ?_⟩
        have S3 := S2.ext e3 r3
        obtain ⟨p', q1, q2, q3⟩ := S3.s.own i _ hρ
        rw [z1] at q1
        cases q1
        have rv3 : Rep X.K X.mg aw (UO U O []) H3 v0 x0 := rv0.keep (e3.pres S2.s.un S2.s.wld) fun _ z => z
        refine ok (UO U O []) H3 v0 v3 x0 y0 z0 _ S3.s.utr rv3.cr (RepC.rd c3 fun _ z => z) g9' fun z H4 sm rz => ?_
        have S4 := S3.ext (Ext.of_same sm) (r3.same sm)
        obtain ⟨p4, u1, u2, u3⟩ := S4.s.own i _ hρ
        rw [z1] at u1
        cases u1
        cases u3 with
        | lst hp4 rp4 =>
          exact ⟨_, _, k, j, rfl, rfl, hp4, by rw [rp4.length]; exact hj1, q σ _ _ (S4.grow z1 u2 hp4 (RepL.set rz j rp4)) ((S.stp ((e2.trans e3).trans (Ext.of_same sm)) (r3.same sm)).trans (Stp.grow u2 hp4 trivial))⟩
@[simp] theorem ev_sPutA {i : Nat} {g : D → D → Option D} {dk dv : Sto → M D} {ρ : Sto} : sPutA i g dk dv ρ = dk ρ >>= asN >>= fun k => lift (ownL ρ i) >>= fun ds => lift (atI ds k) >>= fun x => dv ρ >>= fun y => lift (g x y) >>= fun z => lift (ixN ds.length k) >>= fun j => Pure.pure (.nx (ρ.set i (some (true, .lst (ds.set j z))))) := rfl
end
end Vw

namespace Vw
open PySem PySem.Spec PyProof.Rows L2

/-! ### enumerate(xs), xs a list -/
def enD (xs : List D) : List D := xs.mapIdx fun i x => .tup [.int (i : Nat), x]
theorem enD_length (xs : List D) : (enD xs).length = xs.length := by simp [enD]
theorem enD_get {xs : List D} {i : Nat} {x : D} (h : xs[i]? = some x) : (enD xs)[i]? = some (.tup [.int (i : Nat), x]) := by
  unfold enD
  rw [List.getElem?_mapIdx, h]
  rfl
section
variable {K : PySem.W.Frag} {mg : Str → Option Value} {aw : Addr} {P U : Addr → Prop} {H : Hp} {a : Addr} {xs : List V} {ds : List D}
theorem wk_enum (u : ∀ a, P a → U a) (h : H a = some (.lst xs)) (n : ¬ P a) (r : RepL K mg aw U H xs ds) : Wk K mg aw P U (Ite K a) H (enD ds) := by
  have w := walk_enum (K := K) (a := a) (xs := xs)
  have g : ∀ H', Pres P H H' → SqL K H' a xs := fun H' p => SqL.of (p _ _ h fun z => absurd z n)
  have el : xs.length = (enD ds).length := by rw [enD_length, r.length]
  rw [el] at w
  refine ⟨fun i H' hi p => w.goes i H' hi (g H' p), fun H' p => w.stops H' (g H' p), fun i H' x H'' hi p y => ?_⟩
  obtain ⟨T, x1, x2, rfl, nT, rfl, e1, e2⟩ := w.yields i H' x H'' hi (g H' p) y
  cases e1
  obtain ⟨d, f1, f2⟩ := r.getV e2
  exact ⟨_, enD_get f1, same_upd nT, pair_rep nT (.int _) (f2.keep (p.mono u) fun _ z => z)⟩
end
def oEnum : List D → Option (List D)
  | [.lst xs] => some (enD xs)
  | _ => none
def iEn (d : Sto → M (List D)) : Sto → M (List D) := fun ρ => d ρ >>= fun xs => lift (oEnum xs)
section
variable {X : Cx} {aw : Addr} {pos : Pos} {a b c e tg : Expr} {La Ca Lb Cb Lc Cc : List Nat} {da db dc : Sto → M D} {dr : Sto → M (List D)}
theorem vi_enum {p tpos : Pos} {elts : List Expr} {kk : Nat} (hg : Gl X "enumerate") (hm : X.mg "enumerate" = none) (ha : VA X aw [a] La Ca dr) (hs : starEach [a] X.env = [(false, eval a X.env)] := by rfl) : VI X aw (.Tuple elts kk tpos) (.Call (.Name "enumerate" p) [a] [] pos) La Ca (iEn dr) :=
  ⟨PI.weak (pi_enum hg hm ha.1 hs) fun σ H R ⟨U, O, ρ, w, ds, w', S, h, k⟩ => by
    obtain ⟨x, w1, h1, h⟩ := bind_ok h
    obtain ⟨h2, rfl⟩ := lift_ok h
    refine ⟨U, O, ρ, w, x, _, S, h1, fun vs H1 e1 r1 c1 => ?_⟩
    unfold oEnum at h2
    split at h2
    · cases h2
      obtain ⟨v, rfl, rv⟩ := c1.one
      obtain ⟨p1, xs, rfl, hp1, n1, q1⟩ := inv_lstU rv
      exact ⟨p1, xs, rfl, SqL.of hp1, k _ H1 e1 r1 fun P U' u u' n' => wk_enum u' hp1 (fun z => n1 (u _ z)) (q1.offs n')⟩
    · exact (nomatch h2), ha.2⟩
@[simp] theorem ev_iEn {ρ : Sto} : iEn dr ρ = dr ρ >>= fun xs => lift (oEnum xs) := rfl
@[simp] theorem o_enumL {xs : List D} : oEnum [.lst xs] = some (enD xs) := rfl
end
end Vw

namespace Vw
open PySem PySem.Spec PyProof.Rows L2

/-! ### enumerate(t), t a tuple -/
theorem meets_enum1 {v : Value} {o : Obj} {Hh : Heap → Prop} (B : Begins v o Hh) :
    Meets (Builtin.«enumerate.__new__» ⟨[.type "enumerate", v], []⟩) (fun _ R s => Hh s.heap ∧ R (.ok (.ret (.ref (s.heap.push o).objs.size))) { s with heap := (s.heap.push o).push { cls := .type "enumerate", data := .fields #[.none, .bool false, .ref s.heap.objs.size, rawInt 0, .none, .none] } }) :=
  .of_wp fun prog w A R s h => by
    obtain ⟨hp, g, d, tk, os⟩ := s
    obtain ⟨h1, h⟩ := h
    have hsub := sub_enumerate
    have it1 : ∀ {A' : Around} {E : Value → Shared → Prop} {Q : Value → Shared → Prop}, Q (.ref hp.objs.size) ⟨hp.push o, g, d, tk, os⟩ → wpAny (model prog w) A' (pyIter v) Q E ⟨hp, g, d, tk, os⟩ := fun q => B.iter prog w _ _ ⟨hp, g, d, tk, os⟩ _ h1 q
    wp_walk using it1
    refine wpAny_stack_any fun st => wpAny_pure ?_
    split
    · rename_i c _ _ _ _ _
      cases (c == Value.type "enumerate") <;> (wp_walk using it1; exact ⟨_, rfl, h⟩)
    · wp_walk using it1
      exact ⟨_, rfl, h⟩
section
variable {prog : Program} {wo : World} {Ar : Around} {Ex : Value → Shared → Prop} {s : Shared}
theorem call_enum1 {v : Value} {o : Obj} {Hh : Heap → Prop} {Q : Value → Shared → Prop} (B : Begins v o Hh) (h1 : Hh s.heap)
    (h : ∀ h', IsEnum h' (s.heap.objs.size + 1) s.heap.objs.size 0 .none → h'.get? s.heap.objs.size = some o → (∀ b o, s.heap.get? b = some o → h'.get? b = some o) → Q (.ref (s.heap.objs.size + 1)) { s with heap := h' }) :
    wpAny (model prog wo) Ar (call (.type "enumerate") [v]) Q Ex s := by
  refine callType_new F.called_enumerate (by decide) (F.typeCall_enumerate_1 _) (F.newCall_enumerate_1 _) (fun obj => F.args_object_init_2 obj _) F.entry_enumerate_new (meets_enum1 B) ⟨h1, ?_⟩
  have hz : (s.heap.push o).objs.size = s.heap.objs.size + 1 := Heap.size_push ..
  show _ ∧ _
  rw [hz]
  have he : IsEnum ((s.heap.push o).push { cls := .type "enumerate", data := .fields #[.none, .bool false, .ref s.heap.objs.size, rawInt 0, .none, .none] }) (s.heap.objs.size + 1) s.heap.objs.size 0 .none := by
    have e := Heap.get?_push_size (s.heap.push o) (o := { cls := .type "enumerate", data := .fields #[.none, .bool false, .ref s.heap.objs.size, rawInt 0, .none, .none] }) rfl
    rw [hz] at e
    exact e
  exact ⟨⟨_, he, rfl⟩, h _ he (Heap.get?_push_of_some _ (Heap.get?_push_size _ B.free)) fun b o x => Heap.get?_push_of_some _ (Heap.get?_push_of_some _ x)⟩
end
/-- the tuple at a, each item in a new pair -/
def Iet (K : PySem.W.Frag) (a : Addr) : It :=
  ⟨fun i H => ∃ (xs : List V) (x : V), SqT K H a xs ∧ xs[i]? = some x, fun i H v H' => ∃ T x, v = .ref T ∧ H T = none ∧ H' = upd H T (.tup [.int (i : Nat), x]) ∧ ∀ xs, SqT K H a xs → xs[i]? = some x, fun i H => ∃ xs : List V, SqT K H a xs ∧ xs.length = i⟩
theorem turn_enT {P : Program} {w : World} {K : PySem.W.Frag} {elts : List Expr} {kk : Nat} {tpos : Pos} (a e it : Addr) :
    Turn P w K (.Tuple elts kk tpos) (Iet K a) [e, it] e (fun i h => (∃ old, IsEnum h e it ((i : Nat) : Int) old) ∧ h.IsTupleIter it a i ∧ e ≠ it ∧ e ≠ a ∧ a ≠ it) where
  mem := by simp
  obj := fun i h st b hb => by
    obtain ⟨⟨old, he⟩, ⟨o, ho, hc, hd⟩, _⟩ := st
    rcases List.mem_cons.mp hb with z | z
    · rw [z]; exact ⟨_, he, fun v q => nomatch q⟩
    · rw [List.mem_singleton.mp z]; exact ⟨o, ho, fun v q => by rw [hd] at q; cases q⟩
  keep := fun i h h' st k => by
    obtain ⟨⟨old, he⟩, hi, hn⟩ := st
    exact ⟨⟨old, k e (by simp) _ he⟩, hi.at fun o q => k it (by simp) o q, hn⟩
  item := by
    intro X hP hw hK hc i pins s σ H E I hf st hg
    subst hP hw hK
    obtain ⟨⟨old, he⟩, hit, hne, hea, hai⟩ := st
    obtain ⟨xs, x, hq, hx⟩ := hg
    obtain ⟨its, rv, p, hz⟩ := I.tuple hq
    obtain ⟨u, hu, ru⟩ := rv.get hx
    have pt : s.heap.IsTuple a its.toArray := p
    have hel : e < s.heap.objs.size := Heap.lt_size he
    have hil : it < s.heap.objs.size := by obtain ⟨_, q, _⟩ := hit; exact Heap.lt_size q
    have hlt : i < its.toArray.size := by
      rw [List.size_toArray]
      exact (List.getElem?_eq_some_iff.mp hu).1
    refine wpAny_pyNext_enum_itemC (Draws.tuple (A := X.A.in1) (I.ok.hd hc) it a hai its.toArray) he ⟨hit, pt⟩ hlt hne (by simp [hne, hea]) fun y h' tk hP ho hs' hT hsz hk => ?_
    have ey : y = u := by
      have : its.toArray[i]? = some u := by simpa using hu
      rw [this] at hP
      exact (Option.some.inj hP).symm
    subst ey
    refine ⟨_, rfl, wpAny_letOwnedTupleGo_enum (s := { s with heap := h', toks := tk + 1 }) ho fun h'' he' sb => ?_⟩
    have hT2 : h''.get? s.heap.objs.size = some { cls := .type "tuple", data := .seq #[.int i tk, y] } := (sb.2 _ (Nat.ne_of_gt hel)).trans hT
    have new : ObjOk X.prog X.w (upd H s.heap.objs.size (.tup [.int (i : Nat), x])) h'' s.heap.objs.size (.tup [.int (i : Nat), x]) := ⟨by show 2 ≤ sizeLine; decide, [.int i tk, y], .cons ⟨_, rfl⟩ (.cons ru .nil), ⟨_, hT2, rfl, _, rfl⟩⟩
    have I1 : Inv X pins σ (upd H s.heap.objs.size (.tup [.int (i : Nat), x])) { s with heap := h'', toks := tk + 1 } := I.turnedNew (ch := [e, it]) (fun b ob hb q => (sb.2 b (fun z => hb (by simp [z]))).trans (hk b ob (fun z => hb (by simp [z])) (fun z => hb (by simp [z])) q)) hf (Nat.le_refl _) new
    have st2 : h''.IsTupleIter it a (i + 1) := hs'.1.at fun o q => (sb.2 it (Ne.symm hne)).trans q
    refine ⟨.ref s.heap.objs.size, _, I1, rfl, ⟨_, x, rfl, I.hok.fresh (Nat.le_refl _), rfl, fun ys hy => by rw [I.tuple_inj hy hq]; exact hx⟩, ⟨⟨y, ?_⟩, st2, hne, hea, hai⟩, fun b hb => ?_⟩
    · rw [show ((i + 1 : Nat) : Int) = (i : Int) + 1 by omega]
      exact he'
    · have hb' : b < s.heap.objs.size := by
        rcases List.mem_cons.mp hb with z | z
        · rw [z]; exact hel
        · rw [List.mem_singleton.mp z]; exact hil
      rw [upd_ne (Nat.ne_of_lt hb')]
      exact (hf b hb).1
  done := by
    intro X hP hw hK hc i pins s σ H E I hf st hg
    subst hP hw hK
    obtain ⟨⟨old, he⟩, hit, hne, hea, hai⟩ := st
    obtain ⟨xs, hq, hx⟩ := hg
    obtain ⟨its, rv, p, hz⟩ := I.tuple hq
    have pt : s.heap.IsTuple a its.toArray := p
    obtain ⟨f0, f1, f2, f3, f4, f5⟩ := hf it (by simp)
    have hl : i = its.toArray.size := by rw [List.size_toArray, ← rv.length]; exact hx.symm
    subst hl
    exact wpAny_pyNext_enum_endD (Draws.tuple (A := X.A.in1) (I.ok.hd hc) it a hai its.toArray) he ⟨hit, pt⟩ fun h' eb => ⟨rfl, I.turned (t' := s.toks) (fun b o hb q => eb b o hb q) f0 f1 f3 f4 f5⟩
  self := fun A i s Q E st h => by
    obtain ⟨⟨_, he⟩, _⟩ := st
    exact wpAny_pyIter_enum he h
theorem walk_enT {K : PySem.W.Frag} {a : Addr} {xs : List V} : Walk (Iet K a) xs.length (fun H => SqT K H a xs) (YPair (fun i => some (.int (i : Nat))) (fun i => xs[i]?)) := by
  refine ⟨fun i _ hi q => ⟨xs, xs[i], q, by simp [hi]⟩, fun _ q => ⟨xs, q, rfl⟩, fun i H v H' _ q y => ?_⟩
  obtain ⟨T, x, h1, h2, h3, h4⟩ := y
  exact ⟨T, .int (i : Nat), x, h1, h2, h3, rfl, h4 xs q⟩
def iEnumT (K : PySem.W.Frag) (ta : TA) : TI := fun σ H R => ta σ H fun vs H1 => ∃ a xs, vs = [.ref a] ∧ SqT K H1 a xs ∧ R (Iet K a) H1
theorem pi_enT {X : Cx} {e : Expr} {ta : TA} {p pos tpos : Pos} {elts : List Expr} {kk : Nat} (hg : Gl X "enumerate") (hm : X.mg "enumerate" = none) (ha : PA X [e] ta) (hs : starEach [e] X.env = [(false, eval e X.env)] := by rfl) :
    PI X (.Tuple elts kk tpos) (.Call (.Name "enumerate" p) [e] [] pos) (iEnumT X.K ta) := by
  refine ⟨fun pins s σ H R I h => ?_⟩
  refine Call_ (ld_blt I hg hm boot_enumerate (PyProof.Rows.callWith_type1 (thn (ha.run pos pins s σ H _ I h) fun us s1 z => ?_) hs rfl))
  obtain ⟨vs, H1, I1, r1, a, xs, ex, hq, q⟩ := z
  subst ex
  cases r1 with
  | cons r rr =>
    cases rr
    cases r
    obtain ⟨its, rv, p', hz⟩ := I1.tuple hq
    have pt : s1.heap.IsTuple a its.toArray := p'
    have al : a < s1.heap.objs.size := by obtain ⟨_, e, _⟩ := pt; exact Heap.lt_size e
    refine call_enum1 (begins_tuple a its.toArray) pt fun h' he hit hk => wpAny_pyIter_enum he ?_
    have I2 : Inv X pins σ H1 { s1 with heap := h' } := I1.kept (t' := s1.toks) hk
    refine ⟨s1.heap.objs.size + 1, [s1.heap.objs.size + 1, s1.heap.objs.size], _, _, H1, rfl, I2, turn_enT a (s1.heap.objs.size + 1) s1.heap.objs.size, ⟨⟨.none, he⟩, ⟨_, hit, rfl, rfl⟩, Nat.succ_ne_self _, Nat.ne_of_gt (Nat.lt_succ_of_lt al), Nat.ne_of_lt al⟩, fun b hb => ?_, q⟩
    have hle : s1.heap.objs.size ≤ b := by
      rcases List.mem_cons.mp hb with z | z
      · rw [z]; exact Nat.le_add_right _ _
      · rw [List.mem_singleton.mp z]; exact Nat.le_refl _
    exact I1.fpOk hle (I1.hok.fresh hle)
section
variable {K : PySem.W.Frag} {mg : Str → Option Value} {aw : Addr} {P U : Addr → Prop} {H : Hp} {a : Addr} {xs : List V} {ds : List D}
theorem wk_enT (u : ∀ a, P a → U a) (h : H a = some (.tup xs)) (r : RepL K mg aw U H xs ds) : Wk K mg aw P U (Iet K a) H (enD ds) := by
  have w := walk_enT (K := K) (a := a) (xs := xs)
  have g : ∀ H', Pres P H H' → SqT K H' a xs := fun H' p => SqT.of (p _ _ h fun z => ⟨_, rfl⟩)
  have el : xs.length = (enD ds).length := by rw [enD_length, r.length]
  rw [el] at w
  refine ⟨fun i H' hi p => w.goes i H' hi (g H' p), fun H' p => w.stops H' (g H' p), fun i H' x H'' hi p y => ?_⟩
  obtain ⟨T, x1, x2, rfl, nT, rfl, e1, e2⟩ := w.yields i H' x H'' hi (g H' p) y
  cases e1
  obtain ⟨d, f1, f2⟩ := r.getV e2
  exact ⟨_, enD_get f1, same_upd nT, pair_rep nT (.int _) (f2.keep (p.mono u) fun _ z => z)⟩
end
def oEnA : List D → Option (List D)
  | [.lst xs] => some (enD xs)
  | [.tup xs] => some (enD xs)
  | _ => none
def iEnA (d : Sto → M (List D)) : Sto → M (List D) := fun ρ => d ρ >>= fun xs => lift (oEnA xs)
section
variable {X : Cx} {aw : Addr} {pos : Pos} {a b c e tg : Expr} {La Ca Lb Cb Lc Cc : List Nat} {da db dc : Sto → M D} {dr : Sto → M (List D)}
theorem vi_enumA {p tpos : Pos} {elts : List Expr} {kk : Nat} (hg : Gl X "enumerate") (hm : X.mg "enumerate" = none) (ha : VA X aw [a] La Ca dr) (hs : starEach [a] X.env = [(false, eval a X.env)] := by rfl) : VI X aw (.Tuple elts kk tpos) (.Call (.Name "enumerate" p) [a] [] pos) La Ca (iEnA dr) :=
  ⟨PI.weak (PI.or (pi_enum hg hm ha.1 hs) (pi_enT hg hm ha.1 hs)) fun σ H R ⟨U, O, ρ, w, ds, w', S, h, k⟩ => by
    obtain ⟨x, w1, h1, h⟩ := bind_ok h
    obtain ⟨h2, rfl⟩ := lift_ok h
    unfold oEnA at h2
    split at h2
    · refine .inl ⟨U, O, ρ, w, _, _, S, h1, fun vs H1 e1 r1 c1 => ?_⟩
      cases h2
      obtain ⟨v, rfl, rv⟩ := c1.one
      obtain ⟨p1, xs, rfl, hp1, n1, q1⟩ := inv_lstU rv
      exact ⟨p1, xs, rfl, SqL.of hp1, k _ H1 e1 r1 fun P U' u u' n' => wk_enum u' hp1 (fun z => n1 (u _ z)) (q1.offs n')⟩
    · refine .inr ⟨U, O, ρ, w, _, _, S, h1, fun vs H1 e1 r1 c1 => ?_⟩
      cases h2
      obtain ⟨v, rfl, rv⟩ := c1.one
      obtain ⟨p1, xs, rfl, hp1, q1⟩ := rv.inv_tup
      exact ⟨p1, xs, rfl, hp1.sq, k _ H1 e1 r1 fun P U' u u' n' => wk_enT u' hp1 (q1.offs n')⟩
    · exact (nomatch h2), ha.2⟩
@[simp] theorem ev_iEnA {ρ : Sto} : iEnA dr ρ = dr ρ >>= fun xs => lift (oEnA xs) := rfl
@[simp] theorem o_enAL {xs : List D} : oEnA [.lst xs] = some (enD xs) := rfl
@[simp] theorem o_enAT {xs : List D} : oEnA [.tup xs] = some (enD xs) := rfl
end
end Vw

namespace Vw
open PySem PySem.Spec PyProof.Rows L2

/-! ### zip(t, u), both tuples -/
def Izt (K : PySem.W.Frag) (a b : Addr) : It :=
  ⟨fun i H => ∃ (xs ys : List V) (x y : V), SqT K H a xs ∧ SqT K H b ys ∧ xs[i]? = some x ∧ ys[i]? = some y,
    fun i H v H' => ∃ T x y, v = .ref T ∧ H T = none ∧ H' = upd H T (.tup [x, y]) ∧ (∀ xs, SqT K H a xs → xs[i]? = some x) ∧ ∀ ys, SqT K H b ys → ys[i]? = some y,
    fun i H => ∃ xs ys : List V, SqT K H a xs ∧ SqT K H b ys ∧ i = min xs.length ys.length⟩
theorem turn_zT {P : Program} {w : World} {K : PySem.W.Frag} {elts : List Expr} {kk : Nat} {tpos : Pos} {a b N : Addr} (ha : a < N) (hb : b < N) :
    Turn P w K (.Tuple elts kk tpos) (Izt K a b) [N + 4, N + 2, N + 3, N, N + 1] (N + 4) (fun i h => IsZip h (N + 4) (N + 2) (N + 3) .none ∧ IsTupOf2 h (N + 2) (.ref N) (.ref (N + 1)) ∧ (∃ x y, IsTupOf2 h (N + 3) x y) ∧ h.IsTupleIter N a i ∧ h.IsTupleIter (N + 1) b i) where
  mem := by simp
  obj := fun i h st c hc => by
    obtain ⟨hz, hTI, ⟨x, y, hTO⟩, ⟨o1, e1, _, d1⟩, ⟨o2, e2, _, d2⟩⟩ := st
    have e' : c = N + 4 ∨ c = N + 2 ∨ c = N + 3 ∨ c = N ∨ c = N + 1 := by simpa using hc
    rcases e' with q | q | q | q | q <;> subst q
    · exact ⟨_, hz, fun v q => nomatch q⟩
    · exact ⟨_, hTI, fun v q => nomatch q⟩
    · exact ⟨_, hTO, fun v q => nomatch q⟩
    · exact ⟨o1, e1, fun v q => by rw [d1] at q; cases q⟩
    · exact ⟨o2, e2, fun v q => by rw [d2] at q; cases q⟩
  keep := fun i h h' st k => by
    obtain ⟨hz, hTI, ⟨x, y, hTO⟩, h1, h2⟩ := st
    exact ⟨k _ (by simp) _ hz, k _ (by simp) _ hTI, ⟨x, y, k _ (by simp) _ hTO⟩, h1.at fun o q => k _ (by simp) o q, h2.at fun o q => k _ (by simp) o q⟩
  item := by
    intro X hP hw hK hc i pins s σ H E I hf st hg
    subst hP hw hK
    obtain ⟨hz, hTI, ⟨x0, y0, hTO⟩, h1, h2⟩ := st
    obtain ⟨xs, ys, x, y, hqx, hqy, hx, hy⟩ := hg
    obtain ⟨its, rv, p, _⟩ := I.tuple hqx
    obtain ⟨its2, rv2, p2, _⟩ := I.tuple hqy
    obtain ⟨u, hu, ru⟩ := rv.get hx
    obtain ⟨u2, hu2, ru2⟩ := rv2.get hy
    have pt : s.heap.IsTuple a its.toArray := p
    have pt2 : s.heap.IsTuple b its2.toArray := p2
    have hzl : N + 4 < s.heap.objs.size := Heap.lt_size hz
    have S := zip_sep2 (N := N) (fp1 := [a]) (fp2 := [b]) (fun c hc => by rw [List.mem_singleton.mp hc]; exact ha) (fun c hc => by rw [List.mem_singleton.mp hc]; exact hb)
    have D1 := Draws.tuple (prog := X.prog) (w := X.w) (A := X.A.in1) (I.ok.hd hc) N a (Nat.ne_of_lt ha) its.toArray
    have D2 := Draws.tuple (prog := X.prog) (w := X.w) (A := X.A.in1) (I.ok.hd hc) (N + 1) b (Nat.ne_of_lt (Nat.lt_succ_of_lt hb)) its2.toArray
    have lt1 : i < its.toArray.size := by rw [List.size_toArray]; exact (List.getElem?_eq_some_iff.mp hu).1
    have lt2 : i < its2.toArray.size := by rw [List.size_toArray]; exact (List.getElem?_eq_some_iff.mp hu2).1
    refine wpAny_pyNext_zipD2_item S D1 D2 hz hTI hTO ⟨h1, pt⟩ ⟨h2, pt2⟩ lt1 lt2 fun v1 v2 h' tk q1 q2 z' TO' st1 st2 hT hsz hk => ?_
    have e1 : v1 = u := by
      have z : its.toArray[i]? = some u := by simpa using hu
      rw [z] at q1
      exact (Option.some.inj q1).symm
    have e2 : v2 = u2 := by
      have z : its2.toArray[i]? = some u2 := by simpa using hu2
      rw [z] at q2
      exact (Option.some.inj q2).symm
    subst e1
    subst e2
    refine ⟨_, rfl, wpAny_letOwnedTupleGo_zip (s := { s with heap := h', toks := tk }) z' fun h'' z'' sb => ?_⟩
    have hT2 : h''.get? s.heap.objs.size = some { cls := .type "tuple", data := .seq #[v1, v2] } := (sb.2 _ (Nat.ne_of_gt hzl)).trans hT
    have new : ObjOk X.prog X.w (upd H s.heap.objs.size (.tup [x, y])) h'' s.heap.objs.size (.tup [x, y]) := ⟨by show 2 ≤ sizeLine; decide, [v1, v2], .cons ru (.cons ru2 .nil), ⟨_, hT2, rfl, _, rfl⟩⟩
    have I1 : Inv X pins σ (upd H s.heap.objs.size (.tup [x, y])) { s with heap := h'', toks := tk } :=
      I.turnedNew (ch := [N + 4, N + 2, N + 3, N, N + 1]) (fun c o hb q => (sb.2 c (fun q' => hb (by simp [q']))).trans (hk c o (fun q' => hb (by simp [q'])) (fun q' => hb (by simp [q'])) (fun q' => hb (by simp [q'])) (fun q' => hb (by simp [q'])) q)) hf (Nat.le_refl _) new
    have n24 : N + 2 ≠ N + 4 := S.TIz
    refine ⟨.ref s.heap.objs.size, _, I1, rfl, ⟨_, x, y, rfl, I.hok.fresh (Nat.le_refl _), rfl, fun l hl => by rw [I.tuple_inj hl hqx]; exact hx, fun l hl => by rw [I.tuple_inj hl hqy]; exact hy⟩, ⟨z'', ?_, ⟨v1, v2, ?_⟩, ?_, ?_⟩, fun c hcm => ?_⟩
    · exact (sb.2 _ S.TIz).trans (hk _ _ S.TIz S.TITO S.TIi1 S.TIi2 hTI)
    · exact (sb.2 _ S.TOz).trans TO'
    · exact st1.1.at fun o q => (sb.2 _ (Ne.symm S.zi1)).trans q
    · exact st2.1.at fun o q => (sb.2 _ (Ne.symm S.zi2)).trans q
    · have hlt : c < s.heap.objs.size := by
        have e' : c = N + 4 ∨ c = N + 2 ∨ c = N + 3 ∨ c = N ∨ c = N + 1 := by simpa using hcm
        rcases e' with q | q | q | q | q <;> subst q
        · exact hzl
        · exact Heap.lt_size hTI
        · exact Heap.lt_size hTO
        · obtain ⟨_, e1, _⟩ := h1; exact Heap.lt_size e1
        · obtain ⟨_, e2, _⟩ := h2; exact Heap.lt_size e2
      rw [upd_ne (Nat.ne_of_lt hlt)]
      exact (hf c hcm).1
  done := by
    intro X hP hw hK hc i pins s σ H E I hf st hg
    subst hP hw hK
    obtain ⟨hz, hTI, ⟨x0, y0, hTO⟩, h1, h2⟩ := st
    obtain ⟨xs, ys, hqx, hqy, hend⟩ := hg
    obtain ⟨its, rv, p, _⟩ := I.tuple hqx
    obtain ⟨its2, rv2, p2, _⟩ := I.tuple hqy
    have l1 := rv.length
    have l2 := rv2.length
    have S := zip_sep2 (N := N) (fp1 := [a]) (fp2 := [b]) (fun c hc => by rw [List.mem_singleton.mp hc]; exact ha) (fun c hc => by rw [List.mem_singleton.mp hc]; exact hb)
    have D1 := Draws.tuple (prog := X.prog) (w := X.w) (A := X.A.in1) (I.ok.hd hc) N a (Nat.ne_of_lt ha) its.toArray
    have D2 := Draws.tuple (prog := X.prog) (w := X.w) (A := X.A.in1) (I.ok.hd hc) (N + 1) b (Nat.ne_of_lt (Nat.lt_succ_of_lt hb)) its2.toArray
    exact wpAny_pyNext_zipD2_end S D1 D2 hz hTI hTO ⟨h1, p⟩ ⟨h2, p2⟩ (by simp; omega) (by simp; omega) (by simp; omega) fun h' tk hk => ⟨rfl, I.turnedL (t' := tk) (ch := [N + 4, N + 2, N + 3, N, N + 1]) (fun c o hb q =>
      hk c o (fun q' => hb (by simp [q'])) (fun q' => hb (by simp [q'])) (fun q' => hb (by simp [q'])) (fun q' => hb (by simp [q'])) q) hf⟩
  self := fun A i s Q E st h => wpAny_pyIter_zip st.1 h
def iZipT (K : PySem.W.Frag) (ta : TA) : TI := fun σ H R => ta σ H fun vs H1 => ∃ a b xs ys, vs = [.ref a, .ref b] ∧ SqT K H1 a xs ∧ SqT K H1 b ys ∧ R (Izt K a b) H1
theorem pi_zT {X : Cx} {e e2 : Expr} {ta : TA} {p pos tpos : Pos} {elts : List Expr} {kk : Nat} (hg : Gl X "zip") (hm : X.mg "zip" = none) (ha : PA X [e, e2] ta)
    (hs : starEach [e, e2] X.env = (false, eval e X.env) :: starEach [e2] X.env := by rfl) (hpl : (backTo pos (starEach [e2] X.env)).any (·.1) = false := by rfl) : PI X (.Tuple elts kk tpos) (.Call (.Name "zip" p) [e, e2] [] pos) (iZipT X.K ta) := by
  refine ⟨fun pins s σ H R I h => ?_⟩
  refine Call_ (ld_blt I hg hm PyProof.Rows.boot_zip (PyProof.Rows.callWith_type1 (thn (ha.run pos pins s σ H _ I h) fun us s1 z => ?_) hs hpl))
  obtain ⟨vs, H1, I1, r1, a, b, xs, ys, ex, hqx, hqy, q⟩ := z
  subst ex
  cases r1 with
  | cons r rr =>
    cases rr with
    | cons r' rr =>
      cases rr
      cases r
      cases r'
      obtain ⟨its, rv, p1, _⟩ := I1.tuple hqx
      obtain ⟨its2, rv2, p2, _⟩ := I1.tuple hqy
      have pt : s1.heap.IsTuple a its.toArray := p1
      have pt2 : s1.heap.IsTuple b its2.toArray := p2
      have la : a < s1.heap.objs.size := by obtain ⟨_, e, _⟩ := pt; exact Heap.lt_size e
      have lb : b < s1.heap.objs.size := by obtain ⟨_, e, _⟩ := pt2; exact Heap.lt_size e
      refine zip_begins2 (begins_tuple a its.toArray) (begins_tuple b its2.toArray) pt pt2 fun h' hz hTI hTO h1 h2 hsz hk => wpAny_pyIter_zip hz ?_
      have I2 : Inv X pins σ H1 { s1 with heap := h' } := I1.kept (t' := s1.toks) hk
      refine ⟨s1.heap.objs.size + 4, [s1.heap.objs.size + 4, s1.heap.objs.size + 2, s1.heap.objs.size + 3, s1.heap.objs.size, s1.heap.objs.size + 1], _, _, H1, rfl, I2, turn_zT la lb, ⟨hz, hTI, ⟨_, _, hTO⟩, ⟨_, h1, rfl, rfl⟩, ⟨_, h2, rfl, rfl⟩⟩, fun c hcm => ?_, q⟩
      have e' : c = s1.heap.objs.size + 4 ∨ c = s1.heap.objs.size + 2 ∨ c = s1.heap.objs.size + 3 ∨ c = s1.heap.objs.size ∨ c = s1.heap.objs.size + 1 := by simpa using hcm
      have hle : s1.heap.objs.size ≤ c := by
        rcases e' with z | z | z | z | z <;> rw [z]
        · exact Nat.le_add_right _ _
        · exact Nat.le_add_right _ _
        · exact Nat.le_add_right _ _
        · exact Nat.le_refl _
        · exact Nat.le_add_right _ _
      exact I1.fpOk hle (I1.hok.fresh hle)
section
variable {K : PySem.W.Frag} {mg : Str → Option Value} {aw : Addr} {P U : Addr → Prop} {H : Hp} {a b : Addr} {xs ys : List V} {ds es : List D}
theorem walk_zT : Walk (Izt K a b) (min xs.length ys.length) (fun H => SqT K H a xs ∧ SqT K H b ys) (YPair (fun i => xs[i]?) (fun i => ys[i]?)) := by
  refine ⟨fun i _ hi q => ⟨xs, ys, xs[i]'(by omega), ys[i]'(by omega), q.1, q.2, List.getElem?_eq_getElem _, List.getElem?_eq_getElem _⟩, fun _ q => ⟨xs, ys, q.1, q.2, rfl⟩, fun i H v H' _ q y => ?_⟩
  obtain ⟨T, x, z, h1, h2, h3, h4, h5⟩ := y
  exact ⟨T, x, z, h1, h2, h3, h4 xs q.1, h5 ys q.2⟩
theorem wk_zT (u : ∀ a, P a → U a) (h : H a = some (.tup xs)) (r : RepL K mg aw U H xs ds) (h' : H b = some (.tup ys)) (r' : RepL K mg aw U H ys es) : Wk K mg aw P U (Izt K a b) H (zipD ds es) := by
  have w := walk_zT (K := K) (a := a) (b := b) (xs := xs) (ys := ys)
  have g : ∀ H', Pres P H H' → SqT K H' a xs ∧ SqT K H' b ys := fun H' p => ⟨SqT.of (p _ _ h fun z => ⟨_, rfl⟩), SqT.of (p _ _ h' fun z => ⟨_, rfl⟩)⟩
  have el : min xs.length ys.length = (zipD ds es).length := by rw [zipD_length, r.length, r'.length]
  rw [el] at w
  refine ⟨fun i H' hi p => w.goes i H' hi (g H' p), fun H' p => w.stops H' (g H' p), fun i H' x H'' hi p y => ?_⟩
  obtain ⟨T, x1, x2, rfl, nT, rfl, e1, e2⟩ := w.yields i H' x H'' hi (g H' p) y
  obtain ⟨d, f1, f2⟩ := r.getV e1
  obtain ⟨e, g1, g2⟩ := r'.getV e2
  exact ⟨_, zipD_get f1 g1, same_upd nT, pair_rep nT (f2.keep (p.mono u) fun _ z => z) (g2.keep (p.mono u) fun _ z => z)⟩
end
def oZipA : List D → Option (List D)
  | [.lst xs, .lst ys] => some (zipD xs ys)
  | [.tup xs, .tup ys] => some (zipD xs ys)
  | _ => none
def iZpA (d : Sto → M (List D)) : Sto → M (List D) := fun ρ => d ρ >>= fun xs => lift (oZipA xs)
section
variable {X : Cx} {aw : Addr} {pos : Pos} {a b c e tg : Expr} {La Ca Lb Cb Lc Cc : List Nat} {da db dc : Sto → M D} {dr : Sto → M (List D)}
theorem vi_zipA {p tpos : Pos} {elts : List Expr} {kk : Nat} (hg : Gl X "zip") (hm : X.mg "zip" = none) (ha : VA X aw [a, b] La Ca dr) (hs : starEach [a, b] X.env = (false, eval a X.env) :: starEach [b] X.env := by rfl) (hs2 : (backTo pos (starEach [b] X.env)).any (·.1) = false := by rfl) : VI X aw (.Tuple elts kk tpos) (.Call (.Name "zip" p) [a, b] [] pos) La Ca (iZpA dr) :=
  ⟨PI.weak (PI.or (pi_zip hg hm ha.1 hs hs2) (pi_zT hg hm ha.1 hs hs2)) fun σ H R ⟨U, O, ρ, w, ds, w', S, h, k⟩ => by
    obtain ⟨x, w1, h1, h⟩ := bind_ok h
    obtain ⟨h2, rfl⟩ := lift_ok h
    unfold oZipA at h2
    split at h2
    · refine .inl ⟨U, O, ρ, w, _, _, S, h1, fun vs H1 e1 r1 c1 => ?_⟩
      cases h2
      obtain ⟨v, u, rfl, rv, ru⟩ := c1.two
      obtain ⟨p1, xs, rfl, hp1, n1, q1⟩ := inv_lstU rv
      obtain ⟨p2, ys, rfl, hp2, n2, q2⟩ := inv_lstU ru
      exact ⟨p1, p2, xs, ys, rfl, SqL.of hp1, SqL.of hp2, k _ H1 e1 r1 fun P U' u u' n' => wk_zip u' hp1 (fun z => n1 (u _ z)) (q1.offs n') hp2 (fun z => n2 (u _ z)) (q2.offs n')⟩
    · refine .inr ⟨U, O, ρ, w, _, _, S, h1, fun vs H1 e1 r1 c1 => ?_⟩
      cases h2
      obtain ⟨v, u, rfl, rv, ru⟩ := c1.two
      obtain ⟨p1, xs, rfl, hp1, q1⟩ := rv.inv_tup
      obtain ⟨p2, ys, rfl, hp2, q2⟩ := ru.inv_tup
      exact ⟨p1, p2, xs, ys, rfl, hp1.sq, hp2.sq, k _ H1 e1 r1 fun P U' u u' n' => wk_zT u' hp1 (q1.offs n') hp2 (q2.offs n')⟩
    · exact (nomatch h2), ha.2⟩
@[simp] theorem ev_iZpA {ρ : Sto} : iZpA dr ρ = dr ρ >>= fun xs => lift (oZipA xs) := rfl
@[simp] theorem o_zipLL {xs ys : List D} : oZipA [.lst xs, .lst ys] = some (zipD xs ys) := rfl
@[simp] theorem o_zipTT {xs ys : List D} : oZipA [.tup xs, .tup ys] = some (zipD xs ys) := rfl
end
end Vw

namespace Vw
open PySem PySem.Spec PyProof.Rows L2

/-! ### an error of the program's own: C(x), whose __init__ says super().__init__('..'), then self.reason = x -/
section
open PySem.W PySem.Calls
/-- the two rows of such an __init__ -/
def iniBody (m : Str) (j : Nat) (a0 a1 a2 a3 a4 a5 a6 a7 a8 a9 : Pos) : List Stmt :=
  [.Expr (.Call (.Attribute (.Call (.Name "super" a0) [] [] a1) "__init__" a2) [.Constant (.str m) j a3] [] a4) a5, .Assign [.Attribute (.Name "self" a6) "reason" a7] (.Name "reason" a8) a9]
/-- how the first row's call is reckoned -/
def SupOk (m : Str) (j : Nat) (a0 a1 a2 a3 a4 : Pos) : Prop := ∃ pl : Env → Sem Bool, ∀ env : Env, eval (.Call (.Attribute (.Call (.Name "super" a0) [] [] a1) "__init__" a2) [.Constant (.str m) j a3] [] a4) env = (do
  let ov ← attributeBase (.Call (.Name "super" a0) [] [] a1) "__init__" env (eval (.Call (.Name "super" a0) [] [] a1) env)
  standAt a2.atName
  let (f, first) ← holding [ov] (getMethod ov "__init__" (pl env))
  callWith a4 f first (backTo a4 (starEach [.Constant (.str m) j a3] env)) [])
def iniScope : Scope := { kind := .function, names := [("self", .local), ("reason", .local), ("__class__", .free), ("super", .globalImplicit)], isGenerator := false, isCoroutine := false, more := [] }
def iniArgs (b0 b1 : Pos) : Arguments := { posonlyargs := [], args := [{ arg := "self", annotation := none, pos := b0 }, { arg := "reason", annotation := none, pos := b1 }], vararg := none, kwonlyargs := [], kw_defaults := [], kwarg := none, defaults := [] }
/-- what the written part says of the class at C of the program P -/
structure PeK (P : Program) (K : Frag) (mg : Str → Option Value) (C : Addr) : Prop where
  o : OexC K C
  rs : findIn K (.ref C) "reason" = some none
  ini : ∃ (fI cc cda : Addr) (qual m : Str) (j : Nat) (a0 a1 a2 a3 a4 a5 a6 a7 a8 a9 b0 b1 : Pos) (oc kV doc pm ct : Value) (od an : Option Addr) (osl : Array (Option Value)),
    findIn K (.ref C) "__init__" = some (some (.ref fI)) ∧ typeIn K (.ref fI) = some (.type "function") ∧
    K.lookup fI = some ⟨oc, od, .func (ksFn "__init__" qual (iniArgs b0 b1) (iniBody m j a0 a1 a2 a3 a4 a5 a6 a7 a8 a9) iniScope .none kV doc pm an (.ref cda) ct cc), osl⟩ ∧ codeIn K (.ref cda) qual = true ∧
    (∃ ccl cdd vs ccs file tf, K.lookup cda = some ⟨ccl, cdd, .fields vs, ccs⟩ ∧ vs[2]? = some (.str file tf) ∧ ((P.main.file : Str) == file) = true) ∧
    SupOk m j a0 a1 a2 a3 a4 ∧ ∃ cl cld csl, K.lookup cc = some ⟨cl, cld, .cell (some (.ref C)), csl⟩
  sup : nsIn K mainGlobals "super" = some none
  top : (P.main.scope.names.lookup ("super" : Str)).isSome = false
  opq : nsIn K cStatics "thirdparty.any" = some none
  sv : subIn K (.ref C) (.type "ValueError") = some true
  sm : ks_superIn K C C "__init__" = some (some (.builtin "ValueError.__init__"))

section
variable {prog : Program} {w : World} {A : Around} {E : Value → Shared → Prop} {R : Result → Shared → Prop} {h : Heap} {g : Array GenState} {d : Drawn} {t : Nat} {os : OsState} {K : Frag}
variable {nm qn : Str} {C N : Addr} {bs bm : List Value} {hd ab : Bool} {sn : List Str} {sub : List Value} {col : Option Bool} {dd : Option Addr} {k0 k1 k2 k3 k5 : Option Value}
/-- ValueError's own __init__, bound to the error, is called -/
theorem mw_call {q e t0 : Addr} {us : List Value} {Q : Value → Shared → Prop} (hC : h.get? C = some (excClassObj nm qn C N bs bm hd sn sub ab col dd k0 k1 k2 k3 k5 "ValueError.__new__")) (he : h.get? e = some (PySem.HandSPX.excO C t0))
    (hq : h.get? q = some (kxs_mw "ValueError.__init__" e)) (hl : us.length ≤ sizeLine) (k : ∀ h' t1, (∀ b o, b ≠ e → h.get? b = some o → h'.get? b = some o) → h'.get? e = some (PySem.HandSPX.excO C t1) → Q .none ⟨h', g, d, t, os⟩) :
    wpAny (model prog w) A (call (.ref q) us) Q E ⟨h, g, d, t, os⟩ := by
  refine wpAny_call (codeAny_of_tree ?_)
  show wpAny (model prog w) A.in1 (callAny (.ref q) ⟨us, []⟩) _ _ _
  unfold callAny
  refine wpAny_bind (wpAny_load hq ?_)
  have z : (Value.type "method-wrapper" == Value.type "method" || Value.type "method-wrapper" == Value.type "builtin_function_or_method" || Value.type "method-wrapper" == Value.type "method-wrapper") = true := by decide
  simp only [kxs_mw, z, if_true]
  refine KFB.if_so (by decide) (wpAny_bind (check_bound_init F.excBase_ValueError.toExcCallFacts hC he rfl (wpAny_bind (wpAny_pure (wpAny_pure ?_)))))
  refine ⟨plainId_quiet F.excBase_ValueError.init.plain _, codeAny_builtin F.excBase_ValueError.initEntry ?_⟩
  exact exc_init_tree (cls := .ref C) (t0 := t0) (dv := none) (c2 := .none) (c3 := .none) (b4 := .bool false) he hl fun h' k1 k2 _ => k h' _ k1 k2
theorem ini_run {mg : Str → Option Value} {base : Heap} {e t0 : Addr} {u : Value} {fI : Addr} (T : PeK prog K mg C) (M0 : Mod K mg base) (hb : ∀ b o, base.get? b = some o → h.get? b = some o) (he : h.get? e = some (PySem.HandSPX.excO C t0)) (hne : base.get? e = none) (hroom : A.depth < recursionLimit)
    (hf : findIn K (.ref C) "__init__" = some (some (.ref fI)))
    (k : ∀ h' t1 dx tk', (∀ b o, b ≠ e → h.get? b = some o → h'.get? b = some o) → h.objs.size ≤ dx → h'.get? e = some ({ cls := .ref C, dict := some dx, data := .fields #[.ref t1, .none, .none, .none, .bool false, .none] } : Obj) →
      h'.Ns1 dx (fun y => if y = ("reason" : Str) then some u else none) → R (.ok (.ret .none)) ⟨h', g, d, tk', os⟩) :
    codeAny (model prog w) A (.call (.ref fI) ⟨[.ref e, u], []⟩) R ⟨h, g, d, t, os⟩ := by
  have X : K.In h := M0.kin.keeps hb
  obtain ⟨fI', cc, cda, qual, m, j, a0, a1, a2, a3, a4, a5, a6, a7, a8, a9, b0, b1, oc, kV, doc, pm, ct, od, an, osl, f1, f2, lk, hcd, ⟨ccl, cdd, vs, ccs, file, tf, lcd, hvs, hfile⟩, ⟨pl, hpl⟩, cl, cld, csl, lcc⟩ := T.ini
  obtain rfl : fI' = fI := by
    rw [hf] at f1
    cases f1
    rfl
  obtain ⟨nm, qn, N, bs, bm, sn, sub, ab, col, dd, k0, k1, k2, k3, k5, lC, hbm⟩ := T.o.cls
  obtain ⟨mb, nb, hmb⟩ := M0.blt
  have clsC : clsIn K C = some { name := nm, bases := bs, mro := .ref C :: bm, ns := N, qualname := qn, hasDict := true, slotNames := sn, subclasses := sub, abstract := ab, collection := col, hasDel := false } := by unfold clsIn; rw [lC] <;> rfl
  refine ks_codeAny_call_defAt (fd := ksFn "__init__" qual (iniArgs b0 b1) (iniBody m j a0 a1 a2 a3 a4 a5 a6 a7 a8 a9) iniScope .none kV doc pm an (.ref cda) ct cc) (body := iniBody m j a0 a1 a2 a3 a4 a5 a6 a7 a8 a9) (binds := [("self", .ref e), ("reason", u)]) hroom (X _ _ lk) rfl
    ((M0.nolimit.keeps hb)) (codeRec_of X hcd) rfl (BindsTo.of_eq rfl) (show ∀ x ∈ iniScope.names, x.2 ≠ .cell by decide) (fun y hy => by
      rcases List.mem_cons.mp hy with rfl | hy
      · rfl
      · rcases List.mem_cons.mp hy with rfl | hy
        · rfl
        · cases hy) (fun h1 hns hk => ?_) rfl rfl rfl
  have X1 : K.In h1 := X.keeps hk
  have hb1 : ∀ b o, base.get? b = some o → h1.get? b = some o := fun b o q => hk b o (hb b o q)
  show _root_.PySem.wpAt _ (A.deeper (ksEnv qual iniScope h.objs.size fI' (.ref cda) cc)) (.func _ (ksEnv qual iniScope h.objs.size fI' (.ref cda) cc)) (execs (iniBody m j a0 a1 a2 a3 a4 a5 a6 a7 a8 a9) (ksEnv qual iniScope h.objs.size fI' (.ref cda) cc)) _ _ _
  unfold iniBody
  refine ks_wpAt_execs_cons (ks_wpAt_Expr_any (ks_wpAt_MethodCall ?_ (hpl _)))
  refine ks_wpAt_super_base (f := fI') (cc := cda) rfl rfl (by decide) rfl (X1 _ _ lk) rfl rfl rfl (X1 _ _ lcd) rfl hvs hfile T.top ?_
  refine ks_loadName_global rfl rfl (loadGlobal_builtin (M0.glob.keeps hb1) (mg_none_of M0.kin M0.glob T.sup) (nb.keeps hb1) ((hmb _ (by decide)).trans rfl) ⟨rfl, ?_⟩)
  refine wpAny_loadName_free rfl rfl rfl ⟨_, X1 _ _ lcc, rfl⟩ ?_
  refine wpAny_loadName_local rfl rfl hns rfl ?_
  have lC1 := X1 _ _ lC
  have he1 := hk _ _ he
  have mC : mroIn K C (.ref C) = some true := by
    unfold mroIn
    rw [clsC]
    simp
  have eC : e ≠ C := fun z => by
    rw [z, lC1] at he1
    cases he1
  refine ks_wpAny_isType_cls lC1 rfl ⟨rfl, ?_⟩
  refine ks_wpAny_call_super lC1 rfl he1 rfl (fun c z => by cases z) (looks_mroIn X1 mC) (fun h2 hso hk2 => ?_)
  have X2 : K.In h2 := X1.keeps hk2
  have he2 := hk2 _ _ he1
  have I2 : PySem.W.InstAt h2 e (PySem.HandSPX.excO C t0) C none := ⟨he2, rfl, rfl, trivial⟩
  have sm : alongIn K "__init__" (((Value.ref C :: bm).dropWhile (· != .ref C)).drop 1) = some (some (.builtin "ValueError.__init__")) := by
    have z := T.sm
    unfold ks_superIn at z
    rw [clsC] at z
    exact z
  refine kxs_getMethod kxs_ValueError hso (looks_opaque X2 T.opq) (l₀ := .ref C :: bm) (fun A Q E s k q => wpAny_bind ((looks_clsIn X2 clsC) A _ E s k (wpAny_pure q))) rfl X2 sm (I2.type.andThen (looks_subIn X2 T.sv)) eC (by decide) ?_
  refine kxs_callWith (i := "ValueError.__init__") (x := e) rfl (evalArgs_plain (spliced_cons (wpAny_Constant_str (k := j) (pos := a3) (spliced_nil ⟨?_, ?_⟩))))
  · exact Heap.get?_push_at rfl rfl
  have k3 : ∀ b o, h2.get? b = some o → (h2.push (kxs_mw "ValueError.__init__" e)).get? b = some o := fun b o q => Heap.get?_push_of_some _ q
  refine mw_call (C := C) (e := e) (t0 := t0) (k3 _ _ (hk2 _ _ lC1)) (k3 _ _ he2) (Heap.get?_push_at rfl rfl) (by show 1 ≤ sizeLine; rw [sizeLine_eq]; omega) (fun h4 t4 k4 he4 => ?_)
  have kk : ∀ b o, b ≠ e → h1.get? b = some o → h4.get? b = some o := fun b o n q => k4 b o n (k3 _ _ (hk2 _ _ q))
  have kh : ∀ b o, b ≠ e → h.get? b = some o → h4.get? b = some o := fun b o n q => kk b o n (hk _ _ q)
  have X4 : K.In h4 := M0.kin.keeps fun b o q => kh b o (fun z => by rw [z, hne] at q; cases q) (hb b o q)
  have I4 : PySem.W.InstAt h4 e (PySem.HandSPX.excO C t4) C none := ⟨he4, rfl, rfl, trivial⟩
  obtain ⟨oL, es, ep, hL, rL⟩ := hns
  have eL : h.objs.size ≠ e := fun z => by
    have y := Heap.lt_size he
    rw [← z] at y
    exact Nat.lt_irrefl _ y
  have hns4 : h4.Ns h.objs.size (fun x => ([(("self" : Str), Value.ref e), (("reason" : Str), u)] : List (Str × Value)).reverse.lookup x) := ⟨oL, es, ep, kk _ _ eL hL, rL⟩
  refine wpAt_of_wpAny (wpAny_execs_cons (plainObj_wpAny_Assign_Attribute (wpAny_Name (wpAny_loadName_local rfl rfl hns4 rfl (wpAny_Name (wpAny_loadName_local rfl rfl hns4 rfl ?_))))))
  refine set_plain X4 (od := none) I4 T.o.sa ?_
  refine PySem.HandSPX.exc_osa X4 he4 clsC (show PySem.HandSPX.refsVE (.ref C :: bm) = true from hbm) rfl T.rs (fun h5 tk5 dx k5 dn dne hx hn => ?_)
  refine wpAny_execs_nil ?_
  refine k h5 t4 dx tk5 (fun b o n q => k5 b o n (kh b o n q)) (Nat.le_trans (Nat.le_of_lt (Heap.lt_size (kk _ _ eL hL))) dn) hx hn
end
end
/-- PaperError('..') -/
theorem pmk_pe {X : Cx} {C : Addr} {x m : Str} {j k : Nat} {p p2 pos : Pos} (T : PeK X.prog X.K X.mg C) (hg : Gl X x) (gC : X.mg x = some (.ref C)) (hr : Room (k + 1) X.A) (hdb : (x == ("__debug__" : Str)) = false := by decide) :
    PMk X (.Call (.Name x p) [.Constant (.str m) j p2] [] pos) (fun _ H Q => ∀ dx, Q (.ref C) (some dx) H) := by
  intro pins s σ H Q I h
  obtain ⟨fI, _, _, _, _, _, _, _, _, _, _, _, _, _, _, _, _, _, _, _, _, _, _, _, _, _, f1, f2, _⟩ := T.ini
  obtain ⟨nm, q, N, bs, bm, sn, sub, ab, col, dd, k0, k1, k2, k3, k5, hC, hbm⟩ := T.o.cls
  refine wpAny_Call_Name_kw (ld_glob I hg gC ?_ hdb)
  have ha : PA X [.Constant (.str m) j p2] (tCons (tC (.str m)) tNil) := pa_cons pe_str pa_nil
  refine PySem.W.callWith_K (h₀ := X.base) I.ok.mod.kin T.o.kC (thn (ha.run pos pins s σ H (fun vs H1 => vs = [V.str m] ∧ H = H1) I ⟨rfl, rfl⟩) fun us s1 hh => ?_)
  obtain ⟨vs, H1, I1, r1, ev, eH⟩ := hh
  subst ev
  rw [← eH] at I1
  refine ⟨I1.kIn, ?_⟩
  cases r1 with
  | cons ru rn =>
    rename_i u us'
    cases rn
    show wpAny _ _ (call (.ref C) [u]) _ _ _
    obtain ⟨hp, g, dr, tk, os⟩ := s1
    have hget : ((hp.push (PySem.W.kdv_tup [u])).push (PySem.HandSPX.excO C hp.objs.size)).get? (hp.objs.size + 1) = some (PySem.HandSPX.excO C hp.objs.size) := by heap_get
    have kk : ∀ b o, hp.get? b = some o → ((hp.push (PySem.W.kdv_tup [u])).push (PySem.HandSPX.excO C hp.objs.size)).get? b = some o := fun b o e => Heap.get?_push_of_some _ (Heap.get?_push_of_some _ e)
    have ne : ∀ b o, hp.get? b = some o → b ≠ hp.objs.size + 1 := fun b o e => Nat.ne_of_lt (Nat.lt_succ_of_lt (Heap.lt_size e))
    refine wpAny_call (PySem.HandSPX.call_own F.excBase_ValueError (fun Y => PySem.HandSPX.refsVE_contains Y bm hbm) (I1.kIn _ _ hC) (PySem.W.looks_findIn I1.kIn f1) (fun self => PySem.W.bind_fn I1.kIn self f2) (by show 1 ≤ sizeLine; rw [sizeLine_eq]; omega) ?_)
    refine ini_run T I.ok.mod (fun b o e => kk b o (I1.bk b o e)) hget (Heap.get?_none_of_le (Nat.le_trans (Nat.le_trans I1.ok.bsz I1.sz) (Nat.le_succ _))) (hr.make C [u] []).depth f1 fun h' t1 dx tk' k1 dn he hn => ?_
    refine ⟨rfl, ?_⟩
    obtain ⟨G, g1, g2⟩ := restrict h' fun b => decide (b ≠ hp.objs.size + 1)
    have gk : ∀ b, b ≠ hp.objs.size + 1 → G.get? b = h'.get? b := fun b hb => g1 b (decide_eq_true hb)
    have ge : G.get? (hp.objs.size + 1) = none := g2 _ (by simp)
    have J : Inv X pins σ H ⟨G, g, dr, tk', os⟩ := I1.kept (t' := tk') fun b o q => by
      rw [gk b (ne b o q)]
      exact k1 b o (ne b o q) (kk b o q)
    refine ⟨hp.objs.size + 1, _, _, ⟨G, g, dr, tk', os⟩, H, .ref C, some dx, rfl, J, fun b o q => ?_, ge, he, ⟨rfl, rfl⟩, rfl, rfl, I1.hok.fresh (Nat.le_succ _), rfl, I1.bare, raises_own T.o.exC T.o.tyC, h dx⟩
    by_cases hb : b = hp.objs.size + 1
    · rw [hb, ge] at q
      cases q
    · rw [← gk b hb]
      exact q
end Vw

namespace Vw
open PySem PySem.Spec PyProof.Rows L2

/-! ### what may raise: none stands for the error -/
abbrev XM := Sto → M (Option Fl)
def ContX (K : PySem.W.Frag) (mg : Str → Option Value) (aw C : Addr) (W : WX) (U : Addr → Prop) (H0 : Hp) (O : Nat → Option Addr) (H : Hp) (D : Ends) (w' : Wd) : Option Fl → Prop
  | some fl => Cont K mg aw U H0 O H D w' fl
  | none => ∀ σ' H' O' ρ' dx, SS K mg aw U H0 O' σ' H' ρ' w' → Stp U O H O' H' → W (.ref C) (some dx) σ' H'
theorem ContX.step {K : PySem.W.Frag} {mg : Str → Option Value} {aw C : Addr} {W : WX} {U : Addr → Prop} {H0 : Hp} {O O1 : Nat → Option Addr} {H H1 : Hp} {D : Ends} {w' : Wd} {o : Option Fl} (s : Stp U O H O1 H1) (k : ContX K mg aw C W U H0 O H D w' o) : ContX K mg aw C W U H0 O1 H1 D w' o := by
  cases o with
  | some fl => exact Cont.step s k
  | none => exact fun σ' H' O' ρ' dx S t => k σ' H' O' ρ' dx S (s.trans t)
def tX (K : PySem.W.Frag) (mg : Str → Option Value) (aw C : Addr) (W : WX) (d : XM) : TS := fun D σ H => ∃ (U : Addr → Prop) (H0 : Hp) (O : Nat → Option Addr) (ρ : Sto) (w : Wd) (o : Option Fl) (w' : Wd), SS K mg aw U H0 O σ H ρ w ∧ d ρ w = .ok o w' ∧ ContX K mg aw C W U H0 O H D w' o
def VX (X : Cx) (aw C : Addr) (W : WX) (st : Stmt) (d : XM) : Prop := PS X st (tX X.K X.mg aw C W d)
def VXs (X : Cx) (aw C : Addr) (W : WX) (st : List Stmt) (d : XM) : Prop := PSs X st (tX X.K X.mg aw C W d)
theorem ps_nox {X : Cx} {st : Stmt} {t : TS} (h : PS X.nox st t) : PS X st t := ⟨fun pins s σ H D I hw => wpAny_mono (h.run pins s σ H D (I.wish _) hw) (fun _ _ q => q.unwish) fun _ _ z => False.elim z⟩
theorem pt_nox {X : Cx} {c : Expr} {t : TT} (h : PT X.nox c t) : PT X c t := PT.nox h
section
variable {X : Cx} {aw C : Addr} {W : WX} {pos : Pos} {c e tg iter : Expr} {La Ca : List Nat} {st : Stmt} {body rest sa sb : List Stmt} {ds : Sto → M Fl} {dx dy dbd : XM} {tb : Sto → M Bool}
def xUp (d : Sto → M Fl) : XM := fun ρ => d ρ >>= fun fl => Pure.pure (some fl)
theorem vx_up (h : VS X.nox aw st ds) : VX X aw C W st (xUp ds) := PS.weak (ps_nox h) fun D σ H ⟨U, H0, O, ρ, w, o, w', S, h, k⟩ => by
  obtain ⟨fl, w1, g1, g2⟩ := bind_ok h
  obtain ⟨rfl, rfl⟩ := pure_ok g2
  exact ⟨U, H0, O, ρ, w, fl, _, S, g1, k⟩
theorem vxs_up (h : VSs X.nox aw body ds) : VXs X aw C W body (xUp ds) := PSs.weak (PSs.nox h) fun D σ H ⟨U, H0, O, ρ, w, o, w', S, h, k⟩ => by
  obtain ⟨fl, w1, g1, g2⟩ := bind_ok h
  obtain ⟨rfl, rfl⟩ := pure_ok g2
  exact ⟨U, H0, O, ρ, w, fl, _, S, g1, k⟩
def xfSeq (b : XM) : Option Fl → M (Option Fl)
  | none => Pure.pure none
  | some (.nx ρ) => b ρ
  | some f => Pure.pure (some f)
def xSeq (a b : XM) : XM := fun ρ => a ρ >>= xfSeq b
theorem vxs_cons (h1 : VX X aw C W st dx) (h2 : VXs X aw C W rest dy) : VXs X aw C W (st :: rest) (xSeq dx dy) :=
  PSs.weak (pss_cons h1 h2) fun D σ H ⟨U, H0, O, ρ, w, o, w', S, h, k⟩ => by
    obtain ⟨f1, w1, g1, g2⟩ := bind_ok h
    refine ⟨U, H0, O, ρ, w, f1, w1, S, g1, ?_⟩
    cases f1 with
    | none => obtain ⟨rfl, rfl⟩ := pure_ok g2; exact k
    | some f1 =>
      cases f1 with
      | nx ρ1 => exact fun σ' H' O' S' t => ⟨U, H0, O', ρ1, w1, o, w', S', g2, k.step t⟩
      | rt v => obtain ⟨rfl, rfl⟩ := pure_ok g2; exact k
      | bk ρ1 => obtain ⟨rfl, rfl⟩ := pure_ok g2; exact k
      | ct ρ1 => obtain ⟨rfl, rfl⟩ := pure_ok g2; exact k
theorem vxs_one (h1 : VX X aw C W st dx) : VXs X aw C W [st] dx := PSs.weak (pss_one h1) fun _ _ _ h => h
def xIf (t : Sto → M Bool) (a b : XM) : XM := fun ρ => t ρ >>= fun k => if k then a ρ else b ρ
theorem vx_if (hc : VT X.nox aw c tb) (ha : VXs X aw C W sa dx) (hb : VXs X aw C W sb dy) : VX X aw C W (.If c sa sb pos) (xIf tb dx dy) := PS.weak (ps_if (PT.nox hc) ha hb) fun D σ H ⟨U, H0, O, ρ, w, o, w', S, h, k⟩ => by
  obtain ⟨kb, w1, g1, g2⟩ := bind_ok h
  refine ⟨U, O, ρ, w, kb, w1, S.s, g1, fun H1 e1 r1 => ?_⟩
  cases kb with
  | true =>
    rw [if_pos rfl] at g2 ⊢
    exact ⟨U, H0, O, ρ, w1, o, w', S.ext e1 r1, g2, k.step (S.stp e1 r1)⟩
  | false =>
    rw [if_neg Bool.false_ne_true] at g2 ⊢
    exact ⟨U, H0, O, ρ, w1, o, w', S.ext e1 r1, g2, k.step (S.stp e1 r1)⟩
def xRaise : XM := fun _ => Pure.pure none
theorem vx_raise {x m : Str} {j k : Nat} {p p2 p3 : Pos} (hc : X.calm = true) (tk : Takes X W) (T : PeK X.prog X.K X.mg C) (hg : Gl X x) (gC : X.mg x = some (.ref C)) (hr : Room (k + 1) X.A) (hdb : (x == ("__debug__" : Str)) = false := by decide) :
    VX X aw C W (.Raise (some (.Call (.Name x p) [.Constant (.str m) j p2] [] p3)) none pos) xRaise := PS.weak (ps_raise hc tk (pmk_pe T hg gC hr hdb)) fun D σ H ⟨U, H0, O, ρ, w, o, w', S, h, k⟩ => by
  obtain ⟨rfl, rfl⟩ := pure_ok h
  exact fun dx => k σ H O ρ dx S Stp.refl
/-! ### for -/
def turnX (kl : List Nat) (next : XM) : Option Fl → M (Option Fl)
  | none => Pure.pure none
  | some (.nx ρ) => next (wipeS ρ kl)
  | some (.ct ρ) => next (wipeS ρ kl)
  | some (.bk ρ) => Pure.pure (some (.nx (wipeS ρ kl)))
  | some (.rt v) => Pure.pure (some (.rt v))
def forLX (gd : D → Sto → Option Sto) (body : XM) (kl : List Nat) : List D → XM
  | [], ρ => Pure.pure (some (.nx ρ))
  | d :: ds, ρ => lift (gd d ρ) >>= fun ρ1 => body ρ1 >>= turnX kl (forLX gd body kl ds)
def xFor (L : List Nat) (it : Sto → M (List D)) (gd : D → Sto → Option Sto) (kl : List Nat) (body : XM) : XM := fun ρ => it (share L ρ) >>= fun ds => forLX gd body kl ds (wipeS (share L ρ) kl)
theorem pi_nox {X : Cx} {g e : Expr} {t : TI} (h : PI X.nox g e t) (hh : PI X.nox g e t → PI X g e t) : PI X g e t := hh h
theorem vx_for {it : Sto → M (List D)} {gt : TG} {vs kl : List Nat} {gd : D → Sto → Option Sto} (hp : PassesOwn (model X.prog X.w) X.A X.env X.xe) (hc : X.calm = true) (gk : GOk X.K X.mg aw gt vs gd) (hi : VI X aw tg iter La Ca it) (hg : PG X tg gt) (hb : VXs X aw C W body dbd)
    (hs : ∀ x, foldedSetIterable iter X.env x = pure x := by intro _; rfl) : VX X aw C W (.For tg iter body [] pos) (xFor La it gd kl dbd) :=
  PS.weak (ps_for hp hc hi.1 hg hb hs) fun D σ H ⟨U, H0, O, ρ, w, fl, w', S, h, k⟩ => by
    obtain ⟨ds, w1, h1, h⟩ := bind_ok h
    have S' := S.share La
    refine ⟨U, offO O La, _, w, ds, w1, S'.s, h1, fun J H1 e1 r1 wk => ?_⟩
    have S1 := (S'.ext e1 r1).forget kl
    have wk1 := (wk (UO U (offO O La) []) (fun a => UO U (offO O La) [] a ∨ H1 a = none) (off_all fun _ z => z) (fun _ z => .inl z) (fun a z => z.elim (fun z => .inl (off_all hi.2 a z)) .inr)).walk
    have k1 : ContX X.K X.mg aw C W U H0 (offO O La) H1 D w' fl := k.step (Stp.off.trans (S'.stp e1 r1))
    refine for_it wk1 (fun i σ' H' => ∃ O' ρ' wi, SS X.K X.mg aw U H0 O' σ' H' ρ' wi ∧ Stp U (offO O La) H1 O' H' ∧ forLX gd dbd kl (ds.drop i) ρ' wi = .ok fl w') ⟨_, _, w1, S1, Stp.refl, h⟩ ?_ ?_ ?_
    · rintro i σ' H' hi' ⟨O', ρ', wi, Si, ti, _⟩
      exact ti.p
    · rintro i x σ' H' H'' hi' ⟨O', ρ', wi, Si, ti, hf⟩ ⟨d, hd, sm, rd⟩
      have hdrop : ds.drop i = d :: ds.drop (i + 1) := by
        obtain ⟨hi', e⟩ := List.getElem?_eq_some_iff.mp hd
        rw [List.drop_eq_getElem_cons hi', e]
      rw [hdrop] at hf
      obtain ⟨ρ1, w3, g1, hf⟩ := bind_ok hf
      obtain ⟨g1', rfl⟩ := lift_ok g1
      obtain ⟨f1, w4, g2, hf⟩ := bind_ok hf
      have Si' := Si.ext (Ext.of_same sm) (Si.s.wld.same sm)
      have ti' := ti.trans (Si.stp (Ext.of_same sm) (Si.s.wld.same sm))
      have rd' : Rep X.K X.mg aw (UO U O' []) H'' x d := rd.keep (Pres.refl _ _) fun a z => by
        rcases z with z | ⟨j, _, z⟩
        · exact .inl (.inl z)
        · rcases ti.o j a z with ⟨l, hl⟩ | z
          · exact .inl (.inr ⟨l, by simp, hl⟩)
          · exact .inr z
      refine gk (UO U O' []) H'' x d ρ' ρ1 σ' _ rd' g1' Si'.s.len fun σ2 up => ?_
      have S2 : SS X.K X.mg aw U H0 O' σ2 H'' ρ1 _ := ⟨Si'.s.upd up, Si'.e, Si'.f⟩
      refine ⟨U, H0, O', ρ1, _, f1, w4, S2, g2, ?_⟩
      cases f1 with
      | none =>
        obtain ⟨rfl, rfl⟩ := pure_ok hf
        exact fun σ3 H3 O3 ρ3 dx S3 t3 => k1 σ3 H3 O3 ρ3 dx S3 (ti'.trans t3)
      | some f1 =>
        cases f1 with
        | nx ρ2 => exact fun σ3 H3 O3 S3 t3 => ⟨O3, _, w4, S3.forget kl, ti'.trans t3, hf⟩
        | ct ρ2 => exact fun σ3 H3 O3 S3 t3 => ⟨O3, _, w4, S3.forget kl, ti'.trans t3, hf⟩
        | bk ρ2 =>
          obtain ⟨rfl, rfl⟩ := pure_ok hf
          exact fun σ3 H3 O3 S3 t3 => k1 σ3 H3 O3 (S3.forget kl) (ti'.trans t3)
        | rt v =>
          obtain ⟨rfl, rfl⟩ := pure_ok hf
          exact k1
    · rintro σ' H' ⟨O', ρ', wi, Si, ti, hf⟩
      rw [List.drop_length] at hf
      obtain ⟨rfl, rfl⟩ := pure_ok hf
      exact k1 σ' H' O' Si ti
end
/-! ### defs that may raise -/
def spX (K : PySem.W.Frag) (mg : Str → Option Value) (aw C : Addr) (n : Nat) (f : List D → M (Option D)) : Sp := fun vs H Q E => ∃ (U : Addr → Prop) (ds : List D) (w : Wd) (o : Option D) (w' : Wd), (∀ a, U a → H a ≠ none) ∧ U aw ∧ (∀ ac r, H aw = some (.lst (.ref ac :: r)) → U ac) ∧
  RepL K mg aw U H vs ds ∧ WR aw H w ∧ ds.length = n ∧ f ds w = .ok o w' ∧ match o with
    | some v0 => ∀ x H', Ext aw H H' → WR aw H' w' → Rep K mg aw U H' x v0 → Q x H'
    | none => ∀ H' dx, Ext aw H H' → WR aw H' w' → E (.ref C) (some dx) H'
def endX : Option Fl → M (Option D)
  | none => Pure.pure none
  | some fl => endD fl >>= fun v => Pure.pure (some v)
def fnX (m n : Nat) (body : XM) : List D → M (Option D) := fun ds => if ds.length = n then body (stoD m n ds) >>= endX else M.bad
theorem sto_start {K : PySem.W.Frag} {mg : Str → Option Value} {aw : Addr} {U : Addr → Prop} {H : Hp} {vs : List V} {ds : List D} {w : Wd} {N ps : List Str} (hpl : ps.length ≤ N.length) (tr : ∀ a, U a → H a ≠ none) (uw : U aw) (wac : ∀ ac r, H aw = some (.lst (.ref ac :: r)) → U ac)
    (r : RepL K mg aw U H vs ds) (wr : WR aw H w) (hl : ds.length = ps.length) : SR K mg aw U (fun _ => none) (L2.start N vs) H (stoD N.length ps.length ds) w := by
  have e0 : ∀ a, UO U (fun _ => none) [] a → U a := fun a z => z.elim id fun ⟨_, _, e⟩ => by cases e
  refine ⟨by unfold L2.start stoD; simp [r.length, hl], tr, uw, fun i a e => (by cases e), fun i a e => (by cases e), fun i j a e => (by cases e), fun i d e => ?_, fun i d e => ?_, wr, wac, ⟨0, fun i a e => (by cases e)⟩⟩
  · unfold stoD at e
    by_cases hi : i < ds.length
    · rw [List.getElem?_append_left (by simpa using hi), List.getElem?_map] at e
      cases q : ds[i]? with
      | none => rw [q] at e; cases e
      | some d' =>
        rw [q] at e
        cases e
        obtain ⟨v, hv, rv⟩ := r.get q
        refine ⟨v, ?_, rv.keep (Pres.refl _ _) e0⟩
        unfold L2.start
        rw [List.getElem?_append_left (by rw [List.length_map, r.length]; exact hi), List.getElem?_map, hv]
        rfl
    · rw [List.getElem?_append_right (by simpa using hi), List.getElem?_replicate] at e
      split at e <;> cases e
  · unfold stoD at e
    by_cases hi : i < ds.length
    · rw [List.getElem?_append_left (by simpa using hi), List.getElem?_map] at e
      cases q : ds[i]? with
      | none => rw [q] at e; cases e
      | some d' => rw [q] at e; cases e
    · rw [List.getElem?_append_right (by simpa using hi), List.getElem?_replicate] at e
      split at e <;> cases e
section
variable {P : Program} {w : World} {K : PySem.W.Frag} {mg : Str → Option Value} {base : Heap} {x qual : Str} {params : Arguments} {body : List Stmt} {scope : Scope} {dvs : List V} {kws : List (Str × V)} {f : Addr} {fd : FuncData} {aw C : Addr}
theorem xfn_ok {N ps : List Str} {k : Nat} {d : XM} (F : FunD K x qual params body scope dvs kws f fd) (S : FnScope N ps scope)
    (hb : ∀ (cdv : Value) (A : Around) (outer : List Env) (s : Shared) (H : Hp) (E : XK), Room k (A.deeper (envOfC qual scope s.heap.objs.size f cdv)) → VXs (cxOf (L2.CX P w) P w K mg base N qual scope f cdv A outer s H E) aw C (fun cls dd _ H => E cls dd H) body d) :
    FnOk P w K mg base (L2.CX P w) (k + 1) f fd ps (spX K mg aw C ps.length (fnX N.length ps.length d)) := by
  refine F.ok S (fun vs H Q E h => ?_) (fun cdv A outer s H vs Q E hr h => ⟨tX K mg aw C (fun cls dd _ H => E cls dd H) d, hb cdv A outer s H E hr, ?_⟩)
  · obtain ⟨U, ds, w, o, w', _, _, _, r, _, hl, _⟩ := h
    rw [r.length, hl]
  · obtain ⟨U, ds, wd, o, w', tr, uw, wac, r, wr, hl, hf, k⟩ := h
    unfold fnX at hf
    rw [if_pos hl] at hf
    obtain ⟨fl, w1, h1, h2⟩ := bind_ok hf
    have hpl : ps.length ≤ N.length := by have := congrArg List.length S.pre; rw [List.length_take] at this; omega
    refine ⟨U, H, fun _ => none, _, wd, fl, w1, ⟨sto_start hpl tr uw wac r wr hl, Ext.refl _ _, fun i a e => (by cases e)⟩, h1, ?_⟩
    cases fl with
    | none =>
      obtain ⟨rfl, rfl⟩ := pure_ok h2
      exact fun σ' H' O' ρ' dx S' _ => k H' dx S'.e S'.s.wld
    | some fl =>
      obtain ⟨v, w2, g1, g2⟩ := bind_ok h2
      obtain ⟨rfl, rfl⟩ := pure_ok g2
      cases fl with
      | nx ρ =>
        obtain ⟨rfl, rfl⟩ := pure_ok g1
        exact fun σ' H' O' S' _ => k .non H' S'.e S'.s.wld .non
      | rt v =>
        obtain ⟨rfl, rfl⟩ := pure_ok g1
        exact fun v' H' e r rv => k v' H' e r rv
      | bk ρ => cases g1
      | ct ρ => cases g1
structure XDefOk (P : Program) (w : World) (K : PySem.W.Frag) (mg : Str → Option Value) (base : Heap) (aw C : Addr) (x : Str) (k n : Nat) (f : List D → M (Option D)) : Prop where
  ex : ∃ (a : Addr) (fd : FuncData) (ps : List Str), FnOk P w K mg base (L2.CX P w) k a fd ps (spX K mg aw C n f) ∧ mg x = some (.ref a) ∧ PySem.W.keepIn K (.ref a) = true ∧ Binds K fd ps []
  ln : ∀ ds w v w', f ds w = .ok v w' → ds.length = n
theorem fnX_len {m n : Nat} {b : XM} (ds : List D) (w : Wd) (v : Option D) (w' : Wd) (h : fnX m n b ds w = .ok v w') : ds.length = n := by
  unfold fnX at h
  split at h
  · assumption
  · cases h
theorem xdef_ok {N ps : List Str} {k : Nat} {d : XM} (F : FunD K x qual params body scope [] [] f fd) (hm : mg x = some (.ref f)) (S : FnScope N ps scope)
    (hbi : ∀ (kV doc pm : Value) (an : Option Addr) (cdv ct : Value) (us : List Value), us.length = ps.length → bindArgs (PySem.W.fnOf x qual params body scope .none kV doc pm an cdv ct) ⟨us, []⟩ = pure (ps.zip us))
    (hb : ∀ (cdv : Value) (A : Around) (outer : List Env) (s : Shared) (H : Hp) (E : XK), Room k (A.deeper (envOfC qual scope s.heap.objs.size f cdv)) → VXs (cxOf (L2.CX P w) P w K mg base N qual scope f cdv A outer s H E) aw C (fun cls dd _ H => E cls dd H) body d) :
    XDefOk P w K mg base aw C x (k + 1) ps.length (fnX N.length ps.length d) :=
  ⟨⟨f, fd, ps, xfn_ok F S hb, hm, F.kp, F.bindsN hbi⟩, fun ds w v w' h => fnX_len ds w v w' h⟩
theorem XDefOk.mono {j k n : Nat} {y : Str} {g : List D → M (Option D)} (h : XDefOk P w K mg base aw C y j n g) (l : j ≤ k) : XDefOk P w K mg base aw C y k n g := by
  obtain ⟨a, fd, ps, F, r⟩ := h.ex
  exact ⟨⟨a, fd, ps, F.mono l, r⟩, h.ln⟩
end
end Vw

namespace Vw
open PySem PySem.Spec PyProof.Rows L2

/-! ### a def that the frame's own name holds, called -/
def tEX (K : PySem.W.Frag) (mg : Str → Option Value) (aw C : Addr) (W : WX) (L : List Nat) (d : Sto → M (Option D)) : TE := fun σ H Q => ∃ (U : Addr → Prop) (O : Nat → Option Addr) (ρ : Sto) (w : Wd) (o : Option D) (w' : Wd), SR K mg aw U O σ H ρ w ∧ d ρ w = .ok o w' ∧ match o with
  | some v0 => ∀ v H', Ext aw H H' → WR aw H' w' → RepC K mg aw (UO U O L) (UO U O L) H' v v0 → Q v H'
  | none => ∀ H' dx, Ext aw H H' → WR aw H' w' → W (.ref C) (some dx) σ H'
abbrev Tbl := List (Str × (List D → M (Option D)))
def fnAt (ρ : Sto) (i : Nat) : Option Str := match ρ[i]? with
  | some (some (false, .fn x)) => some x
  | _ => none
def xCallV (tb : Tbl) (i : Nat) (a : Sto → M (List D)) : Sto → M (Option D) := fun ρ => a ρ >>= fun ds => lift (fnAt ρ i) >>= fun x => lift (tb.lookup x) >>= fun f => f ds
theorem fnAt_eq {ρ : Sto} {i : Nat} {y : Str} (h : fnAt ρ i = some y) : ρ[i]? = some (some (false, .fn y)) := by
  unfold fnAt at h
  split at h
  · cases h; assumption
  · cases h
section
variable {X : Cx} {aw C : Addr} {W : WX} {pos p : Pos} {e : Expr} {es : List Expr} {La Ca : List Nat} {dr : Sto → M (List D)} {k i : Nat} {x : Str} {tb : Tbl}
theorem px_callV (tk : Takes X W) (G : ∀ y f, tb.lookup y = some f → ∃ n, XDefOk X.prog X.w X.K X.mg X.base aw C y k n f) (hr : Room k X.A) (hN : X.N[i]? = some x) (hv : Vis X.env.scope x) (ha : VA X.nox aw (e :: es) La Ca dr)
    (hdb : (x == ("__debug__" : Str)) = false := by decide) (hcd : (x == ("__classdict__" : Str)) = false := by decide)
    (he : starEach (e :: es) X.env = (false, eval e X.env) :: starEach es X.env := by rfl) (hpl : (backTo pos (starEach es X.env)).any (·.1) = false := by rfl) : PE X (.Call (.Name x p) (e :: es) [] pos) (tEX X.K X.mg aw C W La (xCallV tb i dr)) := by
  refine ⟨fun pins s σ H Q I h => ?_⟩
  obtain ⟨U, O, ρ, w, o, w', S, h, kk⟩ := h
  obtain ⟨ds, w1, h1, h⟩ := bind_ok h
  obtain ⟨y, w2, h2, h⟩ := bind_ok h
  obtain ⟨g2, rfl⟩ := lift_ok h2
  obtain ⟨f, w3, h3, h⟩ := bind_ok h
  obtain ⟨g3, rfl⟩ := lift_ok h3
  obtain ⟨v, hs, rv⟩ := S.sh i _ (fnAt_eq g2)
  obtain ⟨a, rfl, hma⟩ := (Rep.c rv).inv_fn
  obtain ⟨n, G1⟩ := G y f g3
  obtain ⟨a', fd, ps, F, hm, kp, b⟩ := G1.ex
  obtain rfl : a' = a := by
    rw [hm] at hma
    cases hma
    rfl
  refine wpAny_Call_Name_kw (thn ((pe_var (pos := p) hN hv hdb hcd).run pins s σ H (fun v H1 => v = .ref a' ∧ H1 = H) I ⟨.ref a', hs, rfl, rfl⟩) fun u s1 ⟨v, H1, I1, r1, q1⟩ => ?_)
  obtain ⟨rfl, rfl⟩ := q1
  cases r1
  have hal : PA X (e :: es) (tA X.K X.mg aw La Ca dr) := ⟨fun pos pins s σ H Q I hw => wpAny_mono (ha.1.run pos pins s σ H Q (I.wish _) hw) (fun _ _ ⟨v, H', I', r, q⟩ => ⟨v, H', I'.unwish, r, q⟩) fun _ _ z => False.elim z⟩
  refine PySem.W.callWith_K (h₀ := X.base) I.ok.mod.kin kp (thn (hal.run pos pins s1 σ _ (fun vs H2 => spX X.K X.mg aw C n f vs H2 Q (WE W σ)) I1 ⟨U, O, ρ, w, ds, _, S, h1, fun vs H2 e1 r1 c1 => ?_⟩) fun us s2 ⟨vs, H2, I2, r, q⟩ => ⟨I2.kIn, run_fnS F hr b (passAt tk σ) I2 r q⟩) he hpl
  have S1 := S.ext e1 r1
  refine ⟨UO U O La, ds, _, o, w', S1.utr, S1.un, fun ac r z => .inl (S1.wac ac r z), c1.weak (fun _ z => z) (UO.mono ha.2), r1, G1.ln _ _ _ _ h, h, ?_⟩
  cases o with
  | some v0 => exact fun z H' e2 r2 rz => kk z H' (e1.trans e2) r2 rz.c
  | none => exact fun H' dx e2 r2 => kk H' dx (e1.trans e2) r2
/-- return f(..) is None -/
def xRetIs (d : Sto → M (Option D)) : XM := fun ρ => d ρ >>= fun o => match o with
  | none => Pure.pure none
  | some v => lift (oIsN v .non) >>= fun b => Pure.pure (some (.rt b))
theorem vx_retIs {p2 p3 pos2 : Pos} {j : Nat} {d : Sto → M (Option D)} (h : PE X e (tEX X.K X.mg aw C W La d)) : VX X aw C W (.Return (some (.Compare e [.Is] [.Constant .none j p2] p3)) pos2) (xRetIs d) :=
  PS.weak (ps_ret (pe_cmpR op_isN h pe_non (nomark _))) fun D σ H ⟨U, H0, O, ρ, w, o, w', S, g, k⟩ => by
    obtain ⟨o1, w1, g1, g2⟩ := bind_ok g
    refine ⟨U, O, ρ, w, o1, w1, S.s, g1, ?_⟩
    cases o1 with
    | none =>
      obtain ⟨rfl, rfl⟩ := pure_ok g2
      exact fun H' dx e1 r1 => k σ H' O ρ dx (S.ext e1 r1) (S.stp e1 r1)
    | some v0 =>
      obtain ⟨b, w2, g3, g4⟩ := bind_ok g2
      obtain ⟨g5, rfl⟩ := lift_ok g3
      obtain ⟨rfl, rfl⟩ := pure_ok g4
      intro v H' e1 r1 c1
      have S1 := S.s.ext e1 r1
      refine ok_isN (UO U O La) H' v .non v0 .non b _ S1.utr (c1.rd fun _ z => z) (.any .non fun _ z => z.elim) g5 fun u H2 sm ru => ?_
      exact k u H2 (S.e.trans (e1.trans (Ext.of_same sm))) (r1.same sm) (ru.keep (Pres.refl _ _) fun a z => .inl z)
end
/-! ### try: .. except C: return False -/
def sTry (d : XM) : Sto → M Fl := fun ρ => d ρ >>= fun o => match o with
  | some fl => Pure.pure fl
  | none => Pure.pure (.rt (.bl false))
theorem vs_try {X : Cx} {aw C : Addr} {x : Str} {body : List Stmt} {d : XM} {np pos pos' p1 p2 : Pos} {j : Nat} (hs : X.stack = X.env :: X.outer) (hf : X.env.frame = some X.env.locals) (hc : Names X x (.ref C)) (em : PySem.W.exmOne X.K (.ref C) (.ref C) = some true)
    (hb : ∀ (W : WX) (pn : List (Addr × Obj)) (xe : Value → Shared → Prop), Takes (X.tr pn xe) W → VXs (X.tr pn xe) aw C W body d) :
    VS X aw (.Try body [.ExceptHandler (some (.Name x np)) none [.Return (some (.Constant (.bool false) j p1)) p2] pos'] [] [] pos) (sTry d) := by
  have tk : Takes X (fun _ _ _ _ => False) := fun u s' ⟨_, _, _, _, _, _, _, _, _, _, _, _, _, _, _, _, z⟩ => z.elim
  refine PS.weak (ps_try_only hs hf hc tk (tb := fun W => tX X.K X.mg aw C W d) (ts := fun _ _ _ => tRet (tC (.bl false))) (fun W pn xe tk _ => hb W pn xe tk) (fun a oe cls dd pn _ _ => pss_one (ps_ret pe_bl))) fun D σ H ⟨U, H0, O, ρ, w, fl, w', S, h, k⟩ => ?_
  obtain ⟨o, w1, g1, g2⟩ := bind_ok h
  refine ⟨U, H0, O, ρ, w, o, w1, S, g1, ?_⟩
  cases o with
  | some f =>
    obtain ⟨rfl, rfl⟩ := pure_ok g2
    exact k
  | none =>
    obtain ⟨rfl, rfl⟩ := pure_ok g2
    intro σ' H' O' ρ' dx S' t
    exact ⟨true, em, fun _ a na => k _ H' S'.e S'.s.wld (.bl false), fun z => nomatch z⟩
end Vw

namespace Vw
open PySem PySem.Spec PyProof.Rows L2

/-! ### reckoning with what may raise -/
section
variable {ρ : Sto} {a b : XM} {s : Sto → M Fl} {t : Sto → M Bool} {kl : List Nat} {d : D} {ds : Sto → M (List D)} {i : Nat} {x : Str} {r : Sto}
@[simp] theorem ev_xUp : xUp s ρ = s ρ >>= fun fl => Pure.pure (some fl) := rfl
@[simp] theorem ev_xSeq : xSeq a b ρ = a ρ >>= xfSeq b := rfl
@[simp] theorem ev_xf0 : xfSeq b none = Pure.pure none := rfl
@[simp] theorem ev_xfN : xfSeq b (some (.nx ρ)) = b ρ := rfl
@[simp] theorem ev_xfR : xfSeq b (some (.rt d)) = Pure.pure (some (.rt d)) := rfl
@[simp] theorem ev_xfB : xfSeq b (some (.bk ρ)) = Pure.pure (some (.bk ρ)) := rfl
@[simp] theorem ev_xfC : xfSeq b (some (.ct ρ)) = Pure.pure (some (.ct ρ)) := rfl
@[simp] theorem ev_xIf : xIf t a b ρ = t ρ >>= fun k => if k then a ρ else b ρ := rfl
@[simp] theorem ev_xRaise : xRaise ρ = Pure.pure none := rfl
@[simp] theorem ev_xFor {L : List Nat} {it : Sto → M (List D)} {gd : D → Sto → Option Sto} : xFor L it gd kl a ρ = it (share L ρ) >>= fun ds => forLX gd a kl ds (wipeS (share L ρ) kl) := rfl
@[simp] theorem ev_forXN {gd : D → Sto → Option Sto} : forLX gd a kl [] ρ = Pure.pure (some (.nx ρ)) := rfl
theorem ev_forXC {gd : D → Sto → Option Sto} {l : List D} : forLX gd a kl (d :: l) ρ = lift (gd d ρ) >>= fun ρ1 => a ρ1 >>= turnX kl (forLX gd a kl l) := rfl
@[simp] theorem ev_tX0 {n : XM} : turnX kl n none = Pure.pure none := rfl
@[simp] theorem ev_tXN {n : XM} : turnX kl n (some (.nx ρ)) = n (wipeS ρ kl) := rfl
@[simp] theorem ev_tXC {n : XM} : turnX kl n (some (.ct ρ)) = n (wipeS ρ kl) := rfl
@[simp] theorem ev_tXB {n : XM} : turnX kl n (some (.bk ρ)) = Pure.pure (some (.nx (wipeS ρ kl))) := rfl
@[simp] theorem ev_tXR {n : XM} : turnX kl n (some (.rt d)) = Pure.pure (some (.rt d)) := rfl
@[simp] theorem ev_eX0 : endX none = Pure.pure none := rfl
@[simp] theorem ev_eXN : endX (some (.nx ρ)) = Pure.pure (some .non) := rfl
@[simp] theorem ev_eXR : endX (some (.rt d)) = Pure.pure (some d) := rfl
@[simp] theorem ev_sTry : sTry a ρ = a ρ >>= fun o => match o with | some fl => Pure.pure fl | none => Pure.pure (.rt (.bl false)) := rfl
@[simp] theorem ev_xRetIs {e : Sto → M (Option D)} : xRetIs e ρ = e ρ >>= fun o => match o with | none => Pure.pure none | some v => lift (oIsN v .non) >>= fun b => Pure.pure (some (.rt b)) := rfl
@[simp] theorem ev_xCallV {tb : Tbl} : xCallV tb i ds ρ = ds ρ >>= fun xs => lift (fnAt ρ i) >>= fun y => lift (tb.lookup y) >>= fun f => f xs := rfl
@[simp] theorem fnAt0 : fnAt (some (false, .fn x) :: r) 0 = some x := rfl
@[simp] theorem fnAtS {z : Option (Bool × D)} : fnAt (z :: r) (i + 1) = fnAt r i := by
  unfold fnAt
  rw [List.getElem?_cons_succ]
end
/-! ### what the head tells of the error's class -/
section
open PySem.W PySem.Calls
abbrev IniV : Type := Option (Str × Arguments × FuncBody × Scope × Addr × Addr)
def peC (K : Frag) : Addr := He.ga K "PaperError"
def peF (K : Frag) : Addr := He.ma K (peC K) "__init__"
def peIni (K : Frag) : IniV := match K.lookup (peF K) with
  | some ⟨_, _, .func fd, _⟩ => some (fd.name, fd.params, fd.body, fd.scope, fd.globals, fd.builtins)
  | _ => none
def peCls (K : Frag) : Bool := match K.lookup (peC K) with
  | some ⟨.type ty, _, .cls cd, sl⟩ => decide (ty = "type") && (match cd.mro, sl.toList with
    | .ref C' :: bm, [_, _, _, _, some (.builtin n), _] => decide (C' = peC K) && (decide (n = "ValueError.__new__") && (cd.hasDict && (!cd.hasDel && PySem.HandSPX.refsVE bm)))
    | _, _ => false)
  | _ => false
def peFun (file : Str) (K : Frag) : Bool := match K.lookup (peF K) with
  | some ⟨_, _, .func fd, _⟩ => (match fd.closure, fd.code, fd.defaults with
    | [(nm, cc)], .ref cda, .none => decide (nm = "__class__") && (codeIn K (.ref cda) fd.qualname && ((match K.lookup cda with
      | some ⟨_, _, .fields vs, _⟩ => (match (vs[2]? : Option Value) with
        | some (.str f _) => decide (file = f)
        | _ => false)
      | _ => false) && (match K.lookup cc with
      | some ⟨_, _, .cell (some (.ref C')), _⟩ => decide (C' = peC K)
      | _ => false)))
    | _, _, _ => false)
  | _ => false
def peFacts (K : Frag) : Bool :=
  He.eqO (findIn K (.ref (peC K)) "__setattr__") (some (some (.builtin "object.__setattr__"))) && (decide (subIn K (.ref (peC K)) (.type "BaseException") = some true) && (decide (typeIn K (.ref (peC K)) = some (.type "type")) && (keepIn K (.ref (peC K)) &&
    (He.eqO (findIn K (.ref (peC K)) "reason") (some none) && (He.eqO (findIn K (.ref (peC K)) "__init__") (some (some (.ref (peF K)))) && (decide (typeIn K (.ref (peF K)) = some (.type "function")) && (He.eqO (nsIn K mainGlobals "super") (some none) &&
      (He.eqO (nsIn K cStatics "thirdparty.any") (some none) && (decide (subIn K (.ref (peC K)) (.type "ValueError") = some true) && (He.eqO (ks_superIn K (peC K) (peC K) "__init__") (some (some (.builtin "ValueError.__init__"))) &&
        decide (exmOne K (.ref (peC K)) (.ref (peC K)) = some true)))))))))))
def peB (file : Str) (K : Frag) : Bool := peCls K && (peFun file K && peFacts K)
theorem ba {a b : Bool} (h : (a && b) = true) : a = true ∧ b = true := Bool.and_eq_true_iff.mp h
theorem peCls_ok {K : Frag} (h : peCls K = true) : ∃ nm q N bs bm sn sub ab col dd k0 k1 k2 k3 k5, K.lookup (peC K) = some (excClassObj nm q (peC K) N bs bm true sn sub ab col dd k0 k1 k2 k3 k5 "ValueError.__new__") ∧ PySem.HandSPX.refsVE bm = true := by
  unfold peCls at h
  split at h
  · rename_i ty dd cd sl ho
    obtain ⟨h1, h2⟩ := ba h
    split at h2
    · rename_i C' bm k0 k1 k2 k3 n k5 hm hs
      obtain ⟨e1, h3⟩ := ba h2
      obtain ⟨e2, h4⟩ := ba h3
      obtain ⟨e3, h5⟩ := ba h4
      obtain ⟨e4, e5⟩ := ba h5
      have t1 := of_decide_eq_true h1
      have t2 := of_decide_eq_true e1
      have t3 := of_decide_eq_true e2
      obtain ⟨nm, bs, mro, ns, qn, hd, sn, sub, ab, col, del⟩ := cd
      dsimp only at hm e3 e4
      subst hm t1 t3 e3
      have t4 : del = false := by simpa using e4
      subst t4
      have hsl : sl = #[k0, k1, k2, k3, some (.builtin "ValueError.__new__"), k5] := by
        obtain ⟨l⟩ := sl
        simp only at hs
        rw [hs]
      subst hsl
      rw [t2] at ho
      exact ⟨nm, qn, ns, bs, bm, sn, sub, ab, col, dd, k0, k1, k2, k3, k5, ho, e5⟩
    · cases h2
  · cases h
theorem peK_of {P : Program} {K : Frag} {mg : Str → Option Value} {m : Str} {j : Nat} {a0 a1 a2 a3 a4 a5 a6 a7 a8 a9 b0 b1 : Pos} {file : Str} (h : peB file K = true) (hi : peIni K = some (("__init__" : Str), iniArgs b0 b1, FuncBody.stmts (iniBody m j a0 a1 a2 a3 a4 a5 a6 a7 a8 a9), iniScope, mainGlobals, builtinsNs))
    (hf : P.main.file = file) (ht : (P.main.scope.names.lookup ("super" : Str)).isSome = false) (hs : SupOk m j a0 a1 a2 a3 a4) : PeK P K mg (peC K) ∧ exmOne K (.ref (peC K)) (.ref (peC K)) = some true := by
  obtain ⟨h1, h2⟩ := ba h
  obtain ⟨h2, h3⟩ := ba h2
  obtain ⟨f1, h3⟩ := ba h3
  obtain ⟨f2, h3⟩ := ba h3
  obtain ⟨f3, h3⟩ := ba h3
  obtain ⟨f4, h3⟩ := ba h3
  obtain ⟨f5, h3⟩ := ba h3
  obtain ⟨f6, h3⟩ := ba h3
  obtain ⟨f7, h3⟩ := ba h3
  obtain ⟨f8, h3⟩ := ba h3
  obtain ⟨f9, h3⟩ := ba h3
  obtain ⟨f10, h3⟩ := ba h3
  obtain ⟨f11, f12⟩ := ba h3
  refine ⟨⟨⟨peCls_ok h1, He.eqO_ok f1, of_decide_eq_true f2, of_decide_eq_true f3, f4⟩, He.eqO_ok f5, ?_, He.eqO_ok f8, ht, He.eqO_ok f9, of_decide_eq_true f10, He.eqO_ok f11⟩, of_decide_eq_true f12⟩
  unfold peFun at h2
  unfold peIni at hi
  split at h2
  · rename_i oc od fd osl ho
    rw [ho] at hi
    split at h2
    · rename_i nm cc cda hc hcd hdf
      obtain ⟨g1, h2⟩ := ba h2
      obtain ⟨g2, h2⟩ := ba h2
      obtain ⟨g3, g4⟩ := ba h2
      have t1 := of_decide_eq_true g1
      obtain ⟨n1, n2, n3, n4, n5, n6, n7, n8, n9, n10, n11, n12, n13, n14, n15⟩ := fd
      simp only [Option.some.injEq, Prod.mk.injEq] at hi
      obtain ⟨e1, e2, e3, e4, e5, e6⟩ := hi
      dsimp only at hc hcd hdf g2
      subst hc hcd hdf e1 e2 e3 e4 e5 e6 t1
      refine ⟨peF K, cc, cda, n2, m, j, a0, a1, a2, a3, a4, a5, a6, a7, a8, a9, b0, b1, oc, n9, n10, n11, n14, od, n12, osl, He.eqO_ok f6, of_decide_eq_true f7, ho, g2, ?_, hs, ?_⟩
      · split at g3
        · rename_i ccl cdd vs ccs hl
          split at g3
          · rename_i f tf hv
            exact ⟨ccl, cdd, vs, ccs, f, tf, hl, hv, by rw [hf, of_decide_eq_true g3]; exact beq_self_eq_true _⟩
          · cases g3
        · cases g3
      · split at g4
        · rename_i cl cld C' csl hl
          have := of_decide_eq_true g4
          subst this
          exact ⟨cl, cld, csl, hl⟩
        · cases g4
    · cases h2
  · cases h2
/-! ### the hook -/
def frP (g : Addr → Option Obj) (n : Nat) : Frag := He.frG g (cStatics :: He.asD g n)
abbrev AlP : Type := He.AlD × (Bool × IniV)
def obsP (n : Nat) (fa : List He.Fa) (fn : List He.DefD) (file : Str) (K : Frag) : AlP := (He.obsD fa fn K, (peB file K, peIni K))
def obsPG (n : Nat) (fa : List He.Fa) (fn : List He.DefD) (file : Str) (g : Addr → Option Obj) : AlP := obsP n fa fn file (frP g n)
def hookP (n : Nat) (fa : List He.Fa) (fn : List He.DefD) (file : Str) (iv : IniV) : Hook where
  α := AlP
  obs := fun s => obsPG n fa fn file s.heap.get?
  val := fun _ => (He.valD fn, (true, iv))
  says := fun _ h => ∃ K : Frag, K.In h ∧ He.SaysD fa fn K ∧ peB file K = true ∧ peIni K = iv
  of := fun _ _ e => ⟨_, He.frG_in, congrArg (fun z : AlP => z.1) e, congrArg (fun z : AlP => z.2.1) e, congrArg (fun z : AlP => z.2.2) e⟩
  keeps := fun _ _ _ ⟨K, hK, c⟩ k => ⟨K, Frag.In.keeps hK k, c⟩
theorem obsPG_eq {n : Nat} {fa : List He.Fa} {fn : List He.DefD} {file : Str} {iv : IniV} {g : Addr → Option Obj} {s : Shared} (h : ∀ a, g a = s.heap.get? a) : obsPG n fa fn file g = (hookP n fa fn file iv).obs s := by
  have e : g = s.heap.get? := funext h
  rw [e] <;> rfl
end
/-! ### the table of defs that may raise -/
section
variable {P : Program} {w : World} {K : PySem.W.Frag} {mg : Str → Option Value} {base : Heap} {aw C : Addr} {k : Nat}
abbrev TblOk (P : Program) (w : World) (K : PySem.W.Frag) (mg : Str → Option Value) (base : Heap) (aw C : Addr) (k : Nat) (tb : Tbl) : Prop := ∀ y f, tb.lookup y = some f → ∃ n, XDefOk P w K mg base aw C y k n f
theorem tbl_nil : TblOk P w K mg base aw C k [] := fun _ _ z => nomatch z
theorem tbl_cons {x : Str} {j n : Nat} {f : List D → M (Option D)} {tb : Tbl} (h : XDefOk P w K mg base aw C x j n f) (l : j ≤ k) (r : TblOk P w K mg base aw C k tb) : TblOk P w K mg base aw C k ((x, f) :: tb) := fun y g e => by
  by_cases hy : y = x
  · subst hy
    rw [List.lookup_cons_self] at e
    cases e
    exact ⟨n, h.mono l⟩
  · have b : (y == x) = false := by simpa using hy
    rw [List.lookup_cons, b] at e
    exact r y g e
end
end Vw

namespace Vw
open PySem PySem.Spec PyProof.Rows L2

/-! ### sorted of whatever can be put in order -/
section
open PySem.W PySem.Calls
variable {prog : Program} {w : World} {A : Around} {E : Value → Shared → Prop} {s : Shared} {β : Type} {vs : List Value} {bs : List β} {enc : β → PyData} {R : Value → β → Prop}
/-- a list's or a tuple's items, gone through -/
theorem collect_both {l : Addr} {T : String} {o : Obj} {n : Nat} {Q : List Value → Shared → Prop} (hT : T = "list" ∨ T = "tuple") (ho : s.heap.get? l = some o) (hc : o.cls = .type T) (hd : o.data = .seq vs.toArray n) (hL : vs.length ≤ sizeLine)
    (h : Q vs { s with heap := (s.heap.push (seqObj "list" #[] 0)).update s.heap.objs.size (Obj.mapSeq (· ++ vs.toArray)) }) : wpAny (model prog w) A (collect (.ref l)) Q E s := by
  unfold collect
  refine wpAny_bind (wpAny_runValue (codeAny_builtin PySem.F.entry_proto_collect ?_))
  rw [Around.under_plainId PySem.F.plain_proto_collect _]
  show wpAny _ A.in1 (newList [] >>= fun z => again (.builtin "list.__iadd__" ⟨[z, .ref l], []⟩)) _ _ s
  refine wpAny_bind (wpAny_newList (wpAny_pure ⟨plainId_quiet PySem.F.plain_list_iadd _, codeAny_builtin PySem.F.entry_list_iadd ?_⟩))
  rw [Around.under_plainId PySem.F.plain_list_iadd _]
  have hS : (s.heap.push (seqObj "list" #[] 0)).get? s.heap.objs.size = some (seqObj "list" #[] 0) := Heap.get?_push_size _ rfl
  have hS2 := Heap.get?_update_self (Obj.mapSeq (· ++ vs.toArray)) hS rfl
  have ends : ∀ {E' : Value → Shared → Prop}, wpAny (model prog w) A (match Value.ref s.heap.objs.size with
      | Value.ref a => do
        match (← load a).data with
          | Data.seq xs _ => pure xs.toList
          | _ => unsupported "internal:collect"
      | _ => unsupported "internal:collect") Q E' { s with heap := (s.heap.push (seqObj "list" #[] 0)).update s.heap.objs.size (Obj.mapSeq (· ++ vs.toArray)) } := fun {E'} => by
    show wpAny _ A (load s.heap.objs.size >>= _) _ _ _
    refine wpAny_bind (wpAny_load hS2 (wpAny_pure ?_))
    have e : ((#[] : Array Value) ++ vs.toArray).toList = vs := by simp
    show Q ((#[] : Array Value) ++ vs.toArray).toList _
    rw [e]
    exact h
  refine wpAny_mono (wpAny_extend_seq (hsz := by simpa using hL) (A := A) (R := fun r s' => r = .ok (.ret (.ref s.heap.objs.size)) ∧ s' = { s with heap := (s.heap.push (seqObj "list" #[] 0)).update s.heap.objs.size (Obj.mapSeq (· ++ vs.toArray)) })
    (s := { s with heap := s.heap.push (seqObj "list" #[] 0) }) _ l _ 0 hT hS (Heap.get?_push_of_some _ ho) hc hd ⟨rfl, rfl⟩) (fun fin s' z => ?_) fun e s' z => absurd z.1 (by simp)
  cases fin with
  | done f =>
    obtain ⟨e, rfl⟩ := z
    cases e
    exact ends
  | again c' =>
    refine ⟨z.1, codeAny_mono z.2 fun r s'' hr => ?_⟩
    obtain ⟨rfl, rfl⟩ := hr
    exact ends
theorem sorted_seq {l : Addr} {T : String} {o : Obj} {n : Nat} {Q : Value → Shared → Prop} (hT : T = "list" ∨ T = "tuple") (ho : s.heap.get? l = some o) (hc : o.cls = .type T) (hd : o.data = .seq vs.toArray n)
    (e : EachIs R vs bs) (er : EachIs (fun v b => ∃ as, Reads s.heap v (enc b) as) vs bs) (hal : AllAlike (bs.map enc)) (hk : Sortable (bs.map enc)) (hL : vs.length ≤ sizeLine) (hu : ∀ b, b ∈ bs → A.units + 2 + (enc b).depth < cLine)
    (h : ∀ out, out.length = vs.length → EachIs R out (bs.mergeSort (dataLe false enc)) → Q (.ref (s.heap.objs.size + 1)) { s with heap := sortedAll s.heap vs (List.toArray out) }) :
    wpAny (model prog w) A (call (.builtin "sorted") [.ref l]) Q E s := by
  have er' : EachIs (fun v b => ∃ as, Reads (sortingHeap (copyHeap s.heap vs) (s.heap.objs.size + 1) vs) v (enc b) as) vs bs := er.mono fun _ _ ⟨as, r⟩ => ⟨as, PyProof.Rows.Reads.keeps (fun _ _ => sorting_copy_old) r⟩
  have S := SortsAt.data (prog := prog) (w := w) (A := A.in1.in1) (s := { s with heap := sortingHeap (copyHeap s.heap vs) (s.heap.objs.size + 1) vs }) (each_map (R := fun v d => ∃ as, Reads (sortingHeap (copyHeap s.heap vs) (s.heap.objs.size + 1) vs) v d as) enc er') hal hk (bound_map hu)
  refine Calls.call_function_entry kind_sorted plain_sorted entry_sorted (args_sorted1 _) ?_
  unfold Builtin.«sorted»
  refine wpAny_bind (m := checkCount "sorted" 1 1 _) (wpAny_pure ?_)
  refine wpAny_bind (collect_both hT ho hc hd hL ?_)
  refine wpAny_bind (wpAny_newList ?_ hL)
  have hsz : ((s.heap.push (seqObj "list" #[] 0)).update s.heap.objs.size (Obj.mapSeq (· ++ vs.toArray))).objs.size = s.heap.objs.size + 1 := by
    rw [Heap.size_update, size_push']
  show wpAny _ _ _ _ _ { s with heap := copyHeap s.heap vs }
  rw [hsz]
  refine wpAny_bind (wpAny_holding (wpAny_call_entry_kw slot_list_sort ⟨_, copyHeap_at s.heap vs, rfl⟩ entry_list_sort ?_ (args_list_sort _)))
  show wpAny (model prog w) A.in1.in1 (Builtin.«list.sort» ⟨[.ref (s.heap.objs.size + 1)], []⟩) _ _ _
  refine wpAny_mono (list_sort_vals (s := { s with heap := copyHeap s.heap vs }) (P := fun f s' => f = .done (.ret .none) ∧ Q (.ref (s.heap.objs.size + 1)) s') (E := fun _ _ => False) (copyHeap_at s.heap vs) S hL ⟨rfl, ?_⟩) (fun f s' hf => ?_) fun _ _ z => z.elim
  · exact h _ (by rw [sortVals_length false rfl]) (sortVals_data false e er' hal)
  · obtain ⟨rfl, hq⟩ := hf
    exact ⟨_, rfl, wpAny_pure ⟨_, rfl, hq⟩⟩
end
/-! ### values that may be put in order -/
mutual
theorem toP_inj : ∀ (n : Nat) (a b : D), okE n a = true → okE n b = true → toP a = toP b → a = b
  | n, a, b, ha, hb, h => by
    cases a <;> cases b <;> simp only [toP] at h <;> first
      | rfl
      | (cases h; rfl)
      | (cases h; done)
      | (exfalso; clear h; unfold okE at ha; simp at ha; done)
      | (exfalso; clear h; unfold okE at hb; simp at hb; done)
      | skip
    all_goals
      cases n with
      | zero => exfalso; clear h; unfold okE at ha; simp at ha
      | succ n =>
        injection h with h
        rw [toPs_inj n _ _ (by simpa [okE] using ha) (by simpa [okE] using hb) h]
theorem toPs_inj : ∀ (n : Nat) (a b : List D), okEs n a = true → okEs n b = true → toPs a = toPs b → a = b
  | n, [], [], _, _, _ => rfl
  | n, [], _ :: _, _, _, h => by simp [toPs] at h
  | n, _ :: _, [], _, _, h => by simp [toPs] at h
  | n, a :: as, b :: bs, ha, hb, h => by
    rw [okEs, Bool.and_eq_true] at ha hb
    simp only [toPs, List.cons.injEq] at h
    rw [toP_inj n a b ha.1 hb.1 h.1, toPs_inj n as bs ha.2 hb.2 h.2]
end
theorem toPs_map : ∀ ds : List D, toPs ds = ds.map toP
  | [] => rfl
  | d :: ds => by rw [toPs, toPs_map ds]; rfl
def isT1 : PyData → Bool
  | .tuple (_ :: _) => true
  | _ => false
def isO1 : PyData → Bool
  | .none => false
  | .tuple _ => false
  | _ => true
def alkB (ds : List PyData) : Bool := ds.all fun d => ds.all fun e => PySem.W.alike d e
def srtOk (ds : List D) : Bool := okEs 60 ds && (alkB (toPs ds) && ((toPs ds).all isT1 || (toPs ds).all isO1))
theorem alkB_ok {ds : List PyData} (h : alkB ds = true) : PySem.W.AllAlike ds := fun d hd e he => List.all_eq_true.mp (List.all_eq_true.mp h d hd) e he
theorem isT1_ok {d : PyData} (h : isT1 d = true) : ∃ x r, d = .tuple (x :: r) := by
  unfold isT1 at h
  split at h
  · exact ⟨_, _, rfl⟩
  · cases h
theorem isO1_ok {d : PyData} (h : isO1 d = true) : d ≠ .none ∧ ∀ xs, d ≠ .tuple xs := by
  unfold isO1 at h
  split at h
  · cases h
  · cases h
  · exact ⟨by assumption, by assumption⟩
theorem srt_able {ds : List PyData} (h : (ds.all isT1 || ds.all isO1) = true) : PySem.W.Sortable ds := by
  rcases Bool.or_eq_true _ _ ▸ h with h | h
  · exact .inl fun d hd => isT1_ok (List.all_eq_true.mp h d hd)
  · exact .inr fun d hd => isO1_ok (List.all_eq_true.mp h d hd)
/-- a ≤ b -/
def leD (a b : D) : Bool := !PySem.W.dataLt (toP b) (toP a)
def sortD (ds : List D) : List D := ds.mergeSort leD
def oSortD : List D → Option D
  | [d] => (seqOf d).bind fun ds => if srtOk ds then some (.lst (sortD ds)) else none
  | _ => none
def rSortD (K : PySem.W.Frag) : List V → Hp → VK → Prop := fun xs H Q => ∃ (a : Addr) (zs : List (V × D)), xs = [.ref a] ∧ (SqL K H a (zs.map (·.1)) ∨ SqT K H a (zs.map (·.1))) ∧ DpAll K H (zs.map (·.1)) (zs.map fun z => toP z.2) ∧
  PySem.W.AllAlike (zs.map fun z => toP z.2) ∧ PySem.W.Sortable (zs.map fun z => toP z.2) ∧ (∀ z, z ∈ zs → (toP z.2).depth ≤ 60) ∧ ∀ p, H p = none → Q (.ref p) (upd H p (.lst ((zs.mergeSort (PySem.W.dataLe false fun z => toP z.2)).map (·.1))))
theorem each_of_vals : ∀ {zs : List (V × D)} {us : List Value}, Vals (zs.map (·.1)) us → PySem.W.EachIs (fun u (z : V × D) => RelV z.1 u) us zs
  | [], _, h => by cases h; exact .nil
  | _ :: _, _, h => by
    cases h with
    | cons a r => exact .cons a (each_of_vals r)
theorem vals_of_each : ∀ {zs : List (V × D)} {us : List Value}, PySem.W.EachIs (fun u (z : V × D) => RelV z.1 u) us zs → Vals (zs.map (·.1)) us
  | _, _, .nil => .nil
  | _, _, .cons a r => .cons a (vals_of_each r)
section
variable {X : Cx}
theorem seq_at {pins : List (Addr × Obj)} {σ : L2.St} {H : Hp} {s : Shared} {a : Addr} {xs : List V} (I : Inv X pins σ H s) (h : SqL X.K H a xs ∨ SqT X.K H a xs) :
    ∃ (its : List Value) (T : String) (o : Obj) (n : Nat), Vals xs its ∧ (T = "list" ∨ T = "tuple") ∧ s.heap.get? a = some o ∧ o.cls = .type T ∧ o.data = .seq its.toArray n ∧ xs.length ≤ sizeLine := by
  rcases h with h | h
  · obtain ⟨its, rv, ⟨o, n, e, c, _, d⟩, hz⟩ := I.list h
    exact ⟨its, "list", o, n, rv, .inl rfl, e, c, d, hz⟩
  · obtain ⟨its, rv, ⟨o, e, c, n, d⟩, hz⟩ := I.tuple h
    exact ⟨its, "tuple", o, n, rv, .inr rfl, e, c, d, hz⟩
theorem cr_sortD (hu : X.A.units + 64 < cLine) : CallR X (.builtin "sorted") (rSortD X.K) := by
  intro pins s σ H vs us Q I r h
  obtain ⟨a, zs, rfl, hs, hd, hal, hk, hdp, q⟩ := h
  obtain ⟨its, T, o, n, rv, hT, ho, hc, hdt, hz⟩ := seq_at I hs
  rw [Vals.ref1 r]
  obtain ⟨as, ra⟩ := Dp.readsAll I _ _ its hd rv
  refine sorted_seq (enc := fun z : V × D => toP z.2) hT ho hc hdt (each_of_vals rv) (PySem.W.readsAll_each (enc := fun z : V × D => toP z.2) ra) hal hk (by rw [← rv.length]; exact hz) (fun z hz => by have := hdp z hz; omega) fun out ol eo => ?_
  obtain ⟨ep, he'⟩ := PyProof.Rows.sortedAll_at s.heap its out.toArray
  have hlen : ((zs.mergeSort (PySem.W.dataLe false fun z => toP z.2)).map (·.1)).length ≤ sizeLine := by
    rw [List.length_map, List.length_mergeSort]
    rw [List.length_map] at hz
    exact hz
  exact ⟨.ref _, upd H (s.heap.objs.size + 1) (.lst _), I.laid (t' := s.toks) (fun _ _ => PyProof.Rows.sortedAll_old) (Nat.le_succ _) ⟨hlen, out, ep, vals_of_each eo, he'⟩, rfl, q _ (I.hok.fresh (Nat.le_succ _))⟩
end
theorem RepL.pairs {K : PySem.W.Frag} {mg : Str → Option Value} {aw : Addr} {U : Addr → Prop} {H : Hp} : ∀ {l : List (V × D)}, (∀ z, z ∈ l → Rep K mg aw U H z.1 z.2) → RepL K mg aw U H (l.map (·.1)) (l.map (·.2))
  | [], _ => .nil
  | z :: l, h => .cons (h z (List.mem_cons_self ..)) (RepL.pairs fun y hy => h y (List.mem_cons_of_mem _ hy))
theorem RepL.zips {K : PySem.W.Frag} {mg : Str → Option Value} {aw : Addr} {U : Addr → Prop} {H : Hp} : ∀ {vs : List V} {ds : List D}, RepL K mg aw U H vs ds → ∃ zs : List (V × D), zs.map (·.1) = vs ∧ zs.map (·.2) = ds ∧ ∀ z, z ∈ zs → Rep K mg aw U H z.1 z.2
  | _, _, .nil => ⟨[], rfl, rfl, fun _ z => nomatch z⟩
  | _, _, .cons (v := v) (d := d) a r => by
    obtain ⟨zs, e1, e2, h⟩ := RepL.zips r
    exact ⟨(v, d) :: zs, by rw [← e1]; rfl, by rw [← e2]; rfl, fun z hz => by
      rcases List.mem_cons.mp hz with rfl | hz
      · exact a
      · exact h z hz⟩
theorem depth_of_mem : ∀ {ds : List PyData} {d : PyData}, d ∈ ds → d.depth ≤ PyData.depthAll ds
  | x :: xs, d, h => by
    rw [PyData.depthAll]
    rcases List.mem_cons.mp h with rfl | h
    · omega
    · have := depth_of_mem h
      omega
theorem ok_sortD {K mg} {aw : Addr} : CaOk K mg aw (rSortD K) oSortD := fun U H xs as v0 Q tr r e k => by
  unfold oSortD at e
  split at e
  · rename_i d
    obtain ⟨v, rfl, rv⟩ := r.one
    cases hs : seqOf d with
    | none => rw [hs] at e; cases e
    | some ds =>
      rw [hs] at e
      have e : (if srtOk ds then some (D.lst (sortD ds)) else none) = some v0 := e
      split at e
      · rename_i ok
        cases e
        unfold srtOk at ok
        rw [Bool.and_eq_true, Bool.and_eq_true] at ok
        obtain ⟨k1, k2, k3⟩ := ok
        obtain ⟨p, ys, rfl, rl, hp⟩ := rv.seq hs
        obtain ⟨zs, rfl, rfl, hz⟩ := RepL.zips rl
        have dp := RepL.dp k1 rl
        rw [toPs_map, List.map_map] at dp k2 k3
        refine ⟨p, zs, rfl, ?_, dp, alkB_ok k2, srt_able k3, fun z hz => ?_, fun q n => ?_⟩
        · rcases hp with ⟨_, hp⟩ | ⟨_, hp⟩
          · exact .inl (SqL.of hp)
          · exact .inr (SqT.of hp)
        · have := (okEs_shape 60 _ k1).2
          rw [toPs_map, List.map_map] at this
          have m := depth_of_mem (d := toP z.2) (List.mem_map.mpr ⟨z, hz, rfl⟩ : toP z.2 ∈ zs.map (toP ∘ fun z => z.2))
          omega
        · have es : sortD (zs.map (·.2)) = (zs.mergeSort (PySem.W.dataLe false fun z => toP z.2)).map (·.2) := by
            unfold sortD
            rw [List.map_mergeSort (r := PySem.W.dataLe false fun z : V × D => toP z.2) (s := leD)]
            intro a _ b _
            rfl
          have kk := k (.ref q)
          rw [es] at kk
          exact kk _ (same_upd n) (new_lst tr n (RepL.pairs fun z hm => hz z (List.mem_mergeSort.mp hm)))
      · cases e
  · cases e
end Vw

namespace Vw
open PySem PySem.Spec PyProof.Rows L2

/-! ### the least, the greatest of whatever can be put in order -/
def bestP (mx : Bool) (x : PyData) (xs : List PyData) : PyData := if mx then PySem.W.maxD x xs else PySem.W.minD x xs
def rBestD (K : PySem.W.Frag) (mx : Bool) : List V → Hp → VK → Prop := fun xs H Q => ∃ (a : Addr) (z0 : V × D) (zs : List (V × D)), xs = [.ref a] ∧ (SqL K H a ((z0 :: zs).map (·.1)) ∨ SqT K H a ((z0 :: zs).map (·.1))) ∧ DpAll K H ((z0 :: zs).map (·.1)) ((z0 :: zs).map fun z => toP z.2) ∧
  PySem.W.AlikeAll ((z0 :: zs).map fun z => toP z.2) ∧ PyData.depthAll ((z0 :: zs).map fun z => toP z.2) ≤ 60 ∧ ∀ z, z ∈ z0 :: zs → toP z.2 = bestP mx (toP z0.2) (zs.map fun z => toP z.2) → Q z.1 H
section
variable {X : Cx}
theorem best_in (f : PyData → PyData → Bool) : ∀ (xs : List PyData) (x : PyData), xs.foldl (fun a y => if f y a then y else a) x ∈ x :: xs
  | [], x => List.mem_cons_self ..
  | y :: xs, x => by
    rw [List.foldl_cons]
    have h := best_in f xs (if f y x then y else x)
    rcases List.mem_cons.mp h with h | h
    · rw [h]
      split
      · exact List.mem_cons_of_mem _ (List.mem_cons_self ..)
      · exact List.mem_cons_self ..
    · exact List.mem_cons_of_mem _ (List.mem_cons_of_mem _ h)
theorem bestP_in (mx : Bool) (x : PyData) (xs : List PyData) : bestP mx x xs ∈ x :: xs := by
  unfold bestP
  split
  · exact best_in (fun y a => PySem.W.dataLt a y) xs x
  · exact best_in PySem.W.dataLt xs x
theorem cr_bestD (mx : Bool) (hc : X.calm = true) (hu : X.A.units + 64 < cLine) : CallR X (.builtin (if mx then "max" else "min")) (rBestD X.K mx) := by
  intro pins s σ H vs us Q I r h
  obtain ⟨a, z0, zs, rfl, hs, hd, hal, hdp, q⟩ := h
  obtain ⟨its, T, o, n, rv, hT, ho, hcl, hdt, hz⟩ := seq_at I hs
  rw [Vals.ref1 r]
  obtain ⟨as, ra⟩ := Dp.readsAll I _ _ its hd rv
  have hh := I.ok.hd hc
  have hu2 : X.A.units + 1 + PyData.depthAll ((z0 :: zs).map fun z => toP z.2) < cLine := by omega
  have fin : ∀ (i : Nat) (v : Value) (h' : Heap) (tk : Nat) (bs : List Addr), its[i]? = some v → Reads h' v (bestP mx (toP z0.2) (zs.map fun z => toP z.2)) bs → (∀ b o, s.heap.get? b = some o → h'.get? b = some o) → EP X pins σ Q v { s with heap := h', toks := tk } := fun i v h' tk bs hi rd kp => by
    have hlt : i < (z0 :: zs).length := by
      have l1 := rv.length
      rw [List.length_map] at l1
      have := (List.getElem?_eq_some_iff.mp hi).1
      omega
    have hv : ((z0 :: zs).map (·.1))[i]? = some ((z0 :: zs)[i]).1 := by rw [List.getElem?_map, List.getElem?_eq_getElem hlt]; rfl
    obtain ⟨u, e1, r1⟩ := rv.get hv
    rw [hi] at e1
    cases e1
    obtain ⟨bs2, r2, _, _, _⟩ := PySem.W.readsAll_at ra i v hi
    have e2 : ((z0 :: zs).map fun z => toP z.2).getD i .none = toP ((z0 :: zs)[i]).2 := by
      rw [List.getD_eq_getElem?_getD, List.getElem?_map, List.getElem?_eq_getElem hlt]
      rfl
    rw [e2] at r2
    have m1 : toP ((z0 :: zs)[i]).2 ∈ (z0 :: zs).map fun z => toP z.2 := List.mem_map.mpr ⟨_, List.getElem_mem hlt, rfl⟩
    have m2 : bestP mx (toP z0.2) (zs.map fun z => toP z.2) ∈ (z0 :: zs).map fun z => toP z.2 := bestP_in mx _ _
    have e3 := PySem.W.alike_unique _ _ v _ _ (hal.1 _ m1 _ m2) (PySem.W.reads_keeps kp r2) rd
    exact ⟨((z0 :: zs)[i]).1, H, I.kept kp, r1, q _ (List.getElem_mem hlt) e3⟩
  have hit : ∀ i : Nat, its.toArray[i]? = its[i]? := fun i => by simp
  cases mx with
  | true =>
    rcases hT with rfl | rfl
    · exact PySem.W.max_list_data hh ⟨o, ho, hcl, n, hdt⟩ (by simpa using ra) hal hu2 fun i v h' tk bs hi rd kp => fin i v h' tk bs (by rw [← hit]; exact hi) rd kp
    · exact PySem.W.max_tuple_data hh ⟨o, ho, hcl, n, hdt⟩ (by simpa using ra) hal hu2 fun i v h' tk bs hi rd kp => fin i v h' tk bs (by rw [← hit]; exact hi) rd kp
  | false =>
    rcases hT with rfl | rfl
    · exact PySem.W.min_list_data hh ⟨o, ho, hcl, n, hdt⟩ (by simpa using ra) hal hu2 fun i v h' tk bs hi rd kp => fin i v h' tk bs (by rw [← hit]; exact hi) rd kp
    · exact PySem.W.min_tuple_data hh ⟨o, ho, hcl, n, hdt⟩ (by simpa using ra) hal hu2 fun i v h' tk bs hi rd kp => fin i v h' tk bs (by rw [← hit]; exact hi) rd kp
theorem cr_minD (hc : X.calm = true) (hu : X.A.units + 64 < cLine) : CallR X (.builtin "min") (rBestD X.K false) := cr_bestD false hc hu
theorem cr_maxD (hc : X.calm = true) (hu : X.A.units + 64 < cLine) : CallR X (.builtin "max") (rBestD X.K true) := cr_bestD true hc hu
end
def bestD (mx : Bool) (x : D) (xs : List D) : D := xs.foldl (fun a y => if (if mx then PySem.W.dataLt (toP a) (toP y) else PySem.W.dataLt (toP y) (toP a)) then y else a) x
theorem bestD_P (mx : Bool) : ∀ (xs : List D) (x : D), toP (bestD mx x xs) = bestP mx (toP x) (xs.map toP)
  | [], x => by cases mx <;> rfl
  | y :: xs, x => by
    have h := bestD_P mx xs (if (if mx then PySem.W.dataLt (toP x) (toP y) else PySem.W.dataLt (toP y) (toP x)) then y else x)
    show toP (bestD mx (if (if mx then PySem.W.dataLt (toP x) (toP y) else PySem.W.dataLt (toP y) (toP x)) then y else x) xs) = _
    rw [h]
    cases mx with
    | true =>
      show PySem.W.maxD _ _ = PySem.W.maxD _ _
      unfold PySem.W.maxD
      rw [List.map_cons, List.foldl_cons]
      simp only [if_true]
      split <;> rfl
    | false =>
      show PySem.W.minD _ _ = PySem.W.minD _ _
      unfold PySem.W.minD
      rw [List.map_cons, List.foldl_cons]
      simp only [Bool.false_eq_true, if_false]
      split <;> rfl
theorem bestD_in (mx : Bool) : ∀ (l : List D) (x : D), bestD mx x l ∈ x :: l
  | [], x => List.mem_cons_self ..
  | y :: l, x => by
    have h := bestD_in mx l (if (if mx then PySem.W.dataLt (toP x) (toP y) else PySem.W.dataLt (toP y) (toP x)) then y else x)
    show bestD mx (if (if mx then PySem.W.dataLt (toP x) (toP y) else PySem.W.dataLt (toP y) (toP x)) then y else x) l ∈ _
    rcases List.mem_cons.mp h with h | h
    · rw [h]
      by_cases c : (if mx then PySem.W.dataLt (toP x) (toP y) else PySem.W.dataLt (toP y) (toP x)) = true
      · rw [if_pos c]
        exact List.mem_cons_of_mem _ (List.mem_cons_self ..)
      · rw [if_neg c]
        exact List.mem_cons_self ..
    · exact List.mem_cons_of_mem _ (List.mem_cons_of_mem _ h)
def bestOk (ds : List D) : Bool := okEs 60 ds && (alkB (toPs ds) && (toPs ds).all fun d => match d with | .none => false | _ => true)
def oBestD (mx : Bool) : List D → Option D
  | [d] => (seqOf d).bind fun ds => match ds with
    | [] => none
    | x :: xs => if bestOk (x :: xs) then some (bestD mx x xs) else none
  | _ => none
theorem ok_bestD {K mg} {aw : Addr} (mx : Bool) : CaOk K mg aw (rBestD K mx) (oBestD mx) := fun U H xs as v0 Q tr r e k => by
  unfold oBestD at e
  split at e
  · rename_i d
    obtain ⟨v, rfl, rv⟩ := r.one
    cases hs : seqOf d with
    | none => rw [hs] at e; cases e
    | some ds =>
      rw [hs] at e
      cases ds with
      | nil => cases e
      | cons x xs =>
        have e : (if bestOk (x :: xs) then some (bestD mx x xs) else none) = some v0 := e
        split at e
        · rename_i ok
          cases e
          unfold bestOk at ok
          rw [Bool.and_eq_true, Bool.and_eq_true] at ok
          obtain ⟨k1, k2, k3⟩ := ok
          obtain ⟨p, ys, rfl, rl, hp⟩ := rv.seq hs
          obtain ⟨zs, rfl, ez, hz⟩ := RepL.zips rl
          cases zs with
          | nil => cases ez
          | cons z0 zs =>
            rw [List.map_cons, List.cons.injEq] at ez
            obtain ⟨rfl, rfl⟩ := ez
            have k1' : okEs 60 ((z0 :: zs).map (·.2)) = true := k1
            have dp := RepL.dp k1 rl
            have e1 : toPs (z0.2 :: zs.map (·.2)) = (z0 :: zs).map fun z => toP z.2 := by rw [toPs_map, List.map_cons, List.map_cons, List.map_map]; rfl
            rw [e1] at dp k2 k3
            have dep := (okEs_shape 60 _ k1).2
            rw [e1] at dep
            refine ⟨p, z0, zs, rfl, ?_, dp, ⟨fun a ha b hb => alkB_ok k2 a ha b hb, fun a ha => ?_⟩, dep, fun z hzm he => ?_⟩
            · rcases hp with ⟨_, hp⟩ | ⟨_, hp⟩
              · exact .inl (SqL.of hp)
              · exact .inr (SqT.of hp)
            · have := List.all_eq_true.mp k3 a ha
              rintro rfl
              cases this
            · have e2 : z.2 = bestD mx z0.2 (zs.map (·.2)) := by
                have okz : okE 60 z.2 = true := (okEs_all.mp k1') _ (List.mem_map.mpr ⟨z, hzm, rfl⟩)
                refine toP_inj 60 _ _ okz ?_ (he.trans ?_)
                · exact (okEs_all.mp k1) _ (bestD_in mx _ _)
                · rw [bestD_P, List.map_map]
                  rfl
              have rz := hz z hzm
              rw [e2] at rz
              exact k _ H (Same.refl H) rz
        · cases e
  · cases e
/-! ### both ways -/
def oE (g g' : List D → Option D) : List D → Option D := fun ds => match g ds with
  | some v => some v
  | none => g' ds
theorem ok_E {K mg} {aw : Addr} {r r' : List V → Hp → VK → Prop} {g g' : List D → Option D} (h : CaOk K mg aw r g) (h' : CaOk K mg aw r' g') : CaOk K mg aw (fun xs H Q => r xs H Q ∨ r' xs H Q) (oE g g') := fun U H xs as v0 Q tr rr e k => by
  unfold oE at e
  split at e
  · rename_i v hv
    cases e
    exact .inl (h U H xs as v0 Q tr rr hv k)
  · exact .inr (h' U H xs as v0 Q tr rr e k)
def oSort : List D → Option D := oE oSortI oSortD
def oMaxE : List D → Option D := oE oMax (oBestD true)
def oMinE : List D → Option D := oE oMin (oBestD false)
@[simp] theorem o_srtI (l : List Int) : oSort [.lst (l.map D.int)] = some (.lst ((sortI l).map .int)) := by
  unfold oSort oE
  rw [o_sort]
@[simp] theorem o_srt2 (a b : Int) : oSort [.lst [.int a, .int b]] = some (.lst [.int (min a b), .int (max a b)]) := by
  unfold oSort oE
  rw [o_sort2]
@[simp] theorem o_maxE2 {i j : Int} : oMaxE [.int i, .int j] = some (.int (max i j)) := rfl
@[simp] theorem o_minE2 {i j : Int} : oMinE [.int i, .int j] = some (.int (min i j)) := rfl
@[simp] theorem o_maxE2L (a b : Int) : oMaxE [.lst [.int a, .int b]] = some (.int (max a b)) := rfl
theorem maxE_is {l : List Int} {m : Int} (hm : m ∈ l) (h : ∀ x, x ∈ l → x ≤ m) : oMaxE [.lst (l.map D.int)] = some (.int m) := by
  unfold oMaxE oE
  rw [max_is hm h]
theorem minE_is {l : List Int} {m : Int} (hm : m ∈ l) (h : ∀ x, x ∈ l → m ≤ x) : oMinE [.lst (l.map D.int)] = some (.int m) := by
  unfold oMinE oE
  rw [min_is hm h]
end Vw

namespace Vw
open PySem PySem.Spec PyProof.Rows L2

/-! ### reckoning in one word -/
def ev := And.intro @pure_bind' (And.intro @bind_assoc' (And.intro @lift_some (And.intro @asB_bl (And.intro @asI_int (And.intro @asN_int (And.intro @ev_sNext (And.intro @ev_sSeq (And.intro @ev_fSeq (And.intro @ev_fSeqR (And.intro @ev_fSeqB (And.intro @ev_fSeqC (And.intro @ev_sIf (And.intro @ev_sRet (And.intro @ev_sDrop (And.intro @ev_share0 (And.intro @ev_sSet (And.intro @ev_sSetF (And.intro @ev_sApp (And.intro @ev_sExt (And.intro @ev_sPar (And.intro @ev_sUn (And.intro @ev_sAug (And.intro @ev_sPut (And.intro @ev_sPutA (And.intro @ev_sFor (And.intro @ev_sWhile (And.intro @ev_pNil (And.intro @ev_pSh (And.intro @ev_pOwn (And.intro @ev_dC (And.intro @ev_d1 (And.intro @ev_d2 (And.intro @ev_dB (And.intro @ev_dTru (And.intro @ev_bAnd (And.intro @ev_bOr (And.intro @ev_bNot (And.intro @ev_vAnd (And.intro @ev_vOr (And.intro @ev_vNot (And.intro @ev_dIf (And.intro @ev_dChain (And.intro @ev_aNil (And.intro @ev_aCons (And.intro @ev_dTup (And.intro @ev_dLst (And.intro @ev_dCa (And.intro @ev_dCall (And.intro @ev_dSl (And.intro @ev_dO0 (And.intro @ev_dO1 (And.intro @ev_iSeq (And.intro @ev_iRg1 (And.intro @ev_iRg2 (And.intro @ev_iZp (And.intro @ev_iZpA (And.intro @ev_iEnA (And.intro @ev_dComp (And.intro @ev_bYes (And.intro @ev_endN (And.intro @ev_endR (And.intro @ev_sets0 (And.intro @ev_sets (And.intro @ev_dVs0 (And.intro @ev_dVsS (And.intro @ev_dV0 (And.intro @ev_dVS (And.intro @ev_wipe0 (And.intro @ev_wipe (And.intro @ev_ownSeq (And.intro @ev_ownL0 (And.intro @ev_ownLS (And.intro @ev_xUp (And.intro @ev_xSeq (And.intro @ev_xf0 (And.intro @ev_xfN (And.intro @ev_xfR (And.intro @ev_xfB (And.intro @ev_xfC (And.intro @ev_xIf (And.intro @ev_xRaise (And.intro @ev_eX0 (And.intro @ev_eXN (And.intro @ev_eXR (And.intro @ev_sTry (And.intro @ev_xRetIs (And.intro @ev_xCallV (And.intro @ev_xFor (And.intro @fnAt0 (And.intro @fnAtS (And.intro @ev_turnN (And.intro @ev_turnC (And.intro @ev_turnB (And.intro @ev_turnR (And.intro @ev_tX0 (And.intro @ev_tXN (And.intro @ev_tXR (And.intro @ev_tXB (And.intro @ev_tXC (And.intro @ev_gdN (And.intro @ev_gdTup (And.intro @ev_gdCons (And.intro @ev_gdNil (And.intro @ev_forN (And.intro @ev_forXN (And.intro @ev_compN (And.intro @o_add (And.intro @o_sub (And.intro @o_lt (And.intro @o_le (And.intro @o_gt (And.intro @o_ge (And.intro @o_neg (And.intro @o_eqI (And.intro @o_neI (And.intro @o_tru_i (And.intro @o_tru_n (And.intro @o_tru_b (And.intro @o_tru_t (And.intro @o_tru_l (And.intro @o_isn (And.intro @o_isn_i (And.intro @o_isn_t (And.intro @o_isn_l (And.intro @o_notn (And.intro @o_notn_i (And.intro @o_notn_t (And.intro @o_notn_l (And.intro @o_lenT (And.intro @o_lenL (And.intro @o_max2 (And.intro @o_min2 (And.intro @o_maxE2 (And.intro @o_minE2 (And.intro @o_maxE2L (And.intro @o_abs (And.intro @o_intI (And.intro @o_intB (And.intro @o_tupT (And.intro @o_tupL (And.intro @o_lstT (And.intro @o_lstL (And.intro @o_seqT (And.intro @o_seqL (And.intro @o_ixT (And.intro @o_ixL (And.intro @o_slT (And.intro @o_slL (And.intro @mkTup0 (And.intro @mkLst0 (And.intro @mkTup1 (And.intro @mkLst1 (And.intro @mkTup2 (And.intro @mkLst2 (And.intro @mkTup3 (And.intro @mkLst3 (And.intro @mkTup4 (And.intro @mkLst4 (And.intro @o_zipTT (And.intro @o_zipLL (And.intro @o_enAT (And.intro @o_enAL (And.intro @o_all (And.intro @o_any (And.intro @o_sumT (And.intro @o_sumL (And.intro @o_srtI (@o_srt2))))))))))))))))))))))))))))))))))))))))))))))))))))))))))))))))))))))))))))))))))))))))))))))))))))))))))))))))))))))))))))))))))))))))))))))))))))))))))))))))))))))))
theorem fnD_ap {m n : Nat} {b : Sto → M Fl} {ds : List D} : fnD m n b ds = if ds.length = n then b (stoD m n ds) >>= endD else M.bad := rfl
theorem fnX_ap {m n : Nat} {b : XM} {ds : List D} : fnX m n b ds = if ds.length = n then b (stoD m n ds) >>= endX else M.bad := rfl
theorem stoD_ap {m n : Nat} {ds : List D} : stoD m n ds = ds.map (fun d => some (false, d)) ++ List.replicate (m - n) none := rfl
theorem mapS0 : ([] : List D).map (fun d => some (false, d)) = [] := rfl
theorem mapS1 {d : D} {ds : List D} : (d :: ds).map (fun d => some (false, d)) = some (false, d) :: ds.map (fun d => some (false, d)) := rfl
theorem rep0 : List.replicate 0 (none : Option (Bool × D)) = [] := rfl
theorem repS {n : Nat} : List.replicate (n + 1) (none : Option (Bool × D)) = none :: List.replicate n none := rfl
theorem appN {x : Sto} : ([] : Sto) ++ x = x := rfl
theorem appC {a : Option (Bool × D)} {x y : Sto} : (a :: x) ++ y = a :: (x ++ y) := rfl
def evf := And.intro @fnD_ap (And.intro @fnX_ap (And.intro @stoD_ap (And.intro @mapS0 (And.intro @mapS1 (And.intro @rep0 (And.intro @repS (And.intro @appN @appC)))))))
def evl := And.intro @List.set_cons_succ.{0} (And.intro @List.set_cons_zero.{0} (And.intro @List.length_cons.{0} (And.intro @List.length_nil.{0} (@List.append_nil.{0}))))
theorem itT {α : Type} {a b : α} : (if true = true then a else b) = a := rfl
theorem itF {α : Type} {a b : α} : (if false = true then a else b) = b := rfl
theorem itTr {α : Type} {a b : α} : (if True then a else b) = a := if_pos trivial
theorem itFa {α : Type} {a b : α} : (if False then a else b) = b := if_neg id
theorem dcT {h : Decidable True} : @decide True h = true := by simp
theorem dcF {h : Decidable False} : @decide False h = false := by simp
theorem isi_t {x : List D} : oIsi "tuple" (.tup x) = some (.bl true) := by simp [oIsi]
theorem isi_i {i : Int} : oIsi "int" (.int i) = some (.bl true) := by simp [oIsi]
theorem isi_b {i : Int} : oIsi "bool" (.int i) = some (.bl false) := by simp [oIsi]
theorem isi_s {x : Str} : oIsi "str" (.str x) = some (.bl true) := by simp [oIsi]
def evb := And.intro @itT (And.intro @itF (And.intro @itTr (And.intro @itFa (And.intro @dcT (And.intro @dcF (And.intro Bool.not_true (And.intro Bool.not_false (And.intro @isi_t (And.intro @isi_i (And.intro @isi_b (And.intro @isi_s (And.intro and_self (And.intro Bool.true_and (And.intro Bool.false_and (And.intro Bool.and_true Bool.and_false)))))))))))))))
theorem lenIte {α : Type} {a b : α} {n : Nat} : (if n = n then a else b) = a := if_pos rfl
theorem at0 {x : D} {r : List D} : atI (x :: r) 0 = some x := atI_nat (j := 0) rfl
theorem at1 {x y : D} {r : List D} : atI (x :: y :: r) 1 = some y := atI_nat (j := 1) rfl
theorem at2 {x y z : D} {r : List D} : atI (x :: y :: z :: r) 2 = some z := atI_nat (j := 2) rfl
theorem at3 {x y z a : D} {r : List D} : atI (x :: y :: z :: a :: r) 3 = some a := atI_nat (j := 3) rfl
theorem at4 {x y z a b : D} {r : List D} : atI (x :: y :: z :: a :: b :: r) 4 = some b := atI_nat (j := 4) rfl
theorem at5 {x y z a b c : D} {r : List D} : atI (x :: y :: z :: a :: b :: c :: r) 5 = some c := atI_nat (j := 5) rfl
theorem atN {ds : List D} {j : Nat} (h : j < ds.length) : atI ds (j : Int) = some ds[j] := atI_nat (List.getElem?_eq_getElem h)
theorem atM {α : Type} {f : α → D} {l : List α} {j : Nat} (h : j < l.length) : atI (l.map f) (j : Int) = some (f l[j]) := atI_nat (by rw [List.getElem?_map, List.getElem?_eq_getElem h]; rfl)
theorem ev_forC' {gd : D → Sto → Option Sto} {body : Sto → M Fl} {kl : List Nat} {d : D} {l : List D} {ρ : Sto} : forL gd body kl (d :: l) ρ = lift (gd d ρ) >>= fun ρ1 => body ρ1 >>= turn kl (forL gd body kl l) := rfl
theorem big_line {n : Nat} (h : n ≤ 16777216) : n ≤ lineN := Nat.le_trans h (by decide)
theorem big_lt {n : Nat} (h : n < 16777216) : n < lineN := Nat.lt_of_lt_of_le h (by decide)
/-! ### data without bools -/
mutual
def plE : Nat → D → Bool
  | _, .non => true
  | _, .int _ => true
  | _, .str x => PyData.strOk x
  | n + 1, .tup xs => plEs n xs
  | n + 1, .lst xs => plEs n xs
  | 0, .tup _ => false
  | 0, .lst _ => false
  | _, .bl _ => false
  | _, .dK _ => false
  | _, .dT _ => false
  | _, .fn _ => false
  | _, .tok => false
def plEs : Nat → List D → Bool
  | _, [] => true
  | n, x :: xs => plE n x && plEs n xs
end
mutual
theorem plE_ok : ∀ (n m : Nat) (d : D), n ≤ m → plE n d = true → okE m d = true
  | _, _, .non, _, _ => okE_non
  | _, _, .int i, _, _ => okE_i
  | _, _, .str x, _, h => okE_str (by simpa [plE] using h)
  | n + 1, m + 1, .tup xs, l, h => by rw [okE_tup]; exact plEs_ok n m xs (by omega) (by simpa [plE] using h)
  | n + 1, m + 1, .lst xs, l, h => by rw [okE_lst]; exact plEs_ok n m xs (by omega) (by simpa [plE] using h)
  | n + 1, 0, .tup _, l, _ => by omega
  | n + 1, 0, .lst _, l, _ => by omega
  | 0, _, .tup _, _, h => by simp [plE] at h
  | 0, _, .lst _, _, h => by simp [plE] at h
  | _, _, .bl _, _, h => by simp [plE] at h
  | _, _, .dK _, _, h => by simp [plE] at h
  | _, _, .dT _, _, h => by simp [plE] at h
  | _, _, .fn _, _, h => by simp [plE] at h
  | _, _, .tok, _, h => by simp [plE] at h
theorem plEs_ok : ∀ (n m : Nat) (ds : List D), n ≤ m → plEs n ds = true → okEs m ds = true
  | _, _, [], _, _ => okEs_nil
  | n, m, x :: xs, l, h => by
    rw [plEs, Bool.and_eq_true] at h
    rw [okEs_cons, plE_ok n m x l h.1, plEs_ok n m xs l h.2]
    rfl
end
@[simp] theorem plE_non {n : Nat} : plE n .non = true := by cases n <;> simp [plE]
@[simp] theorem plE_i {n : Nat} {i : Int} : plE n (.int i) = true := by cases n <;> simp [plE]
theorem plE_s {n : Nat} {x : Str} : plE n (.str x) = PyData.strOk x := by cases n <;> simp [plE]
@[simp] theorem plE_bl {n : Nat} {b : Bool} : plE n (.bl b) = false := by cases n <;> simp [plE]
@[simp] theorem plE_dK {n : Nat} {x : List (Key × D)} : plE n (.dK x) = false := by cases n <;> simp [plE]
@[simp] theorem plE_dT {n : Nat} {x : List (List Key × D)} : plE n (.dT x) = false := by cases n <;> simp [plE]
@[simp] theorem plE_fn {n : Nat} {x : Str} : plE n (.fn x) = false := by cases n <;> simp [plE]
@[simp] theorem plE_tok {n : Nat} : plE n .tok = false := by cases n <;> simp [plE]
@[simp] theorem plE_tup {n : Nat} {x : List D} : plE (n + 1) (.tup x) = plEs n x := by simp [plE]
@[simp] theorem plE_lst {n : Nat} {x : List D} : plE (n + 1) (.lst x) = plEs n x := by simp [plE]
@[simp] theorem plE_tup0 {x : List D} : plE 0 (.tup x) = false := by simp [plE]
@[simp] theorem plE_lst0 {x : List D} : plE 0 (.lst x) = false := by simp [plE]
@[simp] theorem plEs_nil {n : Nat} : plEs n [] = true := by simp [plEs]
@[simp] theorem plEs_cons {n : Nat} {x : D} {xs : List D} : plEs n (x :: xs) = (plE n x && plEs n xs) := by simp [plEs]
mutual
theorem eqv_pl : ∀ (n : Nat) (a b : D) (m : Nat), plE n a = true → plE m b = true → PyData.eqv (toP a) (toP b) = true → a = b
  | n, a, b, m, ha, hb, h => by
    cases a <;> cases b <;> simp only [toP] at h <;> first
      | rfl
      | (simp at ha; done)
      | (simp at hb; done)
      | (simp [PyData.eqv] at h; done)
      | (simp [PyData.eqv] at h; rw [h]; done)
      | skip
    all_goals
      cases n with
      | zero => simp at ha
      | succ n =>
        cases m with
        | zero => simp at hb
        | succ m =>
          simp only [PyData.eqv] at h
          rw [eqvs_pl n _ _ m (by simpa using ha) (by simpa using hb) h]
theorem eqvs_pl : ∀ (n : Nat) (a b : List D) (m : Nat), plEs n a = true → plEs m b = true → PyData.eqvAll (toPs a) (toPs b) = true → a = b
  | n, [], [], _, _, _, _ => rfl
  | n, [], _ :: _, _, _, _, h => by simp [toPs, PyData.eqvAll] at h
  | n, _ :: _, [], _, _, _, h => by simp [toPs, PyData.eqvAll] at h
  | n, a :: as, b :: bs, m, ha, hb, h => by
    rw [plEs, Bool.and_eq_true] at ha hb
    rw [toPs, toPs, PyData.eqvAll, Bool.and_eq_true] at h
    rw [eqv_pl n a b m ha.1 hb.1 h.1, eqvs_pl n as bs m ha.2 hb.2 h.2]
end
theorem plEs_all {n : Nat} {x : List D} : plEs n x = true ↔ ∀ d, d ∈ x → plE n d = true := by
  induction x with
  | nil => simp
  | cons a x ih => simp [ih]
@[simp] theorem plEs_ints {n : Nat} (l : List Int) : plEs n (l.map D.int) = true := by rw [plEs_all]; simp
theorem plE_mono {n m : Nat} (l : n ≤ m) : ∀ {d : D}, plE n d = true → plE m d = true := by
  have key : ∀ (n m : Nat), n ≤ m → (∀ d : D, plE n d = true → plE m d = true) := by
    intro n
    induction n with
    | zero =>
      intro m _ d h
      cases d <;> first
        | (simp at h; done)
        | (simp; done)
        | (rw [plE_s] at h ⊢; exact h)
    | succ n ih =>
      intro m l d h
      obtain ⟨m, rfl⟩ : ∃ k, m = k + 1 := ⟨m - 1, by omega⟩
      cases d <;> first
        | (simp at h; done)
        | (simp; done)
        | (rw [plE_s] at h ⊢; exact h)
        | (rw [plE_tup, plEs_all] at h ⊢; exact fun x hx => ih m (by omega) x (h x hx))
        | (rw [plE_lst, plEs_all] at h ⊢; exact fun x hx => ih m (by omega) x (h x hx))
  exact fun {d} => key n m l d
/-- unlike plain data are unequal -/
theorem o_eqF {a b : D} (ha : plE 64 a = true) (hb : plE 64 b = true) (h : a ≠ b) : oEq a b = some (.bl false) := by
  unfold oEq
  rw [plE_ok 64 64 a (Nat.le_refl _) ha, plE_ok 64 64 b (Nat.le_refl _) hb]
  have e : eqd a b = false := by
    cases q : eqd a b with
    | false => rfl
    | true => exact absurd (eqv_pl 64 a b 64 ha hb q) h
  rw [e]
  rfl
theorem o_neT {a b : D} (ha : plE 64 a = true) (hb : plE 64 b = true) (h : a ≠ b) : oNe a b = some (.bl true) := by
  unfold oNe
  rw [plE_ok 64 64 a (Nat.le_refl _) ha, plE_ok 64 64 b (Nat.le_refl _) hb]
  have e : eqd a b = false := by
    cases q : eqd a b with
    | false => rfl
    | true => exact absurd (eqv_pl 64 a b 64 ha hb q) h
  rw [e]
  rfl
theorem o_eqSP {a : D} (ha : plE 64 a = true) : oEq a a = some (.bl true) := o_eqS (plE_ok 64 64 a (Nat.le_refl _) ha)
theorem o_neSP {a : D} (ha : plE 64 a = true) : oNe a a = some (.bl false) := o_neS (plE_ok 64 64 a (Nat.le_refl _) ha)
/-- a type that is laid in values -/
class Em (α : Type) where
  e : α → D
  pl : ∀ a, plE 20 (e a) = true
  inj : ∀ a b, e a = e b → a = b
theorem o_eqE {α : Type} [Em α] [DecidableEq α] (x y : α) : oEq (Em.e x) (Em.e y) = some (.bl (decide (x = y))) := by
  by_cases h : x = y
  · subst h
    rw [o_eqSP (plE_mono (by decide) (Em.pl x))]
    simp
  · rw [o_eqF (plE_mono (by decide) (Em.pl x)) (plE_mono (by decide) (Em.pl y)) fun z => h (Em.inj x y z), decide_eq_false h]
theorem o_neE {α : Type} [Em α] [DecidableEq α] (x y : α) : oNe (Em.e x) (Em.e y) = some (.bl (!decide (x = y))) := by
  by_cases h : x = y
  · subst h
    rw [o_neSP (plE_mono (by decide) (Em.pl x))]
    simp
  · rw [o_neT (plE_mono (by decide) (Em.pl x)) (plE_mono (by decide) (Em.pl y)) fun z => h (Em.inj x y z), decide_eq_false h]
    rfl
/-! ### comprehensions and loops over what is laid -/
section
variable {α β : Type}
theorem comp_flt {f : α → D} {i : Nat} {t : Sto → M Bool} {el : Sto → M D} {ρ : Sto} (p : α → Bool) (g : α → D) (l : List α) (h : ∀ a, a ∈ l → t (ρ.set i (some (false, f a))) = Pure.pure (p a) ∧ (p a = true → el (ρ.set i (some (false, f a))) = Pure.pure (g a))) :
    compL (gdN i) t el ρ (l.map f) = Pure.pure ((l.filter p).map g) := by
  induction l with
  | nil => rfl
  | cons a l ih =>
    obtain ⟨h2, h3⟩ := h a (List.mem_cons_self ..)
    rw [List.map_cons, ev_compC, ev_gdN, lift_some, pure_bind', h2, pure_bind', ih fun x hx => h x (List.mem_cons_of_mem _ hx)]
    cases e : p a with
    | true => rw [if_pos rfl, h3 e, List.filter_cons_of_pos (by simpa using e)]; rfl
    | false => rw [if_neg (by simp), List.filter_cons_of_neg (by simp [e])]
theorem comp_mp {f : α → D} {i : Nat} {el : Sto → M D} {ρ : Sto} (g : α → D) (l : List α) (h : ∀ a, a ∈ l → el (ρ.set i (some (false, f a))) = Pure.pure (g a)) : compL (gdN i) bYes el ρ (l.map f) = Pure.pure (l.map g) := by
  have := comp_flt (f := f) (i := i) (t := bYes) (el := el) (ρ := ρ) (fun _ => true) g l fun a ha => ⟨rfl, fun _ => h a ha⟩
  rw [this, List.filter_eq_self.mpr fun _ _ => rfl]
theorem comp_any {f : α → D} {gd : D → Sto → Option Sto} {t : Sto → M Bool} {el : Sto → M D} {ρ : Sto} (p : α → Bool) (g : α → D) (l : List α) (h : ∀ a, a ∈ l → ∃ ρ1, gd (f a) ρ = some ρ1 ∧ t ρ1 = Pure.pure (p a) ∧ (p a = true → el ρ1 = Pure.pure (g a))) :
    compL gd t el ρ (l.map f) = Pure.pure ((l.filter p).map g) := by
  induction l with
  | nil => rfl
  | cons a l ih =>
    obtain ⟨ρ1, h1, h2, h3⟩ := h a (List.mem_cons_self ..)
    rw [List.map_cons, ev_compC, h1, lift_some, pure_bind', h2, pure_bind', ih fun x hx => h x (List.mem_cons_of_mem _ hx)]
    cases e : p a with
    | true => rw [if_pos rfl, h3 e, List.filter_cons_of_pos (by simpa using e)]; rfl
    | false => rw [if_neg (by simp), List.filter_cons_of_neg (by simp [e])]
/-- a loop that goes through: P i b holds ahead of the i-th turn -/
theorem for_inv {f : α → D} {gd : D → Sto → Option Sto} {body : Sto → M Fl} {kl : List Nat} (S : β → Sto) (step : β → α → β) (P : Nat → β → Prop) (l : List α) : ∀ (i : Nat) (b : β), P i b →
    (∀ j b a, l[j]? = some a → P (i + j) b → P (i + j + 1) (step b a) ∧ ∃ ρ1 ρ2, gd (f a) (S b) = some ρ1 ∧ body ρ1 = Pure.pure (.nx ρ2) ∧ wipeS ρ2 kl = S (step b a)) → forL gd body kl (l.map f) (S b) = Pure.pure (.nx (S (l.foldl step b))) := by
  induction l with
  | nil => intro i b _ _; rfl
  | cons a l ih =>
    intro i b hb h
    obtain ⟨h0, ρ1, ρ2, h1, h2, h3⟩ := h 0 b a rfl hb
    rw [List.map_cons, ev_forC, h1, lift_some, pure_bind', h2, pure_bind', ev_turnN, h3]
    exact ih (i + 1) (step b a) h0 fun j b x hx hp => by
      have := h (j + 1) b x (by simpa using hx) (by rw [show i + (j + 1) = i + 1 + j by omega]; exact hp)
      rwa [show i + (j + 1) = i + 1 + j by omega] at this
/-- a loop that may end early by a return -/
theorem for_find {f : α → D} {gd : D → Sto → Option Sto} {body : Sto → M Fl} {kl : List Nat} {S : Sto} (r : α → Option D) (l : List α) (h : ∀ a, a ∈ l → ∃ ρ1, gd (f a) S = some ρ1 ∧ match r a with
    | some d => body ρ1 = Pure.pure (.rt d)
    | none => ∃ ρ2, body ρ1 = Pure.pure (.nx ρ2) ∧ wipeS ρ2 kl = S) : forL gd body kl (l.map f) S = Pure.pure (match l.findSome? r with | some d => .rt d | none => .nx S) := by
  induction l with
  | nil => rfl
  | cons a l ih =>
    obtain ⟨ρ1, h1, h2⟩ := h a (List.mem_cons_self ..)
    rw [List.map_cons, ev_forC, h1, lift_some, pure_bind', List.findSome?_cons]
    cases e : r a with
    | some d =>
      rw [e] at h2
      rw [h2]
      rfl
    | none =>
      rw [e] at h2
      obtain ⟨ρ2, h2, h3⟩ := h2
      rw [h2, pure_bind', ev_turnN, h3]
      exact ih fun x hx => h x (List.mem_cons_of_mem _ hx)
/-- the same where it may raise -/
theorem forX_find {f : α → D} {gd : D → Sto → Option Sto} {body : XM} {kl : List Nat} {S : Sto} (p : α → Bool) (l : List α) (h : ∀ a, a ∈ l → ∃ ρ1, gd (f a) S = some ρ1 ∧ (p a = true → body ρ1 = Pure.pure none) ∧ (p a = false → ∃ ρ2, body ρ1 = Pure.pure (some (.nx ρ2)) ∧ wipeS ρ2 kl = S)) :
    forLX gd body kl (l.map f) S = Pure.pure (if l.any p = true then none else some (.nx S)) := by
  induction l with
  | nil => rfl
  | cons a l ih =>
    obtain ⟨ρ1, h1, h2, h3⟩ := h a (List.mem_cons_self ..)
    rw [List.map_cons, ev_forXC, h1, lift_some, pure_bind', List.any_cons]
    cases e : p a with
    | true => rw [h2 e]; rfl
    | false =>
      obtain ⟨ρ2, h4, h5⟩ := h3 e
      rw [h4, pure_bind', ev_tXN, h5, ih fun x hx => h x (List.mem_cons_of_mem _ hx), Bool.false_or]
end
end Vw

namespace Vw
open PySem PySem.Spec PyProof.Rows L2

/-! ### what the laws share: sets, rows, orders, picks -/
abbrev tupI (l : List Int) : D := .tup (l.map D.int)
theorem tupI_inj {a b : List Int} (h : tupI a = tupI b) : a = b := by
  have : a.map D.int = b.map D.int := by injection h
  exact List.map_inj_right (fun x y z => by injection z) |>.mp this
instance : Em Int := ⟨D.int, fun _ => plE_i, fun a b h => by injection h⟩
/-- all rising tuples of some values -/
def subsI (rows : List Int) : List (List Int) := rows.foldl (fun found own => found ++ found.map (· ++ [own])) [[]]
def pairS (own : List Int) : D := .tup [.int (own.length : Int), tupI own]
def setsI (rows : List Int) : List (List Int) := (subsI rows).mergeSort fun a b => leD (pairS a) (pairS b)
def lawSets : List D → M D := fnD 5 1 (sSeq (sSet [] 1 (dLst (aCons (dTup aNil) aNil))) (sSeq (sFor [] (iSeq (dVs 0)) (gdN 2) [] (sSet [] 1 (d2 oAdd (dVs 1) (dComp (iSeq (dVs 1)) [3] (gdN 3) bYes (d2 oAdd (dVs 3) (dTup (aCons (dVs 2) aNil)))))))
  (sRet (dComp (iSeq (dCa oSort (aCons (dComp (iSeq (dVs 1)) [2] (gdN 2) bYes (dTup (aCons (dCa oLen (aCons (dVs 2) aNil)) (aCons (dVs 2) aNil)))) aNil))) [4, 2] (gdTup 2 (gdCons (gdN 4) (gdCons (gdN 2) gdNil))) bYes (dVs 2)))))
theorem subs_len (rows : List Int) : ∀ found : List (List Int), (rows.foldl (fun found own => found ++ found.map (· ++ [own])) found).length = found.length * 2 ^ rows.length := by
  induction rows with
  | nil => intro f; simp
  | cons a rows ih =>
    intro f
    rw [List.foldl_cons, ih, List.length_append, List.length_map, List.length_cons, Nat.pow_succ]
    rw [Nat.mul_comm (2 ^ rows.length) 2, ← Nat.mul_assoc]
    congr 1
    omega
theorem subsI_len (rows : List Int) : (subsI rows).length = 2 ^ rows.length := by
  unfold subsI
  rw [subs_len]
  simp
theorem mem_subs (rows : List Int) : ∀ (found : List (List Int)) (x : List Int), x ∈ rows.foldl (fun found own => found ++ found.map (· ++ [own])) found ↔ ∃ a b, a ∈ found ∧ b.Sublist rows ∧ x = a ++ b := by
  induction rows with
  | nil =>
    intro f x
    simp only [List.foldl_nil, List.sublist_nil]
    exact ⟨fun h => ⟨x, [], h, rfl, by simp⟩, fun ⟨a, b, h, e, e2⟩ => by subst e; rw [e2]; simpa using h⟩
  | cons r rows ih =>
    intro f x
    rw [List.foldl_cons, ih]
    constructor
    · rintro ⟨a, b, h, hb, rfl⟩
      rcases List.mem_append.mp h with h | h
      · exact ⟨a, b, h, hb.cons r, rfl⟩
      · obtain ⟨c, hc, rfl⟩ := List.mem_map.mp h
        exact ⟨c, r :: b, hc, hb.cons_cons r, by simp⟩
    · rintro ⟨a, b, h, hb, rfl⟩
      cases hb with
      | cons _ hb => exact ⟨a, b, List.mem_append_left _ h, hb, rfl⟩
      | cons_cons _ hb =>
        rename_i b
        exact ⟨a ++ [r], b, List.mem_append_right _ (List.mem_map.mpr ⟨a, h, rfl⟩), hb, by simp⟩
theorem mem_subsI {rows x : List Int} : x ∈ subsI rows ↔ x.Sublist rows := by
  unfold subsI
  rw [mem_subs]
  constructor
  · rintro ⟨a, b, h, hb, rfl⟩
    simp at h
    subst h
    simpa using hb
  · exact fun h => ⟨[], x, by simp, h, by simp⟩
theorem mem_setsI {rows x : List Int} : x ∈ setsI rows ↔ x.Sublist rows := by
  unfold setsI
  rw [List.mem_mergeSort, mem_subsI]
theorem subs_nodup (rows : List Int) : ∀ (found : List (List Int)), rows.Nodup → found.Nodup → (∀ a, a ∈ found → ∀ r, r ∈ rows → r ∉ a) → (rows.foldl (fun found own => found ++ found.map (· ++ [own])) found).Nodup := by
  induction rows with
  | nil => intro f _ h _; exact h
  | cons r rows ih =>
    intro f nd hf h
    rw [List.foldl_cons]
    have n1 := List.nodup_cons.mp nd
    refine ih _ n1.2 ?_ ?_
    · rw [List.nodup_append]
      refine ⟨hf, ?_, ?_⟩
      · exact List.Pairwise.map _ (fun a b (n : a ≠ b) e => n (List.append_cancel_right e)) hf
      · rintro a ha b hb rfl
        obtain ⟨c, hc, rfl⟩ := List.mem_map.mp hb
        exact h _ ha r (List.mem_cons_self ..) (by simp)
    · intro a ha x hx
      rcases List.mem_append.mp ha with ha | ha
      · exact h a ha x (List.mem_cons_of_mem _ hx)
      · obtain ⟨c, hc, rfl⟩ := List.mem_map.mp ha
        intro z
        rcases List.mem_append.mp z with z | z
        · exact h c hc x (List.mem_cons_of_mem _ hx) z
        · have : x = r := by simpa using z
          subst this
          exact n1.1 hx
theorem setsI_nodup {rows : List Int} (h : rows.Nodup) : (setsI rows).Nodup := by
  unfold setsI
  rw [(List.mergeSort_perm _ _).nodup_iff]
  exact subs_nodup rows [[]] h (by simp) fun a ha r _ => by simp at ha; subst ha; simp
theorem dlt_ok (a b : List Int) : PySem.W.alike (toP (pairS a)) (toP (pairS b)) = true := by
  simp only [pairS, tupI, toP, toPs, toPs_map, List.map_map]
  have := PySem.W.alike_ints a b
  have e : ∀ l : List Int, List.map (toP ∘ D.int) l = l.map PyData.int := fun l => List.map_congr_left fun _ _ => by simp [toP]
  simp [PySem.W.alike, PySem.W.alikeAll, e, this]
theorem okE_pairS (a : List Int) : okE 60 (pairS a) = true := by
  simp [pairS, tupI]
theorem sort_D {α : Type} {f : α → D} {l : List α} (h : srtOk (l.map f) = true) (h1 : ∀ a, a ∈ l → ∀ i, f a ≠ .int i) : oSort [.lst (l.map f)] = some (.lst ((l.mergeSort fun a b => leD (f a) (f b)).map f)) := by
  cases l with
  | nil => simp [oSort, oE, oSortI, asInts, sortI]
  | cons x xs =>
    have h2 : oSortI [.lst ((x :: xs).map f)] = none := by
      show (asInts (f x :: xs.map f)).map _ = none
      cases e : f x <;> first
        | exact absurd e (h1 x (List.mem_cons_self ..) _)
        | rfl
    unfold oSort oE
    rw [h2]
    show (if srtOk ((x :: xs).map f) then some (D.lst (sortD ((x :: xs).map f))) else none) = _
    rw [h, if_pos rfl]
    unfold sortD
    rw [List.map_mergeSort (r := fun a b => leD (f a) (f b)) (s := leD)]
    intro a _ b _
    rfl
theorem sort_pairs (l : List (List Int)) : oSort [.lst (l.map pairS)] = some (.lst ((l.mergeSort fun a b => leD (pairS a) (pairS b)).map pairS)) := by
  refine sort_D ?_ fun a _ i z => by cases z
  unfold srtOk
  have k1 : okEs 60 (l.map pairS) = true := okEs_all.mpr fun d hd => by
    obtain ⟨a, _, rfl⟩ := List.mem_map.mp hd
    exact okE_pairS a
  have k2 : alkB (toPs (l.map pairS)) = true := by
    unfold alkB
    rw [toPs_map, List.map_map, List.all_eq_true]
    intro d hd
    obtain ⟨a, _, rfl⟩ := List.mem_map.mp hd
    rw [List.all_eq_true]
    intro e he
    obtain ⟨b, _, rfl⟩ := List.mem_map.mp he
    exact dlt_ok a b
  have k3 : (toPs (l.map pairS)).all isT1 = true := by
    rw [toPs_map, List.map_map, List.all_eq_true]
    intro d hd
    obtain ⟨a, _, rfl⟩ := List.mem_map.mp hd
    simp [pairS, toP, toPs, isT1]
  rw [k1, k2, k3]
  rfl
theorem lawSets_ok (rows : List Int) (h : rows.length ≤ 20) : lawSets [.lst (rows.map D.int)] = Pure.pure (.lst ((setsI rows).map tupI)) := by
  have pw : ∀ i, i ≤ 20 → 2 ^ i ≤ 1048576 := fun i hi => Nat.le_trans (Nat.pow_le_pow_right (by decide) hi) (by decide)
  have lp := for_inv (f := D.int) (gd := gdN 2) (kl := []) (body := sSet [] 1 (d2 oAdd (dVs 1) (dComp (iSeq (dVs 1)) [3] (gdN 3) bYes (d2 oAdd (dVs 3) (dTup (aCons (dVs 2) aNil))))))
    (S := fun b : List (List Int) × Option Int => [some (false, .lst (rows.map D.int)), some (false, .lst (b.1.map tupI)), b.2.map fun i => (false, .int i), none, none]) (step := fun b a => (b.1 ++ b.1.map (· ++ [a]), some a)) (P := fun i b => b.1.length = 2 ^ i ∧ ∀ x, x ∈ b.1 → x.length ≤ i) rows 0 ([[]], none) ⟨rfl, fun x hx => by simp at hx; simp [hx]⟩ fun j b a hj hp => by
      have hjl := (List.getElem?_eq_some_iff.mp hj).1
      rw [Nat.zero_add] at hp ⊢
      refine ⟨⟨?_, fun x hx => ?_⟩, _, _, rfl, ?_, rfl⟩
      · rw [List.length_append, List.length_map, hp.1, Nat.pow_succ]
        omega
      · rcases List.mem_append.mp hx with hx | hx
        · have := hp.2 x hx
          omega
        · obtain ⟨c, hc, rfl⟩ := List.mem_map.mp hx
          have := hp.2 c hc
          simp
          exact this
      · have cm := comp_mp (f := tupI) (i := 3) (el := d2 oAdd (dVs 3) (dTup (aCons (dVs 2) aNil))) (ρ := [some (false, .lst (rows.map D.int)), some (false, .lst (b.1.map tupI)), some (false, .int a), none, none]) (fun x => tupI (x ++ [a])) b.1 fun x hx => by
          have hl : (x.map D.int).length + [D.int a].length ≤ lineN := by
            have := hp.2 x hx
            simp
            exact big_line (by omega)
          have e : x.map D.int ++ [D.int a] = (x ++ [a]).map D.int := by simp
          simp only [ev, evl, o_addT hl, e]
        have b1 : (b.1.map fun x => tupI (x ++ [a])).length ≤ lineN := by
          rw [List.length_map, hp.1]
          exact big_line (by have := pw j (by omega); omega)
        have b2 : (b.1.map tupI).length + (b.1.map fun x => tupI (x ++ [a])).length ≤ lineN := by
          rw [List.length_map, List.length_map, hp.1]
          exact big_line (by have := pw j (by omega); omega)
        have e : b.1.map tupI ++ (b.1.map fun x => tupI (x ++ [a])) = (b.1 ++ b.1.map (· ++ [a])).map tupI := by rw [List.map_append, List.map_map]; rfl
        simp only [ev, evl, cm, mkLst_le b1, o_addL b2, e, Option.map]
  have e0 : ∀ (rows : List Int) (f : List (List Int)) (o : Option Int), (rows.foldl (fun (b : List (List Int) × Option Int) a => (b.1 ++ b.1.map (· ++ [a]), some a)) (f, o)).1 = rows.foldl (fun found own => found ++ found.map (· ++ [own])) f := by
    intro rows
    induction rows with
    | nil => intro f o; rfl
    | cons a rows ih => intro f o; exact ih _ _
  have e1 := e0 rows [[]] none
  generalize (rows.foldl (fun (b : List (List Int) × Option Int) a => (b.1 ++ b.1.map (· ++ [a]), some a)) ([[]], none)) = F at lp e1
  have e2 : F.1 = subsI rows := e1
  have l1 := subsI_len rows
  have pr := pw rows.length h
  rw [e2] at lp
  have c1 : ∀ (z : Option (Bool × D)), compL (gdN 2) bYes (dTup (aCons (dCa oLen (aCons (dVs 2) aNil)) (aCons (dVs 2) aNil))) [some (false, .lst (rows.map D.int)), some (false, .lst ((subsI rows).map tupI)), z, none, none] ((subsI rows).map tupI) = Pure.pure ((subsI rows).map pairS) := fun z =>
    comp_mp (f := tupI) (i := 2) pairS (subsI rows) fun x _ => by simp only [ev, evl, List.length_map, pairS]
  have l2 : ((subsI rows).map pairS).length ≤ lineN := by rw [List.length_map, l1]; exact big_line (by omega)
  have c2 : compL (gdTup 2 (gdCons (gdN 4) (gdCons (gdN 2) gdNil))) bYes (dVs 2) [some (false, .lst (rows.map D.int)), some (false, .lst ((subsI rows).map tupI)), none, none, none] ((setsI rows).map pairS) = Pure.pure (((setsI rows).filter fun _ => true).map tupI) :=
    comp_any (f := pairS) (fun _ => true) tupI (setsI rows) fun x _ => ⟨_, by simp only [ev, evl, pairS, if_pos]; rfl, rfl, fun _ => by simp only [ev, evl]⟩
  rw [List.filter_eq_self.mpr fun _ _ => rfl] at c2
  have l3 : ((setsI rows).map tupI).length ≤ lineN := by
    unfold setsI
    rw [List.length_map, List.length_mergeSort, l1]
    exact big_line (by omega)
  have lp' : forL (gdN 2) (sSet [] 1 (d2 oAdd (dVs 1) (dComp (iSeq (dVs 1)) [3] (gdN 3) bYes (d2 oAdd (dVs 3) (dTup (aCons (dVs 2) aNil)))))) [] (rows.map D.int) [some (false, .lst (rows.map D.int)), some (false, .lst [.tup []]), none, none, none] = _ := lp
  have sp := sort_pairs (subsI rows)
  have es : ((subsI rows).mergeSort fun a b => leD (pairS a) (pairS b)) = setsI rows := rfl
  rw [es] at sp
  unfold lawSets
  simp only [evf, evl, if_pos]
  simp only [ev, evl, lp', c1, mkLst_le l2, sp, c2, mkLst_le l3]
end Vw

namespace Vw
open PySem PySem.Spec PyProof.Rows L2

/-! ### a paper is taken -/
def lawIsTaken (tbl : Tbl) : List D → M D := fnD 2 2 (sTry (xSeq (xIf (dB (d2 oEq (dCa oLen (aCons (dVs 1) (aNil))) (dC (.int 2)))) (xRetIs (xCallV tbl 0 (aCons (d2 oIx (dVs 1) (dC (.int 0))) (aCons (d2 oIx (dVs 1) (dC (.int 1))) (aNil))))) (xUp sNext)) (xSeq (xIf (dB (d2 oEq (dCa oLen (aCons (dVs 1) (aNil))) (dC (.int 3)))) (xRetIs (xCallV tbl 0 (aCons (d2 oIx (dVs 1) (dC (.int 0))) (aCons (d2 oIx (dVs 1) (dC (.int 1))) (aCons (d2 oIx (dVs 1) (dC (.int 2))) (aNil)))))) (xUp sNext)) (xSeq (xIf (dB (d2 oEq (dCa oLen (aCons (dVs 1) (aNil))) (dC (.int 4)))) (xRetIs (xCallV tbl 0 (aCons (d2 oIx (dVs 1) (dC (.int 0))) (aCons (d2 oIx (dVs 1) (dC (.int 1))) (aCons (d2 oIx (dVs 1) (dC (.int 2))) (aCons (d2 oIx (dVs 1) (dC (.int 3))) (aNil))))))) (xUp sNext)) (xSeq (xIf (dB (d2 oEq (dCa oLen (aCons (dVs 1) (aNil))) (dC (.int 5)))) (xRetIs (xCallV tbl 0 (aCons (d2 oIx (dVs 1) (dC (.int 0))) (aCons (d2 oIx (dVs 1) (dC (.int 1))) (aCons (d2 oIx (dVs 1) (dC (.int 2))) (aCons (d2 oIx (dVs 1) (dC (.int 3))) (aCons (d2 oIx (dVs 1) (dC (.int 4))) (aNil)))))))) (xUp sNext)) (xRetIs (xCallV tbl 0 (aCons (d2 oIx (dVs 1) (dC (.int 0))) (aCons (d2 oIx (dVs 1) (dC (.int 1))) (aCons (d2 oIx (dVs 1) (dC (.int 2))) (aCons (d2 oIx (dVs 1) (dC (.int 3))) (aCons (d2 oIx (dVs 1) (dC (.int 4))) (aCons (d2 oIx (dVs 1) (dC (.int 5))) (aNil))))))))))))))
def okX (p : Bool) : Option D := if p then some .non else none
section
variable {tb : Tbl} {x : Str} {f : List D → M (Option D)} {p : Bool} {a b c d e g : D}
theorem taken2 (hx : tb.lookup x = some f) (h : f [a, b] = Pure.pure (okX p)) : lawIsTaken tb [.fn x, .lst [a, b]] = Pure.pure (.bl p) := by
  have n2 : ∀ k : Int, oEq (.int k) (.int 2) = some (.bl (decide (k = 2))) := fun _ => o_eqI
  unfold lawIsTaken
  simp only [evf, evl, if_pos]
  simp -decide only [ev, evl, at0, at1, at2, at3, at4, at5, hx, h]
  cases p <;> simp [okX, at0, at1, at2, at3, at4, at5, hx, h]
theorem taken3 (hx : tb.lookup x = some f) (h : f [a, b, c] = Pure.pure (okX p)) : lawIsTaken tb [.fn x, .lst [a, b, c]] = Pure.pure (.bl p) := by
  have n2 : ∀ k : Int, oEq (.int k) (.int 2) = some (.bl (decide (k = 2))) := fun _ => o_eqI
  unfold lawIsTaken
  simp only [evf, evl, if_pos]
  simp -decide only [ev, evl, at0, at1, at2, at3, at4, at5, hx, h]
  cases p <;> simp [okX, at0, at1, at2, at3, at4, at5, hx, h]
theorem taken4 (hx : tb.lookup x = some f) (h : f [a, b, c, d] = Pure.pure (okX p)) : lawIsTaken tb [.fn x, .lst [a, b, c, d]] = Pure.pure (.bl p) := by
  have n2 : ∀ k : Int, oEq (.int k) (.int 2) = some (.bl (decide (k = 2))) := fun _ => o_eqI
  unfold lawIsTaken
  simp only [evf, evl, if_pos]
  simp -decide only [ev, evl, at0, at1, at2, at3, at4, at5, hx, h]
  cases p <;> simp [okX, at0, at1, at2, at3, at4, at5, hx, h]
theorem taken5 (hx : tb.lookup x = some f) (h : f [a, b, c, d, e] = Pure.pure (okX p)) : lawIsTaken tb [.fn x, .lst [a, b, c, d, e]] = Pure.pure (.bl p) := by
  have n2 : ∀ k : Int, oEq (.int k) (.int 2) = some (.bl (decide (k = 2))) := fun _ => o_eqI
  unfold lawIsTaken
  simp only [evf, evl, if_pos]
  simp -decide only [ev, evl, at0, at1, at2, at3, at4, at5, hx, h]
  cases p <;> simp [okX, at0, at1, at2, at3, at4, at5, hx, h]
theorem taken6 (hx : tb.lookup x = some f) (h : f [a, b, c, d, e, g] = Pure.pure (okX p)) : lawIsTaken tb [.fn x, .lst [a, b, c, d, e, g]] = Pure.pure (.bl p) := by
  have n2 : ∀ k : Int, oEq (.int k) (.int 2) = some (.bl (decide (k = 2))) := fun _ => o_eqI
  unfold lawIsTaken
  simp only [evf, evl, if_pos]
  simp -decide only [ev, evl, at0, at1, at2, at3, at4, at5, hx, h]
  cases p <;> simp [okX, at0, at1, at2, at3, at4, at5, hx, h]
end
end Vw

namespace Vw
open PySem PySem.Spec PyProof.Rows L2

/-! ### enumerate, sorted tuples, one of many -/
def enP {α : Type} (l : List α) : List (Int × α) := l.mapIdx fun i x => ((i : Int), x)
theorem enD_mapI {α : Type} (f : α → D) : ∀ (l : List α) (i : Nat), (l.map f).mapIdx (fun j x => D.tup [.int ((i + j : Nat) : Int), x]) = (l.mapIdx fun k x => (((i + k : Nat) : Int), x)).map fun q => .tup [.int q.1, f q.2]
  | [], _ => rfl
  | a :: l, i => by
    rw [List.map_cons, List.mapIdx_cons, List.mapIdx_cons, List.map_cons]
    have e1 : (fun (j : Nat) (x : D) => D.tup [.int ((i + (j + 1) : Nat) : Int), x]) = fun j x => D.tup [.int ((i + 1 + j : Nat) : Int), x] := by
      funext j x
      rw [show i + (j + 1) = i + 1 + j by omega]
    have e2 : (fun (k : Nat) (x : α) => (((i + (k + 1) : Nat) : Int), x)) = fun k x => (((i + 1 + k : Nat) : Int), x) := by
      funext k x
      rw [show i + (k + 1) = i + 1 + k by omega]
    rw [e1, e2, enD_mapI f l (i + 1)]
theorem enD_map {α : Type} (f : α → D) (l : List α) : enD (l.map f) = (enP l).map fun q => .tup [.int q.1, f q.2] := by
  have := enD_mapI f l 0
  simp only [Nat.zero_add] at this
  exact this
theorem mem_enP {α : Type} {l : List α} {q : Int × α} (h : q ∈ enP l) : ∃ j : Nat, q.1 = j ∧ l[j]? = some q.2 := by
  unfold enP at h
  obtain ⟨j, hj, e⟩ := List.mem_mapIdx.mp h
  exact ⟨j, by rw [← e], by rw [← e]; exact List.getElem?_eq_getElem hj⟩
/-- indices whose item has p -/
theorem enP_flt {α : Type} (p : α → Bool) (r : Int → Bool) : ∀ (l : List α) (i : Nat), (∀ j a, l[j]? = some a → r ((i + j : Nat) : Int) = p a) → ((l.mapIdx fun k x => (((i + k : Nat) : Int), x)).filter fun q => p q.2).map (·.1) = (rgI (i : Int) l.length).filter r
  | [], i, _ => rfl
  | a :: l, i, h => by
    have h0 := h 0 a rfl
    have ih := enP_flt p r l (i + 1) fun j b hb => by
      have := h (j + 1) b hb
      rwa [show i + (j + 1) = i + 1 + j by omega] at this
    rw [List.mapIdx_cons, List.length_cons, rgI_succ]
    have e : (fun (k : Nat) (x : α) => (((i + (k + 1) : Nat) : Int), x)) = fun k x => (((i + 1 + k : Nat) : Int), x) := by
      funext k x
      rw [show i + (k + 1) = i + 1 + k by omega]
    rw [e]
    have e2 : ((i + 1 : Nat) : Int) = (i : Int) + 1 := by omega
    rw [e2] at ih
    rw [Nat.add_zero] at h0 ⊢
    cases c : p a with
    | true =>
      rw [c] at h0
      rw [List.filter_cons_of_pos (by simpa using c), List.filter_cons_of_pos (by simpa using h0), List.map_cons, ih]
    | false =>
      rw [c] at h0
      rw [List.filter_cons_of_neg (by simp [c]), List.filter_cons_of_neg (by simp [h0]), ih]
theorem enP_rg {α : Type} {p : α → Bool} {r : Int → Bool} {l : List α} (h : ∀ (j : Nat) a, l[j]? = some a → r (j : Int) = p a) : ((enP l).filter fun q => p q.2).map (·.1) = (rgI 0 l.length).filter r := by
  have := enP_flt p r l 0 fun j a ha => by rw [Nat.zero_add]; exact h j a ha
  simp only [Nat.zero_add] at this
  exact this
theorem flat_one {α β : Type} [DecidableEq α] {x : α} {c : List β} : ∀ {l : List α}, l.Nodup → x ∈ l → l.flatMap (fun y => if y = x then c else []) = c
  | [], _, h => nomatch h
  | y :: l, nd, h => by
    have n1 := List.nodup_cons.mp nd
    rw [List.flatMap_cons]
    rcases List.mem_cons.mp h with rfl | h
    · rw [if_pos rfl]
      have : l.flatMap (fun y => if y = x then c else []) = [] := List.flatMap_eq_nil_iff.mpr fun z hz => if_neg fun (e : z = x) => n1.1 (by rw [← e]; exact hz)
      rw [this, List.append_nil]
    · rw [if_neg fun (e : y = x) => n1.1 (by rw [e]; exact h), flat_one n1.2 h, List.nil_append]
theorem leD_int (a b : Int) : leD (.int a) (.int b) = decide (a ≤ b) := by
  unfold leD
  simp only [toP]
  rw [PySem.W.dataLt_int]
  by_cases h : a ≤ b
  · rw [decide_eq_true h, decide_eq_false (by omega)]; rfl
  · rw [decide_eq_false h, decide_eq_true (by omega)]; rfl
theorem srtOk_ints (l : List Int) : srtOk (l.map D.int) = true := by
  unfold srtOk
  have k2 : alkB (toPs (l.map D.int)) = true := by
    unfold alkB
    rw [toPs_map, List.map_map, List.all_eq_true]
    intro d hd
    obtain ⟨a, _, rfl⟩ := List.mem_map.mp hd
    rw [List.all_eq_true]
    intro e he
    obtain ⟨b, _, rfl⟩ := List.mem_map.mp he
    simp [toP, PySem.W.alike]
  have k3 : (toPs (l.map D.int)).all isO1 = true := by
    rw [toPs_map, List.map_map, List.all_eq_true]
    intro d hd
    obtain ⟨a, _, rfl⟩ := List.mem_map.mp hd
    simp [toP, isO1]
  rw [k2, k3, okEs_ints]
  simp
@[simp] theorem o_srtT (l : List Int) : oSort [.tup (l.map D.int)] = some (.lst ((sortI l).map D.int)) := by
  have h1 : oSortI [.tup (l.map D.int)] = none := rfl
  unfold oSort oE
  rw [h1]
  show (if srtOk (l.map D.int) then some (D.lst (sortD (l.map D.int))) else none) = _
  rw [srtOk_ints, if_pos rfl]
  unfold sortD sortI
  rw [List.map_mergeSort (r := fun a b : Int => decide (a ≤ b)) (s := leD)]
  intro a _ b _
  exact (leD_int a b).symm
/-- in a rising row: as many as from i on are not below it -/
theorem srt_cnt {s : List Int} (h : s.Pairwise (· ≤ ·)) {i : Nat} (hi : i < s.length) (v : Int) : s.length - i ≤ s.countP (fun x => decide (v ≤ x)) ↔ v ≤ s[i] := by
  have sp : s = s.take i ++ s.drop i := (List.take_append_drop i s).symm
  have le : ∀ j k (hj : j < s.length) (hk : k < s.length), j ≤ k → s[j] ≤ s[k] := fun j k hj hk l => by
    rcases Nat.lt_or_eq_of_le l with l | rfl
    · exact (List.pairwise_iff_getElem.mp h) j k hj hk l
    · exact Int.le_refl _
  constructor
  · intro hc
    refine Int.not_lt.mp fun hv => ?_
    have sp2 : s = s.take (i + 1) ++ s.drop (i + 1) := (List.take_append_drop (i + 1) s).symm
    have z : (s.take (i + 1)).countP (fun x => decide (v ≤ x)) = 0 := List.countP_eq_zero.mpr fun x hx => by
      obtain ⟨j, hj, rfl⟩ := List.mem_take_iff_getElem.mp hx
      have := le j i (by omega) hi (by omega)
      simp
      omega
    have c2 := List.countP_le_length (p := fun x => decide (v ≤ x)) (l := s.drop (i + 1))
    rw [List.length_drop] at c2
    have c3 : s.countP (fun x => decide (v ≤ x)) = (s.take (i + 1)).countP (fun x => decide (v ≤ x)) + (s.drop (i + 1)).countP (fun x => decide (v ≤ x)) := by
      rw [← List.countP_append, ← sp2]
    omega
  · intro hv
    have a1 : (s.drop i).countP (fun x => decide (v ≤ x)) = (s.drop i).length := List.countP_eq_length.mpr fun x hx => by
      obtain ⟨j, hj, rfl⟩ := List.mem_drop_iff_getElem.mp hx
      have := le i (i + j) hi (by omega) (by omega)
      simp
      omega
    have c3 : s.countP (fun x => decide (v ≤ x)) = (s.take i).countP (fun x => decide (v ≤ x)) + (s.drop i).countP (fun x => decide (v ≤ x)) := by
      rw [← List.countP_append, ← sp]
    rw [List.length_drop] at a1
    omega
theorem sortI_len (l : List Int) : (sortI l).length = l.length := (sortI_perm l).length_eq
theorem ev_lstRg1 {a : Sto → M D} {ρ : Sto} : dLstRg (rg1 a) ρ = a ρ >>= asN >>= fun j => mkRg .lst (0, j) := by
  simp only [dLstRg, rg1, bind_assoc', pure_bind']
theorem ev_lstRg2 {a b : Sto → M D} {ρ : Sto} : dLstRg (rg2 a b) ρ = a ρ >>= asN >>= fun i => b ρ >>= asN >>= fun j => mkRg .lst (i, j) := by
  simp only [dLstRg, rg2, bind_assoc', pure_bind']
theorem ev_tupRg1 {a : Sto → M D} {ρ : Sto} : dTupRg (rg1 a) ρ = a ρ >>= asN >>= fun j => mkRg .tup (0, j) := by
  simp only [dTupRg, rg1, bind_assoc', pure_bind']
theorem mkRg_le {k : List D → D} {i j : Int} (h1 : -4611686018427387904 ≤ i) (h2 : i < 4611686018427387904) (h3 : -4611686018427387904 ≤ j) (h4 : j < 4611686018427387904) (h5 : j - i ≤ 1000) : mkRg k (i, j) = Pure.pure (k ((rgI i (j - i).toNat).map D.int)) := by
  have e : rgOk i j = true := by
    unfold rgOk
    rw [sm62 h1 h2, sm62 h3 h4, Bool.true_and, Bool.true_and]
    exact decide_eq_true (small_line (by omega))
  unfold mkRg
  simp only [e, if_true, rgD_eq]
theorem mkRg0 {k : List D → D} {n : Nat} (h : n ≤ 1000) : mkRg k (0, (n : Int)) = Pure.pure (k ((rgI 0 n).map D.int)) := by
  rw [mkRg_le (by omega) (by omega) (by omega) (by omega) (by omega), Int.sub_zero, Int.toNat_natCast]
theorem rg1N {n : Nat} (h : n ≤ 1000) : oRg1 [.int (n : Int)] = some ((rgI 0 n).map D.int) := by
  rw [o_rg1 (by omega) (by omega), rgD_eq, Int.toNat_natCast]
theorem rgI_nodup (a : Int) (n : Nat) : (rgI a n).Nodup := by
  unfold rgI
  exact List.Pairwise.map _ (fun x y (h : x ≠ y) e => h (by omega)) List.nodup_range
theorem rgI_lt (a : Int) (n : Nat) : (rgI a n).Pairwise (· < ·) := by
  unfold rgI
  exact List.Pairwise.map _ (fun x y (h : x < y) => by omega) List.pairwise_lt_range
end Vw

namespace Vw
open PySem PySem.Spec PyProof.Rows L2

@[simp] theorem o_eqB (a b : Bool) : oEq (.bl a) (.bl b) = some (.bl (a == b)) := by
  unfold oEq
  rw [okE_bl, okE_bl]
  cases a <;> cases b <;> rfl
@[simp] theorem o_neB (a b : Bool) : oNe (.bl a) (.bl b) = some (.bl (!(a == b))) := by
  unfold oNe
  rw [okE_bl, okE_bl]
  cases a <;> cases b <;> rfl
theorem o_eqNil {ds : List D} (h : plEs 60 ds = true) : oEq (.lst ds) (.lst []) = some (.bl ds.isEmpty) := by
  cases ds with
  | nil => exact o_eqSP (by simp)
  | cons d ds => exact o_eqF (plE_mono (n := 61) (by decide) (by rw [plE_lst]; exact h)) (by simp) (by simp)
theorem o_neNil {ds : List D} (h : plEs 60 ds = true) : oNe (.lst ds) (.lst []) = some (.bl (!ds.isEmpty)) := by
  cases ds with
  | nil => exact o_neSP (by simp)
  | cons d ds => exact o_neT (plE_mono (n := 61) (by decide) (by rw [plE_lst]; exact h)) (by simp) (by simp)
/-- strings that are written -/
theorem o_eqStr {x y : Str} (hx : PyData.strOk x = true) (hy : PyData.strOk y = true) : oEq (.str x) (.str y) = some (.bl (decide (x = y))) := by
  by_cases h : x = y
  · subst h
    rw [o_eqSP (by rw [plE_s]; exact hx)]
    simp
  · rw [o_eqF (by rw [plE_s]; exact hx) (by rw [plE_s]; exact hy) fun z => h (by injection z), decide_eq_false h]
theorem filter_rg (a lo hi : Int) : ∀ n : Nat, (rgI a n).filter (fun r => decide (lo ≤ r) && decide (r ≤ hi)) = rgI (max a lo) (min (a + n - 1) hi + 1 - max a lo).toNat
  | 0 => by
    have : (min (a + ((0 : Nat) : Int) - 1) hi + 1 - max a lo).toNat = 0 := by omega
    rw [this]
    rfl
  | n + 1 => by
    rw [rgI_last, List.filter_append, filter_rg a lo hi n]
    by_cases h : lo ≤ a + n ∧ a + n ≤ hi
    · have e : (min (a + ((n + 1 : Nat) : Int) - 1) hi + 1 - max a lo).toNat = (min (a + n - 1) hi + 1 - max a lo).toNat + 1 := by omega
      rw [e, rgI_last]
      have e2 : max a lo + ((min (a + n - 1) hi + 1 - max a lo).toNat : Int) = a + n := by omega
      rw [e2]
      simp [h.1, h.2]
    · have e : (min (a + ((n + 1 : Nat) : Int) - 1) hi + 1 - max a lo).toNat = (min (a + n - 1) hi + 1 - max a lo).toNat := by omega
      rw [e]
      have : (decide (lo ≤ a + n) && decide (a + n ≤ hi)) = false := by
        by_cases h1 : lo ≤ a + n <;> by_cases h2 : a + n ≤ hi <;> simp_all
      simp [List.filter_cons, this]
theorem at_last {α : Type} {f : α → D} {l : List α} (h : l ≠ []) : atI (l.map f) (-1) = some (f (l.getLast h)) := by
  have p : 0 < l.length := List.length_pos_iff.mpr h
  have e : (l.map f)[l.length - 1]? = some (f (l.getLast h)) := by
    rw [List.getElem?_map, List.getLast_eq_getElem, List.getElem?_eq_getElem (by omega)]
    rfl
  unfold atI ixN
  rw [if_neg (by omega), if_pos (by rw [List.length_map]; omega)]
  have e2 : (-1 + ((l.map f).length : Int)).toNat = l.length - 1 := by rw [List.length_map]; omega
  simp only [e2, Option.bind_some, e]
theorem rg_first {a : Int} {n : Nat} (h : n ≠ 0) : atI ((rgI a n).map D.int) 0 = some (.int a) := by
  obtain ⟨m, rfl⟩ := Nat.exists_eq_succ_of_ne_zero h
  rw [rgI_succ]
  exact atI_nat (j := 0) rfl
theorem rg_final {a : Int} {n : Nat} (h : n ≠ 0) : atI ((rgI a n).map D.int) (-1) = some (.int (a + n - 1)) := by
  obtain ⟨m, rfl⟩ := Nat.exists_eq_succ_of_ne_zero h
  have ne : rgI a (m + 1) ≠ [] := by rw [rgI_succ]; simp
  rw [at_last ne]
  congr 2
  have : rgI a (m + 1) = rgI a m ++ [a + m] := rgI_last a m
  simp only [this, List.getLast_concat]
  omega
/-! ### rows of so many -/
def rowsF (l : List Int) : Nat → List (List Int)
  | 0 => [[]]
  | n + 1 => (rowsF l n).flatMap fun own => l.map fun one => own ++ [one]
theorem rowsF_len (l : List Int) : ∀ n, (rowsF l n).length = l.length ^ n
  | 0 => rfl
  | n + 1 => by
    have ih := rowsF_len l n
    unfold rowsF
    rw [List.length_flatMap]
    simp only [List.length_map]
    rw [List.map_const', List.sum_replicate_nat, ih, Nat.pow_succ]
theorem mem_rowsF {l : List Int} : ∀ {n : Nat} {x : List Int}, x ∈ rowsF l n ↔ x.length = n ∧ ∀ y, y ∈ x → y ∈ l
  | 0, x => by
    unfold rowsF
    simp only [List.mem_singleton]
    exact ⟨fun h => by subst h; exact ⟨rfl, fun _ z => nomatch z⟩, fun h => List.length_eq_zero_iff.mp h.1⟩
  | n + 1, x => by
    unfold rowsF
    simp only [List.mem_flatMap, List.mem_map]
    constructor
    · rintro ⟨own, ho, one, h1, rfl⟩
      obtain ⟨a, b⟩ := mem_rowsF.mp ho
      refine ⟨by simp [a], fun y hy => ?_⟩
      rcases List.mem_append.mp hy with hy | hy
      · exact b y hy
      · have : y = one := by simpa using hy
        rw [this]
        exact h1
    · rintro ⟨h1, h2⟩
      have ne : x ≠ [] := fun z => by rw [z] at h1; simp at h1
      refine ⟨x.dropLast, mem_rowsF.mpr ⟨by rw [List.length_dropLast, h1]; rfl, fun y hy => h2 y (List.dropLast_subset x hy)⟩, x.getLast ne, h2 _ (List.getLast_mem ne), List.dropLast_concat_getLast ne⟩
theorem rowsF_nodup {l : List Int} (h : l.Nodup) : ∀ n, (rowsF l n).Nodup
  | 0 => by simp [rowsF]
  | n + 1 => by
    have ih := rowsF_nodup h n
    unfold rowsF
    rw [List.Nodup, List.pairwise_flatMap]
    refine ⟨fun own _ => List.Pairwise.map _ (fun a b (ne : a ≠ b) e => ne (by simpa using e)) h, ih.imp fun {a b} ne x hx y hy e => ?_⟩
    obtain ⟨c, _, rfl⟩ := List.mem_map.mp hx
    obtain ⟨d, _, rfl⟩ := List.mem_map.mp hy
    exact ne (List.append_inj_left' e rfl)
def lawRows : List D → M D := fnD 7 2 (sSeq (sSet [] 2 (dLst (aCons (dTup aNil) aNil))) (sSeq (sFor [] (iRg1 (aCons (dVs 1) aNil)) (gdN 3) [3, 4, 5]
  (sSeq (sSetF [] 4 (dLst aNil)) (sSeq (sFor [] (iSeq (dVs 2)) (gdN 5) [5] (sExt [] 4 (dComp (iSeq (dVs 0)) [6] (gdN 6) bYes (d2 oAdd (dVs 5) (dTup (aCons (dVs 6) aNil)))))) (sSet [4] 2 (dV 4))))) (sRet (dVs 2))))
theorem rows_inner {l : List Int} {x1 x3 : Option (Bool × D)} {m : Nat} (hm : m ≤ 30) : ∀ (rows : List (List Int)) (acc : List (List Int)), (∀ x, x ∈ rows → x.length ≤ m) → acc.length + rows.length * l.length ≤ 1000000 → l.length ≤ 1000000 → ∀ x2,
    forL (gdN 5) (sExt [] 4 (dComp (iSeq (dVs 0)) [6] (gdN 6) bYes (d2 oAdd (dVs 5) (dTup (aCons (dVs 6) aNil))))) [5] (rows.map tupI) [some (false, .lst (l.map D.int)), x1, x2, x3, some (true, .lst (acc.map tupI)), none, none] =
      Pure.pure (.nx [some (false, .lst (l.map D.int)), x1, x2, x3, some (true, .lst ((acc ++ rows.flatMap fun own => l.map fun one => own ++ [one]).map tupI)), none, none]) := by
  intro rows
  induction rows with
  | nil => intro acc _ _ _ x2; simp
  | cons own rows ih =>
    intro acc h hn hl x2
    have ho := h own (List.mem_cons_self ..)
    have c := comp_mp (f := D.int) (i := 6) (el := d2 oAdd (dVs 5) (dTup (aCons (dVs 6) aNil))) (ρ := [some (false, .lst (l.map D.int)), x1, x2, x3, some (true, .lst (acc.map tupI)), some (false, tupI own), none]) (fun one => tupI (own ++ [one])) l fun one _ => by
      have hl : (own.map D.int).length + [D.int one].length ≤ lineN := by
        simp
        exact big_line (by omega)
      have e : own.map D.int ++ [D.int one] = (own ++ [one]).map D.int := by simp
      simp only [ev, evl, o_addT hl, e]
    have b1 : (l.map fun one => tupI (own ++ [one])).length ≤ lineN := by rw [List.length_map]; exact big_line (by omega)
    have nl : (own :: rows).length * l.length = l.length + rows.length * l.length := by rw [List.length_cons, Nat.succ_mul, Nat.add_comm]
    rw [nl] at hn
    have b2 : (acc.map tupI).length + (l.map fun one => tupI (own ++ [one])).length ≤ lineN := by rw [List.length_map, List.length_map]; exact big_line (by omega)
    have e : acc.map tupI ++ (l.map fun one => tupI (own ++ [one])) = (acc ++ l.map fun one => own ++ [one]).map tupI := by rw [List.map_append, List.map_map]; rfl
    have i := ih (acc ++ l.map fun one => own ++ [one]) (fun x hx => h x (List.mem_cons_of_mem _ hx)) (by rw [List.length_append, List.length_map]; omega) hl x2
    rw [List.append_assoc] at i
    rw [List.map_cons, ev_forC, List.flatMap_cons]
    simp only [ev, evl, c, mkLst_le b1, b2, if_pos, e]
    exact i
theorem lawRows_ok {l : List Int} {n : Nat} (hn : n ≤ 30) (h : ∀ k, k ≤ n → l.length ^ k ≤ 1000000) (hl : l.length ≤ 1000000) : lawRows [.lst (l.map D.int), .int n] = Pure.pure (.lst ((rowsF l n).map tupI)) := by
  have lp := for_inv (f := D.int) (gd := gdN 3) (kl := [3, 4, 5]) (body := sSeq (sSetF [] 4 (dLst aNil)) (sSeq (sFor [] (iSeq (dVs 2)) (gdN 5) [5] (sExt [] 4 (dComp (iSeq (dVs 0)) [6] (gdN 6) bYes (d2 oAdd (dVs 5) (dTup (aCons (dVs 6) aNil)))))) (sSet [4] 2 (dV 4))))
    (S := fun b : Nat => [some (false, .lst (l.map D.int)), some (false, .int (n : Int)), some (false, .lst ((rowsF l b).map tupI)), none, none, none, none]) (step := fun b _ => b + 1) (P := fun i b => b = i) (rgI 0 n) 0 0 rfl fun j b a hj hp => by
      rw [Nat.zero_add] at hp
      subst hp
      have hjl := (List.getElem?_eq_some_iff.mp hj).1
      rw [rgI_len] at hjl
      have p1 := h (b + 1) (by omega)
      rw [Nat.pow_succ] at p1
      have ri := rows_inner (l := l) (x1 := some (false, .int (n : Int))) (x3 := some (false, .int a)) (m := 30) (Nat.le_refl _) (rowsF l b) [] (fun x hx => by have := (mem_rowsF.mp hx).1; omega) (by rw [rowsF_len]; simp; exact p1) hl (some (false, .lst ((rowsF l b).map tupI)))
      rw [List.map_nil, List.nil_append] at ri
      have rr : ((rowsF l b).flatMap fun own => l.map fun one => own ++ [one]) = rowsF l (b + 1) := rfl
      rw [rr] at ri
      refine ⟨by omega, _, [some (false, .lst (l.map D.int)), some (false, .int (n : Int)), some (false, .lst ((rowsF l (b + 1)).map tupI)), some (false, .int a), some (false, .lst ((rowsF l (b + 1)).map tupI)), none, none], rfl, ?_, rfl⟩
      simp only [ev, evl, ri]
      rfl
  have e : ∀ (k : List Int) (b : Nat), k.foldl (fun (b : Nat) (_ : Int) => b + 1) b = b + k.length := by
    intro k
    induction k with
    | nil => intro b; rfl
    | cons x k ih => intro b; rw [List.foldl_cons, ih, List.length_cons]; omega
  rw [e, rgI_len, Nat.zero_add] at lp
  have lp' : forL (gdN 3) (sSeq (sSetF [] 4 (dLst aNil)) (sSeq (sFor [] (iSeq (dVs 2)) (gdN 5) [5] (sExt [] 4 (dComp (iSeq (dVs 0)) [6] (gdN 6) bYes (d2 oAdd (dVs 5) (dTup (aCons (dVs 6) aNil)))))) (sSet [4] 2 (dV 4)))) [3, 4, 5] ((rgI 0 n).map D.int) [some (false, .lst (l.map D.int)), some (false, .int (n : Int)), some (false, .lst [.tup []]), none, none, none, none] = _ := lp
  unfold lawRows
  simp only [evf, evl, if_pos, Nat.reduceSub]
  simp only [ev, evl, rg1N (n := n) (by omega), lp']
end Vw

namespace Vw
open PySem PySem.Spec PyProof.Rows L2

/-! ### small words for laws -/
theorem bFF : (false == false) = true := rfl
theorem bFT : (false == true) = false := rfl
theorem bTF : (true == false) = false := rfl
theorem bTT : (true == true) = true := rfl
theorem dSelf {α : Type} [DecidableEq α] {a : α} : decide (a = a) = true := by simp
def evc := And.intro bFF (And.intro bFT (And.intro bTF (And.intro bTT (And.intro (@dSelf Int _) (And.intro @o_eqB (And.intro @o_neB (And.intro @at0 (And.intro @at1 (And.intro @at2 (And.intro @at3 (And.intro @at4 (And.intro @at5 (And.intro @ev_dSt (And.intro @ev_dStep (And.intro @ev_lstRg1 (And.intro @ev_lstRg2 (And.intro @ev_tupRg1 (And.intro @Option.bind_some.{0, 0} (And.intro @ev_gdCons @ev_gdNil)))))))))))))))))))
theorem run_is {m : M D} {a : D} {w : Wd} {Q : D → Wd → Prop} (h : m = Pure.pure a) (q : Q a w) : Run m w Q := by
  rw [h]
  exact run_pure q
/-- a draw within a comprehension -/
theorem run_drw {β : Type} {f : D → M β} {w : Wd} {n m : Int} {Q : β → Wd → Prop} (h : WB w n) (hn : n < 1073741824) (h1 : 0 < m) (h2 : m < 1073741824) (k : ∀ r w', 0 ≤ r → r < m → WB w' (n + 1) → Run (f (.int r)) w' Q) : Run (f_draw [.tok, .int m] >>= f) w Q := by
  obtain ⟨r, w', e, a, b, c⟩ := f_draw_ok h hn h1 h2
  exact run_bind ⟨_, _, e, k r w' a b c⟩
def lawPick : List D → M D := fnD 2 2 (sRet (d2 oIx (dVs 1) (dCall f_draw [] (aCons (dVs 0) (aCons (dCa oLen (aCons (dVs 1) (aNil))) (aNil))))))
theorem pick_of {L : List D} {w : Wd} {n : Int} (hw : WB w n) (hn : n < 1073741824) (h1 : 0 < L.length) (h2 : L.length ≤ 1000) : Run (lawPick [.tok, .lst L]) w fun x w' => x ∈ L ∧ WB w' (n + 1) := by
  simp -implicitDefEqProofs [lawPick, fnD, stoD]
  refine run_drw hw hn (by omega) (by omega) fun r w' r0 r1 hw' => ?_
  obtain ⟨j, rfl⟩ : ∃ j : Nat, r = j := ⟨r.toNat, by omega⟩
  have hj : j < L.length := by omega
  have a : atI L (j : Int) = some L[j] := atI_nat (List.getElem?_eq_getElem hj)
  simp -implicitDefEqProofs [a]
  exact run_pure ⟨List.getElem_mem hj, hw'⟩
theorem of_all {α : Type} {f : α → D} {P : α → Prop} : ∀ ys : List D, (∀ y, y ∈ ys → ∃ i, y = f i ∧ P i) → ∃ ns : List α, ys = ns.map f ∧ ∀ n, n ∈ ns → P n
  | [], _ => ⟨[], rfl, fun _ z => nomatch z⟩
  | y :: ys, h => by
    obtain ⟨ns, e, hp⟩ := of_all ys fun y hy => h y (List.mem_cons_of_mem _ hy)
    obtain ⟨i, rfl, hi⟩ := h y (List.mem_cons_self ..)
    exact ⟨i :: ns, by rw [e]; rfl, fun n hn => by
      rcases List.mem_cons.mp hn with rfl | hn
      · exact hi
      · exact hp n hn⟩
theorem rg_empty (a : Int) (n : Nat) : ((rgI a n).map D.int).isEmpty = decide (n = 0) := by
  cases n with
  | zero => rfl
  | succ n => rw [rgI_succ]; simp
theorem pl_any {l : List D} (h : ∀ d, d ∈ l → plE 60 d = true) : plEs 60 l = true := plEs_all.mpr h
theorem o_emI (l : List Int) : oEq (.lst (l.map D.int)) (.lst []) = some (.bl l.isEmpty) := by rw [o_eqNil (plEs_ints _), List.isEmpty_map]
theorem o_nmI (l : List Int) : oNe (.lst (l.map D.int)) (.lst []) = some (.bl (!l.isEmpty)) := by rw [o_neNil (plEs_ints _), List.isEmpty_map]
theorem pl_tupI (x : List Int) {n : Nat} : plE (n + 1) (tupI x) = true := by simp [tupI]
theorem o_emT (l : List (List Int)) : oEq (.lst (l.map tupI)) (.lst []) = some (.bl l.isEmpty) := by
  rw [o_eqNil (pl_any fun d hd => by obtain ⟨a, _, rfl⟩ := List.mem_map.mp hd; exact pl_tupI a), List.isEmpty_map]
theorem o_nmT (l : List (List Int)) : oNe (.lst (l.map tupI)) (.lst []) = some (.bl (!l.isEmpty)) := by
  rw [o_neNil (pl_any fun d hd => by obtain ⟨a, _, rfl⟩ := List.mem_map.mp hd; exact pl_tupI a), List.isEmpty_map]
/-- membership in a list -/
theorem o_inAny {x : D} {l : List D} (hx : plE 64 x = true) (hl : plE 64 (.lst l) = true) : anyD x l = true ↔ x ∈ l := by
  have hx2 := plE_ok 64 64 _ (Nat.le_refl _) hx
  unfold anyD
  rw [List.any_eq_true]
  constructor
  · rintro ⟨z, hz, h⟩
    have : ∀ l : List D, z ∈ toPs l → ∃ d, d ∈ l ∧ toP d = z := by
      intro l
      induction l with
      | nil => intro h; simp [toPs] at h
      | cons d l ih =>
        intro h
        rw [toPs] at h
        rcases List.mem_cons.mp h with rfl | h
        · exact ⟨d, List.mem_cons_self .., rfl⟩
        · obtain ⟨e, he, h2⟩ := ih h
          exact ⟨e, List.mem_cons_of_mem _ he, h2⟩
    obtain ⟨d, hd, rfl⟩ := this l hz
    have pd : plE 63 d = true := by
      rw [plE_lst, plEs_all] at hl
      exact hl d hd
    have := eqv_pl 63 d x 64 pd hx h
    rw [← this]
    exact hd
  · intro h
    refine ⟨toP x, ?_, eqd_refl 64 x hx2⟩
    clear hl
    induction l with
    | nil => exact nomatch h
    | cons d l ih =>
      rw [toPs]
      rcases List.mem_cons.mp h with rfl | h
      · exact List.mem_cons_self ..
      · exact List.mem_cons_of_mem _ (ih h)
theorem o_in {x : D} {l : List D} [Decidable (x ∈ l)] (hx : plE 64 x = true) (hl : plE 64 (.lst l) = true) : oIn x (.lst l) = some (.bl (decide (x ∈ l))) := by
  show (if okE 64 x && okE 64 (.lst l) then some (D.bl (anyD x l)) else none) = _
  rw [plE_ok 64 64 _ (Nat.le_refl _) hx, plE_ok 64 64 _ (Nat.le_refl _) hl]
  have : anyD x l = decide (x ∈ l) := by rw [Bool.eq_iff_iff, decide_eq_true_eq]; exact o_inAny hx hl
  rw [this]
  rfl
theorem o_notIn {x : D} {l : List D} [Decidable (x ∈ l)] (hx : plE 64 x = true) (hl : plE 64 (.lst l) = true) : oNotIn x (.lst l) = some (.bl (!decide (x ∈ l))) := by
  show (if okE 64 x && okE 64 (.lst l) then some (D.bl (!anyD x l)) else none) = _
  rw [plE_ok 64 64 _ (Nat.le_refl _) hx, plE_ok 64 64 _ (Nat.le_refl _) hl]
  have : anyD x l = decide (x ∈ l) := by rw [Bool.eq_iff_iff, decide_eq_true_eq]; exact o_inAny hx hl
  rw [this]
  rfl
theorem ex_max : ∀ {l : List Int}, l ≠ [] → ∃ m, m ∈ l ∧ ∀ x, x ∈ l → x ≤ m
  | [], h => absurd rfl h
  | [a], _ => ⟨a, by simp, fun x hx => by simp at hx; omega⟩
  | a :: b :: l, _ => by
    obtain ⟨m, hm, h⟩ := ex_max (l := b :: l) (by simp)
    by_cases c : a ≤ m
    · exact ⟨m, List.mem_cons_of_mem _ hm, fun x hx => by
        rcases List.mem_cons.mp hx with rfl | hx
        · exact c
        · exact h x hx⟩
    · exact ⟨a, by simp, fun x hx => by
        rcases List.mem_cons.mp hx with rfl | hx
        · omega
        · have := h x hx; omega⟩
theorem ex_min {l : List Int} (h : l ≠ []) : ∃ m, m ∈ l ∧ ∀ x, x ∈ l → m ≤ x := by
  obtain ⟨m, hm, k⟩ := ex_max (l := l.map fun x => -x) (by simpa using h)
  obtain ⟨a, ha, rfl⟩ := List.mem_map.mp hm
  refine ⟨a, ha, fun x hx => ?_⟩
  have := k (-x) (List.mem_map.mpr ⟨x, hx, rfl⟩)
  omega
theorem enP_mem {α : Type} {l : List α} {j : Nat} (h : j < l.length) : ((j : Int), l[j]) ∈ enP l := by
  unfold enP
  exact List.mem_mapIdx.mpr ⟨j, h, rfl⟩
theorem cut_1 {α : Type} (l : List α) : Vw.cutD l (some 1) none = l.drop 1 := by
  unfold Vw.cutD
  cases l with
  | nil => rfl
  | cons a l => simp [HT.sIx]
theorem min2L (a b : Int) : oMinE [.lst [.int a, .int b]] = some (.int (min a b)) := by
  refine minE_is (l := [a, b]) (m := min a b) ?_ fun x hx => ?_
  · by_cases h : a ≤ b
    · rw [Int.min_eq_left h]; simp
    · rw [Int.min_eq_right (by omega)]; simp
  · simp at hx
    rcases hx with rfl | rfl <;> omega
theorem rgN {a : Int} (h0 : 0 ≤ a) (h1 : a ≤ 1000) : oRg1 [.int a] = some ((rgI 0 a.toNat).map D.int) := by
  rw [o_rg1 (by omega) (by omega), rgD_eq]
/-- a walk that does nothing -/
theorem for_none {α : Type} {f : α → D} {gd : D → Sto → Option Sto} {body : Sto → M Fl} {kl : List Nat} {S : Sto} (l : List α) (h : ∀ a, a ∈ l → ∃ ρ1, gd (f a) S = some ρ1 ∧ ∃ ρ2, body ρ1 = Pure.pure (.nx ρ2) ∧ wipeS ρ2 kl = S) : forL gd body kl (l.map f) S = Pure.pure (.nx S) := by
  have := for_find (f := f) (gd := gd) (body := body) (kl := kl) (S := S) (fun _ => none) l h
  rw [show l.findSome? (fun _ => (none : Option D)) = none from List.findSome?_eq_none_iff.mpr fun _ _ => rfl] at this
  exact this
end Vw

namespace Vw
open PySem PySem.Spec PyProof.Rows L2

/-! ### x in xs: xs a list or a tuple -/
section
variable {X : Cx}
def rInS (K : PySem.W.Frag) : R2 := fun x y H Q => ∃ d ds, Dp K H x d ∧ (Dp K H y (.list ds) ∨ Dp K H y (.tuple ds)) ∧ SeqAt.shaped d = true ∧ SeqAt.shaped (.list ds) = true ∧ Q (.bl (ds.any fun z => PyData.eqv z d)) H
def rNotInS (K : PySem.W.Frag) : R2 := fun x y H Q => ∃ d ds, Dp K H x d ∧ (Dp K H y (.list ds) ∨ Dp K H y (.tuple ds)) ∧ SeqAt.shaped d = true ∧ SeqAt.shaped (.list ds) = true ∧ Q (.bl (!ds.any fun z => PyData.eqv z d)) H
theorem op_inS (hu : X.A.units + 65 < cLine) : OpR X (compareOp .In) (rInS X.K) := by
  intro pins s σ H x y v u Q I rx ry h
  obtain ⟨d, ds, hd, he, sd, se, q⟩ := h
  obtain ⟨as, r1⟩ := Dp.reads I d x v hd rx
  rcases he with he | he
  · obtain ⟨bs, r2⟩ := Dp.reads I (.list ds) y u he ry
    exact SeqAt.in_list_reads r2 r1 (SeqAt.canLay_of_shaped se) (SeqAt.canLay_of_shaped sd) (room_in_shaped sd hu) ⟨.bl _, H, I, rfl, q⟩
  · obtain ⟨bs, r2⟩ := Dp.reads I (.tuple ds) y u he ry
    exact SeqAt.in_tuple_reads r2 r1 (SeqAt.canLay_of_shaped se) (SeqAt.canLay_of_shaped sd) (room_in_shaped sd hu) ⟨.bl _, H, I, rfl, q⟩
theorem op_notInS (hu : X.A.units + 65 < cLine) : OpR X (compareOp .NotIn) (rNotInS X.K) := by
  intro pins s σ H x y v u Q I rx ry h
  obtain ⟨d, ds, hd, he, sd, se, q⟩ := h
  obtain ⟨as, r1⟩ := Dp.reads I d x v hd rx
  rcases he with he | he
  · obtain ⟨bs, r2⟩ := Dp.reads I (.list ds) y u he ry
    exact SeqAt.notIn_list_reads r2 r1 (SeqAt.canLay_of_shaped se) (SeqAt.canLay_of_shaped sd) (room_in_shaped sd hu) ⟨.bl _, H, I, rfl, q⟩
  · obtain ⟨bs, r2⟩ := Dp.reads I (.tuple ds) y u he ry
    exact SeqAt.notIn_tuple_reads r2 r1 (SeqAt.canLay_of_shaped se) (SeqAt.canLay_of_shaped sd) (room_in_shaped sd hu) ⟨.bl _, H, I, rfl, q⟩
end
def oInS (x y : D) : Option D := match y with
  | .lst ds => if okE 64 x && okE 64 (.lst ds) then some (.bl (anyD x ds)) else none
  | .tup ds => if okE 64 x && okE 64 (.lst ds) && okE 64 (.tup ds) then some (.bl (anyD x ds)) else none
  | _ => none
def oNotInS (x y : D) : Option D := match y with
  | .lst ds => if okE 64 x && okE 64 (.lst ds) then some (.bl (!anyD x ds)) else none
  | .tup ds => if okE 64 x && okE 64 (.lst ds) && okE 64 (.tup ds) then some (.bl (!anyD x ds)) else none
  | _ => none
variable {aw : Addr}
theorem ok_inS {K mg} : OpOk K mg aw (rInS K) oInS := fun U H x y a b v0 Q tr ra rb e k => by
  unfold oInS at e
  split at e
  · split at e
    · rename_i h
      rw [Bool.and_eq_true] at h
      cases e
      have z := rb.dp h.2
      simp only [toP] at z
      have sh := okE_shaped h.2
      simp only [toP] at sh
      exact ⟨_, _, ra.dp h.1, .inl z, okE_shaped h.1, sh, k _ H (Same.refl H) (.bl _)⟩
    · cases e
  · split at e
    · rename_i h
      rw [Bool.and_eq_true, Bool.and_eq_true] at h
      cases e
      have z := rb.dp h.2
      simp only [toP] at z
      have sh := okE_shaped h.1.2
      simp only [toP] at sh
      exact ⟨_, _, ra.dp h.1.1, .inr z, okE_shaped h.1.1, sh, k _ H (Same.refl H) (.bl _)⟩
    · cases e
  · cases e
theorem ok_notinS {K mg} : OpOk K mg aw (rNotInS K) oNotInS := fun U H x y a b v0 Q tr ra rb e k => by
  unfold oNotInS at e
  split at e
  · split at e
    · rename_i h
      rw [Bool.and_eq_true] at h
      cases e
      have z := rb.dp h.2
      simp only [toP] at z
      have sh := okE_shaped h.2
      simp only [toP] at sh
      exact ⟨_, _, ra.dp h.1, .inl z, okE_shaped h.1, sh, k _ H (Same.refl H) (.bl _)⟩
    · cases e
  · split at e
    · rename_i h
      rw [Bool.and_eq_true, Bool.and_eq_true] at h
      cases e
      have z := rb.dp h.2
      simp only [toP] at z
      have sh := okE_shaped h.1.2
      simp only [toP] at sh
      exact ⟨_, _, ra.dp h.1.1, .inr z, okE_shaped h.1.1, sh, k _ H (Same.refl H) (.bl _)⟩
    · cases e
  · cases e
theorem o_inL {x : D} {l : List D} [Decidable (x ∈ l)] (hx : plE 64 x = true) (hl : plE 64 (.lst l) = true) : oInS x (.lst l) = some (.bl (decide (x ∈ l))) := o_in hx hl
theorem o_inT {x : D} {l : List D} [Decidable (x ∈ l)] (hx : plE 64 x = true) (hl : plE 64 (.lst l) = true) : oInS x (.tup l) = some (.bl (decide (x ∈ l))) := by
  have ht : plE 64 (.tup l) = true := by rw [plE_tup]; rw [plE_lst] at hl; exact hl
  show (if okE 64 x && okE 64 (.lst l) && okE 64 (.tup l) then some (D.bl (anyD x l)) else none) = _
  rw [plE_ok 64 64 _ (Nat.le_refl _) hx, plE_ok 64 64 _ (Nat.le_refl _) hl, plE_ok 64 64 _ (Nat.le_refl _) ht]
  have : anyD x l = decide (x ∈ l) := by rw [Bool.eq_iff_iff, decide_eq_true_eq]; exact o_inAny hx hl
  rw [this]
  rfl
theorem o_notinL {x : D} {l : List D} [Decidable (x ∈ l)] (hx : plE 64 x = true) (hl : plE 64 (.lst l) = true) : oNotInS x (.lst l) = some (.bl (!decide (x ∈ l))) := o_notIn hx hl
theorem o_notinT {x : D} {l : List D} [Decidable (x ∈ l)] (hx : plE 64 x = true) (hl : plE 64 (.lst l) = true) : oNotInS x (.tup l) = some (.bl (!decide (x ∈ l))) := by
  have ht : plE 64 (.tup l) = true := by rw [plE_tup]; rw [plE_lst] at hl; exact hl
  show (if okE 64 x && okE 64 (.lst l) && okE 64 (.tup l) then some (D.bl (!anyD x l)) else none) = _
  rw [plE_ok 64 64 _ (Nat.le_refl _) hx, plE_ok 64 64 _ (Nat.le_refl _) hl, plE_ok 64 64 _ (Nat.le_refl _) ht]
  have : anyD x l = decide (x ∈ l) := by rw [Bool.eq_iff_iff, decide_eq_true_eq]; exact o_inAny hx hl
  rw [this]
  rfl
end Vw

namespace Vw
open PySem PySem.Spec PyProof.Rows L2

/-! ### range(i, j, -1) -/
def rgDn (lo : Int) (n : Nat) : List D := (List.range n).map fun i => .int (lo + (i : Nat) * (-1))
@[simp] theorem rgDn_length (lo : Int) (n : Nat) : (rgDn lo n).length = n := by simp [rgDn]
theorem rgDn_get {lo : Int} {n i : Nat} (h : i < n) : (rgDn lo n)[i]? = some (.int (lo + (i : Nat) * (-1))) := by simp [rgDn, h]
section
variable {K : PySem.W.Frag} {mg : Str → Option Value} {aw : Addr}
theorem wk_rangeN {P} {U : Addr → Prop} {H : Hp} {lo : Int} {n : Nat} : Wk K mg aw P U (Itc lo (-1) n) H (rgDn lo n) := by
  have w := walk_rangeC (lo := lo) (c := -1) (n := n)
  refine ⟨fun i H' hi p => w.goes i H' (by simpa using hi) trivial, fun H' p => by rw [rgDn_length]; exact w.stops H' trivial, fun i H' x H'' hi p y => ?_⟩
  rw [rgDn_length] at hi
  obtain ⟨rfl, rfl⟩ := w.yields i H' x H'' hi trivial y
  exact ⟨_, rgDn_get hi, Same.refl _, .int _⟩
end
def oRg3 : List D → Option (List D)
  | [.int i, .int j, .int k] => if small62 i && small62 j && decide (k = -1) then some (rgDn i (i - j).toNat) else none
  | _ => none
def iRg3 (d : Sto → M (List D)) : Sto → M (List D) := fun ρ => d ρ >>= fun xs => lift (oRg3 xs)
section
variable {X : Cx} {aw : Addr} {tg : Expr} {a b c : Expr} {La Ca : List Nat} {dr : Sto → M (List D)} {pos : Pos}
theorem vi_range3 {p : Pos} (hg : Gl X "range") (hm : X.mg "range" = none) (ha : VA X aw [a, b, c] La Ca dr) (hs : starEach [a, b, c] X.env = (false, eval a X.env) :: starEach [b, c] X.env := by rfl) (hpl : (backTo pos (starEach [b, c] X.env)).any (·.1) = false := by rfl) : VI X aw tg (.Call (.Name "range" p) [a, b, c] [] pos) [] [] (iRg3 dr) :=
  ⟨PI.weak (pi_range3 hg hm ha.1 hs hpl) fun σ H R ⟨U, O, ρ, w, ds, w', S, h, k⟩ => by
    obtain ⟨x, w1, h1, h⟩ := bind_ok h
    obtain ⟨h2, rfl⟩ := lift_ok h
    refine ⟨U, O, ρ, w, x, _, S, h1, fun vs H1 e1 r1 c1 => ?_⟩
    unfold oRg3 at h2
    split at h2
    · split at h2
      · rename_i i j k' hj
        cases h2
        rw [Bool.and_eq_true, Bool.and_eq_true, decide_eq_true_eq] at hj
        obtain ⟨⟨h1', h2'⟩, rfl⟩ := hj
        obtain ⟨v, u, t, rfl, rv, ru, rt⟩ := c1.three
        cases rv.inv_int
        cases ru.inv_int
        cases rt.inv_int
        have q1 := small62_ok h1'
        have q2 := small62_ok h2'
        exact ⟨i, j, -1, _, rfl, RgC.neg q1.1 q1.2 q2.1 q2.2, k _ H1 e1 r1 fun P U' u u' n' => wk_rangeN⟩
      · cases h2
    · exact (nomatch h2), fun _ z => z⟩
@[simp] theorem ev_iRg3 {ds : Sto → M (List D)} {ρ : Sto} : iRg3 ds ρ = ds ρ >>= fun xs => lift (oRg3 xs) := rfl
end
theorem o_rg3 {i j : Int} (h1 : -4611686018427387904 ≤ i) (h2 : i < 4611686018427387904) (h3 : -4611686018427387904 ≤ j) (h4 : j < 4611686018427387904) : oRg3 [.int i, .int j, .int (-1)] = some (rgDn i (i - j).toNat) := by
  have a : small62 i = true := decide_eq_true ⟨h1, h2⟩
  have b : small62 j = true := decide_eq_true ⟨h3, h4⟩
  show (if (small62 i && small62 j && decide ((-1 : Int) = -1)) = true then some (rgDn i (i - j).toNat) else none) = _
  rw [a, b]
  rfl
/-! ### a test that is a conditional expression -/
def bIf (c a b : Sto → M Bool) : Sto → M Bool := fun ρ => c ρ >>= fun k => if k then a ρ else b ρ
section
variable {X : Cx} {aw : Addr} {c a b : Expr} {pos : Pos}
def tIfT (t ta tb : TT) : TT := fun σ H Q => t σ H fun k H1 => if k = true then ta σ H1 Q else tb σ H1 Q
theorem pt_ifx {tc ta tb : TT} (hc : PT X c tc) (ha : PT X a ta) (hb : PT X b tb) : PT X (.IfExp c a b pos) (tIfT tc ta tb) := by
  refine ⟨fun pins s σ H Q I h => ?_⟩
  rw [arm_isTrue_IfExp]
  refine wpAny_bind (thn (hc.run pins s σ H _ I h) fun d s1 ⟨H1, I1, q1⟩ => ?_)
  cases d with
  | true => exact ha.run pins s1 σ H1 Q I1 q1
  | false => exact hb.run pins s1 σ H1 Q I1 q1
theorem vt_ifx {tc ta tb : Sto → M Bool} (hc : VT X aw c tc) (ha : VT X aw a ta) (hb : VT X aw b tb) : VT X aw (.IfExp c a b pos) (bIf tc ta tb) :=
  PT.weak (pt_ifx hc ha hb) fun σ H Q ⟨U, O, ρ, w, k, w', S, h, q⟩ => by
    obtain ⟨x, w1, h1, h2⟩ := bind_ok h
    refine ⟨U, O, ρ, w, x, w1, S, h1, fun H1 e1 r1 => ?_⟩
    cases x with
    | true =>
      rw [if_pos rfl]
      rw [if_pos rfl] at h2
      exact ⟨U, O, ρ, w1, k, w', S.ext e1 r1, h2, fun H2 e2 r2 => q H2 (e1.trans e2) r2⟩
    | false =>
      rw [if_neg Bool.false_ne_true]
      rw [if_neg Bool.false_ne_true] at h2
      exact ⟨U, O, ρ, w1, k, w', S.ext e1 r1, h2, fun H2 e2 r2 => q H2 (e1.trans e2) r2⟩
@[simp] theorem ev_bIf {tc ta tb : Sto → M Bool} {ρ : Sto} : bIf tc ta tb ρ = tc ρ >>= fun k => if k then ta ρ else tb ρ := rfl
end
/-! ### [..] * n, a new list -/
def oRep : D → D → Option D
  | .lst x, .int j => if x.length * j.toNat ≤ lineN ∧ -9223372036854775808 ≤ j ∧ j < 9223372036854775808 then some (.lst (List.replicate j.toNat x).flatten) else none
  | _, _ => none
section
variable {X : Cx} {aw : Addr} {a b : Expr} {pos : Pos} {La Ca Lb Cb : List Nat} {da db : Sto → M D}
theorem vf_rep (ha : VE X aw a La Ca da) (hb : VE X aw b Lb Cb db) : VF X aw (.BinOp a .Mult b pos) (Ca ++ Cb) (d2 oRep da db) :=
  PE.weak (pe_op op_rep ha.1 hb.1) fun σ H Q ⟨U, O, ρ, w, v0, w', S, h, k⟩ => by
    obtain ⟨x, w1, h1, h⟩ := bind_ok h
    obtain ⟨y, w2, h2, h⟩ := bind_ok h
    obtain ⟨h3, rfl⟩ := lift_ok h
    refine ⟨U, O, ρ, w, x, w1, S, h1, fun v1 H1 e1 r1 c1 => ?_⟩
    have S1 := S.ext e1 r1
    refine ⟨U, O, ρ, w1, y, _, S1, h2, fun v2 H2 e2 r2 c2 => ?_⟩
    have S2 := S1.ext e2 r2
    have c1' := (c1.ext e2 r1 S1.un S1.un).rd (Uc' := UO U O (Ca ++ Cb)) UO.appL
    have c2' := c2.rd (Uc' := UO U O (Ca ++ Cb)) UO.appR
    unfold oRep at h3
    split at h3
    · split at h3
      · rename_i hl
        cases h3
        obtain ⟨p, xs, rfl, hp, rp⟩ := c1'.inv_lst
        cases c2'.inv_int
        have ee := e1.trans e2
        refine ⟨p, _, xs, rfl, rfl, hp, hl.2.1, hl.2.2, by rw [rp.length]; exact lineN_eq ▸ hl.1, fun t n => ?_⟩
        exact k t _ (ee.none r2 n) (ee.trans (Ext.of_same (same_upd n))) (r2.same (same_upd n)) (new_own n (RepL.rep _ rp))
      · cases h3
    · cases h3
end
end Vw

namespace Vw
open PySem PySem.Spec PyProof.Rows L2

/-! ### zip(t, u, v), all tuples -/
def Izt3 (K : PySem.W.Frag) (a b c : Addr) : It :=
  ⟨fun i H => ∃ (xs ys zs : List V) (x y z : V), SqT K H a xs ∧ SqT K H b ys ∧ SqT K H c zs ∧ xs[i]? = some x ∧ ys[i]? = some y ∧ zs[i]? = some z,
    fun i H v H' => ∃ T x y z, v = .ref T ∧ H T = none ∧ H' = upd H T (.tup [x, y, z]) ∧ (∀ xs, SqT K H a xs → xs[i]? = some x) ∧ (∀ ys, SqT K H b ys → ys[i]? = some y) ∧ ∀ zs, SqT K H c zs → zs[i]? = some z,
    fun i H => ∃ xs ys zs : List V, SqT K H a xs ∧ SqT K H b ys ∧ SqT K H c zs ∧ i = min (min xs.length ys.length) zs.length⟩
theorem turn_z3 {P : Program} {w : World} {K : PySem.W.Frag} {elts : List Expr} {kk : Nat} {tpos : Pos} {a b d N : Addr} (ha : a < N) (hb : b < N) (hd : d < N) :
    Turn P w K (.Tuple elts kk tpos) (Izt3 K a b d) [N + 5, N + 3, N + 4, N, N + 1, N + 2] (N + 5) (fun i h => IsZip h (N + 5) (N + 3) (N + 4) .none ∧ IsTupOf3 h (N + 3) (.ref N) (.ref (N + 1)) (.ref (N + 2)) ∧ (∃ x y z, IsTupOf3 h (N + 4) x y z) ∧ h.IsTupleIter N a i ∧ h.IsTupleIter (N + 1) b i ∧ h.IsTupleIter (N + 2) d i) where
  mem := by simp
  obj := fun i h st c hc => by
    obtain ⟨hz, hTI, ⟨x, y, z, hTO⟩, ⟨o1, e1, _, d1⟩, ⟨o2, e2, _, d2⟩, ⟨o3, e3, _, d3⟩⟩ := st
    have e' : c = N + 5 ∨ c = N + 3 ∨ c = N + 4 ∨ c = N ∨ c = N + 1 ∨ c = N + 2 := by simpa using hc
    rcases e' with q | q | q | q | q | q <;> subst q
    · exact ⟨_, hz, fun v q => nomatch q⟩
    · exact ⟨_, hTI, fun v q => nomatch q⟩
    · exact ⟨_, hTO, fun v q => nomatch q⟩
    · exact ⟨o1, e1, fun v q => by rw [d1] at q; cases q⟩
    · exact ⟨o2, e2, fun v q => by rw [d2] at q; cases q⟩
    · exact ⟨o3, e3, fun v q => by rw [d3] at q; cases q⟩
  keep := fun i h h' st k => by
    obtain ⟨hz, hTI, ⟨x, y, z, hTO⟩, h1, h2, h3⟩ := st
    exact ⟨k _ (by simp) _ hz, k _ (by simp) _ hTI, ⟨x, y, z, k _ (by simp) _ hTO⟩, h1.at fun o q => k _ (by simp) o q, h2.at fun o q => k _ (by simp) o q, h3.at fun o q => k _ (by simp) o q⟩
  item := by
    intro X hP hw hK hc i pins s σ H E I hf st hg
    subst hP hw hK
    obtain ⟨hz, hTI, ⟨x0, y0, z0, hTO⟩, h1, h2, h3⟩ := st
    obtain ⟨xs, ys, zs, x, y, z, hqx, hqy, hqz, hx, hy, hzz⟩ := hg
    obtain ⟨its, rv, p, _⟩ := I.tuple hqx
    obtain ⟨its2, rv2, p2, _⟩ := I.tuple hqy
    obtain ⟨its3, rv3, p3, _⟩ := I.tuple hqz
    obtain ⟨u, hu, ru⟩ := rv.get hx
    obtain ⟨u2, hu2, ru2⟩ := rv2.get hy
    obtain ⟨u3, hu3, ru3⟩ := rv3.get hzz
    have pt : s.heap.IsTuple a its.toArray := p
    have pt2 : s.heap.IsTuple b its2.toArray := p2
    have pt3 : s.heap.IsTuple d its3.toArray := p3
    have hzl : N + 5 < s.heap.objs.size := Heap.lt_size hz
    have S := zip_sep3 (N := N) (fp1 := [a]) (fp2 := [b]) (fp3 := [d]) (fun c hc => by rw [List.mem_singleton.mp hc]; exact ha) (fun c hc => by rw [List.mem_singleton.mp hc]; exact hb) (fun c hc => by rw [List.mem_singleton.mp hc]; exact hd)
    have D1 := Draws.tuple (prog := X.prog) (w := X.w) (A := X.A.in1) (I.ok.hd hc) N a (Nat.ne_of_lt ha) its.toArray
    have D2 := Draws.tuple (prog := X.prog) (w := X.w) (A := X.A.in1) (I.ok.hd hc) (N + 1) b (Nat.ne_of_lt (Nat.lt_succ_of_lt hb)) its2.toArray
    have D3 := Draws.tuple (prog := X.prog) (w := X.w) (A := X.A.in1) (I.ok.hd hc) (N + 2) d (Nat.ne_of_lt (Nat.lt_succ_of_lt (Nat.lt_succ_of_lt hd))) its3.toArray
    have lt1 : i < its.toArray.size := by rw [List.size_toArray]; exact (List.getElem?_eq_some_iff.mp hu).1
    have lt2 : i < its2.toArray.size := by rw [List.size_toArray]; exact (List.getElem?_eq_some_iff.mp hu2).1
    have lt3 : i < its3.toArray.size := by rw [List.size_toArray]; exact (List.getElem?_eq_some_iff.mp hu3).1
    refine wpAny_pyNext_zipD3_item S D1 D2 D3 hz hTI hTO ⟨h1, pt⟩ ⟨h2, pt2⟩ ⟨h3, pt3⟩ lt1 lt2 lt3 fun v1 v2 v3 h' tk q1 q2 q3 z' TO' st1 st2 st3 hT hsz hk => ?_
    have e1 : v1 = u := by
      have z : its.toArray[i]? = some u := by simpa using hu
      rw [z] at q1
      exact (Option.some.inj q1).symm
    have e2 : v2 = u2 := by
      have z : its2.toArray[i]? = some u2 := by simpa using hu2
      rw [z] at q2
      exact (Option.some.inj q2).symm
    have e3 : v3 = u3 := by
      have z : its3.toArray[i]? = some u3 := by simpa using hu3
      rw [z] at q3
      exact (Option.some.inj q3).symm
    subst e1
    subst e2
    subst e3
    refine ⟨_, rfl, wpAny_letOwnedTupleGo_zip (s := { s with heap := h', toks := tk }) z' fun h'' z'' sb => ?_⟩
    have hT2 : h''.get? s.heap.objs.size = some { cls := .type "tuple", data := .seq #[v1, v2, v3] } := (sb.2 _ (Nat.ne_of_gt hzl)).trans hT
    have new : ObjOk X.prog X.w (upd H s.heap.objs.size (.tup [x, y, z])) h'' s.heap.objs.size (.tup [x, y, z]) := ⟨by show 3 ≤ sizeLine; decide, [v1, v2, v3], .cons ru (.cons ru2 (.cons ru3 .nil)), ⟨_, hT2, rfl, _, rfl⟩⟩
    have I1 : Inv X pins σ (upd H s.heap.objs.size (.tup [x, y, z])) { s with heap := h'', toks := tk } :=
      I.turnedNew (ch := [N + 5, N + 3, N + 4, N, N + 1, N + 2]) (fun c o hb q => (sb.2 c (fun q' => hb (by simp [q']))).trans (hk c o (fun q' => hb (by simp [q'])) (fun q' => hb (by simp [q'])) (fun q' => hb (by simp [q'])) (fun q' => hb (by simp [q'])) (fun q' => hb (by simp [q'])) q)) hf (Nat.le_refl _) new
    refine ⟨.ref s.heap.objs.size, _, I1, rfl, ⟨_, x, y, z, rfl, I.hok.fresh (Nat.le_refl _), rfl, fun l hl => by rw [I.tuple_inj hl hqx]; exact hx, fun l hl => by rw [I.tuple_inj hl hqy]; exact hy, fun l hl => by rw [I.tuple_inj hl hqz]; exact hzz⟩, ⟨z'', ?_, ⟨v1, v2, v3, ?_⟩, ?_, ?_, ?_⟩, fun c hcm => ?_⟩
    · exact (sb.2 _ S.TIz).trans (hk _ _ S.TIz S.TITO S.TIi1 S.TIi2 S.TIi3 hTI)
    · exact (sb.2 _ S.TOz).trans TO'
    · exact st1.1.at fun o q => (sb.2 _ (Ne.symm S.zi1)).trans q
    · exact st2.1.at fun o q => (sb.2 _ (Ne.symm S.zi2)).trans q
    · exact st3.1.at fun o q => (sb.2 _ (Ne.symm S.zi3)).trans q
    · have hlt : c < s.heap.objs.size := by
        have e' : c = N + 5 ∨ c = N + 3 ∨ c = N + 4 ∨ c = N ∨ c = N + 1 ∨ c = N + 2 := by simpa using hcm
        rcases e' with q | q | q | q | q | q <;> subst q
        · exact hzl
        · exact Heap.lt_size hTI
        · exact Heap.lt_size hTO
        · obtain ⟨_, e1, _⟩ := h1; exact Heap.lt_size e1
        · obtain ⟨_, e2, _⟩ := h2; exact Heap.lt_size e2
        · obtain ⟨_, e3, _⟩ := h3; exact Heap.lt_size e3
      rw [upd_ne (Nat.ne_of_lt hlt)]
      exact (hf c hcm).1
  done := by
    intro X hP hw hK hc i pins s σ H E I hf st hg
    subst hP hw hK
    obtain ⟨hz, hTI, ⟨x0, y0, z0, hTO⟩, h1, h2, h3⟩ := st
    obtain ⟨xs, ys, zs, hqx, hqy, hqz, hend⟩ := hg
    obtain ⟨its, rv, p, _⟩ := I.tuple hqx
    obtain ⟨its2, rv2, p2, _⟩ := I.tuple hqy
    obtain ⟨its3, rv3, p3, _⟩ := I.tuple hqz
    have l1 := rv.length
    have l2 := rv2.length
    have l3 := rv3.length
    have S := zip_sep3 (N := N) (fp1 := [a]) (fp2 := [b]) (fp3 := [d]) (fun c hc => by rw [List.mem_singleton.mp hc]; exact ha) (fun c hc => by rw [List.mem_singleton.mp hc]; exact hb) (fun c hc => by rw [List.mem_singleton.mp hc]; exact hd)
    have D1 := Draws.tuple (prog := X.prog) (w := X.w) (A := X.A.in1) (I.ok.hd hc) N a (Nat.ne_of_lt ha) its.toArray
    have D2 := Draws.tuple (prog := X.prog) (w := X.w) (A := X.A.in1) (I.ok.hd hc) (N + 1) b (Nat.ne_of_lt (Nat.lt_succ_of_lt hb)) its2.toArray
    have D3 := Draws.tuple (prog := X.prog) (w := X.w) (A := X.A.in1) (I.ok.hd hc) (N + 2) d (Nat.ne_of_lt (Nat.lt_succ_of_lt (Nat.lt_succ_of_lt hd))) its3.toArray
    exact wpAny_pyNext_zipD3_end S D1 D2 D3 hz hTI hTO ⟨h1, p⟩ ⟨h2, p2⟩ ⟨h3, p3⟩ (by simp; omega) (by simp; omega) (by simp; omega) (by simp; omega) fun h' tk hk => ⟨rfl, I.turnedL (t' := tk) (ch := [N + 5, N + 3, N + 4, N, N + 1, N + 2]) (fun c o hb q =>
      hk c o (fun q' => hb (by simp [q'])) (fun q' => hb (by simp [q'])) (fun q' => hb (by simp [q'])) (fun q' => hb (by simp [q'])) (fun q' => hb (by simp [q'])) q) hf⟩
  self := fun A i s Q E st h => wpAny_pyIter_zip st.1 h
def iZip3 (K : PySem.W.Frag) (ta : TA) : TI := fun σ H R => ta σ H fun vs H1 => ∃ a b c xs ys zs, vs = [.ref a, .ref b, .ref c] ∧ SqT K H1 a xs ∧ SqT K H1 b ys ∧ SqT K H1 c zs ∧ R (Izt3 K a b c) H1
theorem pi_z3 {X : Cx} {e e2 e3 : Expr} {ta : TA} {p pos tpos : Pos} {elts : List Expr} {kk : Nat} (hg : Gl X "zip") (hm : X.mg "zip" = none) (ha : PA X [e, e2, e3] ta)
    (hs : starEach [e, e2, e3] X.env = (false, eval e X.env) :: starEach [e2, e3] X.env := by rfl) (hpl : (backTo pos (starEach [e2, e3] X.env)).any (·.1) = false := by rfl) : PI X (.Tuple elts kk tpos) (.Call (.Name "zip" p) [e, e2, e3] [] pos) (iZip3 X.K ta) := by
  refine ⟨fun pins s σ H R I h => ?_⟩
  refine Call_ (ld_blt I hg hm PyProof.Rows.boot_zip (PyProof.Rows.callWith_type1 (thn (ha.run pos pins s σ H _ I h) fun us s1 z => ?_) hs hpl))
  obtain ⟨vs, H1, I1, r1, a, b, c, xs, ys, zs, ex, hqx, hqy, hqz, q⟩ := z
  subst ex
  cases r1 with
  | cons r rr =>
    cases rr with
    | cons r' rr =>
      cases rr with
      | cons r'' rr =>
        cases rr
        cases r
        cases r'
        cases r''
        obtain ⟨its, rv, p1, _⟩ := I1.tuple hqx
        obtain ⟨its2, rv2, p2, _⟩ := I1.tuple hqy
        obtain ⟨its3, rv3, p3, _⟩ := I1.tuple hqz
        have pt : s1.heap.IsTuple a its.toArray := p1
        have pt2 : s1.heap.IsTuple b its2.toArray := p2
        have pt3 : s1.heap.IsTuple c its3.toArray := p3
        have la : a < s1.heap.objs.size := by obtain ⟨_, e, _⟩ := pt; exact Heap.lt_size e
        have lb : b < s1.heap.objs.size := by obtain ⟨_, e, _⟩ := pt2; exact Heap.lt_size e
        have lc : c < s1.heap.objs.size := by obtain ⟨_, e, _⟩ := pt3; exact Heap.lt_size e
        refine zip_begins3 (begins_tuple a its.toArray) (begins_tuple b its2.toArray) (begins_tuple c its3.toArray) pt pt2 pt3 fun h' hz hTI hTO h1 h2 h3 hsz hk => wpAny_pyIter_zip hz ?_
        have I2 : Inv X pins σ H1 { s1 with heap := h' } := I1.kept (t' := s1.toks) hk
        refine ⟨s1.heap.objs.size + 5, [s1.heap.objs.size + 5, s1.heap.objs.size + 3, s1.heap.objs.size + 4, s1.heap.objs.size, s1.heap.objs.size + 1, s1.heap.objs.size + 2], _, _, H1, rfl, I2, turn_z3 la lb lc, ⟨hz, hTI, ⟨_, _, _, hTO⟩, ⟨_, h1, rfl, rfl⟩, ⟨_, h2, rfl, rfl⟩, ⟨_, h3, rfl, rfl⟩⟩, fun d hcm => ?_, q⟩
        have e' : d = s1.heap.objs.size + 5 ∨ d = s1.heap.objs.size + 3 ∨ d = s1.heap.objs.size + 4 ∨ d = s1.heap.objs.size ∨ d = s1.heap.objs.size + 1 ∨ d = s1.heap.objs.size + 2 := by simpa using hcm
        have hle : s1.heap.objs.size ≤ d := by
          rcases e' with z | z | z | z | z | z <;> rw [z]
          · exact Nat.le_add_right _ _
          · exact Nat.le_add_right _ _
          · exact Nat.le_add_right _ _
          · exact Nat.le_refl _
          · exact Nat.le_add_right _ _
          · exact Nat.le_add_right _ _
        exact I1.fpOk hle (I1.hok.fresh hle)
def zip3D (xs ys zs : List D) : List D := ((xs.zip ys).zip zs).map fun p => .tup [p.1.1, p.1.2, p.2]
theorem zip3D_length (xs ys zs : List D) : (zip3D xs ys zs).length = min (min xs.length ys.length) zs.length := by simp [zip3D]
theorem zip3D_get {xs ys zs : List D} {i : Nat} {x y z : D} (h1 : xs[i]? = some x) (h2 : ys[i]? = some y) (h3 : zs[i]? = some z) : (zip3D xs ys zs)[i]? = some (.tup [x, y, z]) := by
  unfold zip3D
  rw [List.getElem?_map, (List.getElem?_zip_eq_some (z := ((x, y), z))).mpr ⟨(List.getElem?_zip_eq_some (z := (x, y))).mpr ⟨h1, h2⟩, h3⟩]
  rfl
section
variable {K : PySem.W.Frag} {mg : Str → Option Value} {aw : Addr} {P U : Addr → Prop} {H : Hp} {a b c : Addr} {xs ys zs : List V} {ds es fs : List D}
theorem wk_z3 (u : ∀ a, P a → U a) (h : H a = some (.tup xs)) (r : RepL K mg aw U H xs ds) (h' : H b = some (.tup ys)) (r' : RepL K mg aw U H ys es) (h'' : H c = some (.tup zs)) (r'' : RepL K mg aw U H zs fs) : Wk K mg aw P U (Izt3 K a b c) H (zip3D ds es fs) := by
  have g : ∀ H', Pres P H H' → SqT K H' a xs ∧ SqT K H' b ys ∧ SqT K H' c zs := fun H' p => ⟨SqT.of (p _ _ h fun z => ⟨_, rfl⟩), SqT.of (p _ _ h' fun z => ⟨_, rfl⟩), SqT.of (p _ _ h'' fun z => ⟨_, rfl⟩)⟩
  have l1 := r.length
  have l2 := r'.length
  have l3 := r''.length
  have el : (zip3D ds es fs).length = min (min xs.length ys.length) zs.length := by rw [zip3D_length, r.length, r'.length, r''.length]
  refine ⟨fun i H' hi p => ?_, fun H' p => ?_, fun i H' x H'' hi p y => ?_⟩
  · rw [el] at hi
    have q := g H' p
    exact ⟨xs, ys, zs, xs[i]'(by omega), ys[i]'(by omega), zs[i]'(by omega), q.1, q.2.1, q.2.2, List.getElem?_eq_getElem _, List.getElem?_eq_getElem _, List.getElem?_eq_getElem _⟩
  · have q := g H' p
    exact ⟨xs, ys, zs, q.1, q.2.1, q.2.2, el⟩
  · obtain ⟨T, x1, x2, x3, rfl, nT, rfl, e1, e2, e3⟩ := y
    have q := g H' p
    obtain ⟨d, f1, f2⟩ := r.getV (e1 _ q.1)
    obtain ⟨e, g1, g2⟩ := r'.getV (e2 _ q.2.1)
    obtain ⟨f, k1, k2⟩ := r''.getV (e3 _ q.2.2)
    exact ⟨_, zip3D_get f1 g1 k1, same_upd nT, new_tup nT (.cons (f2.keep (p.mono u) fun _ z => z) (.cons (g2.keep (p.mono u) fun _ z => z) (.cons (k2.keep (p.mono u) fun _ z => z) .nil)))⟩
end
def oZip3 : List D → Option (List D)
  | [.tup xs, .tup ys, .tup zs] => some (zip3D xs ys zs)
  | _ => none
def iZp3 (d : Sto → M (List D)) : Sto → M (List D) := fun ρ => d ρ >>= fun xs => lift (oZip3 xs)
section
variable {X : Cx} {aw : Addr} {pos : Pos} {a b c : Expr} {La Ca : List Nat} {dr : Sto → M (List D)}
theorem vi_zip3 {p tpos : Pos} {elts : List Expr} {kk : Nat} (hg : Gl X "zip") (hm : X.mg "zip" = none) (ha : VA X aw [a, b, c] La Ca dr) (hs : starEach [a, b, c] X.env = (false, eval a X.env) :: starEach [b, c] X.env := by rfl) (hs2 : (backTo pos (starEach [b, c] X.env)).any (·.1) = false := by rfl) : VI X aw (.Tuple elts kk tpos) (.Call (.Name "zip" p) [a, b, c] [] pos) La Ca (iZp3 dr) :=
  ⟨PI.weak (pi_z3 hg hm ha.1 hs hs2) fun σ H R ⟨U, O, ρ, w, ds, w', S, h, k⟩ => by
    obtain ⟨x, w1, h1, h⟩ := bind_ok h
    obtain ⟨h2, rfl⟩ := lift_ok h
    unfold oZip3 at h2
    split at h2
    · refine ⟨U, O, ρ, w, _, _, S, h1, fun vs H1 e1 r1 c1 => ?_⟩
      cases h2
      obtain ⟨v, u, t, rfl, rv, ru, rt⟩ := c1.three
      obtain ⟨p1, xs, rfl, hp1, q1⟩ := rv.inv_tup
      obtain ⟨p2, ys, rfl, hp2, q2⟩ := ru.inv_tup
      obtain ⟨p3, zs, rfl, hp3, q3⟩ := rt.inv_tup
      exact ⟨p1, p2, p3, xs, ys, zs, rfl, hp1.sq, hp2.sq, hp3.sq, k _ H1 e1 r1 fun P U' u u' n' => wk_z3 u' hp1 (q1.offs n') hp2 (q2.offs n') hp3 (q3.offs n')⟩
    · exact (nomatch h2), ha.2⟩
@[simp] theorem ev_iZp3 {ρ : Sto} : iZp3 dr ρ = dr ρ >>= fun xs => lift (oZip3 xs) := rfl
@[simp] theorem o_zip3 {xs ys zs : List D} : oZip3 [.tup xs, .tup ys, .tup zs] = some (zip3D xs ys zs) := rfl
end
end Vw
namespace Lw
open PySem PySem.Spec PyProof.Rows L2 Vw
/-! ### the text -/
def top (i : Nat) : Stmt := PySem.Challenge.pw_raingauged_k23_papers_of_open_hours.main.body.getD i (.Pass ⟨0, 0, 0, 0⟩)
def fn : List He.DefD := [⟨("is_integer", none), "is_integer", "is_integer", defArgs (top 9), defBody (top 9), defScope (top 9), [], []⟩,
  ⟨("is_between", none), "is_between", "is_between", defArgs (top 10), defBody (top 10), defScope (top 10), [], []⟩,
  ⟨("check_rule", none), "check_rule", "check_rule", defArgs (top 12), defBody (top 12), defScope (top 12), [], []⟩,
  ⟨("are_readings", none), "are_readings", "are_readings", defArgs (top 13), defBody (top 13), defScope (top 13), [], []⟩,
  ⟨("check_readings", none), "check_readings", "check_readings", defArgs (top 14), defBody (top 14), defScope (top 14), [], []⟩,
  ⟨("check_bounds", none), "check_bounds", "check_bounds", defArgs (top 15), defBody (top 15), defScope (top 15), [], []⟩,
  ⟨("hours_on", none), "hours_on", "hours_on", defArgs (top 16), defBody (top 16), defScope (top 16), [], []⟩,
  ⟨("spans_of", none), "spans_of", "spans_of", defArgs (top 17), defBody (top 17), defScope (top 17), [], []⟩,
  ⟨("alarms_of", none), "alarms_of", "alarms_of", defArgs (top 18), defBody (top 18), defScope (top 18), [], []⟩,
  ⟨("judge_hours", none), "judge_hours", "judge_hours", defArgs (top 19), defBody (top 19), defScope (top 19), [], []⟩,
  ⟨("accept_open", none), "accept_open", "accept_open", defArgs (top 20), defBody (top 20), defScope (top 20), [], []⟩,
  ⟨("first_alarm", none), "first_alarm", "first_alarm", defArgs (top 21), defBody (top 21), defScope (top 21), [], []⟩,
  ⟨("_law_start", none), "_law_start", "_law_start", defArgs (top 23), defBody (top 23), defScope (top 23), [], []⟩,
  ⟨("_law_draw", none), "_law_draw", "_law_draw", defArgs (top 24), defBody (top 24), defScope (top 24), [], []⟩,
  ⟨("_law_rows", none), "_law_rows", "_law_rows", defArgs (top 25), defBody (top 25), defScope (top 25), [], []⟩,
  ⟨("_law_is_taken", none), "_law_is_taken", "_law_is_taken", defArgs (top 26), defBody (top 26), defScope (top 26), [], []⟩,
  ⟨("_law_alarms_hold", none), "_law_alarms_hold", "_law_alarms_hold", defArgs (top 27), defBody (top 27), defScope (top 27), [], []⟩,
  ⟨("law", none), "law", "law", defArgs (top 28), defBody (top 28), defScope (top 28), [], []⟩]
def fa : List He.Fa := [.glo "is_integer", .glo "is_between", .glo "check_rule", .glo "are_readings", .glo "check_readings", .glo "check_bounds", .glo "hours_on", .glo "spans_of", .glo "alarms_of", .glo "judge_hours", .glo "accept_open", .glo "first_alarm", .glo "_law_start", .glo "_law_draw", .glo "_law_rows", .glo "_law_is_taken", .glo "_law_alarms_hold", .glo "law", .free "ValueError", .free "abs", .free "all", .free "bool", .free "enumerate", .free "int", .free "isinstance", .free "len", .free "list", .free "max", .free "min", .free "range", .free "super", .free "tuple", .free "zip", .glo "PaperError", .int "MAX_SIZE" 1000000000000, .int "MAX_DAYS" 400, .int "MAX_HOLD" 24]
abbrev Rw : PySem.W.OpenRow := PySem.W.OpenLaw.row PySem.Challenge.rw_raingauged_k23_papers_of_open_hours
def loose : List PySem.Str := (["__name__", "RainError", "RecordError", "ArgumentError", "PaperError", "MAX_SIZE", "MAX_DAYS", "MAX_HOLD", "is_integer", "is_between", "check_rule", "are_readings", "check_readings", "check_bounds", "hours_on", "spans_of", "alarms_of", "judge_hours", "accept_open", "first_alarm", "_law_start", "_law_draw", "_law_rows", "_law_is_taken", "_law_alarms_hold"] : List PySem.Str)
def lawAt : Nat := 28
def clsRows : Stmt → List Stmt
  | .ClassDef (body := b) .. => b
  | _ => []
def peTop : Stmt := (clsRows (top 4)).headD (.Pass ⟨0, 0, 0, 0⟩)
def peFile : Str := Rw.prog.main.file
def peV : IniV := some (("__init__" : Str), defArgs peTop, FuncBody.stmts (defBody peTop), defScope peTop, mainGlobals, builtinsNs)
abbrev hk : PySem.W.Hook := hookP 5 fa fn peFile peV
def ob (s : PySem.W.SharedT) : AlP := obsPG 5 fa fn peFile (HandSHeadRun.getT s)
theorem ob_eq (s : PySem.W.SharedT) : ob s = hk.obs s.abs := obsPG_eq (HandSHeadRun.getT_eq s)
theorem run (w : World) : HandSHeadRun.RunEq Rw (PySem.W.view Rw.prog [28]) hk ob 4000 loose w := by
  intro os
  kernel_rfl
/-- what the head tells -/
structure Txt (P : Program) (K : PySem.W.Frag) (mg : Str → Option Value) : Prop where
  x : ∃ h, K.In h ∧ h.Ns mainGlobals mg
  c : He.SaysD fa fn K
  pe : PeK P K mg (peC K)
  em : PySem.W.exmOne K (.ref (peC K)) (.ref (peC K)) = some true
section
variable {P : Program} {K : PySem.W.Frag} {mg : Str → Option Value}
theorem Txt.g_is_integer (T : Txt P K mg) : mg "is_integer" = some (.ref (He.ga K "is_integer")) := by
  obtain ⟨h, X, G⟩ := T.x
  exact He.glo_ok X G (T.c.fact 0 (f := .glo "is_integer") rfl)
theorem Txt.g_is_between (T : Txt P K mg) : mg "is_between" = some (.ref (He.ga K "is_between")) := by
  obtain ⟨h, X, G⟩ := T.x
  exact He.glo_ok X G (T.c.fact 1 (f := .glo "is_between") rfl)
theorem Txt.g_check_rule (T : Txt P K mg) : mg "check_rule" = some (.ref (He.ga K "check_rule")) := by
  obtain ⟨h, X, G⟩ := T.x
  exact He.glo_ok X G (T.c.fact 2 (f := .glo "check_rule") rfl)
theorem Txt.g_are_readings (T : Txt P K mg) : mg "are_readings" = some (.ref (He.ga K "are_readings")) := by
  obtain ⟨h, X, G⟩ := T.x
  exact He.glo_ok X G (T.c.fact 3 (f := .glo "are_readings") rfl)
theorem Txt.g_check_readings (T : Txt P K mg) : mg "check_readings" = some (.ref (He.ga K "check_readings")) := by
  obtain ⟨h, X, G⟩ := T.x
  exact He.glo_ok X G (T.c.fact 4 (f := .glo "check_readings") rfl)
theorem Txt.g_check_bounds (T : Txt P K mg) : mg "check_bounds" = some (.ref (He.ga K "check_bounds")) := by
  obtain ⟨h, X, G⟩ := T.x
  exact He.glo_ok X G (T.c.fact 5 (f := .glo "check_bounds") rfl)
theorem Txt.g_hours_on (T : Txt P K mg) : mg "hours_on" = some (.ref (He.ga K "hours_on")) := by
  obtain ⟨h, X, G⟩ := T.x
  exact He.glo_ok X G (T.c.fact 6 (f := .glo "hours_on") rfl)
theorem Txt.g_spans_of (T : Txt P K mg) : mg "spans_of" = some (.ref (He.ga K "spans_of")) := by
  obtain ⟨h, X, G⟩ := T.x
  exact He.glo_ok X G (T.c.fact 7 (f := .glo "spans_of") rfl)
theorem Txt.g_alarms_of (T : Txt P K mg) : mg "alarms_of" = some (.ref (He.ga K "alarms_of")) := by
  obtain ⟨h, X, G⟩ := T.x
  exact He.glo_ok X G (T.c.fact 8 (f := .glo "alarms_of") rfl)
theorem Txt.g_judge_hours (T : Txt P K mg) : mg "judge_hours" = some (.ref (He.ga K "judge_hours")) := by
  obtain ⟨h, X, G⟩ := T.x
  exact He.glo_ok X G (T.c.fact 9 (f := .glo "judge_hours") rfl)
theorem Txt.g_accept_open (T : Txt P K mg) : mg "accept_open" = some (.ref (He.ga K "accept_open")) := by
  obtain ⟨h, X, G⟩ := T.x
  exact He.glo_ok X G (T.c.fact 10 (f := .glo "accept_open") rfl)
theorem Txt.g_first_alarm (T : Txt P K mg) : mg "first_alarm" = some (.ref (He.ga K "first_alarm")) := by
  obtain ⟨h, X, G⟩ := T.x
  exact He.glo_ok X G (T.c.fact 11 (f := .glo "first_alarm") rfl)
theorem Txt.g__law_start (T : Txt P K mg) : mg "_law_start" = some (.ref (He.ga K "_law_start")) := by
  obtain ⟨h, X, G⟩ := T.x
  exact He.glo_ok X G (T.c.fact 12 (f := .glo "_law_start") rfl)
theorem Txt.g__law_draw (T : Txt P K mg) : mg "_law_draw" = some (.ref (He.ga K "_law_draw")) := by
  obtain ⟨h, X, G⟩ := T.x
  exact He.glo_ok X G (T.c.fact 13 (f := .glo "_law_draw") rfl)
theorem Txt.g__law_rows (T : Txt P K mg) : mg "_law_rows" = some (.ref (He.ga K "_law_rows")) := by
  obtain ⟨h, X, G⟩ := T.x
  exact He.glo_ok X G (T.c.fact 14 (f := .glo "_law_rows") rfl)
theorem Txt.g__law_is_taken (T : Txt P K mg) : mg "_law_is_taken" = some (.ref (He.ga K "_law_is_taken")) := by
  obtain ⟨h, X, G⟩ := T.x
  exact He.glo_ok X G (T.c.fact 15 (f := .glo "_law_is_taken") rfl)
theorem Txt.g__law_alarms_hold (T : Txt P K mg) : mg "_law_alarms_hold" = some (.ref (He.ga K "_law_alarms_hold")) := by
  obtain ⟨h, X, G⟩ := T.x
  exact He.glo_ok X G (T.c.fact 16 (f := .glo "_law_alarms_hold") rfl)
theorem Txt.g_law (T : Txt P K mg) : mg "law" = some (.ref (He.ga K "law")) := by
  obtain ⟨h, X, G⟩ := T.x
  exact He.glo_ok X G (T.c.fact 17 (f := .glo "law") rfl)
theorem Txt.m_ValueError (T : Txt P K mg) : mg "ValueError" = none := by
  obtain ⟨h, X, G⟩ := T.x
  exact He.free_ok X G (T.c.fact 18 (f := .free "ValueError") rfl)
theorem Txt.m_abs (T : Txt P K mg) : mg "abs" = none := by
  obtain ⟨h, X, G⟩ := T.x
  exact He.free_ok X G (T.c.fact 19 (f := .free "abs") rfl)
theorem Txt.m_all (T : Txt P K mg) : mg "all" = none := by
  obtain ⟨h, X, G⟩ := T.x
  exact He.free_ok X G (T.c.fact 20 (f := .free "all") rfl)
theorem Txt.m_bool (T : Txt P K mg) : mg "bool" = none := by
  obtain ⟨h, X, G⟩ := T.x
  exact He.free_ok X G (T.c.fact 21 (f := .free "bool") rfl)
theorem Txt.m_enumerate (T : Txt P K mg) : mg "enumerate" = none := by
  obtain ⟨h, X, G⟩ := T.x
  exact He.free_ok X G (T.c.fact 22 (f := .free "enumerate") rfl)
theorem Txt.m_int (T : Txt P K mg) : mg "int" = none := by
  obtain ⟨h, X, G⟩ := T.x
  exact He.free_ok X G (T.c.fact 23 (f := .free "int") rfl)
theorem Txt.m_isinstance (T : Txt P K mg) : mg "isinstance" = none := by
  obtain ⟨h, X, G⟩ := T.x
  exact He.free_ok X G (T.c.fact 24 (f := .free "isinstance") rfl)
theorem Txt.m_len (T : Txt P K mg) : mg "len" = none := by
  obtain ⟨h, X, G⟩ := T.x
  exact He.free_ok X G (T.c.fact 25 (f := .free "len") rfl)
theorem Txt.m_list (T : Txt P K mg) : mg "list" = none := by
  obtain ⟨h, X, G⟩ := T.x
  exact He.free_ok X G (T.c.fact 26 (f := .free "list") rfl)
theorem Txt.m_max (T : Txt P K mg) : mg "max" = none := by
  obtain ⟨h, X, G⟩ := T.x
  exact He.free_ok X G (T.c.fact 27 (f := .free "max") rfl)
theorem Txt.m_min (T : Txt P K mg) : mg "min" = none := by
  obtain ⟨h, X, G⟩ := T.x
  exact He.free_ok X G (T.c.fact 28 (f := .free "min") rfl)
theorem Txt.m_range (T : Txt P K mg) : mg "range" = none := by
  obtain ⟨h, X, G⟩ := T.x
  exact He.free_ok X G (T.c.fact 29 (f := .free "range") rfl)
theorem Txt.m_super (T : Txt P K mg) : mg "super" = none := by
  obtain ⟨h, X, G⟩ := T.x
  exact He.free_ok X G (T.c.fact 30 (f := .free "super") rfl)
theorem Txt.m_tuple (T : Txt P K mg) : mg "tuple" = none := by
  obtain ⟨h, X, G⟩ := T.x
  exact He.free_ok X G (T.c.fact 31 (f := .free "tuple") rfl)
theorem Txt.m_zip (T : Txt P K mg) : mg "zip" = none := by
  obtain ⟨h, X, G⟩ := T.x
  exact He.free_ok X G (T.c.fact 32 (f := .free "zip") rfl)
theorem Txt.g_PaperError (T : Txt P K mg) : mg "PaperError" = some (.ref (peC K)) := by
  obtain ⟨h, X, G⟩ := T.x
  exact He.glo_ok X G (T.c.fact 33 (f := .glo "PaperError") rfl)
theorem Txt.c_MAX_SIZE (T : Txt P K mg) : ∃ t, mg "MAX_SIZE" = some (.int 1000000000000 t) := by
  obtain ⟨h, X, G⟩ := T.x
  exact He.int_ok X G (T.c.fact 34 (f := .int "MAX_SIZE" 1000000000000) rfl)
theorem Txt.c_MAX_DAYS (T : Txt P K mg) : ∃ t, mg "MAX_DAYS" = some (.int 400 t) := by
  obtain ⟨h, X, G⟩ := T.x
  exact He.int_ok X G (T.c.fact 35 (f := .int "MAX_DAYS" 400) rfl)
theorem Txt.c_MAX_HOLD (T : Txt P K mg) : ∃ t, mg "MAX_HOLD" = some (.int 24 t) := by
  obtain ⟨h, X, G⟩ := T.x
  exact He.int_ok X G (T.c.fact 36 (f := .int "MAX_HOLD" 24) rfl)
end
/-! ### what the defs do -/
abbrev f__law_draw : List D → M D := f_draw
/-- 0 value -/
def d_is_integer : Sto → M Fl := sRet (vAnd (d1 (oIsi "int") (dVs 0)) (vNot (d1 (oIsi "bool") (dVs 0))))
def f_is_integer : List D → M D := fnD 1 1 d_is_integer
/-- 0 value 1 low 2 high -/
def d_is_between : Sto → M Fl := sRet (vAnd (dCall f_is_integer [] (aCons (dVs 0) (aNil))) (dChain oLe oLe (dVs 1) (dVs 0) (dVs 2)))
def f_is_between : List D → M D := fnD 3 3 d_is_between
/-- 0 rule 1 own -/
def e_check_rule_1 : Sto → M D := dCall f_is_between [] (aCons (dVs 1) (aCons (dC (.int 1)) (aCons (dC (.int 24)) (aNil))))
theorem x_e_check_rule_1 (ρ : Sto) : e_check_rule_1 ρ = (dCall f_is_between [] (aCons (dVs 1) (aCons (dC (.int 1)) (aCons (dC (.int 24)) (aNil))))) ρ := rfl
def e_check_rule_2 : Sto → M D := dCall f_is_between [] (aCons (dVs 1) (aCons (dC (.int 0)) (aCons (dC (.int 1000000000000)) (aNil))))
theorem x_e_check_rule_2 (ρ : Sto) : e_check_rule_2 ρ = (dCall f_is_between [] (aCons (dVs 1) (aCons (dC (.int 0)) (aCons (dC (.int 1000000000000)) (aNil))))) ρ := rfl
def r2_check_rule : Sto → M Fl := sIf (bOr (dB (d2 oGt (d2 oIx (dVs 0) (dC (.int 1))) (d2 oIx (dVs 0) (dC (.int 0))))) (bNot (dTru (dCa oAll (aCons (dComp (iSeq (dSl (dVs 0) (some (dC (.int 2))) (none))) [1] (gdN 1) bYes e_check_rule_1) (aNil)))))) (sBad) (sNext)
theorem x_r2_check_rule (ρ : Sto) : r2_check_rule ρ = (sIf (bOr (dB (d2 oGt (d2 oIx (dVs 0) (dC (.int 1))) (d2 oIx (dVs 0) (dC (.int 0))))) (bNot (dTru (dCa oAll (aCons (dComp (iSeq (dSl (dVs 0) (some (dC (.int 2))) (none))) [1] (gdN 1) bYes e_check_rule_1) (aNil)))))) (sBad) (sNext)) ρ := rfl
def d_check_rule : Sto → M Fl := sSeq (sIf (bOr (bNot (dTru (d1 (oIsi "tuple") (dVs 0)))) (bOr (dB (d2 oNe (dCa oLen (aCons (dVs 0) (aNil))) (dC (.int 4)))) (bNot (dTru (dCa oAll (aCons (dComp (iSeq (dSl (dVs 0) (none) (some (dC (.int 2))))) [1] (gdN 1) bYes e_check_rule_2) (aNil))))))) (sBad) (sNext)) (r2_check_rule)
def f_check_rule : List D → M D := fnD 2 1 d_check_rule
/-- 0 value 1 own -/
def e_are_readings_1 : Sto → M D := dCall f_is_between [] (aCons (dVs 1) (aCons (dC (.int 0)) (aCons (dC (.int 1000000000000)) (aNil))))
theorem x_e_are_readings_1 (ρ : Sto) : e_are_readings_1 ρ = (dCall f_is_between [] (aCons (dVs 1) (aCons (dC (.int 0)) (aCons (dC (.int 1000000000000)) (aNil))))) ρ := rfl
def d_are_readings : Sto → M Fl := sRet (vAnd (d1 (oIsi "tuple") (dVs 0)) (vAnd (d2 oLe (dCa oLen (aCons (dVs 0) (aNil))) (dC (.int 400))) (dCa oAll (aCons (dComp (iSeq (dVs 0)) [1] (gdN 1) bYes e_are_readings_1) (aNil)))))
def f_are_readings : List D → M D := fnD 2 1 d_are_readings
/-- 0 readings -/
def d_check_readings : Sto → M Fl := sIf (bNot (dTru (dCall f_are_readings [] (aCons (dVs 0) (aNil))))) (sBad) (sNext)
def f_check_readings : List D → M D := fnD 1 1 d_check_readings
/-- 0 lows 1 highs 2 low 3 high -/
def t_check_bounds_1 : Sto → M Bool := dB (d2 oGt (dVs 2) (dVs 3))
theorem x_t_check_bounds_1 (ρ : Sto) : t_check_bounds_1 ρ = (dB (d2 oGt (dVs 2) (dVs 3))) ρ := rfl
def e_check_bounds_1 : Sto → M D := dC (.int 1)
theorem x_e_check_bounds_1 (ρ : Sto) : e_check_bounds_1 ρ = (dC (.int 1)) ρ := rfl
def r2_check_bounds : Sto → M Fl := sIf (bOr (bNot (dTru (dCall f_are_readings [] (aCons (dVs 1) (aNil))))) (bOr (dB (d2 oNe (dCa oLen (aCons (dVs 1) (aNil))) (dCa oLen (aCons (dVs 0) (aNil))))) (dTru (dComp (iZpA (aCons (dVs 0) (aCons (dVs 1) (aNil)))) [2, 3] (gdTup 2 (gdCons (gdN 2) (gdCons (gdN 3) (gdNil)))) t_check_bounds_1 e_check_bounds_1)))) (sBad) (sNext)
theorem x_r2_check_bounds (ρ : Sto) : r2_check_bounds ρ = (sIf (bOr (bNot (dTru (dCall f_are_readings [] (aCons (dVs 1) (aNil))))) (bOr (dB (d2 oNe (dCa oLen (aCons (dVs 1) (aNil))) (dCa oLen (aCons (dVs 0) (aNil))))) (dTru (dComp (iZpA (aCons (dVs 0) (aCons (dVs 1) (aNil)))) [2, 3] (gdTup 2 (gdCons (gdN 2) (gdCons (gdN 3) (gdNil)))) t_check_bounds_1 e_check_bounds_1)))) (sBad) (sNext)) ρ := rfl
def d_check_bounds : Sto → M Fl := sSeq (sIf (bNot (dTru (dCall f_are_readings [] (aCons (dVs 0) (aNil))))) (sBad) (sNext)) (r2_check_bounds)
def f_check_bounds : List D → M D := fnD 4 2 d_check_bounds
/-- 0 rule 1 readings 2 on 3 off 4 hold 5 let 6 found 7 rings 8 many 9 own 10 turns -/
def b_hours_on_1 : Sto → M Fl := sSeq (sSet [] 10 (dIf (dTru (dVs 7)) (d2 oLt (dVs 9) (dVs 3)) (d2 oGe (dVs 9) (dVs 2)))) (sSeq (sSet [] 8 (dIf (dTru (dVs 10)) (d2 oAdd (dVs 8) (dC (.int 1))) (dC (.int 0)))) (sSeq (sIf (dB (d2 oEq (dVs 8) (dIf (dTru (dVs 7)) (dVs 5) (dVs 4)))) (sPar [] [7, 8] (pSh (vNot (dVs 7)) (pSh (dC (.int 0)) (pNil)))) (sNext)) (sApp [] 6 (dVs 7))))
theorem x_b_hours_on_1 (ρ : Sto) : b_hours_on_1 ρ = (sSeq (sSet [] 10 (dIf (dTru (dVs 7)) (d2 oLt (dVs 9) (dVs 3)) (d2 oGe (dVs 9) (dVs 2)))) (sSeq (sSet [] 8 (dIf (dTru (dVs 10)) (d2 oAdd (dVs 8) (dC (.int 1))) (dC (.int 0)))) (sSeq (sIf (dB (d2 oEq (dVs 8) (dIf (dTru (dVs 7)) (dVs 5) (dVs 4)))) (sPar [] [7, 8] (pSh (vNot (dVs 7)) (pSh (dC (.int 0)) (pNil)))) (sNext)) (sApp [] 6 (dVs 7))))) ρ := rfl
def r4_hours_on : Sto → M Fl := sRet (dV 6)
theorem x_r4_hours_on (ρ : Sto) : r4_hours_on ρ = (sRet (dV 6)) ρ := rfl
def r3_hours_on : Sto → M Fl := sSeq (sFor [] (iSeq (dVs 1)) (gdN 9) [9, 10] b_hours_on_1) (r4_hours_on)
theorem x_r3_hours_on (ρ : Sto) : r3_hours_on ρ = (sSeq (sFor [] (iSeq (dVs 1)) (gdN 9) [9, 10] b_hours_on_1) (r4_hours_on)) ρ := rfl
def r2_hours_on : Sto → M Fl := sSeq (sPar [] [6, 7, 8] (pOwn (dLst (aNil)) (pSh (dC (.bl false)) (pSh (dC (.int 0)) (pNil))))) (r3_hours_on)
theorem x_r2_hours_on (ρ : Sto) : r2_hours_on ρ = (sSeq (sPar [] [6, 7, 8] (pOwn (dLst (aNil)) (pSh (dC (.bl false)) (pSh (dC (.int 0)) (pNil))))) (r3_hours_on)) ρ := rfl
def d_hours_on : Sto → M Fl := sSeq (sUn [] (gdTup 4 (gdCons (gdN 2) (gdCons (gdN 3) (gdCons (gdN 4) (gdCons (gdN 5) (gdNil)))))) (dVs 0)) (r2_hours_on)
def f_hours_on : List D → M D := fnD 11 2 d_hours_on
/-- 0 hours 1 found 2 hour 3 own -/
def b_spans_of_1 : Sto → M Fl := sIf (bAnd (dTru (dVs 3)) (bAnd (dTru (dV 1)) (dB (d2 oEq (d2 oIx (d2 oIx (dV 1) (d1 oNeg (dC (.int 1)))) (dC (.int 1))) (d2 oSub (dVs 2) (dC (.int 1))))))) (sPut [] 1 (d1 oNeg (dC (.int 1))) (dTup (aCons (d2 oIx (d2 oIx (dV 1) (d1 oNeg (dC (.int 1)))) (dC (.int 0))) (aCons (dVs 2) (aNil))))) (sIf (dTru (dVs 3)) (sApp [] 1 (dTup (aCons (dVs 2) (aCons (dVs 2) (aNil))))) (sNext))
theorem x_b_spans_of_1 (ρ : Sto) : b_spans_of_1 ρ = (sIf (bAnd (dTru (dVs 3)) (bAnd (dTru (dV 1)) (dB (d2 oEq (d2 oIx (d2 oIx (dV 1) (d1 oNeg (dC (.int 1)))) (dC (.int 1))) (d2 oSub (dVs 2) (dC (.int 1))))))) (sPut [] 1 (d1 oNeg (dC (.int 1))) (dTup (aCons (d2 oIx (d2 oIx (dV 1) (d1 oNeg (dC (.int 1)))) (dC (.int 0))) (aCons (dVs 2) (aNil))))) (sIf (dTru (dVs 3)) (sApp [] 1 (dTup (aCons (dVs 2) (aCons (dVs 2) (aNil))))) (sNext))) ρ := rfl
def r3_spans_of : Sto → M Fl := sRet (dV 1)
theorem x_r3_spans_of (ρ : Sto) : r3_spans_of ρ = (sRet (dV 1)) ρ := rfl
def r2_spans_of : Sto → M Fl := sSeq (sFor [] (iEnA (aCons (dVs 0) (aNil))) (gdTup 2 (gdCons (gdN 2) (gdCons (gdN 3) (gdNil)))) [2, 3] b_spans_of_1) (r3_spans_of)
theorem x_r2_spans_of (ρ : Sto) : r2_spans_of ρ = (sSeq (sFor [] (iEnA (aCons (dVs 0) (aNil))) (gdTup 2 (gdCons (gdN 2) (gdCons (gdN 3) (gdNil)))) [2, 3] b_spans_of_1) (r3_spans_of)) ρ := rfl
def d_spans_of : Sto → M Fl := sSeq (sSetF [] 1 (dLst (aNil))) (r2_spans_of)
def f_spans_of : List D → M D := fnD 4 1 d_spans_of
/-- 0 rule 1 readings -/
def r3_alarms_of : Sto → M Fl := sRet (dCa oTupOf (aCons (dCall f_spans_of [] (aCons (dCall f_hours_on [] (aCons (dVs 0) (aCons (dVs 1) (aNil)))) (aNil))) (aNil)))
theorem x_r3_alarms_of (ρ : Sto) : r3_alarms_of ρ = (sRet (dCa oTupOf (aCons (dCall f_spans_of [] (aCons (dCall f_hours_on [] (aCons (dVs 0) (aCons (dVs 1) (aNil)))) (aNil))) (aNil)))) ρ := rfl
def r2_alarms_of : Sto → M Fl := sSeq (sDrop (dCall f_check_readings [] (aCons (dVs 1) (aNil)))) (r3_alarms_of)
theorem x_r2_alarms_of (ρ : Sto) : r2_alarms_of ρ = (sSeq (sDrop (dCall f_check_readings [] (aCons (dVs 1) (aNil)))) (r3_alarms_of)) ρ := rfl
def d_alarms_of : Sto → M Fl := sSeq (sDrop (dCall f_check_rule [] (aCons (dVs 0) (aNil)))) (r2_alarms_of)
def f_alarms_of : List D → M D := fnD 2 2 d_alarms_of
/-- 0 rule 1 lows 2 highs 3 sure 4 can 5 own 6 may -/
def e_judge_hours_1 : Sto → M D := dIf (dTru (dVs 5)) (dC (.str "on")) (dIf (dTru (dVs 6)) (dC (.str "open")) (dC (.str "off")))
theorem x_e_judge_hours_1 (ρ : Sto) : e_judge_hours_1 ρ = (dIf (dTru (dVs 5)) (dC (.str "on")) (dIf (dTru (dVs 6)) (dC (.str "open")) (dC (.str "off")))) ρ := rfl
def r4_judge_hours : Sto → M Fl := sRet (dCa oTupOf (aCons (dComp (iZpA (aCons (dVs 3) (aCons (dVs 4) (aNil)))) [5, 6] (gdTup 2 (gdCons (gdN 5) (gdCons (gdN 6) (gdNil)))) bYes e_judge_hours_1) (aNil)))
theorem x_r4_judge_hours (ρ : Sto) : r4_judge_hours ρ = (sRet (dCa oTupOf (aCons (dComp (iZpA (aCons (dVs 3) (aCons (dVs 4) (aNil)))) [5, 6] (gdTup 2 (gdCons (gdN 5) (gdCons (gdN 6) (gdNil)))) bYes e_judge_hours_1) (aNil)))) ρ := rfl
def r3_judge_hours : Sto → M Fl := sSeq (sPar [] [3, 4] (pSh (dCall f_hours_on [] (aCons (dVs 0) (aCons (dVs 1) (aNil)))) (pSh (dCall f_hours_on [] (aCons (dVs 0) (aCons (dVs 2) (aNil)))) (pNil)))) (r4_judge_hours)
theorem x_r3_judge_hours (ρ : Sto) : r3_judge_hours ρ = (sSeq (sPar [] [3, 4] (pSh (dCall f_hours_on [] (aCons (dVs 0) (aCons (dVs 1) (aNil)))) (pSh (dCall f_hours_on [] (aCons (dVs 0) (aCons (dVs 2) (aNil)))) (pNil)))) (r4_judge_hours)) ρ := rfl
def r2_judge_hours : Sto → M Fl := sSeq (sDrop (dCall f_check_bounds [] (aCons (dVs 1) (aCons (dVs 2) (aNil))))) (r3_judge_hours)
theorem x_r2_judge_hours (ρ : Sto) : r2_judge_hours ρ = (sSeq (sDrop (dCall f_check_bounds [] (aCons (dVs 1) (aCons (dVs 2) (aNil))))) (r3_judge_hours)) ρ := rfl
def d_judge_hours : Sto → M Fl := sSeq (sDrop (dCall f_check_rule [] (aCons (dVs 0) (aNil)))) (r2_judge_hours)
def f_judge_hours : List D → M D := fnD 7 3 d_judge_hours
/-- 0 rule 1 lows 2 highs 3 hour 4 one 5 other 6 own 7 low 8 reading 9 high -/
def t_accept_open_1 : Sto → M Bool := bNot (dB (dChain oLe oLe (dVs 7) (dVs 8) (dVs 9)))
theorem x_t_accept_open_1 (ρ : Sto) : t_accept_open_1 ρ = (bNot (dB (dChain oLe oLe (dVs 7) (dVs 8) (dVs 9)))) ρ := rfl
def e_accept_open_1 : Sto → M D := dC (.int 1)
theorem x_e_accept_open_1 (ρ : Sto) : e_accept_open_1 ρ = (dC (.int 1)) ρ := rfl
def b_accept_open_1 : Sto → M (Option Fl) := xSeq (xIf (bOr (bNot (dTru (dCall f_are_readings [] (aCons (dVs 6) (aNil))))) (dB (d2 oNe (dCa oLen (aCons (dVs 6) (aNil))) (dCa oLen (aCons (dVs 1) (aNil)))))) (xRaise) (xUp sNext)) (xIf (dTru (dComp (iZp3 (aCons (dVs 1) (aCons (dVs 6) (aCons (dVs 2) (aNil))))) [7, 8, 9] (gdTup 3 (gdCons (gdN 7) (gdCons (gdN 8) (gdCons (gdN 9) (gdNil))))) t_accept_open_1 e_accept_open_1)) (xRaise) (xUp sNext))
theorem x_b_accept_open_1 (ρ : Sto) : b_accept_open_1 ρ = (xSeq (xIf (bOr (bNot (dTru (dCall f_are_readings [] (aCons (dVs 6) (aNil))))) (dB (d2 oNe (dCa oLen (aCons (dVs 6) (aNil))) (dCa oLen (aCons (dVs 1) (aNil)))))) (xRaise) (xUp sNext)) (xIf (dTru (dComp (iZp3 (aCons (dVs 1) (aCons (dVs 6) (aCons (dVs 2) (aNil))))) [7, 8, 9] (gdTup 3 (gdCons (gdN 7) (gdCons (gdN 8) (gdCons (gdN 9) (gdNil))))) t_accept_open_1 e_accept_open_1)) (xRaise) (xUp sNext))) ρ := rfl
def r6_accept_open : Sto → M (Option Fl) := xIf (dTru (d2 oIx (dCall f_hours_on [] (aCons (dVs 0) (aCons (dVs 5) (aNil)))) (dVs 3))) (xRaise) (xUp sNext)
theorem x_r6_accept_open (ρ : Sto) : r6_accept_open ρ = (xIf (dTru (d2 oIx (dCall f_hours_on [] (aCons (dVs 0) (aCons (dVs 5) (aNil)))) (dVs 3))) (xRaise) (xUp sNext)) ρ := rfl
def r5_accept_open : Sto → M (Option Fl) := xSeq (xIf (bNot (dTru (d2 oIx (dCall f_hours_on [] (aCons (dVs 0) (aCons (dVs 4) (aNil)))) (dVs 3)))) (xRaise) (xUp sNext)) (r6_accept_open)
theorem x_r5_accept_open (ρ : Sto) : r5_accept_open ρ = (xSeq (xIf (bNot (dTru (d2 oIx (dCall f_hours_on [] (aCons (dVs 0) (aCons (dVs 4) (aNil)))) (dVs 3)))) (xRaise) (xUp sNext)) (r6_accept_open)) ρ := rfl
def r4_accept_open : Sto → M (Option Fl) := xSeq (xFor [] (iSeq (dTup (aCons (dVs 4) (aCons (dVs 5) (aNil))))) (gdN 6) [6] b_accept_open_1) (r5_accept_open)
theorem x_r4_accept_open (ρ : Sto) : r4_accept_open ρ = (xSeq (xFor [] (iSeq (dTup (aCons (dVs 4) (aCons (dVs 5) (aNil))))) (gdN 6) [6] b_accept_open_1) (r5_accept_open)) ρ := rfl
def r3_accept_open : Sto → M (Option Fl) := xSeq (xUp (sIf (bNot (dTru (dCall f_is_between [] (aCons (dVs 3) (aCons (dC (.int 0)) (aCons (d2 oSub (dCa oLen (aCons (dVs 1) (aNil))) (dC (.int 1))) (aNil))))))) (sBad) (sNext))) (r4_accept_open)
theorem x_r3_accept_open (ρ : Sto) : r3_accept_open ρ = (xSeq (xUp (sIf (bNot (dTru (dCall f_is_between [] (aCons (dVs 3) (aCons (dC (.int 0)) (aCons (d2 oSub (dCa oLen (aCons (dVs 1) (aNil))) (dC (.int 1))) (aNil))))))) (sBad) (sNext))) (r4_accept_open)) ρ := rfl
def r2_accept_open : Sto → M (Option Fl) := xSeq (xUp (sDrop (dCall f_check_bounds [] (aCons (dVs 1) (aCons (dVs 2) (aNil)))))) (r3_accept_open)
theorem x_r2_accept_open (ρ : Sto) : r2_accept_open ρ = (xSeq (xUp (sDrop (dCall f_check_bounds [] (aCons (dVs 1) (aCons (dVs 2) (aNil)))))) (r3_accept_open)) ρ := rfl
def d_accept_open : XM := xSeq (xUp (sDrop (dCall f_check_rule [] (aCons (dVs 0) (aNil))))) (r2_accept_open)
def f_accept_open : List D → M (Option D) := fnX 10 6 d_accept_open
/-- 0 rule 1 lows 2 highs 3 ends 4 own 5 hours 6 hour 7 rings -/
def t_first_alarm_1 : Sto → M Bool := dTru (dVs 7)
theorem x_t_first_alarm_1 (ρ : Sto) : t_first_alarm_1 ρ = (dTru (dVs 7)) ρ := rfl
def e_first_alarm_1 : Sto → M D := dVs 6
theorem x_e_first_alarm_1 (ρ : Sto) : e_first_alarm_1 ρ = (dVs 6) ρ := rfl
def b_first_alarm_1 : Sto → M Fl := sSeq (sSet [] 5 (dComp (iEnA (aCons (dCall f_hours_on [] (aCons (dVs 0) (aCons (dVs 4) (aNil)))) (aNil))) [6, 7] (gdTup 2 (gdCons (gdN 6) (gdCons (gdN 7) (gdNil)))) t_first_alarm_1 e_first_alarm_1)) (sApp [] 3 (dIf (dTru (dVs 5)) (d2 oIx (dVs 5) (dC (.int 0))) (dC (.non))))
theorem x_b_first_alarm_1 (ρ : Sto) : b_first_alarm_1 ρ = (sSeq (sSet [] 5 (dComp (iEnA (aCons (dCall f_hours_on [] (aCons (dVs 0) (aCons (dVs 4) (aNil)))) (aNil))) [6, 7] (gdTup 2 (gdCons (gdN 6) (gdCons (gdN 7) (gdNil)))) t_first_alarm_1 e_first_alarm_1)) (sApp [] 3 (dIf (dTru (dVs 5)) (d2 oIx (dVs 5) (dC (.int 0))) (dC (.non))))) ρ := rfl
def r5_first_alarm : Sto → M Fl := sRet (dTup (aCons (d2 oIx (dV 3) (dC (.int 0))) (aCons (d2 oIx (dV 3) (dC (.int 1))) (aNil))))
theorem x_r5_first_alarm (ρ : Sto) : r5_first_alarm ρ = (sRet (dTup (aCons (d2 oIx (dV 3) (dC (.int 0))) (aCons (d2 oIx (dV 3) (dC (.int 1))) (aNil))))) ρ := rfl
def r4_first_alarm : Sto → M Fl := sSeq (sFor [] (iSeq (dTup (aCons (dVs 2) (aCons (dVs 1) (aNil))))) (gdN 4) [4, 5] b_first_alarm_1) (r5_first_alarm)
theorem x_r4_first_alarm (ρ : Sto) : r4_first_alarm ρ = (sSeq (sFor [] (iSeq (dTup (aCons (dVs 2) (aCons (dVs 1) (aNil))))) (gdN 4) [4, 5] b_first_alarm_1) (r5_first_alarm)) ρ := rfl
def r3_first_alarm : Sto → M Fl := sSeq (sSetF [] 3 (dLst (aNil))) (r4_first_alarm)
theorem x_r3_first_alarm (ρ : Sto) : r3_first_alarm ρ = (sSeq (sSetF [] 3 (dLst (aNil))) (r4_first_alarm)) ρ := rfl
def r2_first_alarm : Sto → M Fl := sSeq (sDrop (dCall f_check_bounds [] (aCons (dVs 1) (aCons (dVs 2) (aNil))))) (r3_first_alarm)
theorem x_r2_first_alarm (ρ : Sto) : r2_first_alarm ρ = (sSeq (sDrop (dCall f_check_bounds [] (aCons (dVs 1) (aCons (dVs 2) (aNil))))) (r3_first_alarm)) ρ := rfl
def d_first_alarm : Sto → M Fl := sSeq (sDrop (dCall f_check_rule [] (aCons (dVs 0) (aNil)))) (r2_first_alarm)
def f_first_alarm : List D → M D := fnD 8 3 d_first_alarm
/-- 0 some 1 many 2 rows 3 turn 4 more 5 own 6 one -/
def e__law_rows_1 : Sto → M D := d2 oAdd (dVs 5) (dTup (aCons (dVs 6) (aNil)))
theorem x_e__law_rows_1 (ρ : Sto) : e__law_rows_1 ρ = (d2 oAdd (dVs 5) (dTup (aCons (dVs 6) (aNil)))) ρ := rfl
def b__law_rows_1 : Sto → M Fl := sExt [] 4 (dComp (iSeq (dVs 0)) [6] (gdN 6) bYes e__law_rows_1)
theorem x_b__law_rows_1 (ρ : Sto) : b__law_rows_1 ρ = (sExt [] 4 (dComp (iSeq (dVs 0)) [6] (gdN 6) bYes e__law_rows_1)) ρ := rfl
def b__law_rows_2 : Sto → M Fl := sSeq (sSetF [] 4 (dLst (aNil))) (sSeq (sFor [] (iSeq (dVs 2)) (gdN 5) [5] b__law_rows_1) (sSet [4] 2 (dV 4)))
theorem x_b__law_rows_2 (ρ : Sto) : b__law_rows_2 ρ = (sSeq (sSetF [] 4 (dLst (aNil))) (sSeq (sFor [] (iSeq (dVs 2)) (gdN 5) [5] b__law_rows_1) (sSet [4] 2 (dV 4)))) ρ := rfl
def r3__law_rows : Sto → M Fl := sRet (dVs 2)
theorem x_r3__law_rows (ρ : Sto) : r3__law_rows ρ = (sRet (dVs 2)) ρ := rfl
def r2__law_rows : Sto → M Fl := sSeq (sFor [] (iRg1 (aCons (dVs 1) (aNil))) (gdN 3) [3, 4, 5] b__law_rows_2) (r3__law_rows)
theorem x_r2__law_rows (ρ : Sto) : r2__law_rows ρ = (sSeq (sFor [] (iRg1 (aCons (dVs 1) (aNil))) (gdN 3) [3, 4, 5] b__law_rows_2) (r3__law_rows)) ρ := rfl
def d__law_rows : Sto → M Fl := sSeq (sSet [] 2 (dLst (aCons (dTup (aNil)) (aNil)))) (r2__law_rows)
def f__law_rows : List D → M D := fnD 7 2 d__law_rows
def tbl : Tbl := [("accept_open", f_accept_open)]
/-- 0 accept 1 some -/
def d__law_is_taken : Sto → M Fl := sTry (xSeq (xIf (dB (d2 oEq (dCa oLen (aCons (dVs 1) (aNil))) (dC (.int 2)))) (xRetIs (xCallV tbl 0 (aCons (d2 oIx (dVs 1) (dC (.int 0))) (aCons (d2 oIx (dVs 1) (dC (.int 1))) (aNil))))) (xUp sNext)) (xSeq (xIf (dB (d2 oEq (dCa oLen (aCons (dVs 1) (aNil))) (dC (.int 3)))) (xRetIs (xCallV tbl 0 (aCons (d2 oIx (dVs 1) (dC (.int 0))) (aCons (d2 oIx (dVs 1) (dC (.int 1))) (aCons (d2 oIx (dVs 1) (dC (.int 2))) (aNil)))))) (xUp sNext)) (xSeq (xIf (dB (d2 oEq (dCa oLen (aCons (dVs 1) (aNil))) (dC (.int 4)))) (xRetIs (xCallV tbl 0 (aCons (d2 oIx (dVs 1) (dC (.int 0))) (aCons (d2 oIx (dVs 1) (dC (.int 1))) (aCons (d2 oIx (dVs 1) (dC (.int 2))) (aCons (d2 oIx (dVs 1) (dC (.int 3))) (aNil))))))) (xUp sNext)) (xSeq (xIf (dB (d2 oEq (dCa oLen (aCons (dVs 1) (aNil))) (dC (.int 5)))) (xRetIs (xCallV tbl 0 (aCons (d2 oIx (dVs 1) (dC (.int 0))) (aCons (d2 oIx (dVs 1) (dC (.int 1))) (aCons (d2 oIx (dVs 1) (dC (.int 2))) (aCons (d2 oIx (dVs 1) (dC (.int 3))) (aCons (d2 oIx (dVs 1) (dC (.int 4))) (aNil)))))))) (xUp sNext)) (xRetIs (xCallV tbl 0 (aCons (d2 oIx (dVs 1) (dC (.int 0))) (aCons (d2 oIx (dVs 1) (dC (.int 1))) (aCons (d2 oIx (dVs 1) (dC (.int 2))) (aCons (d2 oIx (dVs 1) (dC (.int 3))) (aCons (d2 oIx (dVs 1) (dC (.int 4))) (aCons (d2 oIx (dVs 1) (dC (.int 5))) (aNil)))))))))))))
def f__law_is_taken : List D → M D := fnD 2 2 d__law_is_taken
/-- 0 state 1 off 2 rule 3 lows 4 highs 5 rows 6 k 7 longer 8 own 9 told 10 rings 11 firsts 12 hours 13 first 14 last 15 hour 16 can 17 may 18 one 19 other 20 known -/
def t__law_alarms_hold_1 : Sto → M Bool := dB (d2 oNotN (dVs 8) (dC (.non)))
theorem x_t__law_alarms_hold_1 (ρ : Sto) : t__law_alarms_hold_1 ρ = (dB (d2 oNotN (dVs 8) (dC (.non)))) ρ := rfl
def e__law_alarms_hold_1 : Sto → M D := dVs 8
theorem x_e__law_alarms_hold_1 (ρ : Sto) : e__law_alarms_hold_1 ρ = (dVs 8) ρ := rfl
def b__law_alarms_hold_1 : Sto → M Fl := sIf (dB (d2 oNe (dCall f__law_is_taken [] (aCons (dC (.fn "accept_open")) (aCons (dLst (aCons (dVs 2) (aCons (dV 3) (aCons (dV 4) (aCons (dVs 15) (aCons (d2 oIx (dVs 5) (dVs 18)) (aCons (d2 oIx (dVs 5) (dVs 19)) (aNil)))))))) (aNil)))) (vAnd (d2 oInS (dVs 18) (dVs 16)) (d2 oInS (dVs 19) (dVs 17))))) (sRet (dC (.bl false))) (sNext)
theorem x_b__law_alarms_hold_1 (ρ : Sto) : b__law_alarms_hold_1 ρ = (sIf (dB (d2 oNe (dCall f__law_is_taken [] (aCons (dC (.fn "accept_open")) (aCons (dLst (aCons (dVs 2) (aCons (dV 3) (aCons (dV 4) (aCons (dVs 15) (aCons (d2 oIx (dVs 5) (dVs 18)) (aCons (d2 oIx (dVs 5) (dVs 19)) (aNil)))))))) (aNil)))) (vAnd (d2 oInS (dVs 18) (dVs 16)) (d2 oInS (dVs 19) (dVs 17))))) (sRet (dC (.bl false))) (sNext)) ρ := rfl
def t__law_alarms_hold_2 : Sto → M Bool := dB (d2 oInS (dVs 15) (d2 oIx (dV 10) (dVs 6)))
theorem x_t__law_alarms_hold_2 (ρ : Sto) : t__law_alarms_hold_2 ρ = (dB (d2 oInS (dVs 15) (d2 oIx (dV 10) (dVs 6)))) ρ := rfl
def e__law_alarms_hold_2 : Sto → M D := dVs 6
theorem x_e__law_alarms_hold_2 (ρ : Sto) : e__law_alarms_hold_2 ρ = (dVs 6) ρ := rfl
def t__law_alarms_hold_3 : Sto → M Bool := dB (d2 oNotInS (dVs 15) (d2 oIx (dV 10) (dVs 6)))
theorem x_t__law_alarms_hold_3 (ρ : Sto) : t__law_alarms_hold_3 ρ = (dB (d2 oNotInS (dVs 15) (d2 oIx (dV 10) (dVs 6)))) ρ := rfl
def b__law_alarms_hold_2 : Sto → M Fl := sSeq (sPar [] [16, 17] (pSh (dComp (iRg1 (aCons (dCa oLen (aCons (dVs 5) (aNil))) (aNil))) [6] (gdN 6) t__law_alarms_hold_2 e__law_alarms_hold_2) (pSh (dComp (iRg1 (aCons (dCa oLen (aCons (dVs 5) (aNil))) (aNil))) [6] (gdN 6) t__law_alarms_hold_3 e__law_alarms_hold_2) (pNil)))) (sSeq (sIf (dB (d2 oNe (d2 oIx (dVs 9) (dVs 15)) (dIf (bNot (dTru (dVs 17))) (dC (.str "on")) (dIf (bNot (dTru (dVs 16))) (dC (.str "off")) (dC (.str "open")))))) (sRet (dC (.bl false))) (sNext)) (sFor [] (iSeq (dCall f__law_rows [] (aCons (dLstRg (rg1 (dCa oLen (aCons (dVs 5) (aNil))))) (aCons (dC (.int 2)) (aNil))))) (gdTup 2 (gdCons (gdN 18) (gdCons (gdN 19) (gdNil)))) [18, 19] b__law_alarms_hold_1))
theorem x_b__law_alarms_hold_2 (ρ : Sto) : b__law_alarms_hold_2 ρ = (sSeq (sPar [] [16, 17] (pSh (dComp (iRg1 (aCons (dCa oLen (aCons (dVs 5) (aNil))) (aNil))) [6] (gdN 6) t__law_alarms_hold_2 e__law_alarms_hold_2) (pSh (dComp (iRg1 (aCons (dCa oLen (aCons (dVs 5) (aNil))) (aNil))) [6] (gdN 6) t__law_alarms_hold_3 e__law_alarms_hold_2) (pNil)))) (sSeq (sIf (dB (d2 oNe (d2 oIx (dVs 9) (dVs 15)) (dIf (bNot (dTru (dVs 17))) (dC (.str "on")) (dIf (bNot (dTru (dVs 16))) (dC (.str "off")) (dC (.str "open")))))) (sRet (dC (.bl false))) (sNext)) (sFor [] (iSeq (dCall f__law_rows [] (aCons (dLstRg (rg1 (dCa oLen (aCons (dVs 5) (aNil))))) (aCons (dC (.int 2)) (aNil))))) (gdTup 2 (gdCons (gdN 18) (gdCons (gdN 19) (gdNil)))) [18, 19] b__law_alarms_hold_1))) ρ := rfl
def b__law_alarms_hold_3 : Sto → M Fl := sExt [] 12 (dLstRg (rg2 (dVs 13) (d2 oAdd (dVs 14) (dC (.int 1)))))
theorem x_b__law_alarms_hold_3 (ρ : Sto) : b__law_alarms_hold_3 ρ = (sExt [] 12 (dLstRg (rg2 (dVs 13) (d2 oAdd (dVs 14) (dC (.int 1)))))) ρ := rfl
def b__law_alarms_hold_4 : Sto → M Fl := sSeq (sSetF [] 12 (dLst (aNil))) (sSeq (sFor [] (iSeq (dCall f_alarms_of [] (aCons (dVs 2) (aCons (dVs 8) (aNil))))) (gdTup 2 (gdCons (gdN 13) (gdCons (gdN 14) (gdNil)))) [13, 14] b__law_alarms_hold_3) (sSeq (sApp [12] 10 (dV 12)) (sApp [] 11 (dIf (dTru (dV 12)) (d2 oIx (dV 12) (dC (.int 0))) (dC (.non))))))
theorem x_b__law_alarms_hold_4 (ρ : Sto) : b__law_alarms_hold_4 ρ = (sSeq (sSetF [] 12 (dLst (aNil))) (sSeq (sFor [] (iSeq (dCall f_alarms_of [] (aCons (dVs 2) (aCons (dVs 8) (aNil))))) (gdTup 2 (gdCons (gdN 13) (gdCons (gdN 14) (gdNil)))) [13, 14] b__law_alarms_hold_3) (sSeq (sApp [12] 10 (dV 12)) (sApp [] 11 (dIf (dTru (dV 12)) (d2 oIx (dV 12) (dC (.int 0))) (dC (.non))))))) ρ := rfl
def e__law_alarms_hold_3 : Sto → M D := d2 oAdd (dVs 8) (dTup (aCons (dVs 18) (aNil)))
theorem x_e__law_alarms_hold_3 (ρ : Sto) : e__law_alarms_hold_3 ρ = (d2 oAdd (dVs 8) (dTup (aCons (dVs 18) (aNil)))) ρ := rfl
def b__law_alarms_hold_5 : Sto → M Fl := sExt [] 7 (dComp (iRg2 (aCons (d2 oIx (dV 3) (d1 oNeg (dC (.int 1)))) (aCons (d2 oAdd (d2 oIx (dV 4) (d1 oNeg (dC (.int 1)))) (dC (.int 1))) (aNil)))) [18] (gdN 18) bYes e__law_alarms_hold_3)
theorem x_b__law_alarms_hold_5 (ρ : Sto) : b__law_alarms_hold_5 ρ = (sExt [] 7 (dComp (iRg2 (aCons (d2 oIx (dV 3) (d1 oNeg (dC (.int 1)))) (aCons (d2 oAdd (d2 oIx (dV 4) (d1 oNeg (dC (.int 1)))) (dC (.int 1))) (aNil)))) [18] (gdN 18) bYes e__law_alarms_hold_3)) ρ := rfl
def b__law_alarms_hold_6 : Sto → M Fl := sSeq (sApp [] 3 (dCall f__law_draw [] (aCons (dVs 0) (aCons (dC (.int 4)) (aNil))))) (sSeq (sApp [] 4 (d2 oAdd (d2 oIx (dV 3) (d1 oNeg (dC (.int 1)))) (dCall f__law_draw [] (aCons (dVs 0) (aCons (dC (.int 2)) (aNil)))))) (sSeq (sSetF [] 7 (dLst (aNil))) (sSeq (sFor [] (iSeq (dVs 5)) (gdN 8) [] b__law_alarms_hold_5) (sSet [7] 5 (dV 7)))))
theorem x_b__law_alarms_hold_6 (ρ : Sto) : b__law_alarms_hold_6 ρ = (sSeq (sApp [] 3 (dCall f__law_draw [] (aCons (dVs 0) (aCons (dC (.int 4)) (aNil))))) (sSeq (sApp [] 4 (d2 oAdd (d2 oIx (dV 3) (d1 oNeg (dC (.int 1)))) (dCall f__law_draw [] (aCons (dVs 0) (aCons (dC (.int 2)) (aNil)))))) (sSeq (sSetF [] 7 (dLst (aNil))) (sSeq (sFor [] (iSeq (dVs 5)) (gdN 8) [] b__law_alarms_hold_5) (sSet [7] 5 (dV 7)))))) ρ := rfl
def r10__law_alarms_hold : Sto → M Fl := sRet (d2 oEq (dCall f_first_alarm [] (aCons (dVs 2) (aCons (dV 3) (aCons (dV 4) (aNil))))) (dTup (aCons (dIf (dTru (dVs 20)) (dCa oMinE (aCons (dVs 20) (aNil))) (dC (.non))) (aCons (dIf (dB (d2 oInS (dC (.non)) (dV 11))) (dC (.non)) (dCa oMaxE (aCons (dVs 20) (aNil)))) (aNil)))))
theorem x_r10__law_alarms_hold (ρ : Sto) : r10__law_alarms_hold ρ = (sRet (d2 oEq (dCall f_first_alarm [] (aCons (dVs 2) (aCons (dV 3) (aCons (dV 4) (aNil))))) (dTup (aCons (dIf (dTru (dVs 20)) (dCa oMinE (aCons (dVs 20) (aNil))) (dC (.non))) (aCons (dIf (dB (d2 oInS (dC (.non)) (dV 11))) (dC (.non)) (dCa oMaxE (aCons (dVs 20) (aNil)))) (aNil)))))) ρ := rfl
def r9__law_alarms_hold : Sto → M Fl := sSeq (sSet [] 20 (dComp (iSeq (dV 11)) [8] (gdN 8) t__law_alarms_hold_1 e__law_alarms_hold_1)) (r10__law_alarms_hold)
theorem x_r9__law_alarms_hold (ρ : Sto) : r9__law_alarms_hold ρ = (sSeq (sSet [] 20 (dComp (iSeq (dV 11)) [8] (gdN 8) t__law_alarms_hold_1 e__law_alarms_hold_1)) (r10__law_alarms_hold)) ρ := rfl
def r8__law_alarms_hold : Sto → M Fl := sSeq (sFor [] (iRg1 (aCons (dCa oLen (aCons (dV 3) (aNil))) (aNil))) (gdN 15) [15, 16, 17, 18, 19] b__law_alarms_hold_2) (r9__law_alarms_hold)
theorem x_r8__law_alarms_hold (ρ : Sto) : r8__law_alarms_hold ρ = (sSeq (sFor [] (iRg1 (aCons (dCa oLen (aCons (dV 3) (aNil))) (aNil))) (gdN 15) [15, 16, 17, 18, 19] b__law_alarms_hold_2) (r9__law_alarms_hold)) ρ := rfl
def r7__law_alarms_hold : Sto → M Fl := sSeq (sFor [] (iSeq (dVs 5)) (gdN 8) [12, 13, 14] b__law_alarms_hold_4) (r8__law_alarms_hold)
theorem x_r7__law_alarms_hold (ρ : Sto) : r7__law_alarms_hold ρ = (sSeq (sFor [] (iSeq (dVs 5)) (gdN 8) [12, 13, 14] b__law_alarms_hold_4) (r8__law_alarms_hold)) ρ := rfl
def r6__law_alarms_hold : Sto → M Fl := sSeq (sPar [] [10, 11] (pOwn (dLst (aNil)) (pOwn (dLst (aNil)) (pNil)))) (r7__law_alarms_hold)
theorem x_r6__law_alarms_hold (ρ : Sto) : r6__law_alarms_hold ρ = (sSeq (sPar [] [10, 11] (pOwn (dLst (aNil)) (pOwn (dLst (aNil)) (pNil)))) (r7__law_alarms_hold)) ρ := rfl
def r5__law_alarms_hold : Sto → M Fl := sSeq (sPar [] [3, 4, 9] (pSh (dCa oTupOf (aCons (dV 3) (aNil))) (pSh (dCa oTupOf (aCons (dV 4) (aNil))) (pSh (dCall f_judge_hours [] (aCons (dVs 2) (aCons (dCa oTupOf (aCons (dV 3) (aNil))) (aCons (dCa oTupOf (aCons (dV 4) (aNil))) (aNil))))) (pNil))))) (r6__law_alarms_hold)
theorem x_r5__law_alarms_hold (ρ : Sto) : r5__law_alarms_hold ρ = (sSeq (sPar [] [3, 4, 9] (pSh (dCa oTupOf (aCons (dV 3) (aNil))) (pSh (dCa oTupOf (aCons (dV 4) (aNil))) (pSh (dCall f_judge_hours [] (aCons (dVs 2) (aCons (dCa oTupOf (aCons (dV 3) (aNil))) (aCons (dCa oTupOf (aCons (dV 4) (aNil))) (aNil))))) (pNil))))) (r6__law_alarms_hold)) ρ := rfl
def r4__law_alarms_hold : Sto → M Fl := sSeq (sFor [] (iRg1 (aCons (d2 oAdd (dC (.int 1)) (dCall f__law_draw [] (aCons (dVs 0) (aCons (dC (.int 4)) (aNil))))) (aNil))) (gdN 6) [7] b__law_alarms_hold_6) (r5__law_alarms_hold)
theorem x_r4__law_alarms_hold (ρ : Sto) : r4__law_alarms_hold ρ = (sSeq (sFor [] (iRg1 (aCons (d2 oAdd (dC (.int 1)) (dCall f__law_draw [] (aCons (dVs 0) (aCons (dC (.int 4)) (aNil))))) (aNil))) (gdN 6) [7] b__law_alarms_hold_6) (r5__law_alarms_hold)) ρ := rfl
def r3__law_alarms_hold : Sto → M Fl := sSeq (sPar [] [3, 4, 5] (pOwn (dLst (aNil)) (pOwn (dLst (aNil)) (pSh (dLst (aCons (dTup (aNil)) (aNil))) (pNil))))) (r4__law_alarms_hold)
theorem x_r3__law_alarms_hold (ρ : Sto) : r3__law_alarms_hold ρ = (sSeq (sPar [] [3, 4, 5] (pOwn (dLst (aNil)) (pOwn (dLst (aNil)) (pSh (dLst (aCons (dTup (aNil)) (aNil))) (pNil))))) (r4__law_alarms_hold)) ρ := rfl
def r2__law_alarms_hold : Sto → M Fl := sSeq (sSet [] 2 (dTup (aCons (d2 oAdd (dVs 1) (dCall f__law_draw [] (aCons (dVs 0) (aCons (dC (.int 2)) (aNil))))) (aCons (dVs 1) (aCons (d2 oAdd (dC (.int 1)) (dCall f__law_draw [] (aCons (dVs 0) (aCons (dC (.int 2)) (aNil))))) (aCons (d2 oAdd (dC (.int 1)) (dCall f__law_draw [] (aCons (dVs 0) (aCons (dC (.int 2)) (aNil))))) (aNil))))))) (r3__law_alarms_hold)
theorem x_r2__law_alarms_hold (ρ : Sto) : r2__law_alarms_hold ρ = (sSeq (sSet [] 2 (dTup (aCons (d2 oAdd (dVs 1) (dCall f__law_draw [] (aCons (dVs 0) (aCons (dC (.int 2)) (aNil))))) (aCons (dVs 1) (aCons (d2 oAdd (dC (.int 1)) (dCall f__law_draw [] (aCons (dVs 0) (aCons (dC (.int 2)) (aNil))))) (aCons (d2 oAdd (dC (.int 1)) (dCall f__law_draw [] (aCons (dVs 0) (aCons (dC (.int 2)) (aNil))))) (aNil))))))) (r3__law_alarms_hold)) ρ := rfl
def d__law_alarms_hold : Sto → M Fl := sSeq (sSet [] 1 (dCall f__law_draw [] (aCons (dVs 0) (aCons (dC (.int 3)) (aNil))))) (r2__law_alarms_hold)
def f__law_alarms_hold : List D → M D := fnD 21 1 d__law_alarms_hold
/-! ### the defs do so -/
section
variable {P : Program} {w : World} {K : PySem.W.Frag} {mg : Str → Option Value} {base : Heap} {aw : Addr}
theorem sc__law_draw : FnScope ["state", "many", "found"] ["state", "many"] (defScope (top 24)) := ⟨rfl, rfl, rfl, by decide +kernel, rfl, by decide +kernel, by decide +kernel⟩
theorem ok__law_draw (T : Txt P K mg) : DefOk P w K mg base aw "_law_draw" 1 2 f__law_draw [[]] := by
  obtain ⟨fd, F⟩ := T.c.def_ 13 (d := ⟨("_law_draw", none), "_law_draw", "_law_draw", defArgs (top 24), defBody (top 24), defScope (top 24), [], []⟩) rfl
  refine def_ok0 (ps := ["state", "many"]) F T.g__law_draw sc__law_draw (fun _ _ _ _ _ _ us hl => match us, hl with | [_, _], _ => rfl) (fun cdv A outer s H E hr => ?_)
  exact vss_cons (vs_if (vt_w (vw_and (vt_cmp (op_eqD hr.units) ok_eq (ve_tok 0 (k := 3)) ve_int (nomark _)) (vw_and1 (vt_cmp op_lt ok_lt (ve_tok 0 (k := 1)) (ve_tokN 0 (by rfl) T.m_len (by decide +kernel)) (nomark _)))))
      (vss_one (vs_tok3 (va_cons (ve_tokC 0) (va_cons ve_int (va_cons (ve_op op_addA ok_add (ve_tok 0 (k := 1)) ve_int) va_nil))) (pg_tok 0) (pg_tok 0) (pg_tok 0))) vss_nil)
    (vss_cons (vs_if (vt_cmp op_gt ok_gt (ve_tok 0 (k := 3)) ve_int (nomark _))
        (vss_cons (vs_set (i := 2) sc__law_draw.nd rfl (by first | exact Or.inl rfl | exact Or.inr rfl) (ve_op op_mod ok_mod (ve_callTy call_int1 ok_int (by rfl) T.m_int (by decide +kernel) (va_cons ((ve_tok 0 (k := 2))) va_nil)) (ve_vs 1)))
          (vss_cons (vs_tok (ve_op op_fdivW ok_div (ve_tok 0 (k := 2)) (ve_vs 1)) (pg_tok 0))
            (vss_cons (vs_tok (ve_if (vt_cmp op_gt ok_gt (ve_tok 0 (k := 2)) ve_int (nomark _)) (ve_op op_sub ok_sub (ve_tok 0 (k := 3)) ve_int) ve_int) (pg_tok 0)) (vss_one (vs_ret (ve_vs 2))))))
        vss_nil)
      (vss_cons (vs_tok (ve_op op_addA ok_add (ve_tok 0 (k := 5)) ve_int) (pg_tok 0))
        (vss_cons (vs_tok (ve_op op_mod ok_mod (ve_callTy call_int1 ok_int (by rfl) T.m_int (by decide +kernel) (va_cons (ve_op op_addA ok_add (ve_op op_addA ok_add (ve_op op_mulA ok_mul (ve_tok 0 (k := 4)) ve_int) (ve_op op_mulA ok_mul (ve_op op_mulA ok_mul (ve_tok 0 (k := 5)) (ve_tok 0 (k := 5))) ve_int)) ve_int) va_nil)) ve_int) (pg_tok 0))
          (vss_one (vs_ret (ve_op op_mod ok_mod (ve_callTy call_int1 ok_int (by rfl) T.m_int (by decide +kernel) (va_cons (ve_op op_fdivW ok_div (ve_tok 0 (k := 4)) ve_int) va_nil)) (ve_vs 1)))))))
theorem sc_is_integer : FnScope ["value"] ["value"] (defScope (top 9)) := ⟨rfl, rfl, rfl, by decide +kernel, rfl, by decide +kernel, by decide +kernel⟩
theorem ok_is_integer (T : Txt P K mg) : DefOk P w K mg base aw "is_integer" 1 1 f_is_integer [[]] := by
  obtain ⟨fd, F⟩ := T.c.def_ 0 (d := ⟨("is_integer", none), "is_integer", "is_integer", defArgs (top 9), defBody (top 9), defScope (top 9), [], []⟩) rfl
  refine def_ok0 (ps := ["value"]) F T.g_is_integer sc_is_integer (fun _ _ _ _ _ _ us hl => match us, hl with | [_], _ => rfl) (fun cdv A outer s H E hr => ?_)
  exact vss_one (vs_ret (ve_and (ve_isi ty_int (by rfl) T.m_isinstance (by rfl) T.m_int (by decide +kernel) (ve_vs 0)) (ve_one (ve_not (ve_isi ty_bool (by rfl) T.m_isinstance (by rfl) T.m_bool (by decide +kernel) (ve_vs 0))))))
theorem sc_is_between : FnScope ["value", "low", "high"] ["value", "low", "high"] (defScope (top 10)) := ⟨rfl, rfl, rfl, by decide +kernel, rfl, by decide +kernel, by decide +kernel⟩
theorem ok_is_between (T : Txt P K mg) : DefOk P w K mg base aw "is_between" 2 3 f_is_between [[]] := by
  obtain ⟨fd, F⟩ := T.c.def_ 1 (d := ⟨("is_between", none), "is_between", "is_between", defArgs (top 10), defBody (top 10), defScope (top 10), [], []⟩) rfl
  have G_is_integer := ok_is_integer (P := P) (w := w) (base := base) (aw := aw) T
  refine def_ok0 (ps := ["value", "low", "high"]) F T.g_is_between sc_is_between (fun _ _ _ _ _ _ us hl => match us, hl with | [_, _, _], _ => rfl) (fun cdv A outer s H E hr => ?_)
  exact vss_one (vs_ret (ve_and (ve_callD [] G_is_integer (hr.mono (by decide)) (by rfl) (by repeat (first | exact List.Mem.head _ | apply List.Mem.tail)) (by rfl) (va_cons (ve_vs 0) (va_nil))) (ve_one (ve_chain op_le ok_le op_le ok_le (ve_vs 1) (ve_vs 0) (ve_vs 2)))))
theorem sc_check_rule : FnScope ["rule", "own"] ["rule"] (defScope (top 12)) := ⟨rfl, rfl, rfl, by decide +kernel, rfl, by decide +kernel, by decide +kernel⟩
theorem ok_check_rule (T : Txt P K mg) : DefOk P w K mg base aw "check_rule" 3 1 f_check_rule [[]] := by
  obtain ⟨fd, F⟩ := T.c.def_ 2 (d := ⟨("check_rule", none), "check_rule", "check_rule", defArgs (top 12), defBody (top 12), defScope (top 12), [], []⟩) rfl
  have G_is_between := ok_is_between (P := P) (w := w) (base := base) (aw := aw) T
  refine def_ok0 (ps := ["rule"]) F T.g_check_rule sc_check_rule (fun _ _ _ _ _ _ us hl => match us, hl with | [_], _ => rfl) (fun cdv A outer s H E hr => ?_)
  exact vss_cons (vs_if (vt_w (vw_or (vt_not (vt_tru (ve_isi ty_tuple (by rfl) T.m_isinstance (by rfl) T.m_tuple (by decide +kernel) (ve_vs 0)))) (vw_or (vt_cmp (op_neD hr.units) ok_ne (ve_callB call_len ok_len (by rfl) T.m_len (by decide +kernel) (va_cons (ve_vs 0) (va_nil))) (ve_int) (nomark _)) (vw_or1 (vt_not (vt_tru (ve_callB (cr_all rfl) ok_all (by rfl) T.m_all (by decide +kernel) (va_cons (VF.ve (vf_comp (own := [("own", 1)]) rfl sc_check_rule.nd (vi_seq (ve_slice (ve_vs 0) (vo_none) (vo_some (ve_int)))) (blkOk_by (own := [("own", 1)]) (by rfl)) (gok_name 1) (fun _ _ _ _ _ => pg_name (i := 1) sc_check_rule.nd rfl (by first | exact Or.inl rfl | exact Or.inr rfl)) (fun _ _ _ _ _ => vts_nil) (fun _ _ _ _ _ => ve_callD [] G_is_between (hr.mono (by decide)) (by rfl) (by repeat (first | exact List.Mem.head _ | apply List.Mem.tail)) (by rfl) (va_cons (ve_vs 1) (va_cons (ve_int) (va_cons (ve_gint (by rfl) (T.c_MAX_SIZE)) (va_nil))))) (by intro i h; first | exact h | simp_all))) (va_nil))))))))) (vss_one (vs_never)) (vss_nil)) (vss_one (vs_if (vt_w (vw_or (vt_cmp op_gt ok_gt (ve_ix (hu_of hr) (ve_vs 0) (ve_int)) (ve_ix (hu_of hr) (ve_vs 0) (ve_int)) (nomark _)) (vw_or1 (vt_not (vt_tru (ve_callB (cr_all rfl) ok_all (by rfl) T.m_all (by decide +kernel) (va_cons (VF.ve (vf_comp (own := [("own", 1)]) rfl sc_check_rule.nd (vi_seq (ve_slice (ve_vs 0) (vo_some (ve_int)) (vo_none))) (blkOk_by (own := [("own", 1)]) (by rfl)) (gok_name 1) (fun _ _ _ _ _ => pg_name (i := 1) sc_check_rule.nd rfl (by first | exact Or.inl rfl | exact Or.inr rfl)) (fun _ _ _ _ _ => vts_nil) (fun _ _ _ _ _ => ve_callD [] G_is_between (hr.mono (by decide)) (by rfl) (by repeat (first | exact List.Mem.head _ | apply List.Mem.tail)) (by rfl) (va_cons (ve_vs 1) (va_cons (ve_int) (va_cons (ve_gint (by rfl) (T.c_MAX_HOLD)) (va_nil))))) (by intro i h; first | exact h | simp_all))) (va_nil)))))))) (vss_one (vs_never)) (vss_nil)))
theorem sc_are_readings : FnScope ["value", "own"] ["value"] (defScope (top 13)) := ⟨rfl, rfl, rfl, by decide +kernel, rfl, by decide +kernel, by decide +kernel⟩
theorem ok_are_readings (T : Txt P K mg) : DefOk P w K mg base aw "are_readings" 3 1 f_are_readings [[]] := by
  obtain ⟨fd, F⟩ := T.c.def_ 3 (d := ⟨("are_readings", none), "are_readings", "are_readings", defArgs (top 13), defBody (top 13), defScope (top 13), [], []⟩) rfl
  have G_is_between := ok_is_between (P := P) (w := w) (base := base) (aw := aw) T
  refine def_ok0 (ps := ["value"]) F T.g_are_readings sc_are_readings (fun _ _ _ _ _ _ us hl => match us, hl with | [_], _ => rfl) (fun cdv A outer s H E hr => ?_)
  exact vss_one (vs_ret (ve_and (ve_isi ty_tuple (by rfl) T.m_isinstance (by rfl) T.m_tuple (by decide +kernel) (ve_vs 0)) (ve_and (ve_cmp op_le ok_le (ve_callB call_len ok_len (by rfl) T.m_len (by decide +kernel) (va_cons (ve_vs 0) (va_nil))) (ve_gint (by rfl) (T.c_MAX_DAYS)) (nomark _)) (ve_one (ve_callB (cr_all rfl) ok_all (by rfl) T.m_all (by decide +kernel) (va_cons (VF.ve (vf_comp (own := [("own", 1)]) rfl sc_are_readings.nd (vi_seq (ve_vs 0)) (blkOk_by (own := [("own", 1)]) (by rfl)) (gok_name 1) (fun _ _ _ _ _ => pg_name (i := 1) sc_are_readings.nd rfl (by first | exact Or.inl rfl | exact Or.inr rfl)) (fun _ _ _ _ _ => vts_nil) (fun _ _ _ _ _ => ve_callD [] G_is_between (hr.mono (by decide)) (by rfl) (by repeat (first | exact List.Mem.head _ | apply List.Mem.tail)) (by rfl) (va_cons (ve_vs 1) (va_cons (ve_int) (va_cons (ve_gint (by rfl) (T.c_MAX_SIZE)) (va_nil))))) (by intro i h; first | exact h | simp_all))) (va_nil)))))))
theorem sc_check_readings : FnScope ["readings"] ["readings"] (defScope (top 14)) := ⟨rfl, rfl, rfl, by decide +kernel, rfl, by decide +kernel, by decide +kernel⟩
theorem ok_check_readings (T : Txt P K mg) : DefOk P w K mg base aw "check_readings" 4 1 f_check_readings [[]] := by
  obtain ⟨fd, F⟩ := T.c.def_ 4 (d := ⟨("check_readings", none), "check_readings", "check_readings", defArgs (top 14), defBody (top 14), defScope (top 14), [], []⟩) rfl
  have G_are_readings := ok_are_readings (P := P) (w := w) (base := base) (aw := aw) T
  refine def_ok0 (ps := ["readings"]) F T.g_check_readings sc_check_readings (fun _ _ _ _ _ _ us hl => match us, hl with | [_], _ => rfl) (fun cdv A outer s H E hr => ?_)
  exact vss_one (vs_if (vt_not (vt_tru (ve_callD [] G_are_readings (hr.mono (by decide)) (by rfl) (by repeat (first | exact List.Mem.head _ | apply List.Mem.tail)) (by rfl) (va_cons (ve_vs 0) (va_nil))))) (vss_one (vs_never)) (vss_nil))
theorem sc_check_bounds : FnScope ["lows", "highs", "low", "high"] ["lows", "highs"] (defScope (top 15)) := ⟨rfl, rfl, rfl, by decide +kernel, rfl, by decide +kernel, by decide +kernel⟩
theorem ok_check_bounds (T : Txt P K mg) : DefOk P w K mg base aw "check_bounds" 4 2 f_check_bounds [[]] := by
  obtain ⟨fd, F⟩ := T.c.def_ 5 (d := ⟨("check_bounds", none), "check_bounds", "check_bounds", defArgs (top 15), defBody (top 15), defScope (top 15), [], []⟩) rfl
  have G_are_readings := ok_are_readings (P := P) (w := w) (base := base) (aw := aw) T
  refine def_ok0 (ps := ["lows", "highs"]) F T.g_check_bounds sc_check_bounds (fun _ _ _ _ _ _ us hl => match us, hl with | [_, _], _ => rfl) (fun cdv A outer s H E hr => ?_)
  exact vss_cons (vs_if (vt_not (vt_tru (ve_callD [] G_are_readings (hr.mono (by decide)) (by rfl) (by repeat (first | exact List.Mem.head _ | apply List.Mem.tail)) (by rfl) (va_cons (ve_vs 0) (va_nil))))) (vss_one (vs_never)) (vss_nil)) (vss_one (vs_if (vt_w (vw_or (vt_not (vt_tru (ve_callD [] G_are_readings (hr.mono (by decide)) (by rfl) (by repeat (first | exact List.Mem.head _ | apply List.Mem.tail)) (by rfl) (va_cons (ve_vs 1) (va_nil))))) (vw_or (vt_cmp (op_neD hr.units) ok_ne (ve_callB call_len ok_len (by rfl) T.m_len (by decide +kernel) (va_cons (ve_vs 1) (va_nil))) (ve_callB call_len ok_len (by rfl) T.m_len (by decide +kernel) (va_cons (ve_vs 0) (va_nil))) (nomark _)) (vw_or1 (vt_tru (VF.ve (vf_comp (own := [("low", 2), ("high", 3)]) rfl sc_check_bounds.nd (vi_zipA (by rfl) T.m_zip (va_cons (ve_vs 0) (va_cons (ve_vs 1) (va_nil)))) (blkOk_by (own := [("low", 2), ("high", 3)]) (by rfl)) (gok_tup (gok_cons (gok_name 2) (gok_cons (gok_name 3) (gok_nil)))) (fun _ _ _ _ _ => pg_tup rfl (pgs_cons (pg_name (i := 2) sc_check_bounds.nd rfl (by first | exact Or.inl rfl | exact Or.inr rfl)) (pgs_cons (pg_name (i := 3) sc_check_bounds.nd rfl (by first | exact Or.inl rfl | exact Or.inr rfl)) (pgs_nil)))) (fun _ _ _ _ _ => vts_one (vt_cmp op_gt ok_gt (ve_vs 2) (ve_vs 3) (nomark _))) (fun _ _ _ _ _ => ve_int) (by intro i h; first | exact h | simp_all)))))))) (vss_one (vs_never)) (vss_nil)))
theorem sc_hours_on : FnScope ["rule", "readings", "on", "off", "hold", "let", "found", "rings", "many", "own", "turns"] ["rule", "readings"] (defScope (top 16)) := ⟨rfl, rfl, rfl, by decide +kernel, rfl, by decide +kernel, by decide +kernel⟩
theorem ok_hours_on (T : Txt P K mg) : DefOk P w K mg base aw "hours_on" 1 2 f_hours_on [[]] := by
  obtain ⟨fd, F⟩ := T.c.def_ 6 (d := ⟨("hours_on", none), "hours_on", "hours_on", defArgs (top 16), defBody (top 16), defScope (top 16), [], []⟩) rfl
  refine def_ok0 (ps := ["rule", "readings"]) F T.g_hours_on sc_hours_on (fun _ _ _ _ _ _ us hl => match us, hl with | [_, _], _ => rfl) (fun cdv A outer s H E hr => ?_)
  exact vss_cons (vs_un (gok_tup (gok_cons (gok_name 2) (gok_cons (gok_name 3) (gok_cons (gok_name 4) (gok_cons (gok_name 5) (gok_nil)))))) (ve_vs 0) (pg_tup rfl (pgs_cons (pg_name (i := 2) sc_hours_on.nd rfl (by first | exact Or.inl rfl | exact Or.inr rfl)) (pgs_cons (pg_name (i := 3) sc_hours_on.nd rfl (by first | exact Or.inl rfl | exact Or.inr rfl)) (pgs_cons (pg_name (i := 4) sc_hours_on.nd rfl (by first | exact Or.inl rfl | exact Or.inr rfl)) (pgs_cons (pg_name (i := 5) sc_hours_on.nd rfl (by first | exact Or.inl rfl | exact Or.inr rfl)) (pgs_nil))))))) (vss_cons (vs_par3 (i := 6) (j := 7) (l := 8) rfl sc_hours_on.nd rfl rfl rfl (by decide) (by decide) (by decide) rfl rfl rfl (show VP _ _ _ [] _ from vp_own (vf_lst (va_nil)) (vp_sh (ve_bl) (vp_sh (ve_int) (vp_nil) (by decide)) (by decide)) (by decide)) (by rfl)) (vss_cons (vs_for (kl := [9, 10]) PassesOwn.never rfl (gok_name 9) (vi_seq (ve_vs 1)) (pg_name (i := 9) sc_hours_on.nd rfl (by first | exact Or.inl rfl | exact Or.inr rfl)) (vss_cons (vs_set (i := 10) sc_hours_on.nd rfl (by first | exact Or.inl rfl | exact Or.inr rfl) (ve_if (vt_tru (ve_vs 7)) (ve_cmp op_lt ok_lt (ve_vs 9) (ve_vs 3) (nomark _)) (ve_cmp op_ge ok_ge (ve_vs 9) (ve_vs 2) (nomark _)))) (vss_cons (vs_set (i := 8) sc_hours_on.nd rfl (by first | exact Or.inl rfl | exact Or.inr rfl) (ve_if (vt_tru (ve_vs 10)) (ve_op op_addA ok_add (ve_vs 8) (ve_int)) (ve_int))) (vss_cons (vs_if (vt_cmp (op_eqD hr.units) ok_eq (ve_vs 8) (ve_if (vt_tru (ve_vs 7)) (ve_vs 5) (ve_vs 4)) (nomark _)) (vss_one (vs_par2 (i := 7) (j := 8) rfl sc_hours_on.nd rfl rfl (by decide) rfl rfl (show VP _ _ _ [] _ from vp_sh (ve_not (ve_vs 7)) (vp_sh (ve_int) (vp_nil) (by decide)) (by decide)) (by rfl))) (vss_nil)) (vss_one (vs_append (pv 6) (ve_vs 7))))))) (vss_one (vs_ret (ve_v 6)))))
theorem sc_spans_of : FnScope ["hours", "found", "hour", "own"] ["hours"] (defScope (top 17)) := ⟨rfl, rfl, rfl, by decide +kernel, rfl, by decide +kernel, by decide +kernel⟩
theorem ok_spans_of (T : Txt P K mg) : DefOk P w K mg base aw "spans_of" 1 1 f_spans_of [[]] := by
  obtain ⟨fd, F⟩ := T.c.def_ 7 (d := ⟨("spans_of", none), "spans_of", "spans_of", defArgs (top 17), defBody (top 17), defScope (top 17), [], []⟩) rfl
  refine def_ok0 (ps := ["hours"]) F T.g_spans_of sc_spans_of (fun _ _ _ _ _ _ us hl => match us, hl with | [_], _ => rfl) (fun cdv A outer s H E hr => ?_)
  exact vss_cons (vs_setF (i := 1) sc_spans_of.nd rfl (by first | exact Or.inl rfl | exact Or.inr rfl) (vf_lst (va_nil))) (vss_cons (vs_for (kl := [2, 3]) PassesOwn.never rfl (gok_tup (gok_cons (gok_name 2) (gok_cons (gok_name 3) (gok_nil)))) (vi_enumA (by rfl) T.m_enumerate (va_cons (ve_vs 0) (va_nil))) (pg_tup rfl (pgs_cons (pg_name (i := 2) sc_spans_of.nd rfl (by first | exact Or.inl rfl | exact Or.inr rfl)) (pgs_cons (pg_name (i := 3) sc_spans_of.nd rfl (by first | exact Or.inl rfl | exact Or.inr rfl)) (pgs_nil)))) (vss_one (vs_if (vt_w (vw_and (vt_tru (ve_vs 3)) (vw_and (vt_tru (ve_v 1)) (vw_and1 (vt_cmp (op_eqD hr.units) ok_eq (ve_ix (hu_of hr) (ve_ix (hu_of hr) (ve_v 1) (ve_neg (ve_int))) (ve_int)) (ve_op op_sub ok_sub (ve_vs 2) (ve_int)) (nomark _)))))) (vss_one (vs_put (pv 1) (ve_neg (ve_int)) (ve_tup (va_cons (ve_ix (hu_of hr) (ve_ix (hu_of hr) (ve_v 1) (ve_neg (ve_int))) (ve_int)) (va_cons (ve_vs 2) (va_nil)))))) (vss_one (vs_if (vt_tru (ve_vs 3)) (vss_one (vs_append (pv 1) (ve_tup (va_cons (ve_vs 2) (va_cons (ve_vs 2) (va_nil)))))) (vss_nil)))))) (vss_one (vs_ret (ve_v 1))))
theorem sc_alarms_of : FnScope ["rule", "readings"] ["rule", "readings"] (defScope (top 18)) := ⟨rfl, rfl, rfl, by decide +kernel, rfl, by decide +kernel, by decide +kernel⟩
theorem ok_alarms_of (T : Txt P K mg) : DefOk P w K mg base aw "alarms_of" 5 2 f_alarms_of [[]] := by
  obtain ⟨fd, F⟩ := T.c.def_ 8 (d := ⟨("alarms_of", none), "alarms_of", "alarms_of", defArgs (top 18), defBody (top 18), defScope (top 18), [], []⟩) rfl
  have G_spans_of := ok_spans_of (P := P) (w := w) (base := base) (aw := aw) T
  have G_hours_on := ok_hours_on (P := P) (w := w) (base := base) (aw := aw) T
  have G_check_readings := ok_check_readings (P := P) (w := w) (base := base) (aw := aw) T
  have G_check_rule := ok_check_rule (P := P) (w := w) (base := base) (aw := aw) T
  refine def_ok0 (ps := ["rule", "readings"]) F T.g_alarms_of sc_alarms_of (fun _ _ _ _ _ _ us hl => match us, hl with | [_, _], _ => rfl) (fun cdv A outer s H E hr => ?_)
  exact vss_cons (vs_expr (ve_callD [] G_check_rule (hr.mono (by decide)) (by rfl) (by repeat (first | exact List.Mem.head _ | apply List.Mem.tail)) (by rfl) (va_cons (ve_vs 0) (va_nil)))) (vss_cons (vs_expr (ve_callD [] G_check_readings (hr.mono (by decide)) (by rfl) (by repeat (first | exact List.Mem.head _ | apply List.Mem.tail)) (by rfl) (va_cons (ve_vs 1) (va_nil)))) (vss_one (vs_ret (ve_callTy call_tuple_of ok_tupOf (by rfl) T.m_tuple (by decide +kernel) (va_cons (ve_callD [] G_spans_of (hr.mono (by decide)) (by rfl) (by repeat (first | exact List.Mem.head _ | apply List.Mem.tail)) (by rfl) (va_cons (ve_callD [] G_hours_on (hr.mono (by decide)) (by rfl) (by repeat (first | exact List.Mem.head _ | apply List.Mem.tail)) (by rfl) (va_cons (ve_vs 0) (va_cons (ve_vs 1) (va_nil)))) (va_nil))) (va_nil))))))
theorem sc_judge_hours : FnScope ["rule", "lows", "highs", "sure", "can", "own", "may"] ["rule", "lows", "highs"] (defScope (top 19)) := ⟨rfl, rfl, rfl, by decide +kernel, rfl, by decide +kernel, by decide +kernel⟩
theorem ok_judge_hours (T : Txt P K mg) : DefOk P w K mg base aw "judge_hours" 5 3 f_judge_hours [[]] := by
  obtain ⟨fd, F⟩ := T.c.def_ 9 (d := ⟨("judge_hours", none), "judge_hours", "judge_hours", defArgs (top 19), defBody (top 19), defScope (top 19), [], []⟩) rfl
  have G_hours_on := ok_hours_on (P := P) (w := w) (base := base) (aw := aw) T
  have G_check_bounds := ok_check_bounds (P := P) (w := w) (base := base) (aw := aw) T
  have G_check_rule := ok_check_rule (P := P) (w := w) (base := base) (aw := aw) T
  refine def_ok0 (ps := ["rule", "lows", "highs"]) F T.g_judge_hours sc_judge_hours (fun _ _ _ _ _ _ us hl => match us, hl with | [_, _, _], _ => rfl) (fun cdv A outer s H E hr => ?_)
  exact vss_cons (vs_expr (ve_callD [] G_check_rule (hr.mono (by decide)) (by rfl) (by repeat (first | exact List.Mem.head _ | apply List.Mem.tail)) (by rfl) (va_cons (ve_vs 0) (va_nil)))) (vss_cons (vs_expr (ve_callD [] G_check_bounds (hr.mono (by decide)) (by rfl) (by repeat (first | exact List.Mem.head _ | apply List.Mem.tail)) (by rfl) (va_cons (ve_vs 1) (va_cons (ve_vs 2) (va_nil))))) (vss_cons (vs_par2 (i := 3) (j := 4) rfl sc_judge_hours.nd rfl rfl (by decide) rfl rfl (show VP _ _ _ [] _ from vp_sh (ve_callD [] G_hours_on (hr.mono (by decide)) (by rfl) (by repeat (first | exact List.Mem.head _ | apply List.Mem.tail)) (by rfl) (va_cons (ve_vs 0) (va_cons (ve_vs 1) (va_nil)))) (vp_sh (ve_callD [] G_hours_on (hr.mono (by decide)) (by rfl) (by repeat (first | exact List.Mem.head _ | apply List.Mem.tail)) (by rfl) (va_cons (ve_vs 0) (va_cons (ve_vs 2) (va_nil)))) (vp_nil) (by decide)) (by decide)) (by rfl)) (vss_one (vs_ret (ve_callTy call_tuple_of ok_tupOf (by rfl) T.m_tuple (by decide +kernel) (va_cons (VF.ve (vf_comp (own := [("own", 5), ("may", 6)]) rfl sc_judge_hours.nd (vi_zipA (by rfl) T.m_zip (va_cons (ve_vs 3) (va_cons (ve_vs 4) (va_nil)))) (blkOk_by (own := [("own", 5), ("may", 6)]) (by rfl)) (gok_tup (gok_cons (gok_name 5) (gok_cons (gok_name 6) (gok_nil)))) (fun _ _ _ _ _ => pg_tup rfl (pgs_cons (pg_name (i := 5) sc_judge_hours.nd rfl (by first | exact Or.inl rfl | exact Or.inr rfl)) (pgs_cons (pg_name (i := 6) sc_judge_hours.nd rfl (by first | exact Or.inl rfl | exact Or.inr rfl)) (pgs_nil)))) (fun _ _ _ _ _ => vts_nil) (fun _ _ _ _ _ => ve_if (vt_tru (ve_vs 5)) (ve_str) (ve_if (vt_tru (ve_vs 6)) (ve_str) (ve_str))) (by intro i h; first | exact h | simp_all))) (va_nil)))))))
theorem sc_accept_open : FnScope ["rule", "lows", "highs", "hour", "one", "other", "own", "low", "reading", "high"] ["rule", "lows", "highs", "hour", "one", "other"] (defScope (top 20)) := ⟨rfl, rfl, rfl, by decide +kernel, rfl, by decide +kernel, by decide +kernel⟩
theorem ok_accept_open (T : Txt P K mg) : XDefOk P w K mg base aw (peC K) "accept_open" 5 6 f_accept_open := by
  obtain ⟨fd, F⟩ := T.c.def_ 10 (d := ⟨("accept_open", none), "accept_open", "accept_open", defArgs (top 20), defBody (top 20), defScope (top 20), [], []⟩) rfl
  have G_hours_on := ok_hours_on (P := P) (w := w) (base := base) (aw := aw) T
  have G_are_readings := ok_are_readings (P := P) (w := w) (base := base) (aw := aw) T
  have G_is_between := ok_is_between (P := P) (w := w) (base := base) (aw := aw) T
  have G_check_bounds := ok_check_bounds (P := P) (w := w) (base := base) (aw := aw) T
  have G_check_rule := ok_check_rule (P := P) (w := w) (base := base) (aw := aw) T
  refine xdef_ok (ps := ["rule", "lows", "highs", "hour", "one", "other"]) F T.g_accept_open sc_accept_open (fun _ _ _ _ _ _ us hl => match us, hl with | [_, _, _, _, _, _], _ => rfl) (fun cdv A outer s H E hr => ?_)
  exact vxs_cons (vx_up (vs_expr (ve_callD [] G_check_rule (hr.mono (by decide)) (by rfl) (by repeat (first | exact List.Mem.head _ | apply List.Mem.tail)) (by rfl) (va_cons (ve_vs 0) (va_nil))))) (vxs_cons (vx_up (vs_expr (ve_callD [] G_check_bounds (hr.mono (by decide)) (by rfl) (by repeat (first | exact List.Mem.head _ | apply List.Mem.tail)) (by rfl) (va_cons (ve_vs 1) (va_cons (ve_vs 2) (va_nil)))))) (vxs_cons (vx_up (vs_if (vt_not (vt_tru (ve_callD [] G_is_between (hr.mono (by decide)) (by rfl) (by repeat (first | exact List.Mem.head _ | apply List.Mem.tail)) (by rfl) (va_cons (ve_vs 3) (va_cons (ve_int) (va_cons (ve_op op_sub ok_sub (ve_callB call_len ok_len (by rfl) T.m_len (by decide +kernel) (va_cons (ve_vs 1) (va_nil))) (ve_int)) (va_nil))))))) (vss_one (vs_never)) (vss_nil))) (vxs_cons (vx_for (kl := [6]) (passes_of rfl) rfl (gok_name 6) (vi_seq (ve_tup (va_cons (ve_vs 4) (va_cons (ve_vs 5) (va_nil))))) (pg_name (i := 6) sc_accept_open.nd rfl (by first | exact Or.inl rfl | exact Or.inr rfl)) (vxs_cons (vx_if (vt_w (vw_or (vt_not (vt_tru (ve_callD [] G_are_readings (hr.mono (by decide)) (by rfl) (by repeat (first | exact List.Mem.head _ | apply List.Mem.tail)) (by rfl) (va_cons (ve_vs 6) (va_nil))))) (vw_or1 (vt_cmp (op_neD hr.units) ok_ne (ve_callB call_len ok_len (by rfl) T.m_len (by decide +kernel) (va_cons (ve_vs 6) (va_nil))) (ve_callB call_len ok_len (by rfl) T.m_len (by decide +kernel) (va_cons (ve_vs 1) (va_nil))) (nomark _))))) (vxs_one (vx_raise (k := 0) rfl (takes_of rfl rfl rfl rfl) T.pe (by rfl) T.g_PaperError (hr.mono (by decide)))) (vxs_up vss_nil)) (vxs_one (vx_if (vt_tru (VF.ve (vf_comp (own := [("low", 7), ("reading", 8), ("high", 9)]) rfl sc_accept_open.nd (vi_zip3 (by rfl) T.m_zip (va_cons (ve_vs 1) (va_cons (ve_vs 6) (va_cons (ve_vs 2) (va_nil))))) (blkOk_by (own := [("low", 7), ("reading", 8), ("high", 9)]) (by rfl)) (gok_tup (gok_cons (gok_name 7) (gok_cons (gok_name 8) (gok_cons (gok_name 9) (gok_nil))))) (fun _ _ _ _ _ => pg_tup rfl (pgs_cons (pg_name (i := 7) sc_accept_open.nd rfl (by first | exact Or.inl rfl | exact Or.inr rfl)) (pgs_cons (pg_name (i := 8) sc_accept_open.nd rfl (by first | exact Or.inl rfl | exact Or.inr rfl)) (pgs_cons (pg_name (i := 9) sc_accept_open.nd rfl (by first | exact Or.inl rfl | exact Or.inr rfl)) (pgs_nil))))) (fun _ _ _ _ _ => vts_one (vt_not (vt_chain op_le ok_le op_le ok_le (ve_vs 7) (ve_vs 8) (ve_vs 9)))) (fun _ _ _ _ _ => ve_int) (by intro i h; first | exact h | simp_all)))) (vxs_one (vx_raise (k := 0) rfl (takes_of rfl rfl rfl rfl) T.pe (by rfl) T.g_PaperError (hr.mono (by decide)))) (vxs_up vss_nil))))) (vxs_cons (vx_if (vt_not (vt_tru (ve_ix (hu_of hr) (ve_callD [] G_hours_on (hr.mono (by decide)) (by rfl) (by repeat (first | exact List.Mem.head _ | apply List.Mem.tail)) (by rfl) (va_cons (ve_vs 0) (va_cons (ve_vs 4) (va_nil)))) (ve_vs 3)))) (vxs_one (vx_raise (k := 0) rfl (takes_of rfl rfl rfl rfl) T.pe (by rfl) T.g_PaperError (hr.mono (by decide)))) (vxs_up vss_nil)) (vxs_one (vx_if (vt_tru (ve_ix (hu_of hr) (ve_callD [] G_hours_on (hr.mono (by decide)) (by rfl) (by repeat (first | exact List.Mem.head _ | apply List.Mem.tail)) (by rfl) (va_cons (ve_vs 0) (va_cons (ve_vs 5) (va_nil)))) (ve_vs 3))) (vxs_one (vx_raise (k := 0) rfl (takes_of rfl rfl rfl rfl) T.pe (by rfl) T.g_PaperError (hr.mono (by decide)))) (vxs_up vss_nil)))))))
theorem sc_first_alarm : FnScope ["rule", "lows", "highs", "ends", "own", "hours", "hour", "rings"] ["rule", "lows", "highs"] (defScope (top 21)) := ⟨rfl, rfl, rfl, by decide +kernel, rfl, by decide +kernel, by decide +kernel⟩
theorem ok_first_alarm (T : Txt P K mg) : DefOk P w K mg base aw "first_alarm" 5 3 f_first_alarm [[]] := by
  obtain ⟨fd, F⟩ := T.c.def_ 11 (d := ⟨("first_alarm", none), "first_alarm", "first_alarm", defArgs (top 21), defBody (top 21), defScope (top 21), [], []⟩) rfl
  have G_hours_on := ok_hours_on (P := P) (w := w) (base := base) (aw := aw) T
  have G_check_bounds := ok_check_bounds (P := P) (w := w) (base := base) (aw := aw) T
  have G_check_rule := ok_check_rule (P := P) (w := w) (base := base) (aw := aw) T
  refine def_ok0 (ps := ["rule", "lows", "highs"]) F T.g_first_alarm sc_first_alarm (fun _ _ _ _ _ _ us hl => match us, hl with | [_, _, _], _ => rfl) (fun cdv A outer s H E hr => ?_)
  exact vss_cons (vs_expr (ve_callD [] G_check_rule (hr.mono (by decide)) (by rfl) (by repeat (first | exact List.Mem.head _ | apply List.Mem.tail)) (by rfl) (va_cons (ve_vs 0) (va_nil)))) (vss_cons (vs_expr (ve_callD [] G_check_bounds (hr.mono (by decide)) (by rfl) (by repeat (first | exact List.Mem.head _ | apply List.Mem.tail)) (by rfl) (va_cons (ve_vs 1) (va_cons (ve_vs 2) (va_nil))))) (vss_cons (vs_setF (i := 3) sc_first_alarm.nd rfl (by first | exact Or.inl rfl | exact Or.inr rfl) (vf_lst (va_nil))) (vss_cons (vs_for (kl := [4, 5]) PassesOwn.never rfl (gok_name 4) (vi_seq (ve_tup (va_cons (ve_vs 2) (va_cons (ve_vs 1) (va_nil))))) (pg_name (i := 4) sc_first_alarm.nd rfl (by first | exact Or.inl rfl | exact Or.inr rfl)) (vss_cons ((vs_setLc (i := 5) (own := [("hour", 6), ("rings", 7)]) rfl sc_first_alarm.nd rfl rfl (sw_true rfl rfl rfl (by decide +kernel)) (vi_enumA (by rfl) T.m_enumerate (va_cons (ve_callD [] G_hours_on (hr.mono (by decide)) (by rfl) (by repeat (first | exact List.Mem.head _ | apply List.Mem.tail)) (by rfl) (va_cons (ve_vs 0) (va_cons (ve_vs 4) (va_nil)))) (va_nil))) (blkOk_by (own := [("hour", 6), ("rings", 7)]) (by rfl)) (gok_tup (gok_cons (gok_name 6) (gok_cons (gok_name 7) (gok_nil)))) (fun _ _ _ _ _ => pg_tup rfl (pgs_cons (pg_name (i := 6) sc_first_alarm.nd rfl (by first | exact Or.inl rfl | exact Or.inr rfl)) (pgs_cons (pg_name (i := 7) sc_first_alarm.nd rfl (by first | exact Or.inl rfl | exact Or.inr rfl)) (pgs_nil)))) (fun _ _ _ _ _ => vts_one (vt_tru (ve_vs 7))) (fun _ _ _ _ _ => ve_vs 6) (by intro i h; first | exact h | simp_all)).1) (vss_one (vs_append (pv 3) (ve_if (vt_tru (ve_vs 5)) (ve_ix (hu_of hr) (ve_vs 5) (ve_int)) (ve_non)))))) (vss_one (vs_ret (ve_tup (va_cons (ve_ix (hu_of hr) (ve_v 3) (ve_int)) (va_cons (ve_ix (hu_of hr) (ve_v 3) (ve_int)) (va_nil)))))))))
theorem sc__law_rows : FnScope ["some", "many", "rows", "turn", "more", "own", "one"] ["some", "many"] (defScope (top 25)) := ⟨rfl, rfl, rfl, by decide +kernel, rfl, by decide +kernel, by decide +kernel⟩
theorem ok__law_rows (T : Txt P K mg) : DefOk P w K mg base aw "_law_rows" 1 2 f__law_rows [[]] := by
  obtain ⟨fd, F⟩ := T.c.def_ 14 (d := ⟨("_law_rows", none), "_law_rows", "_law_rows", defArgs (top 25), defBody (top 25), defScope (top 25), [], []⟩) rfl
  refine def_ok0 (ps := ["some", "many"]) F T.g__law_rows sc__law_rows (fun _ _ _ _ _ _ us hl => match us, hl with | [_, _], _ => rfl) (fun cdv A outer s H E hr => ?_)
  exact vss_cons (vs_set (i := 2) sc__law_rows.nd rfl (by first | exact Or.inl rfl | exact Or.inr rfl) (ve_lst (va_cons (ve_tup (va_nil)) (va_nil)))) (vss_cons (vs_for (kl := [3, 4, 5]) PassesOwn.never rfl (gok_name 3) (vi_range1 (by rfl) T.m_range (va_cons (ve_vs 1) (va_nil))) (pg_name (i := 3) sc__law_rows.nd rfl (by first | exact Or.inl rfl | exact Or.inr rfl)) (vss_cons (vs_setF (i := 4) sc__law_rows.nd rfl (by first | exact Or.inl rfl | exact Or.inr rfl) (vf_lst (va_nil))) (vss_cons (vs_for (kl := [5]) PassesOwn.never rfl (gok_name 5) (vi_seq (ve_vs 2)) (pg_name (i := 5) sc__law_rows.nd rfl (by first | exact Or.inl rfl | exact Or.inr rfl)) (vss_one (vs_extend (pv 4) (VF.ve (vf_comp (own := [("one", 6)]) rfl sc__law_rows.nd (vi_seq (ve_vs 0)) (blkOk_by (own := [("one", 6)]) (by rfl)) (gok_name 6) (fun _ _ _ _ _ => pg_name (i := 6) sc__law_rows.nd rfl (by first | exact Or.inl rfl | exact Or.inr rfl)) (fun _ _ _ _ _ => vts_nil) (fun _ _ _ _ _ => ve_op op_addA ok_add (ve_vs 5) (ve_tup (va_cons (ve_vs 6) (va_nil)))) (by intro i h; first | exact h | simp_all)))))) (vss_one (vs_set (i := 2) sc__law_rows.nd rfl (by first | exact Or.inl rfl | exact Or.inr rfl) (ve_v 4)))))) (vss_one (vs_ret (ve_vs 2))))
theorem sc__law_is_taken : FnScope ["accept", "some"] ["accept", "some"] (defScope (top 26)) := ⟨rfl, rfl, rfl, by decide +kernel, rfl, by decide +kernel, by decide +kernel⟩
theorem ok__law_is_taken (T : Txt P K mg) : DefOk P w K mg base aw "_law_is_taken" 6 2 f__law_is_taken [[]] := by
  obtain ⟨fd, F⟩ := T.c.def_ 15 (d := ⟨("_law_is_taken", none), "_law_is_taken", "_law_is_taken", defArgs (top 26), defBody (top 26), defScope (top 26), [], []⟩) rfl
  have G_accept_open := ok_accept_open (P := P) (w := w) (base := base) (aw := aw) T
  have TB : TblOk P w K mg base aw (peC K) 5 tbl := tbl_cons G_accept_open (by decide) (tbl_nil)
  refine def_ok0 (ps := ["accept", "some"]) F T.g__law_is_taken sc__law_is_taken (fun _ _ _ _ _ _ us hl => match us, hl with | [_, _], _ => rfl) (fun cdv A outer s H E hr => ?_)
  exact vss_one (vs_try rfl rfl ⟨by rfl, by decide, .inl T.g_PaperError⟩ T.em (fun W pn xe tk => vxs_cons (vx_if (vt_cmp (op_eqD hr.units) ok_eq (ve_callB call_len ok_len (by rfl) T.m_len (by decide +kernel) (va_cons (ve_vs 1) (va_nil))) (ve_int) (nomark _)) (vxs_one (vx_retIs (px_callV (i := 0) tk TB (hr.mono (by decide)) (by rfl) (by first | exact Or.inl rfl | exact Or.inr (Or.inl rfl) | exact Or.inr (Or.inr rfl)) (va_cons (ve_ix (hu_of hr) (ve_vs 1) (ve_int)) (va_cons (ve_ix (hu_of hr) (ve_vs 1) (ve_int)) (va_nil)))))) (vxs_up vss_nil)) (vxs_cons (vx_if (vt_cmp (op_eqD hr.units) ok_eq (ve_callB call_len ok_len (by rfl) T.m_len (by decide +kernel) (va_cons (ve_vs 1) (va_nil))) (ve_int) (nomark _)) (vxs_one (vx_retIs (px_callV (i := 0) tk TB (hr.mono (by decide)) (by rfl) (by first | exact Or.inl rfl | exact Or.inr (Or.inl rfl) | exact Or.inr (Or.inr rfl)) (va_cons (ve_ix (hu_of hr) (ve_vs 1) (ve_int)) (va_cons (ve_ix (hu_of hr) (ve_vs 1) (ve_int)) (va_cons (ve_ix (hu_of hr) (ve_vs 1) (ve_int)) (va_nil))))))) (vxs_up vss_nil)) (vxs_cons (vx_if (vt_cmp (op_eqD hr.units) ok_eq (ve_callB call_len ok_len (by rfl) T.m_len (by decide +kernel) (va_cons (ve_vs 1) (va_nil))) (ve_int) (nomark _)) (vxs_one (vx_retIs (px_callV (i := 0) tk TB (hr.mono (by decide)) (by rfl) (by first | exact Or.inl rfl | exact Or.inr (Or.inl rfl) | exact Or.inr (Or.inr rfl)) (va_cons (ve_ix (hu_of hr) (ve_vs 1) (ve_int)) (va_cons (ve_ix (hu_of hr) (ve_vs 1) (ve_int)) (va_cons (ve_ix (hu_of hr) (ve_vs 1) (ve_int)) (va_cons (ve_ix (hu_of hr) (ve_vs 1) (ve_int)) (va_nil)))))))) (vxs_up vss_nil)) (vxs_cons (vx_if (vt_cmp (op_eqD hr.units) ok_eq (ve_callB call_len ok_len (by rfl) T.m_len (by decide +kernel) (va_cons (ve_vs 1) (va_nil))) (ve_int) (nomark _)) (vxs_one (vx_retIs (px_callV (i := 0) tk TB (hr.mono (by decide)) (by rfl) (by first | exact Or.inl rfl | exact Or.inr (Or.inl rfl) | exact Or.inr (Or.inr rfl)) (va_cons (ve_ix (hu_of hr) (ve_vs 1) (ve_int)) (va_cons (ve_ix (hu_of hr) (ve_vs 1) (ve_int)) (va_cons (ve_ix (hu_of hr) (ve_vs 1) (ve_int)) (va_cons (ve_ix (hu_of hr) (ve_vs 1) (ve_int)) (va_cons (ve_ix (hu_of hr) (ve_vs 1) (ve_int)) (va_nil))))))))) (vxs_up vss_nil)) (vxs_one (vx_retIs (px_callV (i := 0) tk TB (hr.mono (by decide)) (by rfl) (by first | exact Or.inl rfl | exact Or.inr (Or.inl rfl) | exact Or.inr (Or.inr rfl)) (va_cons (ve_ix (hu_of hr) (ve_vs 1) (ve_int)) (va_cons (ve_ix (hu_of hr) (ve_vs 1) (ve_int)) (va_cons (ve_ix (hu_of hr) (ve_vs 1) (ve_int)) (va_cons (ve_ix (hu_of hr) (ve_vs 1) (ve_int)) (va_cons (ve_ix (hu_of hr) (ve_vs 1) (ve_int)) (va_cons (ve_ix (hu_of hr) (ve_vs 1) (ve_int)) (va_nil)))))))))))))))
theorem sc__law_alarms_hold : FnScope ["state", "off", "rule", "lows", "highs", "rows", "k", "longer", "own", "told", "rings", "firsts", "hours", "first", "last", "hour", "can", "may", "one", "other", "known"] ["state"] (defScope (top 27)) := ⟨rfl, rfl, rfl, by decide +kernel, rfl, by decide +kernel, by decide +kernel⟩
theorem ok__law_alarms_hold (T : Txt P K mg) : DefOk P w K mg base aw "_law_alarms_hold" 7 1 f__law_alarms_hold [[]] := by
  obtain ⟨fd, F⟩ := T.c.def_ 16 (d := ⟨("_law_alarms_hold", none), "_law_alarms_hold", "_law_alarms_hold", defArgs (top 27), defBody (top 27), defScope (top 27), [], []⟩) rfl
  have G_first_alarm := ok_first_alarm (P := P) (w := w) (base := base) (aw := aw) T
  have G__law_rows := ok__law_rows (P := P) (w := w) (base := base) (aw := aw) T
  have G__law_is_taken := ok__law_is_taken (P := P) (w := w) (base := base) (aw := aw) T
  have G_alarms_of := ok_alarms_of (P := P) (w := w) (base := base) (aw := aw) T
  have G_judge_hours := ok_judge_hours (P := P) (w := w) (base := base) (aw := aw) T
  have G__law_draw := ok__law_draw (P := P) (w := w) (base := base) (aw := aw) T
  refine def_ok0 (ps := ["state"]) F T.g__law_alarms_hold sc__law_alarms_hold (fun _ _ _ _ _ _ us hl => match us, hl with | [_], _ => rfl) (fun cdv A outer s H E hr => ?_)
  exact vss_cons (vs_set (i := 1) sc__law_alarms_hold.nd rfl (by first | exact Or.inl rfl | exact Or.inr rfl) (ve_callD [] G__law_draw (hr.mono (by decide)) (by rfl) (by repeat (first | exact List.Mem.head _ | apply List.Mem.tail)) (by rfl) (va_cons (ve_vs 0) (va_cons (ve_int) (va_nil))))) (vss_cons (vs_set (i := 2) sc__law_alarms_hold.nd rfl (by first | exact Or.inl rfl | exact Or.inr rfl) (ve_tup (va_cons (ve_op op_addA ok_add (ve_vs 1) (ve_callD [] G__law_draw (hr.mono (by decide)) (by rfl) (by repeat (first | exact List.Mem.head _ | apply List.Mem.tail)) (by rfl) (va_cons (ve_vs 0) (va_cons (ve_int) (va_nil))))) (va_cons (ve_vs 1) (va_cons (ve_op op_addA ok_add (ve_int) (ve_callD [] G__law_draw (hr.mono (by decide)) (by rfl) (by repeat (first | exact List.Mem.head _ | apply List.Mem.tail)) (by rfl) (va_cons (ve_vs 0) (va_cons (ve_int) (va_nil))))) (va_cons (ve_op op_addA ok_add (ve_int) (ve_callD [] G__law_draw (hr.mono (by decide)) (by rfl) (by repeat (first | exact List.Mem.head _ | apply List.Mem.tail)) (by rfl) (va_cons (ve_vs 0) (va_cons (ve_int) (va_nil))))) (va_nil))))))) (vss_cons (vs_par3 (i := 3) (j := 4) (l := 5) rfl sc__law_alarms_hold.nd rfl rfl rfl (by decide) (by decide) (by decide) rfl rfl rfl (show VP _ _ _ [] _ from vp_own (vf_lst (va_nil)) (vp_own (vf_lst (va_nil)) (vp_sh (ve_lst (va_cons (ve_tup (va_nil)) (va_nil))) (vp_nil) (by decide)) (by decide)) (by decide)) (by rfl)) (vss_cons (vs_for (kl := [7]) PassesOwn.never rfl (gok_name 6) (vi_range1 (by rfl) T.m_range (va_cons (ve_op op_addA ok_add (ve_int) (ve_callD [] G__law_draw (hr.mono (by decide)) (by rfl) (by repeat (first | exact List.Mem.head _ | apply List.Mem.tail)) (by rfl) (va_cons (ve_vs 0) (va_cons (ve_int) (va_nil))))) (va_nil))) (pg_name (i := 6) sc__law_alarms_hold.nd rfl (by first | exact Or.inl rfl | exact Or.inr rfl)) (vss_cons (vs_append (pv 3) (ve_callD [] G__law_draw (hr.mono (by decide)) (by rfl) (by repeat (first | exact List.Mem.head _ | apply List.Mem.tail)) (by rfl) (va_cons (ve_vs 0) (va_cons (ve_int) (va_nil))))) (vss_cons (vs_append (pv 4) (ve_op op_addA ok_add (ve_ix (hu_of hr) (ve_v 3) (ve_neg (ve_int))) (ve_callD [] G__law_draw (hr.mono (by decide)) (by rfl) (by repeat (first | exact List.Mem.head _ | apply List.Mem.tail)) (by rfl) (va_cons (ve_vs 0) (va_cons (ve_int) (va_nil)))))) (vss_cons (vs_setF (i := 7) sc__law_alarms_hold.nd rfl (by first | exact Or.inl rfl | exact Or.inr rfl) (vf_lst (va_nil))) (vss_cons (vs_for (kl := []) PassesOwn.never rfl (gok_name 8) (vi_seq (ve_vs 5)) (pg_name (i := 8) sc__law_alarms_hold.nd rfl (by first | exact Or.inl rfl | exact Or.inr rfl)) (vss_one (vs_extend (pv 7) (VF.ve (vf_comp (own := [("one", 18)]) rfl sc__law_alarms_hold.nd (vi_range2 (by rfl) T.m_range (va_cons (ve_ix (hu_of hr) (ve_v 3) (ve_neg (ve_int))) (va_cons (ve_op op_addA ok_add (ve_ix (hu_of hr) (ve_v 4) (ve_neg (ve_int))) (ve_int)) (va_nil)))) (blkOk_by (own := [("one", 18)]) (by rfl)) (gok_name 18) (fun _ _ _ _ _ => pg_name (i := 18) sc__law_alarms_hold.nd rfl (by first | exact Or.inl rfl | exact Or.inr rfl)) (fun _ _ _ _ _ => vts_nil) (fun _ _ _ _ _ => ve_op op_addA ok_add (ve_vs 8) (ve_tup (va_cons (ve_vs 18) (va_nil)))) (by intro i h; first | exact h | simp_all)))))) (vss_one (vs_set (i := 5) sc__law_alarms_hold.nd rfl (by first | exact Or.inl rfl | exact Or.inr rfl) (ve_v 7)))))))) (vss_cons (vs_par3 (i := 3) (j := 4) (l := 9) rfl sc__law_alarms_hold.nd rfl rfl rfl (by decide) (by decide) (by decide) rfl rfl rfl (show VP _ _ _ [] _ from vp_sh (ve_callTy call_tuple_of ok_tupOf (by rfl) T.m_tuple (by decide +kernel) (va_cons (ve_v 3) (va_nil))) (vp_sh (ve_callTy call_tuple_of ok_tupOf (by rfl) T.m_tuple (by decide +kernel) (va_cons (ve_v 4) (va_nil))) (vp_sh (ve_callD [] G_judge_hours (hr.mono (by decide)) (by rfl) (by repeat (first | exact List.Mem.head _ | apply List.Mem.tail)) (by rfl) (va_cons (ve_vs 2) (va_cons (ve_callTy call_tuple_of ok_tupOf (by rfl) T.m_tuple (by decide +kernel) (va_cons (ve_v 3) (va_nil))) (va_cons (ve_callTy call_tuple_of ok_tupOf (by rfl) T.m_tuple (by decide +kernel) (va_cons (ve_v 4) (va_nil))) (va_nil))))) (vp_nil) (by decide)) (by decide)) (by decide)) (by rfl)) (vss_cons (vs_parN (is := [10, 11]) (show VP _ _ _ [] _ from vp_own (vf_lst (va_nil)) (vp_own (vf_lst (va_nil)) (vp_nil) (by decide)) (by decide)) (pg_tup rfl (pgs_cons (pg_name (i := 10) sc__law_alarms_hold.nd rfl (by first | exact Or.inl rfl | exact Or.inr rfl)) (pgs_cons (pg_name (i := 11) sc__law_alarms_hold.nd rfl (by first | exact Or.inl rfl | exact Or.inr rfl)) (pgs_nil)))) (by decide)) (vss_cons (vs_for (kl := [12, 13, 14]) PassesOwn.never rfl (gok_name 8) (vi_seq (ve_vs 5)) (pg_name (i := 8) sc__law_alarms_hold.nd rfl (by first | exact Or.inl rfl | exact Or.inr rfl)) (vss_cons (vs_setF (i := 12) sc__law_alarms_hold.nd rfl (by first | exact Or.inl rfl | exact Or.inr rfl) (vf_lst (va_nil))) (vss_cons (vs_for (kl := [13, 14]) PassesOwn.never rfl (gok_tup (gok_cons (gok_name 13) (gok_cons (gok_name 14) (gok_nil)))) (vi_seq (ve_callD [] G_alarms_of (hr.mono (by decide)) (by rfl) (by repeat (first | exact List.Mem.head _ | apply List.Mem.tail)) (by rfl) (va_cons (ve_vs 2) (va_cons (ve_vs 8) (va_nil))))) (pg_tup rfl (pgs_cons (pg_name (i := 13) sc__law_alarms_hold.nd rfl (by first | exact Or.inl rfl | exact Or.inr rfl)) (pgs_cons (pg_name (i := 14) sc__law_alarms_hold.nd rfl (by first | exact Or.inl rfl | exact Or.inr rfl)) (pgs_nil)))) (vss_one (vs_extend (pv 12) (ve_listRg (by rfl) T.m_list (vrg2 (by rfl) T.m_range (ve_vs 13) (ve_op op_addA ok_add (ve_vs 14) (ve_int))))))) (vss_cons (vs_append (pv 10) (ve_v 12)) (vss_one (vs_append (pv 11) (ve_if (vt_tru (ve_v 12)) (ve_ix (hu_of hr) (ve_v 12) (ve_int)) (ve_non)))))))) (vss_cons (vs_for (kl := [15, 16, 17, 18, 19]) PassesOwn.never rfl (gok_name 15) (vi_range1 (by rfl) T.m_range (va_cons (ve_callB call_len ok_len (by rfl) T.m_len (by decide +kernel) (va_cons (ve_v 3) (va_nil))) (va_nil))) (pg_name (i := 15) sc__law_alarms_hold.nd rfl (by first | exact Or.inl rfl | exact Or.inr rfl)) (vss_cons (vs_par2 (i := 16) (j := 17) rfl sc__law_alarms_hold.nd rfl rfl (by decide) rfl rfl (show VP _ _ _ [] _ from vp_sh (VF.ve (vf_comp (own := [("k", 6)]) rfl sc__law_alarms_hold.nd (vi_range1 (by rfl) T.m_range (va_cons (ve_callB call_len ok_len (by rfl) T.m_len (by decide +kernel) (va_cons (ve_vs 5) (va_nil))) (va_nil))) (blkOk_by (own := [("k", 6)]) (by rfl)) (gok_name 6) (fun _ _ _ _ _ => pg_name (i := 6) sc__law_alarms_hold.nd rfl (by first | exact Or.inl rfl | exact Or.inr rfl)) (fun _ _ _ _ _ => vts_one (vt_cmp (op_inS (room65 hr)) ok_inS (ve_vs 15) (ve_ix (hu_of hr) (ve_v 10) (ve_vs 6)) (by rfl))) (fun _ _ _ _ _ => ve_vs 6) (by intro i h; first | exact h | simp_all))) (vp_sh (VF.ve (vf_comp (own := [("k", 6)]) rfl sc__law_alarms_hold.nd (vi_range1 (by rfl) T.m_range (va_cons (ve_callB call_len ok_len (by rfl) T.m_len (by decide +kernel) (va_cons (ve_vs 5) (va_nil))) (va_nil))) (blkOk_by (own := [("k", 6)]) (by rfl)) (gok_name 6) (fun _ _ _ _ _ => pg_name (i := 6) sc__law_alarms_hold.nd rfl (by first | exact Or.inl rfl | exact Or.inr rfl)) (fun _ _ _ _ _ => vts_one (vt_cmp (op_notInS (room65 hr)) ok_notinS (ve_vs 15) (ve_ix (hu_of hr) (ve_v 10) (ve_vs 6)) (by rfl))) (fun _ _ _ _ _ => ve_vs 6) (by intro i h; first | exact h | simp_all))) (vp_nil) (by decide)) (by decide)) (by rfl)) (vss_cons (vs_if (vt_cmp (op_neD hr.units) ok_ne (ve_ix (hu_of hr) (ve_vs 9) (ve_vs 15)) (ve_if (vt_not (vt_tru (ve_vs 17))) (ve_str) (ve_if (vt_not (vt_tru (ve_vs 16))) (ve_str) (ve_str))) (nomark _)) (vss_one (vs_ret (ve_bl))) (vss_nil)) (vss_one (vs_for (kl := [18, 19]) PassesOwn.never rfl (gok_tup (gok_cons (gok_name 18) (gok_cons (gok_name 19) (gok_nil)))) (vi_seq (ve_callD [] G__law_rows (hr.mono (by decide)) (by rfl) (by repeat (first | exact List.Mem.head _ | apply List.Mem.tail)) (by rfl) (va_cons (ve_listRg (by rfl) T.m_list (vrg1 (by rfl) T.m_range (ve_callB call_len ok_len (by rfl) T.m_len (by decide +kernel) (va_cons (ve_vs 5) (va_nil))))) (va_cons (ve_int) (va_nil))))) (pg_tup rfl (pgs_cons (pg_name (i := 18) sc__law_alarms_hold.nd rfl (by first | exact Or.inl rfl | exact Or.inr rfl)) (pgs_cons (pg_name (i := 19) sc__law_alarms_hold.nd rfl (by first | exact Or.inl rfl | exact Or.inr rfl)) (pgs_nil)))) (vss_one (vs_if (vt_cmp (op_neD hr.units) ok_ne (ve_callD [] G__law_is_taken (hr.mono (by decide)) (by rfl) (by repeat (first | exact List.Mem.head _ | apply List.Mem.tail)) (by rfl) (va_cons (ve_gfn (by rfl) (T.g_accept_open)) (va_cons (ve_lst (va_cons (ve_vs 2) (va_cons (ve_v 3) (va_cons (ve_v 4) (va_cons (ve_vs 15) (va_cons (ve_ix (hu_of hr) (ve_vs 5) (ve_vs 18)) (va_cons (ve_ix (hu_of hr) (ve_vs 5) (ve_vs 19)) (va_nil)))))))) (va_nil)))) (ve_and (ve_cmp (op_inS (room65 hr)) ok_inS (ve_vs 18) (ve_vs 16) (by rfl)) (ve_one (ve_cmp (op_inS (room65 hr)) ok_inS (ve_vs 19) (ve_vs 17) (by rfl)))) (nomark _)) (vss_one (vs_ret (ve_bl))) (vss_nil)))))))) (vss_cons ((vs_setLc (i := 20) (own := [("own", 8)]) rfl sc__law_alarms_hold.nd rfl rfl (sw_true rfl rfl rfl (by decide +kernel)) (vi_seq (ve_v 11)) (blkOk_by (own := [("own", 8)]) (by rfl)) (gok_name 8) (fun _ _ _ _ _ => pg_name (i := 8) sc__law_alarms_hold.nd rfl (by first | exact Or.inl rfl | exact Or.inr rfl)) (fun _ _ _ _ _ => vts_one (vt_cmp op_notN ok_notN (ve_vs 8) (ve_non) (nomark _))) (fun _ _ _ _ _ => ve_vs 8) (by intro i h; first | exact h | simp_all)).1) (vss_one (vs_ret (ve_cmp (op_eqD hr.units) ok_eq (ve_callD [] G_first_alarm (hr.mono (by decide)) (by rfl) (by repeat (first | exact List.Mem.head _ | apply List.Mem.tail)) (by rfl) (va_cons (ve_vs 2) (va_cons (ve_v 3) (va_cons (ve_v 4) (va_nil))))) (ve_tup (va_cons (ve_if (vt_tru (ve_vs 20)) (ve_callB (CallR.or' (call_minA rfl) (cr_minD rfl hr.units)) (ok_E ok_min (ok_bestD false)) (by rfl) T.m_min (by decide +kernel) (va_cons (ve_vs 20) (va_nil))) (ve_non)) (va_cons (ve_if (vt_cmp (op_inS (room65 hr)) ok_inS (ve_non) (ve_v 11) (by rfl)) (ve_non) (ve_callB (CallR.or' (call_maxA rfl) (cr_maxD rfl hr.units)) (ok_E ok_max (ok_bestD true)) (by rfl) T.m_max (by decide +kernel) (va_cons (ve_vs 20) (va_nil)))) (va_nil)))) (nomark _))))))))))))
theorem sc__law_start : FnScope ["script", "seed", "cell"] ["script"] (defScope (top 23)) := ⟨rfl, rfl, rfl, by decide +kernel, rfl, by decide +kernel, by decide +kernel⟩
theorem ok__law_start (T : Txt P K mg) : ∃ fd, FnOk P w K mg base CX0 2 (He.ga K "_law_start") fd ["script"] (spStart K) ∧ PySem.W.keepIn K (.ref (He.ga K "_law_start")) = true ∧ Binds K fd ["script"] [] := by
  obtain ⟨fd, F⟩ := T.c.def_ 12 (d := ⟨("_law_start", none), "_law_start", "_law_start", defArgs (top 23), defBody (top 23), defScope (top 23), [], []⟩) rfl
  refine ⟨fd, F.ok sc__law_start (fun vs H Q E h => ?_) (fun cdv A outer s H vs Q E hr h => ⟨t_start K, PSs.nox ?_, pure_start vs H Q E h⟩), F.kp, F.bindsN (ps := ["script"]) fun _ _ _ _ _ _ us hl => match us, hl with | [_], _ => rfl⟩
  · obtain ⟨a, ns, rfl, _⟩ := h
    rfl
  · exact pss_cons (ps_set (i := 1) sc__law_start.nd rfl (by first | exact Or.inl rfl | exact Or.inr rfl) pe_int) (pss_cons (ps_for PassesOwn.never rfl (pi_list (pe_slice sl_list (pv 0) po_none (po_some pe_int))) (pg_name (i := 2) sc__law_start.nd rfl (by first | exact Or.inl rfl | exact Or.inr rfl))
        (pss_one (ps_set (i := 1) sc__law_start.nd rfl (by first | exact Or.inl rfl | exact Or.inr rfl) (pe_op op_add (pe_op op_mod (pe_callTy call_int1 (by rfl) T.m_int (by decide +kernel) (pa_cons (pe_op op_add (pe_op op_mul (pv 1) pe_int) (pv 2)) pa_nil)) pe_int) pe_int))))
      (pss_one (ps_ret (pe_lst (pa_cons (pe_lc (own := [("cell", 2)]) rfl sc__law_start.nd (pi_list (pe_slice sl_list (pv 0) po_none (po_some pe_int))) (blkOk_by (own := [("cell", 2)]) (by rfl)) (fun _ _ _ _ _ => pg_name (i := 2) sc__law_start.nd rfl (by first | exact Or.inl rfl | exact Or.inr rfl)) (fun _ _ _ _ _ => pts_nil)
        (fun _ _ _ _ _ => pe_callB call_abs (by rfl) T.m_abs (by decide +kernel) (pa_cons (pe_callTy call_int1 (by rfl) T.m_int (by decide +kernel) (pa_cons (pv 2) pa_nil)) pa_nil)))
        (pa_cons pe_int (pa_cons pe_int (pa_cons pe_int (pa_cons (pv 1) (pa_cons pe_int pa_nil))))))))))
def b_law_1 : Sto → M Fl := sIf (bNot (dTru (dCall f__law_alarms_hold [] (aCons (dVs 1) (aNil))))) (sRet (dC (.bl false))) (sNext)
theorem x_b_law_1 (ρ : Sto) : b_law_1 ρ = (sIf (bNot (dTru (dCall f__law_alarms_hold [] (aCons (dVs 1) (aNil))))) (sRet (dC (.bl false))) (sNext)) ρ := rfl
def d_law : Sto → M Fl := sSeq (sFor [] (iRg1 (aCons (dC (.int 2)) (aNil))) (gdN 2) [2] b_law_1) (sRet (dC (.bl true)))
theorem sc_law : FnScope ["script", "state", "turn"] ["script"] (defScope (top 28)) := ⟨rfl, rfl, rfl, by decide +kernel, rfl, by decide +kernel, by decide +kernel⟩
theorem ok_law (T : Txt P K mg) (ht : Turns d_law) {fd : FuncData} (F : FunD K "law" "law" (defArgs (top 28)) (defBody (top 28)) (defScope (top 28)) [] [] (He.ga K "law") fd) : FnOk P w K mg base CX0 8 (He.ga K "law") fd ["script"] (spLaw K) := by
  obtain ⟨fs, GS, kS, bS⟩ := ok__law_start (P := P) (w := w) (base := base) T
  refine F.ok sc_law (fun vs H Q E h => ?_) (fun cdv A outer s H vs Q E hr h => ⟨t_law K mg d_law, PSs.nox ?_, pure_law ht vs H Q E h⟩)
  · obtain ⟨a, ns, rfl, _⟩ := h
    rfl
  · refine pss_cons (ps_set (i := 1) sc_law.nd rfl (by first | exact Or.inl rfl | exact Or.inr rfl) (pe_call GS (hr.mono (by decide)) (by rfl) T.g__law_start kS bS .nil pass0 (pa_cons (pv 0) pa_nil))) (vss_ex fun aw => ?_)
    have G__law_alarms_hold := ok__law_alarms_hold (P := P) (w := w) (base := base) (aw := aw) T
    exact vss_cons (vs_for (kl := [2]) PassesOwn.never rfl (gok_name 2) (vi_range1 (by rfl) T.m_range (va_cons (ve_int) (va_nil))) (pg_name (i := 2) sc_law.nd rfl (by first | exact Or.inl rfl | exact Or.inr rfl)) (vss_one (vs_if (vt_not (vt_tru (ve_callD [] G__law_alarms_hold (hr.mono (by decide)) (by rfl) (by repeat (first | exact List.Mem.head _ | apply List.Mem.tail)) (by rfl) (va_cons (ve_vs 1) (va_nil))))) (vss_one (vs_ret (ve_bl))) (vss_nil)))) (vss_one (vs_ret (ve_bl)))
end
theorem facts (ht : Turns d_law) {P : Program} {w : World} {K : PySem.W.Frag} {h : Heap} {mg : Str → Option Value} {f : Addr} (X : K.In h) (G : h.Ns mainGlobals mg) (hfa : mg ("law" : Str) = some (.ref f)) (c : He.SaysD fa fn K) (pe : PeK P K mg (peC K) ∧ PySem.W.exmOne K (.ref (peC K)) (.ref (peC K)) = some true) :
    ∃ fd : FuncData, (∀ (s : Shared) (v : Value), BindsTo s fd ⟨[v], []⟩ [("script", v)]) ∧ ∀ base : Heap, K.In base → base.Ns mainGlobals mg → FnOk P w K mg base CX0 8 f fd ["script"] (spLaw K) := by
  have T : Txt P K mg := ⟨⟨h, X, G⟩, c, pe.1, pe.2⟩
  obtain ⟨fd, F⟩ := c.def_ 17 (d := ⟨("law", none), "law", "law", defArgs (top 28), defBody (top 28), defScope (top 28), [], []⟩) rfl
  have e := hfa.symm.trans T.g_law
  cases e
  have b := FunD.bindsA (ps := ["script"]) F fun _ _ _ _ _ _ us hl => match us, hl with | [_], _ => rfl
  exact ⟨fd, fun s v => b s [v] rfl, fun base _ _ => ok_law T ht F⟩
theorem pe_ex : ∃ (m : Str) (j : Nat) (a0 a1 a2 a3 a4 a5 a6 a7 a8 a9 b0 b1 : Pos), peV = some (("__init__" : Str), iniArgs b0 b1, FuncBody.stmts (iniBody m j a0 a1 a2 a3 a4 a5 a6 a7 a8 a9), iniScope, mainGlobals, builtinsNs) ∧ SupOk m j a0 a1 a2 a3 a4 :=
  ⟨_, _, _, _, _, _, _, _, _, _, _, _, _, _, rfl, ⟨_, fun _ => rfl⟩⟩
theorem pe_ok {K : PySem.W.Frag} {mg : Str → Option Value} (pb : peB peFile K = true) (pv : peIni K = peV) : PeK Rw.prog K mg (peC K) ∧ PySem.W.exmOne K (.ref (peC K)) (.ref (peC K)) = some true := by
  obtain ⟨m, j, a0, a1, a2, a3, a4, a5, a6, a7, a8, a9, b0, b1, e, s⟩ := pe_ex
  exact peK_of pb (pv.trans e) rfl (by first | rfl | decide +kernel) s
end Lw
namespace Lw
open PySem PySem.Spec PyProof.Rows L2 Vw

theorem is_integer_i (i : Int) : f_is_integer [.int i] = Pure.pure (.bl true) := by
  simp [f_is_integer, fnD, d_is_integer, stoD, oIsi]
theorem is_between_i (v lo hi : Int) : f_is_between [.int v, .int lo, .int hi] = Pure.pure (.bl (decide (lo ≤ v ∧ v ≤ hi))) := by
  simp [f_is_between, fnD, d_is_between, stoD, is_integer_i]
  by_cases h : lo ≤ v <;> simp [h]
theorem all_i {ρ : Sto} {i : Nat} {el : Sto → M D} (l : List Int) (hl : l.length ≤ 1000) (h : ∀ n, n ∈ l → el (ρ.set i (some (false, .int n))) = Pure.pure (.bl true)) :
    (compL (gdN i) bYes el ρ (l.map D.int) >>= mkLst) = Pure.pure (.lst (l.map fun _ => D.bl true)) := by
  rw [comp_mp (f := D.int) (fun _ => D.bl true) l h, pure_bind', mkLst_le (by rw [List.length_map]; exact small_line (by omega))]
theorem all_t (l : List Int) : oAll [.lst (l.map fun _ => D.bl true)] = some (.bl true) := by
  have := o_all (l := l.map fun _ => true)
  rw [List.map_map] at this
  rw [show (l.map fun _ => D.bl true) = l.map (D.bl ∘ fun _ => true) from rfl, this]
  simp
/-! ### the rule -/
structure Ru where
  on : Int
  off : Int
  hold : Int
  lt : Int
structure Ru.Ok (r : Ru) : Prop where
  a : 0 ≤ r.off ∧ r.off ≤ r.on ∧ r.on ≤ 100
  b : 1 ≤ r.hold ∧ r.hold ≤ 2 ∧ 1 ≤ r.lt ∧ r.lt ≤ 2
def ruD (r : Ru) : D := tupI [r.on, r.off, r.hold, r.lt]
theorem check_rule_i {r : Ru} (h : r.Ok) : f_check_rule [ruD r] = Pure.pure .non := by
  have c1 := all_i (ρ := [some (false, ruD r), none]) (i := 1) (el := e_check_rule_2) [r.on, r.off] (by simp) fun n hn => by
    have : 0 ≤ n ∧ n ≤ 1000000000000 := by
      have := h.a
      simp at hn
      rcases hn with rfl | rfl <;> omega
    simp only [x_e_check_rule_2, ev, evl, is_between_i, this, and_self, decide_true]
  have c2 := all_i (ρ := [some (false, ruD r), none]) (i := 1) (el := e_check_rule_1) [r.hold, r.lt] (by simp) fun n hn => by
    have : 1 ≤ n ∧ n ≤ 24 := by
      have := h.b
      simp at hn
      rcases hn with rfl | rfl <;> omega
    simp only [x_e_check_rule_1, ev, evl, is_between_i, this, and_self, decide_true]
  have a1 := all_t [r.on, r.off]
  have a2 := all_t [r.hold, r.lt]
  have t1 : Vw.cutD [D.int r.on, .int r.off, .int r.hold, .int r.lt] none (some 2) = [.int r.on, .int r.off] := by simp [Vw.cutD, HT.sIx]
  have t2 : Vw.cutD [D.int r.on, .int r.off, .int r.hold, .int r.lt] (some 2) none = [.int r.hold, .int r.lt] := by simp [Vw.cutD, HT.sIx]
  have ng : ¬ r.off > r.on := by have := h.a; omega
  simp only [List.map_cons, List.map_nil] at c1 c2 a1 a2
  simp only [f_check_rule, evf, evl, if_pos, Nat.reduceSub]
  simp only [ruD, tupI, List.map_cons, List.map_nil] at c1 c2 ⊢
  simp only [d_check_rule, ev, evb, evl, evc, t1, c1, a1, x_r2_check_rule, t2, c2, a2, gt_iff_lt]
  have ng2 : ¬ r.on < r.off := by omega
  simp
  simp only [x_r2_check_rule, ev, evb, evl, evc, gt_iff_lt, ng2, decide_false, t2, c2, a2]
structure Rd (l : List Int) : Prop where
  n : l.length ≤ 10
  v : ∀ x, x ∈ l → 0 ≤ x ∧ x ≤ 100
theorem are_readings_i {l : List Int} (h : Rd l) : f_are_readings [tupI l] = Pure.pure (.bl true) := by
  have c := all_i (ρ := [some (false, tupI l), none]) (i := 1) (el := e_are_readings_1) l (by have := h.n; omega) fun n hn => by
    have := h.v n hn
    have b : n ≤ 1000000000000 := by omega
    simp only [x_e_are_readings_1, ev, evl, is_between_i, this.1, b, and_self, decide_true]
  have hl : (l.length : Int) ≤ 400 := by have := h.n; omega
  simp only [f_are_readings, evf, evl, if_pos, Nat.reduceSub]
  simp only [tupI] at c ⊢
  simp only [d_are_readings, ev, evb, evl, List.length_map, hl, c, all_t]
theorem check_readings_i {l : List Int} (h : Rd l) : f_check_readings [tupI l] = Pure.pure .non := by
  simp only [f_check_readings, evf, evl, if_pos, Nat.reduceSub]
  simp only [d_check_readings, ev, evb, evl, are_readings_i h]
/-- between two rows -/
def Bt (lo x hi : List Int) : Prop := x.length = lo.length ∧ hi.length = lo.length ∧ ∀ i (h1 : i < lo.length) (h2 : i < x.length) (h3 : i < hi.length), lo[i] ≤ x[i] ∧ x[i] ≤ hi[i]
theorem check_bounds_i {lo hi : List Int} (h : Rd lo) (k : Rd hi) (b : Bt lo lo hi) : f_check_bounds [tupI lo, tupI hi] = Pure.pure .non := by
  have c := comp_any (f := fun p : Int × Int => D.tup [.int p.1, .int p.2]) (gd := gdTup 2 (gdCons (gdN 2) (gdCons (gdN 3) gdNil))) (t := t_check_bounds_1) (el := e_check_bounds_1) (ρ := [some (false, tupI lo), some (false, tupI hi), none, none]) (fun _ => false) (fun _ => .int 1) (lo.zip hi) fun p hp => ⟨_, rfl, by
    obtain ⟨i, hi', rfl⟩ := List.mem_iff_getElem.mp hp
    rw [List.length_zip] at hi'
    have := (b.2.2 i (by omega) (by omega) (by omega)).2
    rw [List.getElem_zip]
    simp only [x_t_check_bounds_1, List.set, ev, evl, gt_iff_lt]
    rw [decide_eq_false (by omega)], fun z => nomatch z⟩
  rw [List.filter_eq_nil_iff.mpr (fun _ _ => by simp), List.map_nil] at c
  have zp : zipD (lo.map D.int) (hi.map D.int) = (lo.zip hi).map fun p => D.tup [.int p.1, .int p.2] := by
    unfold zipD
    rw [List.zip_map, List.map_map]
    rfl
  have r1 := are_readings_i h
  have r2 := are_readings_i k
  have e := b.2.1
  simp only [f_check_bounds, evf, evl, if_pos, Nat.reduceSub]
  simp only [tupI] at c r1 r2 ⊢
  simp only [d_check_bounds, ev, evb, evl, evc, r1, r2, x_r2_check_bounds, List.length_map, e, zp, c, List.isEmpty_nil, ne_eq, not_true, decide_not, Bool.not_true]
/-! ### hours in which it rings -/
def stp (r : Ru) (s : Bool × Int) (x : Int) : Bool × Int :=
  let t := if s.1 then decide (x < r.off) else decide (r.on ≤ x)
  let m := if t then s.2 + 1 else 0
  if m = (if s.1 then r.lt else r.hold) then (!s.1, 0) else (s.1, m)
def hsF (r : Ru) : Bool × Int → List Int → List Bool
  | _, [] => []
  | s, x :: l => (stp r s x).1 :: hsF r (stp r s x) l
theorem hs_len (r : Ru) : ∀ (l : List Int) (s : Bool × Int), (hsF r s l).length = l.length
  | [], _ => rfl
  | x :: l, s => by rw [hsF, List.length_cons, List.length_cons, hs_len r l]
def Rel (r : Ru) (s t : Bool × Int) : Prop := 0 ≤ s.2 ∧ 0 ≤ t.2 ∧ s.2 < (if s.1 then r.lt else r.hold) ∧ t.2 < (if t.1 then r.lt else r.hold) ∧ (s.1 = true → t.1 = true) ∧ (s.1 = false → t.1 = false → s.2 ≤ t.2) ∧ (s.1 = true → t.1 = true → t.2 ≤ s.2)
theorem rel_step {r : Ru} (h : r.Ok) {s t : Bool × Int} (k : Rel r s t) {x y : Int} (xy : x ≤ y) : Rel r (stp r s x) (stp r t y) := by
  obtain ⟨s1, s2⟩ := s
  obtain ⟨t1, t2⟩ := t
  obtain ⟨a1, a2, a3⟩ := h.a
  obtain ⟨b1, b2, b3, b4⟩ := h.b
  obtain ⟨k1, k2, k3, k4, k5, k6, k7⟩ := k
  cases s1 <;> cases t1 <;> simp [stp, Rel] at * <;> (repeat' split) <;> simp_all <;> omega
theorem hs_mono {r : Ru} (h : r.Ok) : ∀ (l m : List Int) (s t : Bool × Int), Rel r s t → l.length = m.length → (∀ i (h1 : i < l.length) (h2 : i < m.length), l[i] ≤ m[i]) → ∀ i : Nat, (hsF r s l)[i]? = some true → (hsF r t m)[i]? = some true
  | [], [], _, _, _, _, _, i, z => by simp [hsF] at z
  | [], _ :: _, _, _, _, e, _, _, _ => by simp at e
  | _ :: _, [], _, _, _, e, _, _, _ => by simp at e
  | x :: l, y :: m, s, t, k, e, hv, i, z => by
    have k2 := rel_step h k (hv 0 (by simp) (by simp))
    cases i with
    | zero =>
      simp [hsF] at z ⊢
      exact k2.2.2.2.2.1 z
    | succ i =>
      simp [hsF] at z ⊢
      exact hs_mono h l m _ _ k2 (by simpa using e) (fun j h1 h2 => by
        have := hv (j + 1) (by simpa using h1) (by simpa using h2)
        simpa using this) i z
theorem hours_loop {r : Ru} {x0 x1 : Option (Bool × D)} (h : r.Ok) : ∀ (l : List Int) (acc : List Bool) (s : Bool × Int), acc.length + l.length ≤ 1000 → ∃ s' : Bool × Int,
    forL (gdN 9) b_hours_on_1 [9, 10] (l.map D.int) [x0, x1, some (false, .int r.on), some (false, .int r.off), some (false, .int r.hold), some (false, .int r.lt), some (true, .lst (acc.map D.bl)), some (false, .bl s.1), some (false, .int s.2), none, none] =
      Pure.pure (.nx [x0, x1, some (false, .int r.on), some (false, .int r.off), some (false, .int r.hold), some (false, .int r.lt), some (true, .lst ((acc ++ hsF r s l).map D.bl)), some (false, .bl s'.1), some (false, .int s'.2), none, none]) := by
  intro l
  induction l with
  | nil => intro acc s _; exact ⟨s, by simp [hsF]⟩
  | cons x l ih =>
    intro acc s hn
    obtain ⟨s', e⟩ := ih (acc ++ [(stp r s x).1]) (stp r s x) (by simp at hn ⊢; omega)
    refine ⟨s', ?_⟩
    have ln : (acc.map D.bl).length < lineN := by rw [List.length_map]; exact big_lt (by simp at hn; omega)
    rw [List.append_assoc] at e
    have e2 : [(stp r s x).1] ++ hsF r (stp r s x) l = hsF r s (x :: l) := rfl
    rw [e2, List.map_append] at e
    simp only [List.map_cons, List.map_nil] at e
    rw [List.map_cons, ev_forC, ← e]
    obtain ⟨s1, s2⟩ := s
    unfold stp
    cases s1 with
    | true =>
      by_cases c : x < r.off
      · by_cases m : s2 + 1 = r.lt
        · simp only [x_b_hours_on_1, ev, evb, evl, evc, c, m, ln, if_pos, decide_true, if_true, Bool.not_true]
        · simp only [x_b_hours_on_1, ev, evb, evl, evc, c, m, ln, if_pos, decide_true, decide_false, if_true, if_false, Bool.not_true]
      · have m : ¬ (0 : Int) = r.lt := by have := h.b; omega
        simp only [x_b_hours_on_1, ev, evb, evl, evc, c, m, ln, if_pos, decide_true, decide_false, if_true, if_false, Bool.not_true]
    | false =>
      by_cases c : r.on ≤ x
      · by_cases m : s2 + 1 = r.hold
        · simp only [x_b_hours_on_1, ev, evb, evl, evc, ge_iff_le, c, m, ln, if_pos, decide_true, if_true, Bool.not_false]
        · simp only [x_b_hours_on_1, ev, evb, evl, evc, ge_iff_le, c, m, ln, if_pos, decide_true, decide_false, if_true, if_false, Bool.not_false]
      · have m : ¬ (0 : Int) = r.hold := by have := h.b; omega
        simp only [x_b_hours_on_1, ev, evb, evl, evc, ge_iff_le, c, m, ln, if_pos, decide_true, decide_false, if_true, if_false, Bool.not_false]
def hrs (r : Ru) (l : List Int) : List Bool := hsF r (false, 0) l
theorem hours_i {r : Ru} (h : r.Ok) {l : List Int} (hl : l.length ≤ 10) : f_hours_on [ruD r, tupI l] = Pure.pure (.lst ((hrs r l).map D.bl)) := by
  obtain ⟨s', e⟩ := hours_loop (x0 := some (false, ruD r)) (x1 := some (false, tupI l)) h l [] (false, 0) (by simp; omega)
  simp only [f_hours_on, evf, evl, if_pos, Nat.reduceSub]
  simp only [ruD, tupI, List.map_cons, List.map_nil, List.nil_append] at e ⊢
  simp only [d_hours_on, ev, evb, evl, evc, if_pos, x_r2_hours_on, x_r3_hours_on, e, x_r4_hours_on, hrs]
/-! ### spans -/
abbrev Pr := Int × Int
def prD (q : Pr) : D := .tup [.int q.1, .int q.2]
def flat (sp : List Pr) : List Int := sp.flatMap fun p => rgI p.1 (p.2 + 1 - p.1).toNat
def onF : Int → List Bool → List Int
  | _, [] => []
  | i, b :: l => (if b then [i] else []) ++ onF (i + 1) l
def prs : Int → List Bool → List D
  | _, [] => []
  | i, b :: l => .tup [.int i, .bl b] :: prs (i + 1) l
theorem en_prs : ∀ (l : List Bool) (i : Nat), (l.map D.bl).mapIdx (fun j x => D.tup [.int ((i + j : Nat) : Int), x]) = prs (i : Int) l
  | [], _ => rfl
  | b :: l, i => by
    rw [List.map_cons, List.mapIdx_cons, prs]
    have e1 : (fun (j : Nat) (x : D) => D.tup [.int ((i + (j + 1) : Nat) : Int), x]) = fun j x => D.tup [.int ((i + 1 + j : Nat) : Int), x] := by
      funext j x
      rw [show i + (j + 1) = i + 1 + j by omega]
    have := en_prs l (i + 1)
    rw [e1, this, Nat.add_zero]
    rfl
theorem enD_prs (l : List Bool) : enD (l.map D.bl) = prs 0 l := by
  have := en_prs l 0
  simp only [Nat.zero_add] at this
  exact this
theorem at_lastC {A : List D} {x : D} : atI (A ++ [x]) (-1) = some x := by
  have := at_last (f := id) (l := A ++ [x]) (by simp)
  simpa using this
theorem ix_last {n : Nat} : ixN (n + 1) (-1) = some n := by
  unfold ixN
  rw [if_neg (by omega), if_pos (by omega)]
  congr 1
  omega
theorem flat_app (a : List Pr) (p : Pr) : flat (a ++ [p]) = flat a ++ rgI p.1 (p.2 + 1 - p.1).toNat := by simp [flat]
theorem rg_one (i : Int) : rgI i 1 = [i] := by
  rw [show (1 : Nat) = 0 + 1 from rfl, rgI_succ]
  rfl
theorem spans_loop {x0 : Option (Bool × D)} : ∀ (l : List Bool) (i : Int) (sp : List Pr), 0 ≤ i → i + l.length ≤ 1000 → (sp.length : Int) ≤ i → (∀ p, p ∈ sp → 0 ≤ p.1 ∧ p.1 ≤ p.2 ∧ p.2 ≤ i - 1) → ∃ sq : List Pr,
    forL (gdTup 2 (gdCons (gdN 2) (gdCons (gdN 3) gdNil))) b_spans_of_1 [2, 3] (prs i l) [x0, some (true, .lst (sp.map prD)), none, none] = Pure.pure (.nx [x0, some (true, .lst (sq.map prD)), none, none]) ∧
      flat sq = flat sp ++ onF i l ∧ (sq.length : Int) ≤ i + l.length ∧ ∀ p, p ∈ sq → 0 ≤ p.1 ∧ p.1 ≤ p.2 ∧ p.2 ≤ i + l.length - 1 := by
  intro l
  induction l with
  | nil => intro i sp h0 h1 h2 h3; exact ⟨sp, rfl, by simp [onF], by simpa using h2, fun p hp => by have := h3 p hp; simp; omega⟩
  | cons b l ih =>
    intro i sp h0 h1 h2 h3
    have step : ∀ sp2 : List Pr, (sp2.length : Int) ≤ i + 1 → (∀ p, p ∈ sp2 → 0 ≤ p.1 ∧ p.1 ≤ p.2 ∧ p.2 ≤ i + 1 - 1) → flat sp2 = flat sp ++ (if b then [i] else []) →
        b_spans_of_1 [x0, some (true, .lst (sp.map prD)), some (false, .int i), some (false, .bl b)] = Pure.pure (.nx [x0, some (true, .lst (sp2.map prD)), some (false, .int i), some (false, .bl b)]) →
        ∃ sq : List Pr, forL (gdTup 2 (gdCons (gdN 2) (gdCons (gdN 3) gdNil))) b_spans_of_1 [2, 3] (prs i (b :: l)) [x0, some (true, .lst (sp.map prD)), none, none] = Pure.pure (.nx [x0, some (true, .lst (sq.map prD)), none, none]) ∧
          flat sq = flat sp ++ onF i (b :: l) ∧ (sq.length : Int) ≤ i + (b :: l).length ∧ ∀ p, p ∈ sq → 0 ≤ p.1 ∧ p.1 ≤ p.2 ∧ p.2 ≤ i + (b :: l).length - 1 := fun sp2 g1 g2 g3 g4 => by
      obtain ⟨sq, e1, e2, e3, e4⟩ := ih (i + 1) sp2 (by omega) (by simp at h1; omega) g1 g2
      refine ⟨sq, ?_, ?_, ?_, fun p hp => ?_⟩
      · rw [prs, ev_forC]
        simp only [ev, evl, evc, if_pos, g4]
        exact e1
      · rw [e2, g3, onF, List.append_assoc]
      · rw [List.length_cons]; omega
      · have := e4 p hp
        rw [List.length_cons]; omega
    cases b with
    | false =>
      refine step sp (by omega) (fun p hp => by have := h3 p hp; omega) (by simp) ?_
      simp only [x_b_spans_of_1, ev, evb, evl, evc]
    | true =>
      rcases List.eq_nil_or_concat sp with rfl | ⟨sp0, p, rfl⟩
      · refine step [(i, i)] (by simp; omega) (fun p hp => by simp at hp; subst hp; simp; omega) ?_ ?_
        · have : (i + 1 - i).toNat = 1 := by omega
          simp [flat, this, rg_one]
        · have ln : 0 < lineN := by decide
          simp only [x_b_spans_of_1, ev, evb, evl, evc, List.map_nil, List.isEmpty_nil, ln, if_pos, List.nil_append, List.map_cons, prD]
      · rw [List.concat_eq_append] at *
        have hp := h3 p (by simp)
        have ne : ((sp0 ++ [p]).map prD).isEmpty = false := by simp
        have al : atI ((sp0 ++ [p]).map prD) (-1) = some (prD p) := by rw [List.map_append]; exact at_lastC
        by_cases c : p.2 = i - 1
        · refine step (sp0 ++ [(p.1, i)]) (by simp at h2 ⊢; omega) (fun q hq => ?_) ?_ ?_
          · rcases List.mem_append.mp hq with hq | hq
            · have := h3 q (by simp [hq]); omega
            · simp at hq
              subst hq
              simp
              omega
          · rw [flat_app, flat_app, List.append_assoc]
            have e1 : (i + 1 - p.1).toNat = (p.2 + 1 - p.1).toNat + 1 := by omega
            simp only [e1, rgI_last]
            have e2 : p.1 + ((p.2 + 1 - p.1).toNat : Int) = i := by omega
            rw [e2]
            rfl
          · have il : ixN ((sp0 ++ [p]).map prD).length (-1) = some sp0.length := by
              rw [List.length_map, List.length_append]
              exact ix_last
            have st : ((sp0 ++ [p]).map prD).set sp0.length (.tup [.int p.1, .int i]) = (sp0 ++ [(p.1, i)]).map prD := by
              rw [List.map_append, List.map_append]
              have : sp0.length = (sp0.map prD).length := by rw [List.length_map]
              rw [this, List.set_append_right _ _ (Nat.le_refl _)]
              simp [prD]
            simp only [x_b_spans_of_1, ev, evb, evl, evc, ne, al, prD, c, il]
            rw [← st]
        · refine step (sp0 ++ [p] ++ [(i, i)]) (by simp at h2 ⊢; omega) (fun q hq => ?_) ?_ ?_
          · rcases List.mem_append.mp hq with hq | hq
            · have := h3 q hq; omega
            · simp at hq
              subst hq
              simp
              omega
          · rw [flat_app]
            have : (i + 1 - i).toNat = 1 := by omega
            simp [this, rg_one]
          · have ln : ((sp0 ++ [p]).map prD).length < lineN := by
              rw [List.length_map]
              exact big_lt (by simp at h1 h2 ⊢; omega)
            have em : ((sp0 ++ [p]).map prD) ++ [.tup [.int i, .int i]] = (sp0 ++ [p] ++ [(i, i)]).map prD := by
              rw [List.map_append (l₁ := sp0 ++ [p])]
              rfl
            rw [← em]
            simp only [x_b_spans_of_1, ev, evb, evl, evc, ne, al, prD, c, decide_false, ln, if_pos]
theorem alarms_i {r : Ru} (h : r.Ok) {l : List Int} (hl : Rd l) : ∃ sq : List Pr, f_alarms_of [ruD r, tupI l] = Pure.pure (.tup (sq.map prD)) ∧ flat sq = onF 0 (hrs r l) ∧ sq.length ≤ 10 ∧ ∀ p, p ∈ sq → 0 ≤ p.1 ∧ p.1 ≤ p.2 ∧ p.2 ≤ 10 := by
  have cr := check_rule_i h
  have cl := check_readings_i hl
  have hi := hours_i h hl.n
  have ln := hl.n
  have hlen : (hrs r l).length = l.length := hs_len r l _
  obtain ⟨sq, e1, e2, e3, e4⟩ := spans_loop (x0 := some (false, .lst ((hrs r l).map D.bl))) (hrs r l) 0 [] (by omega) (by omega) (by simp) (fun p hp => nomatch hp)
  refine ⟨sq, ?_, by simpa [flat] using e2, by omega, fun p hp => by have := e4 p hp; omega⟩
  have so : f_spans_of [.lst ((hrs r l).map D.bl)] = Pure.pure (.lst (sq.map prD)) := by
    simp only [f_spans_of, evf, evl, if_pos, Nat.reduceSub]
    simp only [List.map_nil] at e1
    simp only [d_spans_of, ev, evb, evl, evc, x_r2_spans_of, enD_prs, e1, x_r3_spans_of]
  simp only [f_alarms_of, evf, evl, if_pos, Nat.reduceSub]
  simp only [d_alarms_of, ev, evb, evl, cr, x_r2_alarms_of, cl, x_r3_alarms_of, hi, so]
def wordF (p : Bool × Bool) : Str := if p.1 then "on" else if p.2 then "open" else "off"
theorem judge_i {r : Ru} (h : r.Ok) {lo hi : List Int} (hl : Rd lo) (hh : Rd hi) (b : Bt lo lo hi) : f_judge_hours [ruD r, tupI lo, tupI hi] = Pure.pure (.tup (((hrs r lo).zip (hrs r hi)).map fun p => .str (wordF p))) := by
  have cr := check_rule_i h
  have cb := check_bounds_i hl hh b
  have h1 := hours_i h hl.n
  have h2 := hours_i h hh.n
  have n1 : (hrs r lo).length = lo.length := hs_len r lo _
  have c := comp_any (f := fun p : Bool × Bool => D.tup [.bl p.1, .bl p.2]) (gd := gdTup 2 (gdCons (gdN 5) (gdCons (gdN 6) gdNil))) (t := bYes) (el := e_judge_hours_1) (ρ := [some (false, ruD r), some (false, tupI lo), some (false, tupI hi), some (false, .lst ((hrs r lo).map D.bl)), some (false, .lst ((hrs r hi).map D.bl)), none, none]) (fun _ => true) (fun p => .str (wordF p)) ((hrs r lo).zip (hrs r hi)) fun p _ => ⟨_, rfl, rfl, fun _ => by
    obtain ⟨p1, p2⟩ := p
    cases p1 <;> cases p2 <;> simp only [x_e_judge_hours_1, List.set, ev, evb, evl] <;> rfl⟩
  rw [List.filter_eq_self.mpr (fun _ _ => rfl)] at c
  have zp : zipD ((hrs r lo).map D.bl) ((hrs r hi).map D.bl) = ((hrs r lo).zip (hrs r hi)).map fun p => D.tup [.bl p.1, .bl p.2] := by
    unfold zipD
    rw [List.zip_map, List.map_map]
    rfl
  have l1 := mkLst_le (x := ((hrs r lo).zip (hrs r hi)).map fun p => D.str (wordF p)) (by rw [List.length_map, List.length_zip]; exact small_line (by have := hl.n; omega))
  simp only [f_judge_hours, evf, evl, if_pos, Nat.reduceSub]
  simp only [d_judge_hours, ev, evb, evl, cr, x_r2_judge_hours, cb, x_r3_judge_hours, h1, h2, if_pos, x_r4_judge_hours, zp, c, l1]
def ring (r : Ru) (l : List Int) (k : Nat) : Bool := (hrs r l).getD k false
theorem ring_at {r : Ru} {l : List Int} {k : Nat} (h : k < l.length) : atI ((hrs r l).map D.bl) (k : Int) = some (.bl (ring r l k)) := by
  have n1 : (hrs r l).length = l.length := hs_len r l _
  have hk : k < (hrs r l).length := by omega
  have : ring r l k = (hrs r l)[k] := by
    unfold ring
    rw [List.getD_eq_getElem?_getD, List.getElem?_eq_getElem hk]
    rfl
  rw [this]
  exact atM hk
theorem open_i {r : Ru} (h : r.Ok) {lo hi one other : List Int} {k : Nat} (hl : Rd lo) (hh : Rd hi) (b : Bt lo lo hi) (r1 : Rd one) (r2 : Rd other) (b1 : Bt lo one hi) (b2 : Bt lo other hi) (hk : k < lo.length) :
    f_accept_open [ruD r, tupI lo, tupI hi, .int k, tupI one, tupI other] = Pure.pure (okX (ring r one k && !ring r other k)) := by
  have cr := check_rule_i h
  have cb := check_bounds_i hl hh b
  have h1 := hours_i h r1.n
  have h2 := hours_i h r2.n
  have k1 := ring_at (r := r) (l := one) (k := k) (by have := b1.1; omega)
  have k2 := ring_at (r := r) (l := other) (k := k) (by have := b2.1; omega)
  have f := forX_find (f := tupI) (gd := gdN 6) (body := b_accept_open_1) (kl := [6]) (S := [some (false, ruD r), some (false, tupI lo), some (false, tupI hi), some (false, .int k), some (false, tupI one), some (false, tupI other), none, none, none, none]) (fun _ => false) [one, other] fun own ho => by
    have ok : Rd own ∧ Bt lo own hi := by
      simp at ho
      rcases ho with rfl | rfl
      · exact ⟨r1, b1⟩
      · exact ⟨r2, b2⟩
    have ar := are_readings_i ok.1
    have el := ok.2.1
    have c := comp_any (f := fun p : (Int × Int) × Int => D.tup [.int p.1.1, .int p.1.2, .int p.2]) (gd := gdTup 3 (gdCons (gdN 7) (gdCons (gdN 8) (gdCons (gdN 9) gdNil)))) (t := t_accept_open_1) (el := e_accept_open_1) (ρ := [some (false, ruD r), some (false, tupI lo), some (false, tupI hi), some (false, .int k), some (false, tupI one), some (false, tupI other), some (false, tupI own), none, none, none]) (fun _ => false) (fun _ => .int 1) ((lo.zip own).zip hi) fun p hp => ⟨_, rfl, by
      obtain ⟨i, hi', rfl⟩ := List.mem_iff_getElem.mp hp
      rw [List.length_zip, List.length_zip] at hi'
      have := ok.2.2.2 i (by omega) (by omega) (by omega)
      rw [List.getElem_zip, List.getElem_zip]
      simp only [x_t_accept_open_1, List.set, ev, evb, evl, this.1, this.2, decide_true], fun z => nomatch z⟩
    rw [List.filter_eq_nil_iff.mpr (fun _ _ => by simp), List.map_nil] at c
    have zp : zip3D (lo.map D.int) (own.map D.int) (hi.map D.int) = ((lo.zip own).zip hi).map fun p => D.tup [.int p.1.1, .int p.1.2, .int p.2] := by
      unfold zip3D
      rw [List.zip_map, List.zip_map, List.map_map]
      rfl
    refine ⟨_, rfl, (fun z => nomatch z), fun _ => ⟨[some (false, ruD r), some (false, tupI lo), some (false, tupI hi), some (false, .int k), some (false, tupI one), some (false, tupI other), some (false, tupI own), none, none, none], ?_, rfl⟩⟩
    simp only [tupI] at c ar ⊢
    simp only [x_b_accept_open_1, List.set, ev, evb, evl, evc, ar, List.length_map, el, ne_eq, not_true, decide_not, Bool.not_true, ev_iZp3, o_zip3, zp, c, List.isEmpty_nil]
  simp only [List.any_cons, List.any_nil, Bool.or_self, Bool.false_eq_true, if_false, List.map_cons, List.map_nil] at f
  have g1 : (0 : Int) ≤ k := by omega
  have g2 : (k : Int) ≤ (lo.length : Int) - 1 := by omega
  have ol : oLen [tupI lo] = some (.int lo.length) := by simp only [tupI, ev, List.length_map]
  simp only [f_accept_open, evf, evl, if_pos, Nat.reduceSub]
  simp only [d_accept_open, ev, evb, evl, evc, cr, x_r2_accept_open, cb, x_r3_accept_open, ol, is_between_i, g1, g2, and_self, x_r4_accept_open, f, x_r5_accept_open, h1, k1]
  cases ring r one k with
  | false => simp only [ev, evb, okX, Bool.not_false, Bool.false_and]
  | true =>
    simp only [ev, evb, evl, x_r6_accept_open, h2, k2]
    cases ring r other k <;> simp only [ev, evb, okX, Bool.not_true, Bool.not_false, Bool.true_and]
def fo (l : List Int) : D := match l with
  | [] => .non
  | a :: _ => .int a
theorem comp_prs {x0 x1 x2 x3 x4 x5 : Option (Bool × D)} : ∀ (l : List Bool) (i : Int), compL (gdTup 2 (gdCons (gdN 6) (gdCons (gdN 7) gdNil))) t_first_alarm_1 e_first_alarm_1 [x0, x1, x2, x3, x4, x5, none, none] (prs i l) = Pure.pure ((onF i l).map D.int) := by
  intro l
  induction l with
  | nil => intro i; rfl
  | cons b l ih =>
    intro i
    rw [prs, ev_compC]
    cases b <;> simp only [ev, evb, evl, evc, if_pos, x_t_first_alarm_1, x_e_first_alarm_1, ih, onF] <;> rfl
theorem onF_len : ∀ (l : List Bool) (i : Int), (onF i l).length ≤ l.length
  | [], _ => Nat.le_refl _
  | b :: l, i => by
    have := onF_len l (i + 1)
    rw [onF, List.length_append, List.length_cons]
    cases b <;> simp <;> omega
theorem mem_onF : ∀ (l : List Bool) (i k : Int), k ∈ onF i l ↔ i ≤ k ∧ l[(k - i).toNat]? = some true
  | [], i, k => by simp [onF]
  | b :: l, i, k => by
    rw [onF, List.mem_append, mem_onF l]
    constructor
    · rintro (h | ⟨h1, h2⟩)
      · cases b with
        | false => simp at h
        | true =>
          have : k = i := by simpa using h
          subst this
          simp
      · refine ⟨by omega, ?_⟩
        have : (k - i).toNat = (k - (i + 1)).toNat + 1 := by omega
        rw [this, List.getElem?_cons_succ]
        exact h2
    · rintro ⟨h1, h2⟩
      by_cases c : k = i
      · subst c
        simp at h2
        subst h2
        simp
      · refine Or.inr ⟨by omega, ?_⟩
        have : (k - i).toNat = (k - (i + 1)).toNat + 1 := by omega
        rw [this, List.getElem?_cons_succ] at h2
        exact h2
theorem first_i {r : Ru} (h : r.Ok) {lo hi : List Int} (hl : Rd lo) (hh : Rd hi) (b : Bt lo lo hi) : f_first_alarm [ruD r, tupI lo, tupI hi] = Pure.pure (.tup [fo (onF 0 (hrs r hi)), fo (onF 0 (hrs r lo))]) := by
  have cr := check_rule_i h
  have cb := check_bounds_i hl hh b
  have h1 := hours_i h hl.n
  have h2 := hours_i h hh.n
  have lp0 : 0 < lineN := by decide
  have lp1 : 1 < lineN := by decide
  have n1 : (hrs r lo).length = lo.length := hs_len r lo _
  have n2 : (hrs r hi).length = hi.length := hs_len r hi _
  have l1 := mkLst_le (x := (onF 0 (hrs r lo)).map D.int) (by rw [List.length_map]; exact small_line (by have := onF_len (hrs r lo) 0; have := hl.n; omega))
  have l2 := mkLst_le (x := (onF 0 (hrs r hi)).map D.int) (by rw [List.length_map]; exact small_line (by have := onF_len (hrs r hi) 0; have := hh.n; omega))
  have body : ∀ (own acc : List D) (l : List Int) (x0 x1 x2 : Option (Bool × D)) (o : D), acc.length < lineN → x0 = some (false, ruD r) → f_hours_on [ruD r, o] = Pure.pure (.lst ((hrs r l).map D.bl)) → mkLst ((onF 0 (hrs r l)).map D.int) = Pure.pure (.lst ((onF 0 (hrs r l)).map D.int)) →
      b_first_alarm_1 [x0, x1, x2, some (true, .lst acc), some (false, o), none, none, none] = Pure.pure (.nx [x0, x1, x2, some (true, .lst (acc ++ [fo (onF 0 (hrs r l))])), some (false, o), some (false, .lst ((onF 0 (hrs r l)).map D.int)), none, none]) := by
    rintro own acc l _ x1 x2 o ha rfl ho hm
    simp only [x_b_first_alarm_1, ev, evb, evl, evc, ho, enD_prs, comp_prs, hm]
    cases onF 0 (hrs r l) with
    | nil => simp only [ev, evb, evl, List.map_nil, List.isEmpty_nil, ha, if_pos, fo]
    | cons a t => simp only [ev, evb, evl, evc, List.map_cons, List.isEmpty_cons, ha, if_pos, fo]
  simp only [f_first_alarm, evf, evl, if_pos, Nat.reduceSub]
  simp only [d_first_alarm, ev, evb, evl, evc, cr, x_r2_first_alarm, cb, x_r3_first_alarm, x_r4_first_alarm]
  rw [ev_forC]
  simp only [ev, evl]
  rw [body [] [] hi _ _ _ _ lp0 rfl h2 l2]
  simp only [ev, evl, List.nil_append]
  rw [ev_forC]
  simp only [ev, evl]
  rw [body [] [fo (onF 0 (hrs r hi))] lo _ _ _ _ lp1 rfl h1 l1]
  simp only [ev, evl, evc, x_r5_first_alarm, List.cons_append, List.nil_append]
/-! ### the rows -/
structure Gd (lo hi : List Int) (rows : List (List Int)) : Prop where
  l : hi.length = lo.length
  v : (∀ x, x ∈ lo → 0 ≤ x ∧ x ≤ 100) ∧ ∀ x, x ∈ hi → 0 ≤ x ∧ x ≤ 100
  b : ∀ x, x ∈ rows → Bt lo x hi
  m : lo ∈ rows ∧ hi ∈ rows
  n : rows.length ≤ 2 ^ lo.length
def moreF (a d : Int) (rows : List (List Int)) : List (List Int) := rows.flatMap fun own => (rgI a (d + 1).toNat).map fun one => own ++ [one]
theorem bt_app {lo x hi : List Int} {a b c : Int} (h : Bt lo x hi) (h1 : a ≤ c) (h2 : c ≤ b) : Bt (lo ++ [a]) (x ++ [c]) (hi ++ [b]) := by
  obtain ⟨l1, l2, l3⟩ := h
  refine ⟨by simp [l1], by simp [l2], fun i k1 k2 k3 => ?_⟩
  by_cases z : i < lo.length
  · rw [List.getElem_append_left z, List.getElem_append_left (by omega), List.getElem_append_left (by omega)]
    exact l3 i z (by omega) (by omega)
  · have e : i = lo.length := by simp at k1; omega
    subst e
    rw [List.getElem_append_right (by omega), List.getElem_append_right (by omega), List.getElem_append_right (by omega)]
    simp
    exact ⟨h1, h2⟩
theorem more_len {a d : Int} (h0 : 0 ≤ d) (h1 : d ≤ 1) (rows : List (List Int)) : (moreF a d rows).length ≤ rows.length * 2 := by
  unfold moreF
  induction rows with
  | nil => simp
  | cons x rows ih =>
    rw [List.flatMap_cons, List.length_append, List.length_map, rgI_len, List.length_cons, Nat.succ_mul]
    omega
theorem gd_step {lo hi : List Int} {rows : List (List Int)} (g : Gd lo hi rows) {a d : Int} (a0 : 0 ≤ a) (a1 : a ≤ 3) (d0 : 0 ≤ d) (d1 : d ≤ 1) : Gd (lo ++ [a]) (hi ++ [a + d]) (moreF a d rows) := by
  refine ⟨by simp [g.l], ⟨fun x hx => ?_, fun x hx => ?_⟩, fun x hx => ?_, ⟨?_, ?_⟩, ?_⟩
  · rcases List.mem_append.mp hx with hx | hx
    · exact g.v.1 x hx
    · simp at hx; omega
  · rcases List.mem_append.mp hx with hx | hx
    · exact g.v.2 x hx
    · simp at hx; omega
  · obtain ⟨own, ho, hx⟩ := List.mem_flatMap.mp hx
    obtain ⟨one, h1, rfl⟩ := List.mem_map.mp hx
    have h1 := rgI_mem.mp h1
    exact bt_app (g.b own ho) (by omega) (by omega)
  · exact List.mem_flatMap.mpr ⟨lo, g.m.1, List.mem_map.mpr ⟨a, rgI_mem.mpr (by omega), rfl⟩⟩
  · exact List.mem_flatMap.mpr ⟨hi, g.m.2, List.mem_map.mpr ⟨a + d, rgI_mem.mpr (by omega), rfl⟩⟩
  · have := more_len (a := a) d0 d1 rows
    have := g.n
    rw [List.length_append, List.length_singleton, Nat.pow_succ]
    omega
theorem rd_of {lo hi : List Int} {rows : List (List Int)} (g : Gd lo hi rows) (hn : lo.length ≤ 10) {x : List Int} (hx : x ∈ rows) : Rd x := by
  obtain ⟨l1, l2, l3⟩ := g.b x hx
  refine ⟨by omega, fun y hy => ?_⟩
  obtain ⟨i, hi', rfl⟩ := List.mem_iff_getElem.mp hy
  have k := l3 i (by omega) (by omega) (by omega)
  have := g.v.1 _ (List.getElem_mem (show i < lo.length by omega))
  have := g.v.2 _ (List.getElem_mem (show i < hi.length by omega))
  omega
theorem b5_loop {x0 x1 x2 x5 x6 x9 x10 x11 x12 x13 x14 x15 x16 x17 x18 x19 x20 : Option (Bool × D)} {lo hi : List Int} {a d : Int} (d0 : 0 ≤ d) (d1 : d ≤ 1) (a0 : 0 ≤ a) (a1 : a ≤ 3) : ∀ (rows acc : List (List Int)) (x8 : Option (Bool × D)), (∀ x, x ∈ rows → x.length ≤ 10) → acc.length + rows.length * 2 ≤ 1000 → ∃ x8' : Option (Bool × D),
    forL (gdN 8) b__law_alarms_hold_5 [] (rows.map tupI) [x0, x1, x2, some (true, .lst ((lo ++ [a]).map D.int)), some (true, .lst ((hi ++ [a + d]).map D.int)), x5, x6, some (true, .lst (acc.map tupI)), x8, x9, x10, x11, x12, x13, x14, x15, x16, x17, none, x19, x20] =
      Pure.pure (.nx [x0, x1, x2, some (true, .lst ((lo ++ [a]).map D.int)), some (true, .lst ((hi ++ [a + d]).map D.int)), x5, x6, some (true, .lst ((acc ++ moreF a d rows).map tupI)), x8', x9, x10, x11, x12, x13, x14, x15, x16, x17, none, x19, x20]) := by
  intro rows
  induction rows with
  | nil => intro acc x8 _ _; exact ⟨x8, by simp [moreF]⟩
  | cons own rows ih =>
    intro acc x8 h hn
    have ho := h own (List.mem_cons_self ..)
    have c := comp_mp (f := D.int) (i := 18) (el := e__law_alarms_hold_3) (ρ := [x0, x1, x2, some (true, .lst ((lo ++ [a]).map D.int)), some (true, .lst ((hi ++ [a + d]).map D.int)), x5, x6, some (true, .lst (acc.map tupI)), some (false, tupI own), x9, x10, x11, x12, x13, x14, x15, x16, x17, none, x19, x20]) (fun one => tupI (own ++ [one])) (rgI a (d + 1).toNat) fun one _ => by
      have hl : (own.map D.int).length + [D.int one].length ≤ lineN := by
        simp
        exact small_line (by omega)
      have e : own.map D.int ++ [D.int one] = (own ++ [one]).map D.int := by simp
      simp only [x_e__law_alarms_hold_3, tupI, ev, evl, o_addT hl, e]
    have al : atI ((lo ++ [a]).map D.int) (-1) = some (.int a) := by rw [List.map_append]; exact at_lastC
    have ah : atI ((hi ++ [a + d]).map D.int) (-1) = some (.int (a + d)) := by rw [List.map_append]; exact at_lastC
    have rg : oRg2 [.int a, .int (a + d + 1)] = some ((rgI a (d + 1).toNat).map D.int) := by
      rw [o_rg2 (by omega) (by omega) (by omega) (by omega), rgD_eq, show (a + d + 1 - a) = d + 1 by omega]
    have rl : (rgI a (d + 1).toNat).length ≤ 2 := by rw [rgI_len]; omega
    rw [List.length_cons, Nat.succ_mul] at hn
    have b1 := mkLst_le (x := (rgI a (d + 1).toNat).map fun one => tupI (own ++ [one])) (by rw [List.length_map]; exact small_line (by omega))
    have b2 : (acc.map tupI).length + ((rgI a (d + 1).toNat).map fun one => tupI (own ++ [one])).length ≤ lineN := by rw [List.length_map, List.length_map]; exact small_line (by omega)
    have e : acc.map tupI ++ ((rgI a (d + 1).toNat).map fun one => tupI (own ++ [one])) = (acc ++ (rgI a (d + 1).toNat).map fun one => own ++ [one]).map tupI := by rw [List.map_append, List.map_map]; rfl
    obtain ⟨x8', i⟩ := ih (acc ++ (rgI a (d + 1).toNat).map fun one => own ++ [one]) (some (false, tupI own)) (fun x hx => h x (List.mem_cons_of_mem _ hx)) (by rw [List.length_append, List.length_map]; omega)
    have em : acc ++ moreF a d (own :: rows) = acc ++ ((rgI a (d + 1).toNat).map fun one => own ++ [one]) ++ moreF a d rows := by
      unfold moreF
      rw [List.flatMap_cons, List.append_assoc]
    refine ⟨x8', ?_⟩
    rw [List.map_cons, ev_forC, em]
    simp only [x_b__law_alarms_hold_5, ev, evl, al, ah, rg, c, b1, b2, if_pos, e]
    exact i
theorem share7 {x0 x1 x2 x3 x4 x5 x6 x8 x9 x10 x11 x12 x13 x14 x15 x16 x17 x18 x19 x20 : Option (Bool × D)} {b : Bool} {d : D} : share [7] [x0, x1, x2, x3, x4, x5, x6, some (b, d), x8, x9, x10, x11, x12, x13, x14, x15, x16, x17, x18, x19, x20] = [x0, x1, x2, x3, x4, x5, x6, some (false, d), x8, x9, x10, x11, x12, x13, x14, x15, x16, x17, x18, x19, x20] := by simp [share]
theorem share12 {x0 x1 x2 x3 x4 x5 x6 x7 x8 x9 x10 x11 x13 x14 x15 x16 x17 x18 x19 x20 : Option (Bool × D)} {b : Bool} {d : D} : share [12] [x0, x1, x2, x3, x4, x5, x6, x7, x8, x9, x10, x11, some (b, d), x13, x14, x15, x16, x17, x18, x19, x20] = [x0, x1, x2, x3, x4, x5, x6, x7, x8, x9, x10, x11, some (false, d), x13, x14, x15, x16, x17, x18, x19, x20] := by simp [share]
theorem build_run {x1 x2 : Option (Bool × D)} {β : Type} {f : Fl → M β} {Q : β → Wd → Prop} : ∀ (ks : List Int) (lo hi : List Int) (rows : List (List Int)) (x6 x8 : Option (Bool × D)) (w : Wd) (n : Int), Gd lo hi rows → lo.length + ks.length ≤ 4 → WB w n → n + 2 * ks.length ≤ 200000000 →
    (∀ (lo' hi' : List Int) (rows' : List (List Int)) (x6' x8' : Option (Bool × D)) (w' : Wd), Gd lo' hi' rows' → lo'.length = lo.length + ks.length → WB w' (n + 2 * ks.length) →
      Run (f (.nx [some (false, .tok), x1, x2, some (true, .lst (lo'.map D.int)), some (true, .lst (hi'.map D.int)), some (false, .lst (rows'.map tupI)), x6', none, x8', none, none, none, none, none, none, none, none, none, none, none, none])) w' Q) →
    Run (forL (gdN 6) b__law_alarms_hold_6 [7] (ks.map D.int) [some (false, .tok), x1, x2, some (true, .lst (lo.map D.int)), some (true, .lst (hi.map D.int)), some (false, .lst (rows.map tupI)), x6, none, x8, none, none, none, none, none, none, none, none, none, none, none, none] >>= f) w Q := by
  intro ks
  induction ks with
  | nil =>
    intro lo hi rows x6 x8 w n g hl hw hn k
    rw [List.map_nil, ev_forN, pure_bind']
    exact k lo hi rows x6 x8 w g (by simp) (by simpa using hw)
  | cons c ks ih =>
    intro lo hi rows x6 x8 w n g hl hw hn k
    rw [List.length_cons] at hn
    have l1 : (lo.map D.int).length < lineN := by rw [List.length_map]; exact big_lt (by simp at hl; omega)
    have l2 : (hi.map D.int).length < lineN := by rw [List.length_map]; exact big_lt (by have := g.l; simp at hl; omega)
    rw [List.map_cons, ev_forC]
    simp only [ev, evl, x_b__law_alarms_hold_6]
    refine run_draw hw (by omega) (by omega) (by omega) fun a w1 a0 a1 hw1 => ?_
    have al : atI (lo.map D.int ++ [D.int a]) (-1) = some (.int a) := at_lastC
    simp only [ev, evl, l1, if_pos, al]
    refine run_draw hw1 (by omega) (by omega) (by omega) fun d w2 d0 d1 hw2 => ?_
    have e1 : lo.map D.int ++ [D.int a] = (lo ++ [a]).map D.int := by simp
    have e2 : hi.map D.int ++ [D.int (a + d)] = (hi ++ [a + d]).map D.int := by simp
    have p2 : 2 ^ lo.length ≤ 2 ^ 4 := Nat.pow_le_pow_right (by omega) (by simp at hl; omega)
    obtain ⟨x8', lp⟩ := b5_loop (x0 := some (false, .tok)) (x1 := x1) (x2 := x2) (x5 := some (false, .lst (rows.map tupI))) (x6 := some (false, .int c)) (x9 := none) (x10 := none) (x11 := none) (x12 := none) (x13 := none) (x14 := none) (x15 := none) (x16 := none) (x17 := none) (x18 := none) (x19 := none) (x20 := none) (lo := lo) (hi := hi) (a := a) (d := d) d0 (by omega) a0 (by omega) rows [] x8 (fun x hx => (rd_of g (by simp at hl; omega) hx).n) (by have := g.n; simp; omega)
    simp only [List.map_nil, List.nil_append] at lp
    simp only [ev, evl, l2, if_pos, e1, e2, lp, share7]
    refine ih (lo ++ [a]) (hi ++ [a + d]) (moreF a d rows) (some (false, .int c)) x8' w2 (n + 2) (gd_step g a0 (by omega) d0 (by omega)) (by simp at hl ⊢; omega) (hw2.mono (by omega)) (by omega) fun lo' hi' rows' x6' x8'' w' g' l' hw' => ?_
    exact k lo' hi' rows' x6' x8'' w' g' (by rw [l']; simp; omega) (hw'.mono (by rw [List.length_cons]; omega))
/-! ### the hours of all rows -/
def lI (l : List Int) : D := .lst (l.map D.int)
theorem ext_loop {x0 x1 x2 x3 x4 x5 x6 x7 x8 x9 x10 x11 x15 x16 x17 x18 x19 x20 : Option (Bool × D)} : ∀ (sq : List Pr) (acc : List Int), (∀ p, p ∈ sq → 0 ≤ p.1 ∧ p.1 ≤ p.2 ∧ p.2 ≤ 10) → acc.length + sq.length * 11 ≤ 1000 →
    forL (gdTup 2 (gdCons (gdN 13) (gdCons (gdN 14) gdNil))) b__law_alarms_hold_3 [13, 14] (sq.map prD) [x0, x1, x2, x3, x4, x5, x6, x7, x8, x9, x10, x11, some (true, lI acc), none, none, x15, x16, x17, x18, x19, x20] =
      Pure.pure (.nx [x0, x1, x2, x3, x4, x5, x6, x7, x8, x9, x10, x11, some (true, lI (acc ++ flat sq)), none, none, x15, x16, x17, x18, x19, x20]) := by
  intro sq
  induction sq with
  | nil => intro acc _ _; simp [flat, lI]
  | cons p sq ih =>
    intro acc h hn
    have hp := h p (List.mem_cons_self ..)
    have mk : mkRg D.lst (p.1, p.2 + 1) = Pure.pure (.lst ((rgI p.1 (p.2 + 1 - p.1).toNat).map D.int)) := mkRg_le (by omega) (by omega) (by omega) (by omega) (by omega)
    rw [List.length_cons, Nat.succ_mul] at hn
    have rl : (rgI p.1 (p.2 + 1 - p.1).toNat).length ≤ 11 := by rw [rgI_len]; omega
    have b2 : (acc.map D.int).length + ((rgI p.1 (p.2 + 1 - p.1).toNat).map D.int).length ≤ lineN := by rw [List.length_map, List.length_map]; exact small_line (by omega)
    have e : acc.map D.int ++ (rgI p.1 (p.2 + 1 - p.1).toNat).map D.int = (acc ++ rgI p.1 (p.2 + 1 - p.1).toNat).map D.int := by rw [List.map_append]
    have i := ih (acc ++ rgI p.1 (p.2 + 1 - p.1).toNat) (fun q hq => h q (List.mem_cons_of_mem _ hq)) (by rw [List.length_append]; omega)
    have em : acc ++ flat (p :: sq) = acc ++ rgI p.1 (p.2 + 1 - p.1).toNat ++ flat sq := by
      unfold flat
      rw [List.flatMap_cons, List.append_assoc]
    rw [List.map_cons, ev_forC, em]
    simp only [lI] at i ⊢
    simp only [x_b__law_alarms_hold_3, prD, ev, evl, evc, if_pos, mk, b2, e]
    exact i
def onR (r : Ru) (x : List Int) : List Int := onF 0 (hrs r x)
theorem rings_loop {r : Ru} (hr : r.Ok) {x0 x1 x3 x4 x5 x6 x9 : Option (Bool × D)} : ∀ (rows done : List (List Int)), (∀ x, x ∈ rows → Rd x) → done.length + rows.length ≤ 1000 → ∀ x8,
    forL (gdN 8) b__law_alarms_hold_4 [12, 13, 14] (rows.map tupI) [x0, x1, some (false, ruD r), x3, x4, x5, x6, none, x8, x9, some (true, .lst (done.map fun x => lI (onR r x))), some (true, .lst (done.map fun x => fo (onR r x))), none, none, none, none, none, none, none, none, none] =
      Pure.pure (.nx [x0, x1, some (false, ruD r), x3, x4, x5, x6, none, (rows.getLast?.map fun x => (false, tupI x)).or x8, x9, some (true, .lst ((done ++ rows).map fun x => lI (onR r x))), some (true, .lst ((done ++ rows).map fun x => fo (onR r x))), none, none, none, none, none, none, none, none, none]) := by
  intro rows
  induction rows with
  | nil => intro done _ _ x8; simp
  | cons x rows ih =>
    intro done h hn x8
    have hx := h x (List.mem_cons_self ..)
    obtain ⟨sq, e1, e2, e3, e4⟩ := alarms_i hr hx
    have lp := ext_loop (x0 := x0) (x1 := x1) (x2 := some (false, ruD r)) (x3 := x3) (x4 := x4) (x5 := x5) (x6 := x6) (x7 := none) (x8 := some (false, tupI x)) (x9 := x9) (x10 := some (true, .lst (done.map fun x => lI (onR r x)))) (x11 := some (true, .lst (done.map fun x => fo (onR r x)))) (x15 := none) (x16 := none) (x17 := none) (x18 := none) (x19 := none) (x20 := none) sq [] e4 (by simp; omega)
    rw [e2, List.nil_append] at lp
    have ln : (done.map fun x => lI (onR r x)).length < lineN := by rw [List.length_map]; exact big_lt (by simp at hn; omega)
    have ln2 : (done.map fun x => fo (onR r x)).length < lineN := by rw [List.length_map]; exact big_lt (by simp at hn; omega)
    have i := ih (done ++ [x]) (fun y hy => h y (List.mem_cons_of_mem _ hy)) (by simp at hn ⊢; omega) (some (false, tupI x))
    rw [List.append_assoc] at i
    have gl : (((x :: rows).getLast?.map fun x => (false, tupI x)).or x8) = ((rows.getLast?.map fun x => (false, tupI x)).or (some (false, tupI x))) := by
      cases rows with
      | nil => simp
      | cons y ys => simp [List.getLast?_cons_cons, List.getLast?_cons]
    have m1 : (done ++ [x]).map (fun x => lI (onR r x)) = (done.map fun x => lI (onR r x)) ++ [lI (onR r x)] := by simp
    have m2 : (done ++ [x]).map (fun x => fo (onR r x)) = (done.map fun x => fo (onR r x)) ++ [fo (onR r x)] := by simp
    rw [m1, m2] at i
    rw [List.map_cons, ev_forC, gl]
    have foE : (fun _ : Unit => fo (onR r x)) () = fo (onR r x) := rfl
    simp only [lI, List.map_nil] at lp ln ⊢
    have oR : onF 0 (hrs r x) = onR r x := rfl
    rw [oR] at lp
    simp only [x_b__law_alarms_hold_4, ev, evl, e1, lp, share12, ln, ln2, if_pos]
    cases c : onR r x with
    | nil =>
      rw [c] at i
      simp only [lI, fo] at i ⊢
      simp only [ev, evb, evl, evc, List.map_nil, List.isEmpty_nil, ln2, if_pos]
      exact i
    | cons a t =>
      rw [c] at i
      simp only [lI, fo] at i ⊢
      simp only [ev, evb, evl, evc, List.map_cons, List.isEmpty_cons, ln2, if_pos]
      exact i
theorem o_inI (k : Int) (l : List Int) : oInS (.int k) (.lst (l.map D.int)) = some (.bl (decide (k ∈ l))) := by
  classical
  rw [o_inL (by simp) (by simp)]
  congr 2
  rw [decide_eq_decide]
  constructor
  · intro z
    obtain ⟨a, ha, e⟩ := List.mem_map.mp z
    injection e with e
    rw [← e]
    exact ha
  · exact fun z => List.mem_map_of_mem z
theorem o_notinI (k : Int) (l : List Int) : oNotInS (.int k) (.lst (l.map D.int)) = some (.bl (!decide (k ∈ l))) := by
  classical
  rw [o_notinL (by simp) (by simp)]
  congr 3
  rw [decide_eq_decide]
  constructor
  · intro z
    obtain ⟨a, ha, e⟩ := List.mem_map.mp z
    injection e with e
    rw [← e]
    exact ha
  · exact fun z => List.mem_map_of_mem z
theorem ring_mem {r : Ru} {x : List Int} {k : Nat} : (k : Int) ∈ onR r x ↔ ring r x k = true := by
  unfold onR ring
  rw [mem_onF]
  simp only [Int.sub_zero, Int.toNat_natCast, List.getD_eq_getElem?_getD]
  constructor
  · rintro ⟨_, h⟩
    rw [h]
    rfl
  · intro h
    refine ⟨by omega, ?_⟩
    cases c : (hrs r x)[k]? with
    | none => rw [c] at h; simp at h
    | some b => rw [c] at h; simp at h; rw [h]
theorem rel0 {r : Ru} (h : r.Ok) : Rel r (false, 0) (false, 0) := by
  have := h.b
  simp [Rel]
  omega
theorem ring_mono {r : Ru} (h : r.Ok) {x y : List Int} (l : x.length = y.length) (v : ∀ i (h1 : i < x.length) (h2 : i < y.length), x[i] ≤ y[i]) : ∀ k : Int, k ∈ onR r x → k ∈ onR r y := fun k hk => by
  unfold onR at hk ⊢
  rw [mem_onF] at hk ⊢
  exact ⟨hk.1, hs_mono h x y _ _ (rel0 h) l v _ hk.2⟩
theorem on_lo {r : Ru} (h : r.Ok) {lo hi : List Int} {rows : List (List Int)} (g : Gd lo hi rows) {x : List Int} (hx : x ∈ rows) : (∀ k : Int, k ∈ onR r lo → k ∈ onR r x) ∧ ∀ k : Int, k ∈ onR r x → k ∈ onR r hi := by
  obtain ⟨l1, l2, l3⟩ := g.b x hx
  exact ⟨ring_mono h (by omega) fun i h1 h2 => (l3 i h1 h2 (by omega)).1, ring_mono h (by omega) fun i h1 h2 => (l3 i (by omega) h1 h2).2⟩
theorem onF_least : ∀ (l : List Bool) (i a : Int) (t : List Int), onF i l = a :: t → ∀ y, y ∈ onF i l → a ≤ y
  | [], i, a, t, e, y, hy => by simp [onF] at hy
  | b :: l, i, a, t, e, y, hy => by
    cases b with
    | true =>
      have e2 : i :: onF (i + 1) l = a :: t := e
      injection e2 with e3 _
      have := (mem_onF (true :: l) i y).mp hy
      omega
    | false => exact onF_least l (i + 1) a t e y hy
def inR (r : Ru) (rows : List (List Int)) (k : Nat) (j : Int) : Bool := ring r (rows.getD j.toNat []) k
theorem get_row {rows : List (List Int)} {j : Int} (h : j ∈ rgI 0 rows.length) : ∃ hj : j.toNat < rows.length, rows.getD j.toNat [] = rows[j.toNat] ∧ atI (rows.map tupI) j = some (tupI rows[j.toNat]) := by
  have h := rgI_mem.mp h
  obtain ⟨m, rfl⟩ : ∃ m : Nat, j = m := ⟨j.toNat, by omega⟩
  have hm : m < rows.length := by omega
  exact ⟨by simpa using hm, by simp [List.getD_eq_getElem?_getD, List.getElem?_eq_getElem hm], by
    have : atI (rows.map tupI) (m : Int) = some (tupI rows[m]) := atM hm
    simpa using this⟩
theorem w00 : wordF (false, false) = "off" := rfl
theorem w01 : wordF (false, true) = "open" := rfl
theorem w10 : wordF (true, false) = "on" := rfl
theorem w11 : wordF (true, true) = "on" := rfl
theorem hour_ok {r : Ru} (hr : r.Ok) {lo hi : List Int} {rows : List (List Int)} (g : Gd lo hi rows) (hn : lo.length ≤ 4) {x0 x1 x6 x8 : Option (Bool × D)} {FI : D} {k : Nat} (hk : k < lo.length) :
    ∃ x16 x17 : Option (Bool × D), b__law_alarms_hold_2 [x0, x1, some (false, ruD r), some (false, tupI lo), some (false, tupI hi), some (false, .lst (rows.map tupI)), x6, none, x8, some (false, .tup (((hrs r lo).zip (hrs r hi)).map fun p => .str (wordF p))), some (true, .lst (rows.map fun x => lI (onR r x))), some (true, FI), none, none, none, some (false, .int k), none, none, none, none, none] =
      Pure.pure (.nx [x0, x1, some (false, ruD r), some (false, tupI lo), some (false, tupI hi), some (false, .lst (rows.map tupI)), x6, none, x8, some (false, .tup (((hrs r lo).zip (hrs r hi)).map fun p => .str (wordF p))), some (true, .lst (rows.map fun x => lI (onR r x))), some (true, FI), none, none, none, some (false, .int k), x16, x17, none, none, none]) := by
  have rn : rows.length ≤ 16 := by
    have := g.n
    have p2 : 2 ^ lo.length ≤ 2 ^ 4 := Nat.pow_le_pow_right (by omega) hn
    omega
  have rg := rg1N (n := rows.length) (by omega)
  have ri : ∀ j : Int, j ∈ rgI 0 rows.length → atI (rows.map fun x => lI (onR r x)) j = some (lI (onR r (rows.getD j.toNat []))) := fun j hj => by
    obtain ⟨h1, h2, h3⟩ := get_row hj
    rw [h2]
    have hj := rgI_mem.mp hj
    obtain ⟨m, rfl⟩ : ∃ m : Nat, j = m := ⟨j.toNat, by omega⟩
    have : atI (rows.map fun x => lI (onR r x)) (m : Int) = some (lI (onR r rows[m])) := atM (f := fun x => lI (onR r x)) (by omega)
    simpa using this
  have dm : ∀ j : Int, decide ((k : Int) ∈ onR r (rows.getD j.toNat [])) = inR r rows k j := fun j => by
    unfold inR
    rw [Bool.eq_iff_iff, decide_eq_true_eq, ring_mem]
  have c1 := comp_flt (f := D.int) (i := 6) (t := t__law_alarms_hold_2) (el := e__law_alarms_hold_2) (ρ := [x0, x1, some (false, ruD r), some (false, tupI lo), some (false, tupI hi), some (false, .lst (rows.map tupI)), none, none, x8, some (false, .tup (((hrs r lo).zip (hrs r hi)).map fun p => .str (wordF p))), some (true, .lst (rows.map fun x => lI (onR r x))), some (true, FI), none, none, none, some (false, .int k), none, none, none, none, none]) (inR r rows k) D.int (rgI 0 rows.length) fun j hj => by
    have q := ri j hj
    have q2 := o_inI k (onR r (rows.getD j.toNat []))
    rw [dm] at q2
    exact ⟨by simp only [x_t__law_alarms_hold_2, List.set, ev, evl, q]; simp only [lI, ev, q2], fun _ => by simp only [x_e__law_alarms_hold_2, List.set, ev]⟩
  have c2 := comp_flt (f := D.int) (i := 6) (t := t__law_alarms_hold_3) (el := e__law_alarms_hold_2) (ρ := [x0, x1, some (false, ruD r), some (false, tupI lo), some (false, tupI hi), some (false, .lst (rows.map tupI)), none, none, x8, some (false, .tup (((hrs r lo).zip (hrs r hi)).map fun p => .str (wordF p))), some (true, .lst (rows.map fun x => lI (onR r x))), some (true, FI), none, none, none, some (false, .int k), none, none, none, none, none]) (fun j => !inR r rows k j) D.int (rgI 0 rows.length) fun j hj => by
    have q := ri j hj
    have q2 := o_notinI k (onR r (rows.getD j.toNat []))
    rw [dm] at q2
    exact ⟨by simp only [x_t__law_alarms_hold_3, List.set, ev, evl, q]; simp only [lI, ev, q2], fun _ => by simp only [x_e__law_alarms_hold_2, List.set, ev]⟩
  obtain ⟨can, hcan⟩ : ∃ can, (rgI 0 rows.length).filter (inR r rows k) = can := ⟨_, rfl⟩
  obtain ⟨may, hmay⟩ : ∃ may, (rgI 0 rows.length).filter (fun j => !inR r rows k j) = may := ⟨_, rfl⟩
  rw [hcan] at c1
  rw [hmay] at c2
  have cl : can.length ≤ 16 := by rw [← hcan]; exact Nat.le_trans (List.length_filter_le _ _) (by rw [rgI_len]; exact rn)
  have ml : may.length ≤ 16 := by rw [← hmay]; exact Nat.le_trans (List.length_filter_le _ _) (by rw [rgI_len]; exact rn)
  have l1 := mkLst_le (x := can.map D.int) (by rw [List.length_map]; exact small_line (by omega))
  have l2 := mkLst_le (x := may.map D.int) (by rw [List.length_map]; exact small_line (by omega))
  have row_in : ∀ x, x ∈ rows → ∃ j, j ∈ rgI 0 rows.length ∧ rows.getD j.toNat [] = x := fun x hx => by
    obtain ⟨j, hj, rfl⟩ := List.mem_iff_getElem.mp hx
    exact ⟨(j : Int), rgI_mem.mpr (by omega), by simp [List.getD_eq_getElem?_getD, List.getElem?_eq_getElem hj]⟩
  have me : may.isEmpty = ring r lo k := by
    rw [Bool.eq_iff_iff, List.isEmpty_iff, ← hmay, List.filter_eq_nil_iff]
    constructor
    · intro h
      obtain ⟨j, hj, e⟩ := row_in lo g.m.1
      have := h j hj
      unfold inR at this
      rw [e] at this
      simpa using this
    · intro h j hj
      obtain ⟨h1, h2, h3⟩ := get_row hj
      unfold inR
      rw [h2]
      have := ring_mem.mp ((on_lo hr g (List.getElem_mem h1)).1 k (ring_mem.mpr h))
      simp [this]
  have ce : can.isEmpty = !ring r hi k := by
    rw [Bool.eq_iff_iff, List.isEmpty_iff, ← hcan, List.filter_eq_nil_iff]
    constructor
    · intro h
      obtain ⟨j, hj, e⟩ := row_in hi g.m.2
      have := h j hj
      unfold inR at this
      rw [e] at this
      simpa using this
    · intro h j hj z
      obtain ⟨h1, h2, h3⟩ := get_row hj
      unfold inR at z
      rw [h2] at z
      have := ring_mem.mp ((on_lo hr g (List.getElem_mem h1)).2 k (ring_mem.mpr z))
      rw [this] at h
      simp at h
  have hl1 : (hrs r lo).length = lo.length := hs_len r lo _
  have hl2 : (hrs r hi).length = hi.length := hs_len r hi _
  have gl := g.l
  have kz : k < ((hrs r lo).zip (hrs r hi)).length := by rw [List.length_zip]; omega
  have wa : atI (((hrs r lo).zip (hrs r hi)).map fun p => D.str (wordF p)) (k : Int) = some (.str (wordF (ring r lo k, ring r hi k))) := by
    have := atM (f := fun p : Bool × Bool => D.str (wordF p)) kz
    rw [List.getElem_zip] at this
    have e1 : (hrs r lo)[k]'(by omega) = ring r lo k := by
      unfold ring
      rw [List.getD_eq_getElem?_getD, List.getElem?_eq_getElem (by omega)]
      rfl
    have e2 : (hrs r hi)[k]'(by omega) = ring r hi k := by
      unfold ring
      rw [List.getD_eq_getElem?_getD, List.getElem?_eq_getElem (by omega)]
      rfl
    rw [e1, e2] at this
    exact this
  have n1 : oNe (.str "on") (.str "on") = some (.bl false) := o_neSP (by rw [plE_s]; decide +kernel)
  have n2 : oNe (.str "off") (.str "off") = some (.bl false) := o_neSP (by rw [plE_s]; decide +kernel)
  have n3 : oNe (.str "open") (.str "open") = some (.bl false) := o_neSP (by rw [plE_s]; decide +kernel)
  have mk := mkRg0 (k := D.lst) (n := rows.length) (by omega)
  have lr := lawRows_ok (l := rgI 0 rows.length) (n := 2) (by omega) (fun j hj => by
    rw [rgI_len]
    have : j = 0 ∨ j = 1 ∨ j = 2 := by omega
    have p := Nat.pow_le_pow_left rn j
    rcases this with rfl | rfl | rfl <;> omega) (by rw [rgI_len]; omega)
  have rows2 : f__law_rows [.lst ((rgI 0 rows.length).map D.int), .int 2] = Pure.pure (.lst ((rowsF (rgI 0 rows.length) 2).map tupI)) := lr
  have fn := for_none (f := tupI) (gd := gdTup 2 (gdCons (gdN 18) (gdCons (gdN 19) gdNil))) (body := b__law_alarms_hold_1) (kl := [18, 19]) (S := [x0, x1, some (false, ruD r), some (false, tupI lo), some (false, tupI hi), some (false, .lst (rows.map tupI)), x6, none, x8, some (false, .tup (((hrs r lo).zip (hrs r hi)).map fun p => .str (wordF p))), some (true, .lst (rows.map fun x => lI (onR r x))), some (true, FI), none, none, none, some (false, .int k), some (false, .lst (can.map D.int)), some (false, .lst (may.map D.int)), none, none, none]) (rowsF (rgI 0 rows.length) 2) fun own ho => by
    obtain ⟨o1, o2⟩ := mem_rowsF.mp ho
    match own, o1, o2 with
    | [a, b], _, o2 =>
      have ha := o2 a (by simp)
      have hb := o2 b (by simp)
      obtain ⟨a1, a2, a3⟩ := get_row ha
      obtain ⟨b1, b2, b3⟩ := get_row hb
      have ma := List.getElem_mem a1
      have mb := List.getElem_mem b1
      have bl : Bt lo lo hi := g.b lo g.m.1
      have tk := taken6 (tb := tbl) (x := "accept_open") rfl (open_i hr (rd_of g (by omega) g.m.1) (rd_of g (by omega) g.m.2) bl (rd_of g (by omega) ma) (rd_of g (by omega) mb) (g.b _ ma) (g.b _ mb) hk)
      have tk : f__law_is_taken [.fn "accept_open", .lst [ruD r, tupI lo, tupI hi, .int k, tupI rows[a.toNat], tupI rows[b.toNat]]] = _ := tk
      have m6 := mkLst_le (x := [ruD r, tupI lo, tupI hi, .int k, tupI rows[a.toNat], tupI rows[b.toNat]]) (small_line (by simp))
      have i1 : oInS (.int a) (.lst (can.map D.int)) = some (.bl (ring r rows[a.toNat] k)) := by
        have e : decide (a ∈ can) = ring r rows[a.toNat] k := by
          rw [Bool.eq_iff_iff, decide_eq_true_eq, ← hcan, List.mem_filter]
          unfold inR
          rw [a2]
          exact ⟨fun z => z.2, fun z => ⟨ha, z⟩⟩
        rw [o_inI, e]
      have i2 : oInS (.int b) (.lst (may.map D.int)) = some (.bl (!ring r rows[b.toNat] k)) := by
        have e : decide (b ∈ may) = !ring r rows[b.toNat] k := by
          rw [Bool.eq_iff_iff, decide_eq_true_eq, ← hmay, List.mem_filter]
          unfold inR
          rw [b2]
          exact ⟨fun z => z.2, fun z => ⟨hb, z⟩⟩
        rw [o_inI, e]
      refine ⟨_, rfl, [x0, x1, some (false, ruD r), some (false, tupI lo), some (false, tupI hi), some (false, .lst (rows.map tupI)), x6, none, x8, some (false, .tup (((hrs r lo).zip (hrs r hi)).map fun p => .str (wordF p))), some (true, .lst (rows.map fun x => lI (onR r x))), some (true, FI), none, none, none, some (false, .int k), some (false, .lst (can.map D.int)), some (false, .lst (may.map D.int)), some (false, .int a), some (false, .int b), none], ?_, rfl⟩
      simp only [x_b__law_alarms_hold_1, List.set, ev, evb, evl, a3, b3, m6, tk, i1]
      cases ring r rows[a.toNat] k <;> cases q : ring r rows[b.toNat] k <;> rw [q] at i2 <;> simp only [ev, evb, evl, evc, i2, Bool.not_true, Bool.not_false]
  refine ⟨some (false, .lst (can.map D.int)), some (false, .lst (may.map D.int)), ?_⟩
  simp only [x_b__law_alarms_hold_2, ev, evl, evc, List.length_map, rg, c1, l1, c2, l2, if_pos, wa, List.isEmpty_map, me, ce]
  cases q1 : ring r lo k <;> cases q2 : ring r hi k <;> simp only [ev, evb, evl, evc, w00, w01, w10, w11, n1, n2, n3, Bool.not_true, Bool.not_false, mk, rows2, fn, List.length_map, Bool.false_eq_true, if_true, if_false]
def hd (l : List Int) : Int := l.headD 0
theorem fo0 : fo [] = .non := rfl
theorem fo1 {a : Int} {t : List Int} : fo (a :: t) = .int a := rfl
theorem known_eq (r : Ru) : ∀ rows : List (List Int), ((rows.filter fun x => !(onR r x).isEmpty).map fun x => fo (onR r x)) = ((rows.filter fun x => !(onR r x).isEmpty).map fun x => hd (onR r x)).map D.int
  | [] => rfl
  | x :: rows => by
    have ih := known_eq r rows
    cases c : onR r x with
    | nil => rw [List.filter_cons_of_neg (by simp [c])]; exact ih
    | cons a t => rw [List.filter_cons_of_pos (by simp [c]), List.map_cons, List.map_cons, List.map_cons, ih, c]; rfl
theorem hd_mem {l : List Int} (h : l ≠ []) : hd l ∈ l := by
  cases l with
  | nil => exact absurd rfl h
  | cons a t => exact List.mem_cons_self ..
theorem hd_le {r : Ru} {x : List Int} : ∀ y, y ∈ onR r x → hd (onR r x) ≤ y := fun y hy => by
  cases c : onR r x with
  | nil => rw [c] at hy; exact nomatch hy
  | cons a t =>
    have := onF_least (hrs r x) 0 a t c y hy
    exact this
theorem final_ok {r : Ru} (hr : r.Ok) {lo hi : List Int} {rows : List (List Int)} (g : Gd lo hi rows) (hn : lo.length ≤ 4) {x0 x1 x5 x6 x8 x9 x10 : Option (Bool × D)} :
    r9__law_alarms_hold [x0, x1, some (false, ruD r), some (false, tupI lo), some (false, tupI hi), x5, x6, none, x8, x9, x10, some (true, .lst (rows.map fun x => fo (onR r x))), none, none, none, none, none, none, none, none, none] >>= endD = Pure.pure (.bl true) := by
  have rn : rows.length ≤ 16 := by
    have := g.n
    have p2 : 2 ^ lo.length ≤ 2 ^ 4 := Nat.pow_le_pow_right (by omega) hn
    omega
  have c := comp_flt (f := fun x => fo (onR r x)) (i := 8) (t := t__law_alarms_hold_1) (el := e__law_alarms_hold_1) (ρ := [x0, x1, some (false, ruD r), some (false, tupI lo), some (false, tupI hi), x5, x6, none, none, x9, x10, some (true, .lst (rows.map fun x => fo (onR r x))), none, none, none, none, none, none, none, none, none]) (fun x => !(onR r x).isEmpty) (fun x => fo (onR r x)) rows fun x _ => ⟨by
    simp only [x_t__law_alarms_hold_1, List.set, ev, evl]
    cases onR r x <;> simp only [fo, ev, evb, List.isEmpty_nil, List.isEmpty_cons, Bool.not_true, Bool.not_false], fun _ => by simp only [x_e__law_alarms_hold_1, List.set, ev]⟩
  rw [known_eq] at c
  obtain ⟨kn, hkn⟩ : ∃ kn, ((rows.filter fun x => !(onR r x).isEmpty).map fun x => hd (onR r x)) = kn := ⟨_, rfl⟩
  rw [hkn] at c
  have kl : kn.length ≤ 16 := by rw [← hkn, List.length_map]; exact Nat.le_trans (List.length_filter_le _ _) rn
  have l1 := mkLst_le (x := kn.map D.int) (by rw [List.length_map]; exact small_line (by omega))
  have fi := first_i hr (rd_of g (by omega) g.m.1) (rd_of g (by omega) g.m.2) (g.b lo g.m.1)
  have km : ∀ y, y ∈ kn ↔ ∃ x, x ∈ rows ∧ onR r x ≠ [] ∧ hd (onR r x) = y := fun y => by
    rw [← hkn, List.mem_map]
    constructor
    · rintro ⟨x, hx, e⟩
      obtain ⟨h1, h2⟩ := List.mem_filter.mp hx
      exact ⟨x, h1, by simpa using h2, e⟩
    · rintro ⟨x, h1, h2, e⟩
      exact ⟨x, List.mem_filter.mpr ⟨h1, by simpa using h2⟩, e⟩
  have pln : plE 64 (.lst (rows.map fun x => fo (onR r x))) = true := by
    rw [plE_lst, plEs_all]
    intro d hd
    obtain ⟨x, _, rfl⟩ := List.mem_map.mp hd
    cases onR r x <;> simp [fo]
  have inn : oInS .non (.lst (rows.map fun x => fo (onR r x))) = some (.bl (onR r lo).isEmpty) := by
    classical
    have e : decide (D.non ∈ rows.map fun x => fo (onR r x)) = (onR r lo).isEmpty := by
      rw [Bool.eq_iff_iff, decide_eq_true_eq, List.isEmpty_iff, List.mem_map]
      constructor
      · rintro ⟨x, hx, e⟩
        have nx : onR r x = [] := by
          cases c : onR r x with
          | nil => rfl
          | cons a t => rw [c] at e; exact nomatch e
        refine List.eq_nil_iff_forall_not_mem.mpr fun k hk => ?_
        have := (on_lo hr g hx).1 k hk
        rw [nx] at this
        exact nomatch this
      · intro h
        exact ⟨lo, g.m.1, by rw [h]; rfl⟩
    rw [o_inL (by simp) pln, e]
  have f1 : fo (onF 0 (hrs r hi)) = fo (onR r hi) := rfl
  have f2 : fo (onF 0 (hrs r lo)) = fo (onR r lo) := rfl
  rw [f1, f2] at fi
  have eqS : ∀ d : D, plE 60 d = true → oEq d d = some (.bl true) := fun d hd => o_eqSP (plE_mono (by decide) hd)
  cases ch : onR r hi with
  | nil =>
    have lo0 : onR r lo = [] := List.eq_nil_iff_forall_not_mem.mpr fun k hk => by
      have := (on_lo hr g g.m.1).2 k hk
      rw [ch] at this
      exact nomatch this
    have k0 : kn = [] := List.eq_nil_iff_forall_not_mem.mpr fun y hy => by
      obtain ⟨x, hx, nx, _⟩ := (km y).mp hy
      refine nx (List.eq_nil_iff_forall_not_mem.mpr fun k hk => ?_)
      have := (on_lo hr g hx).2 k hk
      rw [ch] at this
      exact nomatch this
    rw [ch, lo0] at fi
    rw [lo0] at inn
    subst k0
    have q : oEq (.tup [.non, .non]) (.tup [.non, .non]) = some (.bl true) := eqS _ (by simp)
    simp only [x_r9__law_alarms_hold, ev, evl, c, l1, x_r10__law_alarms_hold, fi, fo0, fo1, List.map_nil, List.isEmpty_nil, inn, evb, q]
  | cons a t =>
    have nh : onR r hi ≠ [] := by rw [ch]; simp
    have ah : hd (onR r hi) = a := by rw [ch]; rfl
    have am : a ∈ kn := (km a).mpr ⟨hi, g.m.2, nh, ah⟩
    have al : ∀ y, y ∈ kn → a ≤ y := fun y hy => by
      obtain ⟨x, hx, nx, rfl⟩ := (km y).mp hy
      rw [← ah]
      exact hd_le _ ((on_lo hr g hx).2 _ (hd_mem nx))
    have mn := minE_is am al
    have ne : (kn.map D.int).isEmpty = false := by
      rw [List.isEmpty_map, List.isEmpty_eq_false_iff]
      intro z
      rw [z] at am
      exact nomatch am
    cases cl : onR r lo with
    | nil =>
      rw [ch, cl] at fi
      rw [cl] at inn
      have q : oEq (.tup [.int a, .non]) (.tup [.int a, .non]) = some (.bl true) := eqS _ (by simp)
      simp only [x_r9__law_alarms_hold, ev, evl, c, l1, x_r10__law_alarms_hold, fi, fo0, fo1, ne, mn, List.isEmpty_nil, inn, evb, q]
    | cons b u =>
      have nl : onR r lo ≠ [] := by rw [cl]; simp
      have bh : hd (onR r lo) = b := by rw [cl]; rfl
      have bm : b ∈ kn := (km b).mpr ⟨lo, g.m.1, nl, bh⟩
      have bl : ∀ y, y ∈ kn → y ≤ b := fun y hy => by
        obtain ⟨x, hx, nx, rfl⟩ := (km y).mp hy
        rw [← bh]
        exact hd_le _ ((on_lo hr g hx).1 _ (hd_mem nl))
      have mx := maxE_is bm bl
      rw [ch, cl] at fi
      rw [cl] at inn
      have q : oEq (.tup [.int a, .int b]) (.tup [.int a, .int b]) = some (.bl true) := eqS _ (by simp)
      simp only [x_r9__law_alarms_hold, ev, evl, c, l1, x_r10__law_alarms_hold, fi, fo0, fo1, ne, mn, List.isEmpty_cons, inn, mx, evb, q]
theorem hours_ok {r : Ru} (hr : r.Ok) {lo hi : List Int} {rows : List (List Int)} (g : Gd lo hi rows) (hn : lo.length ≤ 4) {x0 x1 x8 : Option (Bool × D)} {FI : D} {x6 : Option (Bool × D)} : ∀ ks : List Int, (∀ k, k ∈ ks → 0 ≤ k ∧ k < (lo.length : Int)) →
    forL (gdN 15) b__law_alarms_hold_2 [15, 16, 17, 18, 19] (ks.map D.int) [x0, x1, some (false, ruD r), some (false, tupI lo), some (false, tupI hi), some (false, .lst (rows.map tupI)), x6, none, x8, some (false, .tup (((hrs r lo).zip (hrs r hi)).map fun p => .str (wordF p))), some (true, .lst (rows.map fun x => lI (onR r x))), some (true, FI), none, none, none, none, none, none, none, none, none] =
      Pure.pure (.nx [x0, x1, some (false, ruD r), some (false, tupI lo), some (false, tupI hi), some (false, .lst (rows.map tupI)), x6, none, x8, some (false, .tup (((hrs r lo).zip (hrs r hi)).map fun p => .str (wordF p))), some (true, .lst (rows.map fun x => lI (onR r x))), some (true, FI), none, none, none, none, none, none, none, none, none]) := by
  intro ks
  induction ks with
  | nil => intro _; rfl
  | cons k ks ih =>
    intro h
    have hk := h k (List.mem_cons_self ..)
    obtain ⟨m, rfl⟩ : ∃ m : Nat, k = m := ⟨k.toNat, by omega⟩
    obtain ⟨x16, x17, e⟩ := hour_ok (x0 := x0) (x1 := x1) (x6 := x6) (x8 := x8) (FI := FI) hr g hn (k := m) (by omega)
    rw [List.map_cons, ev_forC]
    simp only [ev, evl, e]
    exact ih fun k hk => h k (List.mem_cons_of_mem _ hk)
theorem hold_ok (w : Wd) (n : Int) (hw : WB w n) (hn : n ≤ 100000000) : Run (f__law_alarms_hold [.tok]) w fun v w' => v = .bl true ∧ WB w' (n + 20) := by
  simp only [f__law_alarms_hold, evf, evl, if_pos, Nat.reduceSub]
  simp only [d__law_alarms_hold, ev, evl]
  refine run_draw hw (by omega) (by omega) (by omega) fun off w1 o0 o1 hw1 => ?_
  simp only [ev, evl, x_r2__law_alarms_hold]
  refine run_draw hw1 (by omega) (by omega) (by omega) fun a w2 a0 a1 hw2 => ?_
  simp only [ev]
  refine run_draw hw2 (by omega) (by omega) (by omega) fun b w3 b0 b1 hw3 => ?_
  simp only [ev]
  refine run_draw hw3 (by omega) (by omega) (by omega) fun c w4 c0 c1 hw4 => ?_
  obtain ⟨r, er⟩ : ∃ r : Ru, r = ⟨off + a, off, 1 + b, 1 + c⟩ := ⟨_, rfl⟩
  have hr : r.Ok := by
    subst er
    exact ⟨by show 0 ≤ off ∧ off ≤ off + a ∧ off + a ≤ 100; omega, by show 1 ≤ 1 + b ∧ 1 + b ≤ 2 ∧ 1 ≤ 1 + c ∧ 1 + c ≤ 2; omega⟩
  have eD : D.tup [.int (off + a), .int off, .int (1 + b), .int (1 + c)] = ruD r := by subst er; rfl
  have m1 : mkLst [D.tup []] = Pure.pure (.lst [.tup []]) := mkLst1
  simp only [ev, evl, eD, x_r3__law_alarms_hold, m1, if_pos, x_r4__law_alarms_hold]
  refine run_draw hw4 (by omega) (by omega) (by omega) fun k w5 k0 k1 hw5 => ?_
  simp only [ev, rgN (a := 1 + k) (by omega) (by omega)]
  have g0 : Gd [] [] [[]] := ⟨rfl, ⟨(fun _ z => nomatch z), (fun _ z => nomatch z)⟩, fun x hx => by
    simp at hx
    subst hx
    exact ⟨rfl, rfl, fun i h1 => by simp at h1⟩, ⟨by simp, by simp⟩, by simp⟩
  refine build_run (rgI 0 (1 + k).toNat) [] [] [[]] none none w5 (n + 5) g0 (by simp [rgI_len]; omega) (hw5.mono (by omega)) (by simp [rgI_len]; omega) fun lo hi rows x6 x8 w6 g hl hw6 => ?_
  have ln : lo.length ≤ 4 := by rw [hl]; simp [rgI_len]; omega
  have tl : oTupOf [.lst (lo.map D.int)] = some (tupI lo) := o_tupL
  have th : oTupOf [.lst (hi.map D.int)] = some (tupI hi) := o_tupL
  have ju := judge_i hr (rd_of g (by omega) g.m.1) (rd_of g (by omega) g.m.2) (g.b lo g.m.1)
  have rn : rows.length ≤ 16 := by
    have := g.n
    have p2 : 2 ^ lo.length ≤ 2 ^ 4 := Nat.pow_le_pow_right (by omega) ln
    omega
  have rl := fun x8 => rings_loop (r := r) hr (x0 := some (false, .tok)) (x1 := some (false, .int off)) (x3 := some (false, tupI lo)) (x4 := some (false, tupI hi)) (x5 := some (false, .lst (rows.map tupI))) (x6 := x6) (x9 := some (false, .tup (((hrs r lo).zip (hrs r hi)).map fun p => .str (wordF p)))) rows [] (fun x hx => rd_of g (by omega) hx) (by simp; omega) x8
  have ol : oLen [tupI lo] = some (.int lo.length) := by simp only [tupI, ev, List.length_map]
  have rg := rg1N (n := lo.length) (by omega)
  have ho := fun x8 => hours_ok (r := r) hr g ln (x0 := some (false, .tok)) (x1 := some (false, .int off)) (x8 := x8) (FI := .lst (rows.map fun x => fo (onR r x))) (x6 := x6) (rgI 0 lo.length) fun k hk => by have := rgI_mem.mp hk; omega
  have fin := fun x8 => final_ok (r := r) hr g ln (x0 := some (false, .tok)) (x1 := some (false, .int off)) (x5 := some (false, .lst (rows.map tupI))) (x6 := x6) (x8 := x8) (x9 := some (false, .tup (((hrs r lo).zip (hrs r hi)).map fun p => .str (wordF p)))) (x10 := some (true, .lst (rows.map fun x => lI (onR r x))))
  simp only [List.map_nil, List.nil_append] at rl
  refine run_is (a := D.bl true) ?_ ⟨rfl, hw6.mono (by simp [rgI_len]; omega)⟩
  simp only [ev, evl, x_r5__law_alarms_hold, tl, th, ju, if_pos, x_r6__law_alarms_hold, x_r7__law_alarms_hold, rl, x_r8__law_alarms_hold, ol, rg, ho]
  exact fin _
theorem turns : Turns d_law := turns_of (k := 2) (c := 20) (by omega) (by omega) (by omega) (by omega) hold_ok
end Lw
open PySem PySem.W PySem.Calls PyProof.Rows
theorem PySem.Challenge.cw_raingauged_k23_papers_of_open_hours_holds : PySem.Challenge.rw_raingauged_k23_papers_of_open_hours.Holds := by
  w_on; o_law
  refine HandSHeadRun.head_any (r := OpenLaw.row PySem.Challenge.rw_raingauged_k23_papers_of_open_hours) (q := view (OpenLaw.row PySem.Challenge.rw_raingauged_k23_papers_of_open_hours).prog [28]) (H := Lw.hk) (ob := Lw.ob) (M := 4000) (loose := Lw.loose) (d := HandSHeadRun.topDef (OpenLaw.row PySem.Challenge.rw_raingauged_k23_papers_of_open_hours).prog 28) (kwd := []) Lw.ob_eq
    (by kernel_rfl) (fun s => by kernel_rfl) Lw.run (by kernel_rfl) (by kernel_rfl) (by kernel_rfl) (by rfl) (by first | assumption | decide +kernel) (by decide +kernel) ⟨rfl, rfl, rfl, rfl, rfl, by decide +kernel⟩ ?hw ?hc
  case hw => w_witness2
  case hc =>
    refine L2.walk_ofE (l := PySem.Challenge.rw_raingauged_k23_papers_of_open_hours) (n := 63) (k := 8) (x := "script") (CX := L2.CX0) rfl (by decide) (by kernel_rfl) ⟨rfl, by decide, by decide⟩ ?F (fun _ _ _ _ z => z)
    intro w mg fa h Y G hmg0
    obtain ⟨K, KX, c, pb, pv⟩ := Y
    have hmg : mg ("law" : PySem.Str) = some (.ref fa) := by
      have e : (HandSHeadRun.topDef (OpenLaw.row PySem.Challenge.rw_raingauged_k23_papers_of_open_hours).prog 28).name = ("law" : PySem.Str) := by kernel_rfl
      rw [← e]
      exact hmg0
    obtain ⟨fd, hb, hF⟩ := Lw.facts Lw.turns (P := (PySem.Challenge.rw_raingauged_k23_papers_of_open_hours).prog) (w := w) KX G hmg c (Lw.pe_ok pb pv)
    exact ⟨K, fd, Vw.spLaw K, KX, hb, fun H a ns hl _ hS => ⟨a, ns, rfl, hS, fun _ => rfl⟩, hF⟩
