import PyProof.Rows.All
import Wide.All
import OpenK.AllK
import Wide.FinOn
import KE.KStateDown
import Lean
import HandS.ForMost
import HandS.ForExc
import HandS.Wide
import HandS.Defaults
import HandS.CallSlots
import HandS.Style
import HandS.Flow
import HandS.HeadHook1
import HandS.HeadHook2
import HandS.HeadHook4
import HandS.Lambda
import HandS.Walk
import HandS.Zip
import HandS.List
import HandS.TupAny
import HandS.IsInst
import HandS.Text
import HandS.Iter
import HandS.Dict
import KE.KExcSuper
import HandS.ExcIs
import KE.KExcIs
import HandS.HeadWalk
import HandS.Conv
import KE.KNestM
import HandS.Head0
import HandS.Head1
import HandS.Head2
import HandS.HeadEnd
import PySem.Challenge.RW_sameclacks_k35_whole_masses_told_back_fr
set_option Elab.async false
set_option linter.all false
set_option maxRecDepth 100000
set_option maxHeartbeats 1000000
/-! Values as plain data, a monad of what code computes, and the readings that carry both over the hand layer. -/
namespace Fw
open PySem PySem.Spec PyProof.Rows L2

/-! ### data -/
/-- what a name may hold: plain data (lists and dicts that nobody changes any more), a changing object by its number, an exception -/
inductive D where
  | non | bl (b : Bool) | int (i : Int) | str (x : Str)
  | tup (xs : List D) | lst (xs : List D) | dic (ks : List Key) (xs : List D)
  | cell (n : Nat)
  | exc (c : Str) (v : D)
  deriving Inhabited

/-- a changing object: a list -/
inductive Cell where
  | lst (xs : List D)
  | ins (c : Str) (xs : List D)
abbrev Mem := List Cell

inductive Out (α : Type) where
  | ok (a : α) (m : Mem)
  | exc (c : Str) (v : D) (m : Mem)
  | no
/-- what code computes: from the changing objects to a value, an exception, or nothing that is known -/
def C (α : Type) := Mem → Out α
def Out.bnd {α β : Type} : Out α → (α → Mem → Out β) → Out β
  | .ok a m', f => f a m'
  | .exc c v m', _ => .exc c v m'
  | .no, _ => .no
namespace C
def ret {α : Type} (a : α) : C α := fun m => .ok a m
def bnd {α β : Type} (x : C α) (f : α → C β) : C β := fun m => (x m).bnd f
def no {α : Type} : C α := fun _ => .no
def raise {α : Type} (c : Str) (v : D) : C α := fun m => .exc c v m
end C
instance : Monad C where
  pure := C.ret
  bind := C.bnd
theorem C.ext {α : Type} {x y : C α} (h : ∀ m, x m = y m) : x = y := funext h
theorem C.run_bind {α β : Type} (x : C α) (f : α → C β) (m : Mem) : (x >>= f) m = (x m).bnd f := rfl
theorem C.run_pure {α : Type} (a : α) (m : Mem) : (pure a : C α) m = .ok a m := rfl
theorem C.run_raise {α : Type} (c : Str) (v : D) (m : Mem) : (C.raise c v : C α) m = .exc c v m := rfl
theorem C.run_no {α : Type} (m : Mem) : (C.no : C α) m = .no := rfl
theorem Out.bnd_ok {α β : Type} (a : α) (m : Mem) (f : α → Mem → Out β) : (Out.ok a m).bnd f = f a m := rfl
theorem Out.bnd_exc {α β : Type} (c : Str) (v : D) (m : Mem) (f : α → Mem → Out β) : (Out.exc c v m : Out α).bnd f = .exc c v m := rfl
theorem Out.bnd_no {α β : Type} (f : α → Mem → Out β) : (Out.no : Out α).bnd f = .no := rfl
theorem C.pure_bind {α β : Type} (a : α) (f : α → C β) : (pure a >>= f) = f a := rfl
theorem C.raise_bind {α β : Type} (c : Str) (v : D) (f : α → C β) : (C.raise c v >>= f) = C.raise c v := rfl
theorem C.no_bind {α β : Type} (f : α → C β) : (C.no >>= f) = C.no := rfl
theorem C.bind_assoc {α β γ : Type} (x : C α) (f : α → C β) (g : β → C γ) : (x >>= f >>= g) = (x >>= fun a => f a >>= g) := by
  funext m
  show ((x m).bnd f).bnd g = (x m).bnd fun a m => (f a m).bnd g
  cases x m <;> rfl
theorem C.bind_pure {α : Type} (x : C α) : (x >>= pure) = x := by
  funext m
  show (x m).bnd (fun a m => Out.ok a m) = x m
  cases x m <;> rfl
theorem C.bind_ok {α β : Type} {x : C α} {f : α → C β} {m m' : Mem} {a : α} (h : x m = .ok a m') : (x >>= f) m = f a m' := by
  show (x m).bnd f = _
  rw [h]; rfl
/-- of an option: none is unknown -/
def lift {α : Type} : Option α → C α
  | some a => pure a
  | none => C.no

/-! ### data lies in the heap -/
section
variable (K : PySem.W.Frag) (ι : List Addr) (H : Hp)
/-- a tuple, a list of the module's own -/
def KTup (a : Addr) (xs : List V) : Prop := ∃ (o : Obj) (its : Array Value) (n : Nat), K.lookup a = some o ∧ o.cls = .type "tuple" ∧ o.data = .seq its n ∧ its.size ≤ sizeLine ∧ Vals xs its.toList
def TupR (a : Addr) (xs : List V) : Prop := (a ∉ ι ∧ H a = some (.tup xs)) ∨ KTup K a xs
def KLst (a : Addr) (xs : List V) : Prop := ∃ (o : Obj) (its : Array Value) (n : Nat), K.lookup a = some o ∧ o.cls = .type "list" ∧ o.dict = none ∧ o.data = .seq its n ∧ its.size ≤ sizeLine ∧ Vals xs its.toList
def LstR (a : Addr) (xs : List V) : Prop := (a ∉ ι ∧ ∃ o, H a = some (.frz o (.lst xs))) ∨ KLst K a xs
def DicR (a : Addr) (kvs : List (Key × V)) : Prop := a ∉ ι ∧ ∃ o, H a = some (.frz o (.dK kvs))
/-- a caught exception: an object of the class at Cx, its own dict at d -/
def ExO (a Cx d : Addr) : HO := .ext fun h => ∃ (oe : Obj) (vs : Array Value), h.get? a = some oe ∧ oe.cls = .ref Cx ∧ oe.dict = some d ∧ oe.data = .fields vs
mutual
def Rp : D → V → Prop
  | .non, v => v = .non
  | .bl b, v => v = .bl b
  | .int i, v => v = .int i
  | .str x, v => v = .str x
  | .tup ds, v => ∃ a xs, v = .ref a ∧ TupR K ι H a xs ∧ RpL ds xs
  | .lst ds, v => ∃ a xs, v = .ref a ∧ LstR K ι H a xs ∧ RpL ds xs
  | .dic ks ds, v => ∃ a kvs, v = .ref a ∧ DicR ι H a kvs ∧ kvs.map (·.1) = ks ∧ RpL ds (kvs.map (·.2))
  | .cell n, v => ∃ a, v = .ref a ∧ ι[n]? = some a
  | .exc c d, v => ∃ a dd y, v = .ref a ∧ a ∉ ι ∧ dd ∉ ι ∧ H a = some (ExO a (He.ga K c) dd) ∧ H dd = some (.xd [(("value" : Str), y)]) ∧ Rp d y
def RpL : List D → List V → Prop
  | [], xs => xs = []
  | d :: ds, xs => ∃ y ys, xs = y :: ys ∧ Rp d y ∧ RpL ds ys
end
end

/-- what a slot of the frame holds: nothing that is known, data, a list of the frame's own that may still change -/
inductive Sl where
  | no
  | val (d : D)
  | own (a : Addr) (ds : List D)

def Own (ρ : List Sl) (b : Addr) : Prop := ∃ (i : Nat) (ds : List D), ρ[i]? = some (Sl.own b ds)
/-- the defs in which lambdas are made -/
def lamDefs : List Str := ["_law_is_told", "_law_right"]
/-- their tables of code objects -/
def TB (K : PySem.W.Frag) : List (Addr × Str) := lamDefs.map fun x => (He.tabOf K (He.codeOf K (x, none)), x ++ ".<locals>." ++ "<lambda>")
theorem tabS_by {H H' : Hp} {P : Addr} {q : Str} (t : LamX.TabS H P q) (h : ∀ b v, H b = some v → ((∃ ps, v = .tbl ps) ∨ ∃ φ, v = .ext φ) → H' b = some v) : LamX.TabS H' P q := by
  obtain ⟨ps, h1, h2, h3⟩ := t
  refine ⟨ps, h _ _ h1 (.inl ⟨ps, rfl⟩), h2, fun pos cv hc => ?_⟩
  obtain ⟨c, e1, e2⟩ := h3 pos cv hc
  exact ⟨c, e1, h _ _ e2 (.inr ⟨_, rfl⟩)⟩
/-- nothing is known at b but, at most, a table -/
def Nn (H : Hp) (b : Addr) : Prop := H b = none ∨ ∃ ps, H b = some (.tbl ps)
theorem tabS_lst {H : Hp} {a : Addr} {xs : List V} {o : HO} (e : H a = some (.lst xs)) {P : Addr} {q : Str} (t : LamX.TabS H P q) : LamX.TabS (upd H a o) P q := tabS_by t fun b v hb hv => by
  rw [upd_ne (fun z => by
    subst z; rw [e] at hb; cases hb
    rcases hv with ⟨_, hv⟩ | ⟨_, hv⟩ <;> cases hv)]
  exact hb
def notTbl (o : HO) : Prop := ∀ ps, o ≠ .tbl ps
/-- from one heap to a later one: O the addresses that the frame may change -/
structure Ex (O : Addr → Prop) (ι : List Addr) (H : Hp) (O' : Addr → Prop) (ι' : List Addr) (H' : Hp) : Prop where
  pre : ι <+: ι'
  newc : ∀ b ∈ ι', b ∈ ι ∨ Nn H b
  newo : ∀ b, O' b → O b ∨ Nn H b
  keep : ∀ b o, H b = some o → b ∉ ι → ¬ O b → notTbl o → H' b = some o
  free : ∀ b, Nn H' b → Nn H b
theorem Nn.no {H : Hp} {b : Addr} {o : HO} (h : Nn H b) (e : H b = some o) (t : notTbl o) : False := by
  rcases h with h | ⟨ps, h⟩
  · rw [h] at e; cases e
  · rw [h] at e; cases e; exact t ps rfl
theorem nt_lst {xs : List V} : notTbl (.lst xs) := fun _ z => by cases z
theorem Ex.refl {O : Addr → Prop} {ι : List Addr} {H : Hp} : Ex O ι H O ι H :=
  ⟨List.prefix_refl _, fun _ h => .inl h, fun _ h => .inl h, fun _ _ h _ _ _ => h, fun _ h => h⟩
theorem Ex.trans {O O1 O2 : Addr → Prop} {ι ι1 ι2 : List Addr} {H H1 H2 : Hp} (a : Ex O ι H O1 ι1 H1) (b : Ex O1 ι1 H1 O2 ι2 H2) : Ex O ι H O2 ι2 H2 where
  pre := a.pre.trans b.pre
  newc := fun c hc => by
    rcases b.newc c hc with h | h
    · exact a.newc c h
    · exact .inr (a.free c h)
  newo := fun c hc => by
    rcases b.newo c hc with h | h
    · exact a.newo c h
    · exact .inr (a.free c h)
  keep := fun c o h1 h2 h3 h4 => by
    refine b.keep c o (a.keep c o h1 h2 h3 h4) (fun h => ?_) (fun h => ?_) h4
    · rcases a.newc c h with h | h
      · exact h2 h
      · exact h.no h1 h4
    · rcases a.newo c h with h | h
      · exact h3 h
      · exact h.no h1 h4
  free := fun c h => a.free c (b.free c h)

/-- lists that may change -/
def MutK (H : Hp) (b : Addr) : Prop := ∃ xs, H b = some (.lst xs)
section
variable {K : PySem.W.Frag} {ι ι' : List Addr} {H H' : Hp} {O O' : Addr → Prop}
theorem Ex.at {b : Addr} {o : HO} (e : Ex O ι H O' ι' H') (hO : ∀ b, O b → MutK H b) (h : H b = some o) (hi : b ∉ ι) (hn : ∀ xs, o ≠ .lst xs) (ht : notTbl o) : b ∉ ι' ∧ H' b = some o := by
  refine ⟨fun z => ?_, e.keep b o h hi (fun z => ?_) ht⟩
  · rcases e.newc b z with z | z
    · exact hi z
    · exact z.no h ht
  · obtain ⟨xs, q⟩ := hO b z
    rw [q] at h; cases h; exact hn xs rfl
theorem TupR.ex {a : Addr} {xs : List V} (t : TupR K ι H a xs) (e : Ex O ι H O' ι' H') (hO : ∀ b, O b → MutK H b) : TupR K ι' H' a xs := by
  rcases t with ⟨h1, h2⟩ | h
  · exact .inl (e.at hO h2 h1 (fun _ z => by cases z) fun _ z => by cases z)
  · exact .inr h
theorem LstR.ex {a : Addr} {xs : List V} (t : LstR K ι H a xs) (e : Ex O ι H O' ι' H') (hO : ∀ b, O b → MutK H b) : LstR K ι' H' a xs := by
  rcases t with ⟨h1, o, h2⟩ | t
  · obtain ⟨q1, q2⟩ := e.at hO h2 h1 (fun _ z => by cases z) fun _ z => by cases z
    exact .inl ⟨q1, o, q2⟩
  · exact .inr t
theorem DicR.ex {a : Addr} {kvs : List (Key × V)} (t : DicR ι H a kvs) (e : Ex O ι H O' ι' H') (hO : ∀ b, O b → MutK H b) : DicR ι' H' a kvs := by
  obtain ⟨h1, o, h2⟩ := t
  obtain ⟨q1, q2⟩ := e.at hO h2 h1 (fun _ z => by cases z) fun _ z => by cases z
  exact ⟨q1, o, q2⟩
mutual
theorem Rp.ex (e : Ex O ι H O' ι' H') (hO : ∀ b, O b → MutK H b) : ∀ (d : D) (v : V), Rp K ι H d v → Rp K ι' H' d v
  | .non, v, h => by unfold Rp at h ⊢; exact h
  | .bl b, v, h => by unfold Rp at h ⊢; exact h
  | .int i, v, h => by unfold Rp at h ⊢; exact h
  | .str x, v, h => by unfold Rp at h ⊢; exact h
  | .tup ds, v, h => by
    unfold Rp at h ⊢
    obtain ⟨a, xs, e1, t, l⟩ := h
    exact ⟨a, xs, e1, t.ex e hO, RpL.ex e hO ds xs l⟩
  | .lst ds, v, h => by
    unfold Rp at h ⊢
    obtain ⟨a, xs, e1, t, l⟩ := h
    exact ⟨a, xs, e1, t.ex e hO, RpL.ex e hO ds xs l⟩
  | .dic ks ds, v, h => by
    unfold Rp at h ⊢
    obtain ⟨a, kvs, e1, t, q, l⟩ := h
    exact ⟨a, kvs, e1, t.ex e hO, q, RpL.ex e hO ds _ l⟩
  | .cell n, v, h => by
    unfold Rp at h ⊢
    obtain ⟨a, e1, q⟩ := h
    obtain ⟨t, ht⟩ := e.pre
    refine ⟨a, e1, ?_⟩
    rw [← ht, List.getElem?_append_left (List.getElem?_eq_some_iff.mp q).1]
    exact q
  | .exc c d, v, h => by
    unfold Rp at h ⊢
    obtain ⟨a, dd, y, e1, n1, n2, h1, h2, r⟩ := h
    obtain ⟨q1, q2⟩ := e.at hO h1 n1 (fun _ z => by unfold ExO at z; cases z) fun _ z => by unfold ExO at z; cases z
    obtain ⟨q3, q4⟩ := e.at hO h2 n2 (fun _ z => by cases z) fun _ z => by cases z
    exact ⟨a, dd, y, e1, q1, q3, q2, q4, Rp.ex e hO d y r⟩
theorem RpL.ex (e : Ex O ι H O' ι' H') (hO : ∀ b, O b → MutK H b) : ∀ (ds : List D) (xs : List V), RpL K ι H ds xs → RpL K ι' H' ds xs
  | [], xs, h => by unfold RpL at h ⊢; exact h
  | d :: ds, xs, h => by
    unfold RpL at h ⊢
    obtain ⟨y, ys, e1, r, l⟩ := h
    exact ⟨y, ys, e1, Rp.ex e hO d y r, RpL.ex e hO ds ys l⟩
end
theorem RpL.length : ∀ {ds : List D} {xs : List V}, RpL K ι H ds xs → ds.length = xs.length
  | [], xs, h => by unfold RpL at h; subst h; rfl
  | d :: ds, xs, h => by
    unfold RpL at h
    obtain ⟨y, ys, rfl, _, l⟩ := h
    simp [RpL.length l]
theorem RpL.get : ∀ {ds : List D} {xs : List V} {i : Nat} {d : D}, RpL K ι H ds xs → ds[i]? = some d → ∃ v, xs[i]? = some v ∧ Rp K ι H d v
  | [], xs, i, d, h, e => by simp at e
  | c :: ds, xs, 0, d, h, e => by
    unfold RpL at h
    obtain ⟨y, ys, rfl, r, _⟩ := h
    simp at e; subst e
    exact ⟨y, rfl, r⟩
  | c :: ds, xs, i + 1, d, h, e => by
    unfold RpL at h
    obtain ⟨y, ys, rfl, _, l⟩ := h
    simpa using RpL.get (i := i) l (by simpa using e)
theorem RpL.append : ∀ {ds es : List D} {xs ys : List V}, RpL K ι H ds xs → RpL K ι H es ys → RpL K ι H (ds ++ es) (xs ++ ys)
  | [], es, xs, ys, h, h' => by unfold RpL at h; subst h; exact h'
  | d :: ds, es, xs, ys, h, h' => by
    unfold RpL at h
    obtain ⟨y, zs, rfl, r, l⟩ := h
    show RpL K ι H (d :: (ds ++ es)) (y :: (zs ++ ys))
    unfold RpL
    exact ⟨y, _, rfl, r, RpL.append l h'⟩
theorem RpL.nil : RpL K ι H [] [] := by unfold RpL; rfl
theorem RpL.cons {d : D} {ds : List D} {v : V} {xs : List V} (r : Rp K ι H d v) (l : RpL K ι H ds xs) : RpL K ι H (d :: ds) (v :: xs) := by unfold RpL; exact ⟨v, xs, rfl, r, l⟩
theorem RpL.one {d : D} {v : V} (r : Rp K ι H d v) : RpL K ι H [d] [v] := .cons r .nil
end

/-! ### the state of a frame -/
section
variable (K : PySem.W.Frag)
/-- the changing objects -/
structure GR (ι : List Addr) (M : Mem) (H : Hp) : Prop where
  len : ι.length = M.length
  nd : ι.Nodup
  at_ : ∀ (n : Nat) (a : Addr), ι[n]? = some a → ∃ xs ds, H a = some (.lst xs) ∧ M[n]? = some (Cell.lst ds) ∧ RpL K ι H ds xs
  tab : LamX.Tabs (TB K) H
def SlR (ι : List Addr) (H : Hp) : Option V → Sl → Prop
  | _, .no => True
  | o, .val d => ∃ v, o = some v ∧ Rp K ι H d v
  | o, .own a ds => o = some (.ref a) ∧ a ∉ ι ∧ ∃ xs, H a = some (.lst xs) ∧ RpL K ι H ds xs
structure SR (ι : List Addr) (M : Mem) (H : Hp) (σ : L2.St) (ρ : List Sl) : Prop where
  gr : GR K ι M H
  len : σ.length = ρ.length
  sl : ∀ (i : Nat) (s : Sl), ρ[i]? = some s → ∃ o, σ[i]? = some o ∧ SlR K ι H o s
  apart : ∀ (i j : Nat) (ds es : List D) (a : Addr), ρ[i]? = some (Sl.own a ds) → ρ[j]? = some (Sl.own a es) → i = j
end
section
variable {K : PySem.W.Frag} {ι ι' : List Addr} {M M' : Mem} {H H' : Hp} {σ : L2.St} {ρ : List Sl} {O O' : Addr → Prop}
theorem SR.ownE (r : SR K ι M H σ ρ) {i : Nat} {a : Addr} {ds : List D} (h : ρ[i]? = some (Sl.own a ds)) : σ[i]? = some (some (.ref a)) ∧ a ∉ ι ∧ ∃ xs, H a = some (.lst xs) ∧ RpL K ι H ds xs := by
  obtain ⟨o, q1, q2⟩ := r.sl i _ h
  unfold SlR at q2
  obtain ⟨e1, n, e2⟩ := q2
  rw [e1] at q1
  exact ⟨q1, n, e2⟩
theorem SR.mutK (r : SR K ι M H σ ρ) : ∀ b, Own ρ b → MutK H b := fun b ⟨i, ds, h1⟩ => by
  obtain ⟨_, _, xs, e, _⟩ := r.ownE h1
  exact ⟨xs, e⟩
theorem GR.mutK (g : GR K ι M H) : ∀ b ∈ ι, MutK H b := fun b hb => by
  obtain ⟨n, hn⟩ := List.getElem?_of_mem hb
  obtain ⟨xs, _, h, _⟩ := g.at_ n b hn
  exact ⟨xs, h⟩
theorem GR.fresh (g : GR K ι M H) {p : Addr} (h : H p = none) : p ∉ ι := fun z => by
  obtain ⟨xs, e⟩ := g.mutK p z
  rw [h] at e; cases e
/-- the own lists and the changing objects lie apart -/
theorem SR.ownC (r : SR K ι M H σ ρ) : ∀ b, Own ρ b → b ∉ ι := fun b ⟨i, ds, h1⟩ => (r.ownE h1).2.1
end
end Fw
set_option Elab.async false
set_option linter.all false
set_option maxRecDepth 100000
set_option maxHeartbeats 1000000
namespace Fw
open PySem PySem.Spec L2

/-! ### frozen lists -/
/-- an end that may also be reached by freezing the list that came back -/
def frzQ (Q : VK) : VK := fun v H' => Q v H' ∨ ∃ (a : Addr) (xs : List V), v = .ref a ∧ H' a = some (.lst xs) ∧ ∀ o, Q v (upd H' a (.frz o (.lst xs)))
section
variable {X : Cx} {pins : List (Addr × Obj)} {σ : L2.St} {H : Hp} {s : Shared}
theorem inv_frz {a : Addr} {xs : List V} (I : Inv X pins σ H s) (h : H a = some (.lst xs)) : ∃ o, Inv X pins σ (upd H a (.frz o (.lst xs))) s := by
  obtain ⟨z, its, n, r, e⟩ : xs.length ≤ sizeLine ∧ ∃ (its : List Value) (n : Nat), Vals xs its ∧ s.heap.get? a = some { cls := .type "list", data := .seq its.toArray n } := I.hok a _ h
  have ne : ∀ b u, H b = some u → (∀ ys, u ≠ .lst ys) → b ≠ a := fun b u q n z => by
    subst z; rw [h] at q; cases q; exact n _ rfl
  have nn : ∀ b, H b = none → b ≠ a := fun b q z => by subst z; rw [h] at q; cases q
  refine ⟨{ cls := .type "list", data := .seq its.toArray n }, ?_⟩
  have u : Un X.fs [] H (upd H a (.frz { cls := .type "list", data := .seq its.toArray n } (.lst xs))) s.heap s.heap :=
    ⟨fun b o q _ _ _ => q, fun b o q _ _ _ => ⟨o.slots, q⟩, fun b o _ q _ => by rw [upd_ne (nn b q)]; exact q, fun b o q _ => ⟨o, q⟩,
      fun b ys q => by rw [upd_ne (ne b _ q fun _ z => by cases z)]; exact q, fun b o u q => by rw [upd_ne (ne b _ q fun _ z => by cases z)]; exact q,
      fun b ps q => ⟨#[], by rw [upd_ne (ne b _ q fun _ z => by cases z), q]; simp⟩⟩
  have hk : HOk X.prog X.w (upd H a (.frz { cls := .type "list", data := .seq its.toArray n } (.lst xs))) s.heap := fun b w q => by
    by_cases hb : b = a
    · subst hb
      rw [upd_same] at q; cases q
      exact ⟨e, z, its, n, r, e⟩
    · rw [upd_ne hb] at q
      refine (I.hok b w q).stay (fun c v _ q => q) (fun c q => ?_) fun c ys q => ?_
      · rw [upd_ne (ne c _ q fun _ z => by cases z)]; exact q
      · rw [upd_ne (ne c _ q fun _ z => by cases z)]; exact q
  exact I.un (t' := s.toks) u hk
theorem ep_frz {Q : VK} {u : Value} (h : EP X pins σ (frzQ Q) u s) : EP X pins σ Q u s := by
  obtain ⟨v, H', I, r, q | ⟨a, xs, e, ha, q⟩⟩ := h
  · exact ⟨v, H', I, r, q⟩
  · obtain ⟨o, J⟩ := inv_frz I ha
    exact ⟨v, _, J, r, q o⟩
end
section
variable {X : Cx} {e : Expr} {t : TE}
theorem pe_imp {t' : TE} (h : PE X e t) (i : ∀ σ H Q, t' σ H Q → t σ H Q) : PE X e t' := ⟨fun pins s σ H Q I q => h.run pins s σ H Q I (i σ H Q q)⟩
/-- .. with the list that comes back frozen -/
theorem pe_frz {t' : TE} (h : PE X e t) (i : ∀ σ H Q, t' σ H Q → t σ H (frzQ Q)) : PE X e t' :=
  ⟨fun pins s σ H Q I q => thn (h.run pins s σ H _ I (i σ H Q q)) fun _ _ z => ep_frz z⟩
theorem pt_imp {c : Expr} {t t' : TT} (h : PT X c t) (i : ∀ σ H Q, t' σ H Q → t σ H Q) : PT X c t' := ⟨fun pins s σ H Q I q => h.run pins s σ H Q I (i σ H Q q)⟩
theorem ps_imp {c : Stmt} {t t' : TS} (h : PS X c t) (i : ∀ D σ H, t' D σ H → t D σ H) : PS X c t' := ⟨fun pins s σ H D I q => h.run pins s σ H D I (i D σ H q)⟩
theorem pss_imp {c : List Stmt} {t t' : TS} (h : PSs X c t) (i : ∀ D σ H, t' D σ H → t D σ H) : PSs X c t' := ⟨fun pins s σ H D I q => h.run pins s σ H D I (i D σ H q)⟩
theorem pe_any {ι : Type} {t : ι → TE} (h : ∀ i, PE X e (t i)) : PE X e (fun σ H Q => ∃ i, t i σ H Q) := ⟨fun pins s σ H Q I ⟨i, q⟩ => (h i).run pins s σ H Q I q⟩
theorem pt_any {ι : Type} {c : Expr} {t : ι → TT} (h : ∀ i, PT X c (t i)) : PT X c (fun σ H Q => ∃ i, t i σ H Q) := ⟨fun pins s σ H Q I ⟨i, q⟩ => (h i).run pins s σ H Q I q⟩
theorem pss_any {ι : Type} {c : List Stmt} {t : ι → TS} (h : ∀ i, PSs X c (t i)) : PSs X c (fun D σ H => ∃ i, t i D σ H) := ⟨fun pins s σ H D I ⟨i, q⟩ => (h i).run pins s σ H D I q⟩
end

/-! ### all that was tracked stays -/
section
variable {K : PySem.W.Frag} {ι ι' : List Addr} {M M' : Mem} {H H' : Hp} {σ : L2.St} {ρ : List Sl} {O O' : Addr → Prop}
theorem nn_same (h : ∀ b o, H b = some o → H' b = some o) {b : Addr} (q : Nn H' b) : Nn H b := by
  cases e : H b with
  | none => exact .inl e
  | some o =>
    have e' := h b o e
    rcases q with q | ⟨ps, q⟩
    · rw [e'] at q; cases q
    · rw [e'] at q; cases q; exact .inr ⟨ps, e⟩
theorem Ex.same (h : ∀ b o, H b = some o → H' b = some o) : Ex O ι H O ι H' :=
  ⟨List.prefix_refl _, fun _ h => .inl h, fun _ h => .inl h, fun b o q _ _ _ => h b o q, fun b q => nn_same h q⟩
theorem Rp.same (h : ∀ b o, H b = some o → H' b = some o) {d : D} {v : V} (r : Rp K ι H d v) : Rp K ι H' d v :=
  Rp.ex (O := fun _ => False) (O' := fun _ => False) (Ex.same h) (fun _ z => z.elim) d v r
theorem RpL.same (h : ∀ b o, H b = some o → H' b = some o) {d : List D} {v : List V} (r : RpL K ι H d v) : RpL K ι H' d v :=
  RpL.ex (O := fun _ => False) (O' := fun _ => False) (Ex.same h) (fun _ z => z.elim) d v r
theorem GR.same (h : ∀ b o, H b = some o → H' b = some o) (g : GR K ι M H) : GR K ι M H' := ⟨g.len, g.nd, fun n a e => by
  obtain ⟨xs, ds, h1, h2, h3⟩ := g.at_ n a e
  exact ⟨xs, ds, h _ _ h1, h2, h3.same h⟩, g.tab.ext h⟩
theorem SR.same (h : ∀ b o, H b = some o → H' b = some o) (r : SR K ι M H σ ρ) : SR K ι M H' σ ρ := ⟨r.gr.same h, r.len, fun i s e => by
  obtain ⟨o, h1, h2⟩ := r.sl i s e
  refine ⟨o, h1, ?_⟩
  cases s with
  | no => trivial
  | val d =>
    obtain ⟨v, e1, e2⟩ := h2
    exact ⟨v, e1, e2.same h⟩
  | own a ds =>
    obtain ⟨e1, e2, xs, e3, e4⟩ := h2
    exact ⟨e1, e2, xs, h _ _ e3, e4.same h⟩, r.apart⟩
theorem same_new {p : Addr} {o : HO} (h : H p = none) : ∀ b u, H b = some u → upd H p o b = some u := fun b u e => by rw [upd_ne (ne_of_none e h)]; exact e
/-- Rp over a later state -/
theorem SR.rp (r : SR K ι M H σ ρ) (e : Ex (Own ρ) ι H (Own ρ) ι' H') {d : D} {v : V} (q : Rp K ι H d v) : Rp K ι' H' d v := Rp.ex e r.mutK d v q
theorem SR.rpl (r : SR K ι M H σ ρ) (e : Ex (Own ρ) ι H (Own ρ) ι' H') {d : List D} {v : List V} (q : RpL K ι H d v) : RpL K ι' H' d v := RpL.ex e r.mutK d v q
end

/-! ### readings -/
/-- data as it lies; where b, also a list of the frame's own that may still change -/
def RpB (b : Bool) (K : PySem.W.Frag) (ρ : List Sl) (ι : List Addr) (H : Hp) (d : D) (v : V) : Prop :=
  Rp K ι H d v ∨ (b = true ∧ ∃ (i : Nat) (a : Addr) (ds : List D), ρ[i]? = some (Sl.own a ds) ∧ d = .lst ds ∧ v = .ref a)
inductive RpBL (b : Bool) (K : PySem.W.Frag) (ρ : List Sl) (ι : List Addr) (H : Hp) : List D → List V → Prop
  | nil : RpBL b K ρ ι H [] []
  | cons {d : D} {v : V} {ds : List D} {vs : List V} : RpB b K ρ ι H d v → RpBL b K ρ ι H ds vs → RpBL b K ρ ι H (d :: ds) (v :: vs)
theorem RpB.of {b : Bool} {K : PySem.W.Frag} {ρ : List Sl} {ι : List Addr} {H : Hp} {d : D} {v : V} (h : Rp K ι H d v) : RpB b K ρ ι H d v := .inl h
theorem RpB.str {K : PySem.W.Frag} {ρ : List Sl} {ι : List Addr} {H : Hp} {d : D} {v : V} (h : RpB false K ρ ι H d v) : Rp K ι H d v := by
  rcases h with h | ⟨h, _⟩
  · exact h
  · cases h
theorem RpBL.str {K : PySem.W.Frag} {ρ : List Sl} {ι : List Addr} {H : Hp} {d : List D} {v : List V} (h : RpBL false K ρ ι H d v) : RpL K ι H d v := by
  induction h with
  | nil => exact .nil
  | cons a _ ih => exact .cons a.str ih
theorem RpBL.of {b : Bool} {K : PySem.W.Frag} {ρ : List Sl} {ι : List Addr} {H : Hp} : ∀ {ds : List D} {vs : List V}, RpL K ι H ds vs → RpBL b K ρ ι H ds vs
  | [], vs, h => by unfold RpL at h; subst h; exact .nil
  | d :: ds, vs, h => by
    unfold RpL at h
    obtain ⟨y, ys, rfl, r, l⟩ := h
    exact .cons (.of r) (RpBL.of l)
theorem RpBL.length {b : Bool} {K : PySem.W.Frag} {ρ : List Sl} {ι : List Addr} {H : Hp} {ds : List D} {vs : List V} (h : RpBL b K ρ ι H ds vs) : ds.length = vs.length := by
  induction h with
  | nil => rfl
  | cons _ _ ih => simp [ih]
section
variable {K : PySem.W.Frag} {ι ι' : List Addr} {M M' : Mem} {H H' : Hp} {σ : L2.St} {ρ : List Sl} {b : Bool}
theorem SR.rpb (r : SR K ι M H σ ρ) (e : Ex (Own ρ) ι H (Own ρ) ι' H') {d : D} {v : V} (q : RpB b K ρ ι H d v) : RpB b K ρ ι' H' d v := by
  rcases q with q | q
  · exact .inl (r.rp e q)
  · exact .inr q
theorem SR.rpbl (r : SR K ι M H σ ρ) (e : Ex (Own ρ) ι H (Own ρ) ι' H') {ds : List D} {vs : List V} (q : RpBL b K ρ ι H ds vs) : RpBL b K ρ ι' H' ds vs := by
  induction q with
  | nil => exact .nil
  | cons a _ ih => exact .cons (r.rpb e a) ih
end
section
variable (K : PySem.W.Frag) (W : WX) (ρ : List Sl) (w : Bool)
/-- an exception: its class, its value, as it lies -/
def XR (ι : List Addr) (H : Hp) (c : Str) (d : D) (cls : Value) (dct : Option Addr) : Prop :=
  cls = .ref (He.ga K c) ∧ ∃ (dd : Addr) (y : V), dct = some dd ∧ dd ∉ ι ∧ H dd = some (.xd [(("value" : Str), y)]) ∧ Rp K ι H d y
abbrev Ext (ι : List Addr) (H : Hp) (ι' : List Addr) (H' : Hp) : Prop := Ex (Own ρ) ι H (Own ρ) ι' H'
/-- the raising end of what is computed -/
def FitX (σ : L2.St) (ι : List Addr) (H : Hp) (c : Str) (d : D) (M' : Mem) : Prop :=
  ∀ ι' cls dct H', Ext ρ ι H ι' H' → SR K ι' M' H' σ ρ → XR K ι' H' c d cls dct → W cls dct σ H'
def Fit (σ : L2.St) (ι : List Addr) (H : Hp) : Out D → VK → Prop
  | .ok d M', Q => ∀ ι' v H', Ext ρ ι H ι' H' → SR K ι' M' H' σ ρ → RpB w K ρ ι' H' d v → Q v H'
  | .exc c d M', _ => FitX K W ρ σ ι H c d M'
  | .no, _ => False
def FitB (σ : L2.St) (ι : List Addr) (H : Hp) : Out Bool → (Bool → Hp → Prop) → Prop
  | .ok d M', Q => ∀ ι' H', Ext ρ ι H ι' H' → SR K ι' M' H' σ ρ → Q d H'
  | .exc c d M', _ => FitX K W ρ σ ι H c d M'
  | .no, _ => False
def FitA (σ : L2.St) (ι : List Addr) (H : Hp) : Out (List D) → (List V → Hp → Prop) → Prop
  | .ok ds M', Q => ∀ ι' vs H', Ext ρ ι H ι' H' → SR K ι' M' H' σ ρ → RpBL w K ρ ι' H' ds vs → Q vs H'
  | .exc c d M', _ => FitX K W ρ σ ι H c d M'
  | .no, _ => False
/-- the reading of an expression that computes c; of a test; of arguments -/
def tD (c : C D) : TE := fun σ H Q => ∃ ι M, SR K ι M H σ ρ ∧ Fit K W ρ w σ ι H (c M) Q
def tT (c : C Bool) : TT := fun σ H Q => ∃ ι M, SR K ι M H σ ρ ∧ FitB K W ρ σ ι H (c M) Q
def tA (c : C (List D)) : TA := fun σ H Q => ∃ ι M, SR K ι M H σ ρ ∧ FitA K W ρ w σ ι H (c M) Q
end
abbrev DG (w : Bool) (X : Cx) (W : WX) (ρ : List Sl) (e : Expr) (c : C D) : Prop := PE X e (tD X.K W ρ w c)
abbrev DE (X : Cx) (W : WX) (ρ : List Sl) (e : Expr) (c : C D) : Prop := DG false X W ρ e c
/-- the value may be a list that still changes -/
abbrev DV (X : Cx) (W : WX) (ρ : List Sl) (e : Expr) (c : C D) : Prop := DG true X W ρ e c
abbrev DT (X : Cx) (W : WX) (ρ : List Sl) (e : Expr) (c : C Bool) : Prop := PT X e (tT X.K W ρ c)
abbrev DA (w : Bool) (X : Cx) (W : WX) (ρ : List Sl) (es : List Expr) (c : C (List D)) : Prop := PA X es (tA X.K W ρ w c)

section
variable {K : PySem.W.Frag} {W : WX} {ρ : List Sl} {σ : L2.St} {ι ι' : List Addr} {H H' : Hp} {M M' : Mem} {w w2 : Bool}
theorem FitX.later {c : Str} {d : D} (e : Ext ρ ι H ι' H') (f : FitX K W ρ σ ι H c d M) : FitX K W ρ σ ι' H' c d M := fun ι2 cls dct H2 e2 => f ι2 cls dct H2 (e.trans e2)
theorem Fit.later {o : Out D} {Q : VK} (e : Ext ρ ι H ι' H') (f : Fit K W ρ w σ ι H o Q) : Fit K W ρ w σ ι' H' o Q := by
  cases o with
  | ok d M' => exact fun ι2 v H2 e2 => f ι2 v H2 (e.trans e2)
  | exc c d M' => exact FitX.later e f
  | no => exact f
theorem FitB.later {o : Out Bool} {Q : Bool → Hp → Prop} (e : Ext ρ ι H ι' H') (f : FitB K W ρ σ ι H o Q) : FitB K W ρ σ ι' H' o Q := by
  cases o with
  | ok d M' => exact fun ι2 H2 e2 => f ι2 H2 (e.trans e2)
  | exc c d M' => exact FitX.later e f
  | no => exact f
theorem FitA.later {o : Out (List D)} {Q : List V → Hp → Prop} (e : Ext ρ ι H ι' H') (f : FitA K W ρ w σ ι H o Q) : FitA K W ρ w σ ι' H' o Q := by
  cases o with
  | ok d M' => exact fun ι2 v H2 e2 => f ι2 v H2 (e.trans e2)
  | exc c d M' => exact FitX.later e f
  | no => exact f
/-- an end that is a value at hand -/
theorem Fit.val {d : D} {Q : VK} {v : V} (f : Fit K W ρ w σ ι H (.ok d M) Q) (r : SR K ι M H σ ρ) (q : Rp K ι H d v) : Q v H := f ι v H Ex.refl r (.of q)
theorem FitB.val {d : Bool} {Q : Bool → Hp → Prop} (f : FitB K W ρ σ ι H (.ok d M) Q) (r : SR K ι M H σ ρ) : Q d H := f ι H Ex.refl r
theorem FitA.val {d : List D} {Q : List V → Hp → Prop} {v : List V} (f : FitA K W ρ w σ ι H (.ok d M) Q) (r : SR K ι M H σ ρ) (q : RpBL w K ρ ι H d v) : Q v H := f ι v H Ex.refl r q
/-- .. at a new object -/
theorem Fit.new {d : D} {Q : VK} {p : Addr} {o : HO} (f : Fit K W ρ w σ ι H (.ok d M) Q) (r : SR K ι M H σ ρ) (hp : H p = none) (q : Rp K ι (upd H p o) d (.ref p)) : Q (.ref p) (upd H p o) :=
  f ι _ _ (Ex.same (same_new hp)) (r.same (same_new hp)) (.of q)

/-! ### one after another -/
theorem seqD {ca : C D} {k : D → C D} {Q : VK} (r : SR K ι M H σ ρ) (f : Fit K W ρ w2 σ ι H ((ca >>= k) M) Q) :
    tD K W ρ w ca σ H (fun v H1 => ∃ d ι1 M1, Ext ρ ι H ι1 H1 ∧ SR K ι1 M1 H1 σ ρ ∧ RpB w K ρ ι1 H1 d v ∧ Fit K W ρ w2 σ ι1 H1 (k d M1) Q) := by
  refine ⟨ι, M, r, ?_⟩
  have f' : Fit K W ρ w2 σ ι H ((ca M).bnd k) Q := f
  cases e : ca M with
  | ok d M1 => rw [e] at f'; exact fun ι1 v H1 e1 r1 q1 => ⟨d, ι1, M1, e1, r1, q1, f'.later e1⟩
  | exc c d M1 => rw [e] at f'; exact f'
  | no => rw [e] at f'; exact f'
theorem seqDB {ca : C D} {k : D → C Bool} {Q : Bool → Hp → Prop} (r : SR K ι M H σ ρ) (f : FitB K W ρ σ ι H ((ca >>= k) M) Q) :
    tD K W ρ w ca σ H (fun v H1 => ∃ d ι1 M1, Ext ρ ι H ι1 H1 ∧ SR K ι1 M1 H1 σ ρ ∧ RpB w K ρ ι1 H1 d v ∧ FitB K W ρ σ ι1 H1 (k d M1) Q) := by
  refine ⟨ι, M, r, ?_⟩
  have f' : FitB K W ρ σ ι H ((ca M).bnd k) Q := f
  cases e : ca M with
  | ok d M1 => rw [e] at f'; exact fun ι1 v H1 e1 r1 q1 => ⟨d, ι1, M1, e1, r1, q1, f'.later e1⟩
  | exc c d M1 => rw [e] at f'; exact f'
  | no => rw [e] at f'; exact f'
theorem seqDA {ca : C D} {k : D → C (List D)} {Q : List V → Hp → Prop} (r : SR K ι M H σ ρ) (f : FitA K W ρ w2 σ ι H ((ca >>= k) M) Q) :
    tD K W ρ w ca σ H (fun v H1 => ∃ d ι1 M1, Ext ρ ι H ι1 H1 ∧ SR K ι1 M1 H1 σ ρ ∧ RpB w K ρ ι1 H1 d v ∧ FitA K W ρ w2 σ ι1 H1 (k d M1) Q) := by
  refine ⟨ι, M, r, ?_⟩
  have f' : FitA K W ρ w2 σ ι H ((ca M).bnd k) Q := f
  cases e : ca M with
  | ok d M1 => rw [e] at f'; exact fun ι1 v H1 e1 r1 q1 => ⟨d, ι1, M1, e1, r1, q1, f'.later e1⟩
  | exc c d M1 => rw [e] at f'; exact f'
  | no => rw [e] at f'; exact f'
theorem seqBD {ca : C Bool} {k : Bool → C D} {Q : VK} (r : SR K ι M H σ ρ) (f : Fit K W ρ w2 σ ι H ((ca >>= k) M) Q) :
    tT K W ρ ca σ H (fun b H1 => ∃ ι1 M1, Ext ρ ι H ι1 H1 ∧ SR K ι1 M1 H1 σ ρ ∧ Fit K W ρ w2 σ ι1 H1 (k b M1) Q) := by
  refine ⟨ι, M, r, ?_⟩
  have f' : Fit K W ρ w2 σ ι H ((ca M).bnd k) Q := f
  cases e : ca M with
  | ok d M1 => rw [e] at f'; exact fun ι1 H1 e1 r1 => ⟨ι1, M1, e1, r1, f'.later e1⟩
  | exc c d M1 => rw [e] at f'; exact f'
  | no => rw [e] at f'; exact f'
theorem seqBB {ca : C Bool} {k : Bool → C Bool} {Q : Bool → Hp → Prop} (r : SR K ι M H σ ρ) (f : FitB K W ρ σ ι H ((ca >>= k) M) Q) :
    tT K W ρ ca σ H (fun b H1 => ∃ ι1 M1, Ext ρ ι H ι1 H1 ∧ SR K ι1 M1 H1 σ ρ ∧ FitB K W ρ σ ι1 H1 (k b M1) Q) := by
  refine ⟨ι, M, r, ?_⟩
  have f' : FitB K W ρ σ ι H ((ca M).bnd k) Q := f
  cases e : ca M with
  | ok d M1 => rw [e] at f'; exact fun ι1 H1 e1 r1 => ⟨ι1, M1, e1, r1, f'.later e1⟩
  | exc c d M1 => rw [e] at f'; exact f'
  | no => rw [e] at f'; exact f'
theorem seqA {ca : C (List D)} {k : List D → C D} {Q : VK} (r : SR K ι M H σ ρ) (f : Fit K W ρ w2 σ ι H ((ca >>= k) M) Q) :
    tA K W ρ w ca σ H (fun vs H1 => ∃ ds ι1 M1, Ext ρ ι H ι1 H1 ∧ SR K ι1 M1 H1 σ ρ ∧ RpBL w K ρ ι1 H1 ds vs ∧ Fit K W ρ w2 σ ι1 H1 (k ds M1) Q) := by
  refine ⟨ι, M, r, ?_⟩
  have f' : Fit K W ρ w2 σ ι H ((ca M).bnd k) Q := f
  cases e : ca M with
  | ok d M1 => rw [e] at f'; exact fun ι1 v H1 e1 r1 q1 => ⟨d, ι1, M1, e1, r1, q1, f'.later e1⟩
  | exc c d M1 => rw [e] at f'; exact f'
  | no => rw [e] at f'; exact f'
theorem seqAA {ca : C (List D)} {k : List D → C (List D)} {Q : List V → Hp → Prop} (r : SR K ι M H σ ρ) (f : FitA K W ρ w2 σ ι H ((ca >>= k) M) Q) :
    tA K W ρ w ca σ H (fun vs H1 => ∃ ds ι1 M1, Ext ρ ι H ι1 H1 ∧ SR K ι1 M1 H1 σ ρ ∧ RpBL w K ρ ι1 H1 ds vs ∧ FitA K W ρ w2 σ ι1 H1 (k ds M1) Q) := by
  refine ⟨ι, M, r, ?_⟩
  have f' : FitA K W ρ w2 σ ι H ((ca M).bnd k) Q := f
  cases e : ca M with
  | ok d M1 => rw [e] at f'; exact fun ι1 v H1 e1 r1 q1 => ⟨d, ι1, M1, e1, r1, q1, f'.later e1⟩
  | exc c d M1 => rw [e] at f'; exact f'
  | no => rw [e] at f'; exact f'
theorem tD.imp {c : C D} {Q Q' : VK} (h : tD K W ρ w c σ H Q) (i : ∀ v H, Q v H → Q' v H) : tD K W ρ w c σ H Q' := by
  obtain ⟨ι, M, r, f⟩ := h
  refine ⟨ι, M, r, ?_⟩
  cases e : c M with
  | ok d M1 => rw [e] at f; exact fun ι1 v H1 e1 r1 q1 => i _ _ (f ι1 v H1 e1 r1 q1)
  | exc c d M1 => rw [e] at f; exact f
  | no => rw [e] at f; exact f
theorem tT.imp {c : C Bool} {Q Q' : Bool → Hp → Prop} (h : tT K W ρ c σ H Q) (i : ∀ v H, Q v H → Q' v H) : tT K W ρ c σ H Q' := by
  obtain ⟨ι, M, r, f⟩ := h
  refine ⟨ι, M, r, ?_⟩
  cases e : c M with
  | ok d M1 => rw [e] at f; exact fun ι1 H1 e1 r1 => i _ _ (f ι1 H1 e1 r1)
  | exc c d M1 => rw [e] at f; exact f
  | no => rw [e] at f; exact f
theorem tA.imp {c : C (List D)} {Q Q' : List V → Hp → Prop} (h : tA K W ρ w c σ H Q) (i : ∀ v H, Q v H → Q' v H) : tA K W ρ w c σ H Q' := by
  obtain ⟨ι, M, r, f⟩ := h
  refine ⟨ι, M, r, ?_⟩
  cases e : c M with
  | ok d M1 => rw [e] at f; exact fun ι1 v H1 e1 r1 q1 => i _ _ (f ι1 v H1 e1 r1 q1)
  | exc c d M1 => rw [e] at f; exact f
  | no => rw [e] at f; exact f
/-- a value that lies still may stand where one that changes may -/
theorem tD.weak {c : C D} {Q : VK} (h : tD K W ρ true c σ H Q) : tD K W ρ false c σ H Q := by
  obtain ⟨ι, M, r, f⟩ := h
  refine ⟨ι, M, r, ?_⟩
  cases e : c M with
  | ok d M1 => rw [e] at f; exact fun ι1 v H1 e1 r1 q1 => f ι1 v H1 e1 r1 (.of q1.str)
  | exc c d M1 => rw [e] at f; exact f
  | no => rw [e] at f; exact f
end
theorem dv {X : Cx} {W : WX} {ρ : List Sl} {e : Expr} {c : C D} {w : Bool} (h : DE X W ρ e c) : DG w X W ρ e c := by
  cases w with
  | false => exact h
  | true => exact pe_imp h fun σ H Q q => tD.weak q
end Fw
set_option Elab.async false
set_option linter.all false
set_option maxRecDepth 100000
set_option maxHeartbeats 1000000
namespace Fw
open PySem PySem.Spec L2

/-! ### what is read of data -/
section
variable {K : PySem.W.Frag} {ι : List Addr} {M : Mem} {H : Hp} {σ : L2.St} {ρ : List Sl}
theorem TupR.sq {a : Addr} {xs : List V} (t : TupR K ι H a xs) : SqT K H a xs := by
  rcases t with ⟨_, h⟩ | h
  · exact .inl (.inl h)
  · exact .inr h
theorem LstR.sq {a : Addr} {xs : List V} (t : LstR K ι H a xs) : SqL K H a xs := by
  rcases t with ⟨_, o, h⟩ | h
  · exact .inl (.inr ⟨o, h⟩)
  · exact .inr h
theorem Rp.tupE {ds : List D} {v : V} (h : Rp K ι H (.tup ds) v) : ∃ a xs, v = .ref a ∧ TupR K ι H a xs ∧ RpL K ι H ds xs := by unfold Rp at h; exact h
theorem Rp.lstE {ds : List D} {v : V} (h : Rp K ι H (.lst ds) v) : ∃ a xs, v = .ref a ∧ LstR K ι H a xs ∧ RpL K ι H ds xs := by unfold Rp at h; exact h
theorem Rp.intE {i : Int} {v : V} (h : Rp K ι H (.int i) v) : v = .int i := by unfold Rp at h; exact h
theorem Rp.blE {i : Bool} {v : V} (h : Rp K ι H (.bl i) v) : v = .bl i := by unfold Rp at h; exact h
theorem Rp.strE {i : Str} {v : V} (h : Rp K ι H (.str i) v) : v = .str i := by unfold Rp at h; exact h
theorem Rp.nonE {v : V} (h : Rp K ι H .non v) : v = .non := by unfold Rp at h; exact h
theorem Rp.int {i : Int} : Rp K ι H (.int i) (.int i) := by unfold Rp; rfl
theorem Rp.bl {i : Bool} : Rp K ι H (.bl i) (.bl i) := by unfold Rp; rfl
theorem Rp.str {i : Str} : Rp K ι H (.str i) (.str i) := by unfold Rp; rfl
theorem Rp.non : Rp K ι H .non .non := by unfold Rp; rfl
theorem Rp.tup {ds : List D} {a : Addr} {xs : List V} (t : TupR K ι H a xs) (l : RpL K ι H ds xs) : Rp K ι H (.tup ds) (.ref a) := by unfold Rp; exact ⟨a, xs, rfl, t, l⟩
theorem Rp.lst {ds : List D} {a : Addr} {xs : List V} (t : LstR K ι H a xs) (l : RpL K ι H ds xs) : Rp K ι H (.lst ds) (.ref a) := by unfold Rp; exact ⟨a, xs, rfl, t, l⟩
theorem RpL.consE {d : D} {ds : List D} {vs : List V} (h : RpL K ι H (d :: ds) vs) : ∃ y ys, vs = y :: ys ∧ Rp K ι H d y ∧ RpL K ι H ds ys := by unfold RpL at h; exact h
theorem RpL.nilE {vs : List V} (h : RpL K ι H [] vs) : vs = [] := by unfold RpL at h; exact h
theorem RpL.oneE {d : D} {vs : List V} (h : RpL K ι H [d] vs) : ∃ y, vs = [y] ∧ Rp K ι H d y := by
  obtain ⟨y, ys, rfl, r, l⟩ := h.consE
  have := l.nilE; subst this
  exact ⟨y, rfl, r⟩
theorem RpL.twoE {d e : D} {vs : List V} (h : RpL K ι H [d, e] vs) : ∃ y z, vs = [y, z] ∧ Rp K ι H d y ∧ Rp K ι H e z := by
  obtain ⟨y, ys, rfl, r, l⟩ := h.consE
  obtain ⟨z, rfl, r2⟩ := l.oneE
  exact ⟨y, z, rfl, r, r2⟩
theorem RpL.take : ∀ (n : Nat) {ds : List D} {vs : List V}, RpL K ι H ds vs → RpL K ι H (ds.take n) (vs.take n)
  | 0, _, _, _ => by simpa using RpL.nil
  | n + 1, [], vs, h => by rw [h.nilE]; simpa using RpL.nil
  | n + 1, d :: ds, vs, h => by
    obtain ⟨y, ys, rfl, r, l⟩ := h.consE
    simpa using RpL.cons r (RpL.take n l)
theorem RpL.drop : ∀ (n : Nat) {ds : List D} {vs : List V}, RpL K ι H ds vs → RpL K ι H (ds.drop n) (vs.drop n)
  | 0, _, _, h => by simpa using h
  | n + 1, [], vs, h => by rw [h.nilE]; simpa using RpL.nil
  | n + 1, d :: ds, vs, h => by
    obtain ⟨y, ys, rfl, r, l⟩ := h.consE
    simpa using RpL.drop n l
theorem RpL.reverse {ds : List D} {vs : List V} (h : RpL K ι H ds vs) : RpL K ι H ds.reverse vs.reverse := by
  induction ds generalizing vs with
  | nil => rw [h.nilE]; simpa using RpL.nil
  | cons d ds ih =>
    obtain ⟨y, ys, rfl, r, l⟩ := h.consE
    simpa using RpL.append (ih l) (RpL.one r)
theorem RpL.set {d : D} {v : V} (r : Rp K ι H d v) : ∀ (i : Nat) {ds : List D} {vs : List V}, RpL K ι H ds vs → RpL K ι H (ds.set i d) (vs.set i v)
  | _, [], vs, h => by rw [h.nilE]; simpa using RpL.nil
  | 0, c :: ds, vs, h => by
    obtain ⟨y, ys, rfl, _, l⟩ := h.consE
    simpa using RpL.cons r l
  | n + 1, c :: ds, vs, h => by
    obtain ⟨y, ys, rfl, q, l⟩ := h.consE
    simpa using RpL.cons q (RpL.set r n l)
/-- a new tuple -/
theorem Fit.tup {W : WX} {w : Bool} {ds : List D} {Q : VK} {p : Addr} {xs : List V} (f : Fit K W ρ w σ ι H (.ok (.tup ds) M) Q) (r : SR K ι M H σ ρ) (l : RpL K ι H ds xs) (hp : H p = none) : Q (.ref p) (upd H p (.tup xs)) :=
  f.new r hp (.tup (.inl ⟨r.gr.fresh hp, upd_same⟩) (l.same (same_new hp)))
theorem upd_upd' {H : Hp} {p : Addr} {o u : HO} : upd (upd H p o) p u = upd H p u := by funext b; unfold upd; split <;> rfl
/-- a new list, frozen -/
theorem Fit.lst {W : WX} {w : Bool} {ds : List D} {Q : VK} {p : Addr} {xs : List V} (f : Fit K W ρ w σ ι H (.ok (.lst ds) M) Q) (r : SR K ι M H σ ρ) (l : RpL K ι H ds xs) (hp : H p = none) : frzQ Q (.ref p) (upd H p (.lst xs)) := by
  refine .inr ⟨p, xs, rfl, upd_same, fun o => ?_⟩
  rw [upd_upd']
  exact f.new r hp (.lst (.inl ⟨r.gr.fresh hp, o, upd_same⟩) (l.same (same_new hp)))
end

/-! ### what operations do with data -/
/-- an end known by an option -/
abbrev opt (o : Option D) : C D := lift o
def bin (g : D → D → Option D) (ca cb : C D) : C D := do let a ← ca; let b ← cb; lift (g a b)
def cmp (g : D → D → Option Bool) (ca cb : C D) : C Bool := do let a ← ca; let b ← cb; lift (g a b)
def un (g : D → Option D) (ca : C D) : C D := do let a ← ca; lift (g a)
def valB (c : C Bool) : C D := do let b ← c; pure (.bl b)
def D.bool? : D → Option Bool
  | .bl b => some b
  | _ => none
def asB (c : C D) : C Bool := do let d ← c; lift d.bool?
def andV (ca cb : C D) : C D := do let b ← asB ca; if b then cb else pure (.bl false)
def orV (ca cb : C D) : C D := do let b ← asB ca; if b then pure (.bl true) else cb
def notV (ca : C D) : C D := do let b ← asB ca; pure (.bl (!b))
def andT (ca cb : C Bool) : C Bool := do let b ← ca; if b then cb else pure false
def orT (ca cb : C Bool) : C Bool := do let b ← ca; if b then pure true else cb
def notT (ca : C Bool) : C Bool := do let b ← ca; pure (!b)
def ifE {α : Type} (c : C Bool) (a b : C α) : C α := do let t ← c; if t then a else b
def args : List (C D) → C (List D)
  | [] => pure []
  | c :: cs => do let a ← c; let as ← args cs; pure (a :: as)
def tupC (cs : List (C D)) : C D := do let ds ← args cs; pure (.tup ds)
def lstC (cs : List (C D)) : C D := do let ds ← args cs; pure (.lst ds)
theorem args_len : ∀ {cs : List (C D)} {M M' : Mem} {ds : List D}, args cs M = .ok ds M' → ds.length = cs.length
  | [], M, M', ds, h => by cases h; rfl
  | c :: cs, M, M', ds, h => by
    have h' : ((c M).bnd fun a m => ((args cs m).bnd fun as m' => Out.ok (a :: as) m')) = .ok ds M' := h
    cases e : c M with
    | ok a m =>
      rw [e, Out.bnd_ok] at h'
      cases e2 : args cs m with
      | ok as m2 =>
        rw [e2] at h'
        cases h'
        rw [List.length_cons, List.length_cons, args_len e2]
      | exc _ _ _ => rw [e2] at h'; cases h'
      | no => rw [e2] at h'; cases h'
    | exc _ _ _ => rw [e] at h'; cases h'
    | no => rw [e] at h'; cases h'

/-- f, two values to one, does g -/
def OpD (X : Cx) (f : Value → Value → Sem Value) (g : D → D → Option D) : Prop :=
  ∃ r : R2, OpR X f r ∧ ∀ {W : WX} {ρ : List Sl} {σ : L2.St} {ι : List Addr} {M : Mem} {H : Hp} {x y : V} {d e : D} {Q : VK},
    SR X.K ι M H σ ρ → RpB true X.K ρ ι H d x → RpB true X.K ρ ι H e y → Fit X.K W ρ false σ ι H (lift (g d e) M) Q → r x y H (frzQ Q)
def CmpD (X : Cx) (f : Value → Value → Sem Value) (g : D → D → Option Bool) : Prop :=
  ∃ r : R2, OpR X f r ∧ ∀ {W : WX} {ρ : List Sl} {σ : L2.St} {ι : List Addr} {M : Mem} {H : Hp} {x y : V} {d e : D} {Q : Bool → Hp → Prop},
    SR X.K ι M H σ ρ → RpB true X.K ρ ι H d x → RpB true X.K ρ ι H e y → FitB X.K W ρ σ ι H (lift (g d e) M) Q → r x y H (fun v H' => ∃ b, v = .bl b ∧ Q b H')
def UnD (X : Cx) (f : Value → Sem Value) (g : D → Option D) : Prop :=
  ∃ r : V → Hp → VK → Prop, UnR X f r ∧ ∀ {W : WX} {ρ : List Sl} {σ : L2.St} {ι : List Addr} {M : Mem} {H : Hp} {x : V} {d : D} {Q : VK},
    SR X.K ι M H σ ρ → RpB true X.K ρ ι H d x → Fit X.K W ρ false σ ι H (lift (g d) M) Q → r x H (frzQ Q)
def IxD (X : Cx) (g : D → D → Option D) : Prop :=
  ∃ r : R2, IxR X r ∧ ∀ {W : WX} {ρ : List Sl} {σ : L2.St} {ι : List Addr} {M : Mem} {H : Hp} {x y : V} {d e : D} {Q : VK},
    SR X.K ι M H σ ρ → RpB true X.K ρ ι H d x → RpB true X.K ρ ι H e y → Fit X.K W ρ false σ ι H (lift (g d e) M) Q → r x y H (frzQ Q)
def CallD (X : Cx) (f : Value) (g : List D → Option D) : Prop :=
  ∃ r : List V → Hp → VK → Prop, CallR X f r ∧ ∀ {W : WX} {ρ : List Sl} {σ : L2.St} {ι : List Addr} {M : Mem} {H : Hp} {xs : List V} {ds : List D} {Q : VK},
    SR X.K ι M H σ ρ → RpBL true X.K ρ ι H ds xs → Fit X.K W ρ false σ ι H (lift (g ds) M) Q → r xs H (frzQ Q)

section
variable {X : Cx} {W : WX} {ρ : List Sl} {a b : Expr} {ca cb : C D} {ta tb : C Bool} {pos : Pos} {w : Bool}
/-! ### names, constants -/
theorem de_var {i : Nat} {x : Str} {d : D} (hN : PE X (.Name x pos) (tVar i)) (hρ : ρ[i]? = some (.val d)) : DG w X W ρ (.Name x pos) (pure d) := pe_imp hN fun σ H Q ⟨ι, M, r, f⟩ => by
  obtain ⟨o, h1, v, rfl, h2⟩ := r.sl i _ hρ
  exact ⟨v, h1, f.val r h2⟩
/-- a name that holds a list of the frame's own -/
theorem dv_own {i : Nat} {x : Str} {a : Addr} {ds : List D} (hN : PE X (.Name x pos) (tVar i)) (hρ : ρ[i]? = some (.own a ds)) : DV X W ρ (.Name x pos) (pure (.lst ds)) := pe_imp hN fun σ H Q ⟨ι, M, r, f⟩ => by
  obtain ⟨h1, _⟩ := r.ownE hρ
  exact ⟨.ref a, h1, f ι _ H Ex.refl r (.inr ⟨rfl, i, a, ds, hρ, rfl, rfl⟩)⟩
theorem de_int {i j} : DG w X W ρ (.Constant (.int i) j pos) (pure (.int i)) := pe_imp pe_int fun σ H Q ⟨ι, M, r, f⟩ => f.val r .int
theorem de_bl {i j} : DG w X W ρ (.Constant (.bool i) j pos) (pure (.bl i)) := pe_imp pe_bl fun σ H Q ⟨ι, M, r, f⟩ => f.val r .bl
theorem de_str {i j} : DG w X W ρ (.Constant (.str i) j pos) (pure (.str i)) := pe_imp pe_str fun σ H Q ⟨ι, M, r, f⟩ => f.val r .str
theorem de_non {j} : DG w X W ρ (.Constant .none j pos) (pure .non) := pe_imp pe_non fun σ H Q ⟨ι, M, r, f⟩ => f.val r .non
/-- a name of the module that holds data -/
def GlD (K : PySem.W.Frag) (mg : Str → Option Value) (x : Str) (d : D) : Prop := ∃ u v, mg x = some u ∧ RelV v u ∧ ∀ ι H, Rp K ι H d v
theorem de_glob {x : Str} {d : D} (h : GlD X.K X.mg x d) (hg : Gl X x := by rfl) (hd : (x == ("__debug__" : Str)) = false := by decide) : DG w X W ρ (.Name x pos) (pure d) := by
  obtain ⟨u, v, hm, r, q⟩ := h
  exact pe_imp (pe_glob hg hm r hd) fun σ H Q ⟨ι, M, sr, f⟩ => f.val sr (q ι H)

/-! ### operators -/
theorem de_bin {op : Operator} {g : D → D → Option D} (ho : OpD X (binaryOp op) g) (ha : DV X W ρ a ca) (hb : DV X W ρ b cb) : DG w X W ρ (.BinOp a op b pos) (bin g ca cb) := by
  obtain ⟨r, h1, h2⟩ := ho
  refine dv (pe_frz (pe_op h1 ha hb) fun σ H Q ⟨ι, M, sr, f⟩ => ?_)
  exact (seqD sr f).imp fun x H1 ⟨d1, ι1, M1, e1, r1, q1, f1⟩ => (seqD r1 f1).imp fun y H2 ⟨d2, ι2, M2, e2, r2, q2, f2⟩ => h2 r2 (r1.rpb e2 q1) q2 f2
theorem de_un {op : UnaryOp} {g : D → Option D} (ho : UnD X (unaryOp op) g) (ha : DV X W ρ a ca) : DG w X W ρ (.UnaryOp op a pos) (un g ca) := by
  obtain ⟨r, h1, h2⟩ := ho
  refine dv (pe_frz (pe_un h1 ha) fun σ H Q ⟨ι, M, sr, f⟩ => ?_)
  exact (seqD sr f).imp fun x H1 ⟨d1, ι1, M1, e1, r1, q1, f1⟩ => h2 r1 q1 f1
theorem dt_cmp {op : CmpOp} {g : D → D → Option Bool} (ho : CmpD X (compareOp op) g) (ha : DV X W ρ a ca) (hb : DV X W ρ b cb) (hm : behindInMarks op b = false) : DT X W ρ (.Compare a [op] [b] pos) (cmp g ca cb) := by
  obtain ⟨r, h1, h2⟩ := ho
  refine pt_imp (pt_cmpR h1 ha hb hm) fun σ H Q ⟨ι, M, sr, f⟩ => ?_
  exact (seqDB sr f).imp fun x H1 ⟨d1, ι1, M1, e1, r1, q1, f1⟩ => (seqDB r1 f1).imp fun y H2 ⟨d2, ι2, M2, e2, r2, q2, f2⟩ => h2 r2 (r1.rpb e2 q1) q2 f2
theorem fitV {K : PySem.W.Frag} {σ : L2.St} {ι : List Addr} {H : Hp} {o : Out Bool} {Q : VK} (f : Fit K W ρ w σ ι H (o.bnd fun b m => .ok (.bl b) m) Q) : FitB K W ρ σ ι H o (fun b H' => Q (.bl b) H') := by
  cases o with
  | ok b m => exact fun ι' H' e r => f ι' _ H' e r (.of .bl)
  | exc c d m => exact f
  | no => exact f
theorem valB_bin {g : D → D → Option Bool} : valB (cmp g ca cb) = (do let a ← ca; let b ← cb; let t ← lift (g a b); pure (.bl t)) := by
  unfold valB cmp
  rw [C.bind_assoc]
  congr 1
  funext a
  rw [C.bind_assoc]
theorem opB {X : Cx} {f : Value → Value → Sem Value} {r : R2} (h1 : OpR X f r) : OpR X f (fun x y H Q => r x y H (fun v H' => ∃ b, v = .bl b ∧ Q (.bl b) H')) := fun pins s σ H x y v u Q I rx ry q =>
    thn (h1 pins s σ H x y v u _ I rx ry q) fun u s1 ⟨z, H1, I1, rz, b, ez, q1⟩ => by subst ez; exact ⟨_, H1, I1, rz, q1⟩
theorem de_cmp {op : CmpOp} {g : D → D → Option Bool} (ho : CmpD X (compareOp op) g) (ha : DV X W ρ a ca) (hb : DV X W ρ b cb) (hm : behindInMarks op b = false) : DG w X W ρ (.Compare a [op] [b] pos) (valB (cmp g ca cb)) := by
  obtain ⟨r, h1, h2⟩ := ho
  rw [valB_bin]
  refine dv (pe_imp (pe_cmpR (opB h1) ha hb hm) fun σ H Q ⟨ι, M, sr, f⟩ => ?_)
  refine (seqD sr f).imp fun x H1 ⟨d1, ι1, M1, e1, r1, q1, f1⟩ => (seqD r1 f1).imp fun y H2 ⟨d2, ι2, M2, e2, r2, q2, f2⟩ => ?_
  exact h2 (W := W) r2 (r1.rpb e2 q1) q2 (fitV f2)
/-- a op1 b op2 c -/
def chain (g g' : D → D → Option Bool) (ca cb cc : C D) : C Bool := do let a ← ca; let b ← cb; let t ← lift (g a b); if t then (do let c ← cc; lift (g' b c)) else pure false
theorem ok_lift {α : Type} {o : Option α} {M : Mem} : lift o M = (match o with | some a => .ok a M | none => .no) := by cases o <;> rfl
theorem dt_chain {op op' : CmpOp} {g g' : D → D → Option Bool} {c : Expr} {cc : C D} (ho : CmpD X (compareOp op) g) (ho' : CmpD X (compareOp op') g') (ha : DV X W ρ a ca) (hb : DV X W ρ b cb) (hc : DV X W ρ c cc)
    (hm : lastMarks [op, op'] [b, c] = false := by with_unfolding_all rfl) : DT X W ρ (.Compare a [op, op'] [b, c] pos) (chain g g' ca cb cc) := by
  obtain ⟨r, h1, h2⟩ := ho
  obtain ⟨r', h1', h2'⟩ := ho'
  refine pt_imp (pt_chain h1 h1' ha hb hc hm) fun σ H Q ⟨ι, M, sr, f⟩ => ?_
  refine (seqDB sr f).imp fun x H1 ⟨d1, ι1, M1, e1, r1, q1, f1⟩ => (seqDB r1 f1).imp fun y H2 ⟨d2, ι2, M2, e2, r2, q2, f2⟩ => ?_
  have f3 : FitB X.K W ρ σ ι2 H2 (lift (g d1 d2) M2) (fun t H3 => (if t = true then tD X.K W ρ true cc σ H3 fun w' H4 => r' y w' H4 fun v H5 => ∃ k, v = .bl k ∧ Q k H5 else ∃ k, V.bl false = .bl k ∧ Q k H3)) := by
    cases hg : g d1 d2 with
    | none => rw [hg] at f2; exact f2
    | some t =>
      rw [hg] at f2
      intro ι3 H3 e3 r3
      cases t with
      | false => exact ⟨false, rfl, (FitB.later e3 (show FitB X.K W ρ σ ι2 H2 ((pure false : C Bool) M2) Q from f2)).val r3⟩
      | true =>
        have f4 : FitB X.K W ρ σ ι3 H3 ((cc >>= fun c => lift (g' d2 c)) M2) Q := FitB.later e3 f2
        exact (seqDB r3 f4).imp fun z H4 ⟨d4, ι4, M4, e4, r4, q4, f5⟩ => h2' r4 (r2.rpb (e3.trans e4) q2) q4 f5
  exact h2 r2 (r1.rpb e2 q1) q2 f3
theorem valB_chain {g g' : D → D → Option Bool} {cc : C D} : valB (chain g g' ca cb cc) = (do let a ← ca; let b ← cb; let t ← lift (g a b); valB (if t then (do let c ← cc; lift (g' b c)) else pure false)) := by
  unfold valB chain
  rw [C.bind_assoc]
  congr 1; funext a
  rw [C.bind_assoc]
  congr 1; funext b
  rw [C.bind_assoc]
theorem de_chain {op op' : CmpOp} {g g' : D → D → Option Bool} {c : Expr} {cc : C D} (ho : CmpD X (compareOp op) g) (ho' : CmpD X (compareOp op') g') (ha : DV X W ρ a ca) (hb : DV X W ρ b cb) (hc : DV X W ρ c cc)
    (hm : lastMarks [op, op'] [b, c] = false := by with_unfolding_all rfl) : DG w X W ρ (.Compare a [op, op'] [b, c] pos) (valB (chain g g' ca cb cc)) := by
  obtain ⟨r, h1, h2⟩ := ho
  obtain ⟨r', h1', h2'⟩ := ho'
  rw [valB_chain]
  refine dv (pe_imp (pe_chain (opB h1) (opB h1') ha hb hc hm) fun σ H Q ⟨ι, M, sr, f⟩ => ?_)
  refine (seqD sr f).imp fun x H1 ⟨d1, ι1, M1, e1, r1, q1, f1⟩ => (seqD r1 f1).imp fun y H2 ⟨d2, ι2, M2, e2, r2, q2, f2⟩ => ?_
  have f3 : FitB X.K W ρ σ ι2 H2 (lift (g d1 d2) M2) (fun t H3 => ∃ k, V.bl t = .bl k ∧ (if k = true then tD X.K W ρ true cc σ H3 fun w' H4 => r' y w' H4 fun v H5 => ∃ b, v = .bl b ∧ Q (.bl b) H5 else Q (.bl false) H3)) := by
    cases hg : g d1 d2 with
    | none => rw [hg] at f2; exact f2
    | some t =>
      rw [hg] at f2
      intro ι3 H3 e3 r3
      refine ⟨t, rfl, ?_⟩
      cases t with
      | false => exact (Fit.later e3 (show Fit X.K W ρ false σ ι2 H2 ((pure (.bl false) : C D) M2) Q from f2)).val r3 .bl
      | true =>
        have f4 : FitB X.K W ρ σ ι3 H3 ((cc >>= fun c => lift (g' d2 c)) M2) (fun b H' => Q (.bl b) H') := fitV (w := false) (Fit.later e3 f2)
        exact (seqDB r3 f4).imp fun z H4 ⟨d4, ι4, M4, e4, r4, q4, f5⟩ => h2' r4 (r2.rpb (e3.trans e4) q2) q4 f5
  exact h2 r2 (r1.rpb e2 q1) q2 f3
/-- a value that is a bool, as a test -/
theorem dt_val (ha : DE X W ρ a ca) (he : ∀ whole, isTrue a X.env whole = (do let v ← whole; standAt a.pos; holding [v] (truthy v)) := by intro _; rfl) : DT X W ρ a (asB ca) := by
  refine pt_imp (pt_val ha he) fun σ H Q ⟨ι, M, sr, f⟩ => ?_
  refine (seqDB sr f).imp fun x H1 ⟨d1, ι1, M1, e1, r1, q1, f1⟩ => ?_
  cases d1 with
  | bl b => exact ⟨b, q1.str.blE, FitB.val f1 r1⟩
  | _ => exact (show False from f1).elim
theorem dt_not (ha : DT X W ρ a ta) : DT X W ρ (.UnaryOp .Not a pos) (notT ta) :=
  pt_imp (pt_not ha) fun σ H Q ⟨ι, M, sr, f⟩ => (seqBB sr f).imp fun x H1 ⟨ι1, M1, e1, r1, f1⟩ => f1.val r1
theorem fit_asB {K : PySem.W.Frag} {σ : L2.St} {ι : List Addr} {M : Mem} {H : Hp} {k : Bool → C D} {Q : VK} (r : SR K ι M H σ ρ) (f : Fit K W ρ w σ ι H ((asB ca >>= k) M) Q) :
    tD K W ρ false ca σ H (fun v H1 => ∃ b ι1 M1, v = .bl b ∧ Ext ρ ι H ι1 H1 ∧ SR K ι1 M1 H1 σ ρ ∧ Fit K W ρ w σ ι1 H1 (k b M1) Q) := by
  have f' : Fit K W ρ w σ ι H ((ca >>= fun d => lift d.bool? >>= k) M) Q := by rw [← C.bind_assoc]; exact f
  refine (seqD r f').imp fun x H1 ⟨d1, ι1, M1, e1, r1, q1, f1⟩ => ?_
  cases d1 with
  | bl b => exact ⟨b, ι1, M1, q1.str.blE, e1, r1, f1⟩
  | _ => exact (show False from f1).elim
theorem de_not (ha : DE X W ρ a ca) : DG w X W ρ (.UnaryOp .Not a pos) (notV ca) :=
  pe_imp (pe_not ha) fun σ H Q ⟨ι, M, sr, f⟩ => (fit_asB sr f).imp fun x H1 ⟨b, ι1, M1, eb, e1, r1, f1⟩ => ⟨b, eb, f1.val r1 .bl⟩
theorem de_one {op : BoolOp} (ha : DG w X W ρ a ca) : DG w X W ρ (.BoolOp op [a] pos) ca := pe_one ha
theorem de_and {rest : List Expr} (ha : DE X W ρ a ca) (hb : DG w X W ρ (.BoolOp .And (b :: rest) pos) cb) : DG w X W ρ (.BoolOp .And (a :: b :: rest) pos) (andV ca cb) :=
  pe_imp (pe_and ha hb) fun σ H Q ⟨ι, M, sr, f⟩ => (fit_asB sr f).imp fun x H1 ⟨b, ι1, M1, eb, e1, r1, f1⟩ => ⟨b, eb, by
    cases b with
    | true => exact ⟨ι1, M1, r1, f1⟩
    | false => exact f1.val r1 .bl⟩
theorem de_or {rest : List Expr} (ha : DE X W ρ a ca) (hb : DG w X W ρ (.BoolOp .Or (b :: rest) pos) cb) : DG w X W ρ (.BoolOp .Or (a :: b :: rest) pos) (orV ca cb) :=
  pe_imp (pe_or ha hb) fun σ H Q ⟨ι, M, sr, f⟩ => (fit_asB sr f).imp fun x H1 ⟨b, ι1, M1, eb, e1, r1, f1⟩ => ⟨b, eb, by
    cases b with
    | true => exact f1.val r1 .bl
    | false => exact ⟨ι1, M1, r1, f1⟩⟩
abbrev DW (X : Cx) (W : WX) (ρ : List Sl) (e : Expr) (c : C Bool) : Prop := PW X e (tT X.K W ρ c)
theorem pw_imp {c : Expr} {t t' : TT} (h : PW X c t) (i : ∀ σ H Q, t' σ H Q → t σ H Q) : PW X c t' := ⟨fun wh pins s σ H Q I q => h.run wh pins s σ H Q I (i σ H Q q)⟩
theorem dw_and1 (ha : DT X W ρ a ta) : DW X W ρ (.BoolOp .And [a] pos) ta := pw_and1 ha
theorem dw_or1 (ha : DT X W ρ a ta) : DW X W ρ (.BoolOp .Or [a] pos) ta := pw_or1 ha
theorem dw_and {rest : List Expr} (ha : DT X W ρ a ta) (hb : DW X W ρ (.BoolOp .And (b :: rest) pos) tb) : DW X W ρ (.BoolOp .And (a :: b :: rest) pos) (andT ta tb) :=
  pw_imp (pw_and ha hb) fun σ H Q ⟨ι, M, sr, f⟩ => (seqBB sr f).imp fun b H1 ⟨ι1, M1, e1, r1, f1⟩ => by
    cases b with
    | true => exact ⟨ι1, M1, r1, f1⟩
    | false => exact f1.val r1
theorem dw_or {rest : List Expr} (ha : DT X W ρ a ta) (hb : DW X W ρ (.BoolOp .Or (b :: rest) pos) tb) : DW X W ρ (.BoolOp .Or (a :: b :: rest) pos) (orT ta tb) :=
  pw_imp (pw_or ha hb) fun σ H Q ⟨ι, M, sr, f⟩ => (seqBB sr f).imp fun b H1 ⟨ι1, M1, e1, r1, f1⟩ => by
    cases b with
    | true => exact f1.val r1
    | false => exact ⟨ι1, M1, r1, f1⟩
theorem dt_bop {op : BoolOp} {es : List Expr} (h : DW X W ρ (.BoolOp op es pos) ta) : DT X W ρ (.BoolOp op es pos) ta := h.pt
theorem de_if {c : Expr} (hc : DT X W ρ c ta) (ha : DG w X W ρ a ca) (hb : DG w X W ρ b cb) : DG w X W ρ (.IfExp c a b pos) (ifE ta ca cb) :=
  pe_imp (pe_ifExp hc ha hb) fun σ H Q ⟨ι, M, sr, f⟩ => (seqBD sr f).imp fun b H1 ⟨ι1, M1, e1, r1, f1⟩ => by
    cases b with
    | true => exact ⟨ι1, M1, r1, f1⟩
    | false => exact ⟨ι1, M1, r1, f1⟩
theorem de_ix {g : D → D → Option D} (ho : IxD X g) (ha : DV X W ρ a ca) (hb : DV X W ρ b cb) (hs : PlainIx b := by intro _ _; rfl) : DG w X W ρ (.Subscript a b pos) (bin g ca cb) := by
  obtain ⟨r, h1, h2⟩ := ho
  refine dv (pe_frz (pe_ix h1 ha hb hs) fun σ H Q ⟨ι, M, sr, f⟩ => ?_)
  exact (seqD sr f).imp fun x H1 ⟨d1, ι1, M1, e1, r1, q1, f1⟩ => (seqD r1 f1).imp fun y H2 ⟨d2, ι2, M2, e2, r2, q2, f2⟩ => h2 r2 (r1.rpb e2 q1) q2 f2

/-! ### argument lists, displays -/
variable {e : Expr} {es : List Expr} {c : C D} {cs : List (C D)} {cl : C (List D)}
theorem da_nil : DA w X W ρ [] (args []) := ⟨fun pos pins s σ H Q I ⟨ι, M, sr, f⟩ => pa_nil.run pos pins s σ H Q I (f.val sr .nil)⟩
theorem da_cons (ha : DG w X W ρ e c) (hr : DA w X W ρ es (args cs)) (hs : starEach (e :: es) X.env = (false, eval e X.env) :: starEach es X.env := by rfl) : DA w X W ρ (e :: es) (args (c :: cs)) := by
  refine ⟨fun pos pins s σ H Q I ⟨ι, M, sr, f⟩ => (pa_cons ha hr hs).run pos pins s σ H Q I ?_⟩
  exact (seqDA sr f).imp fun x H1 ⟨d1, ι1, M1, e1, r1, q1, f1⟩ => (seqAA r1 f1).imp fun xs H2 ⟨ds, ι2, M2, e2, r2, q2, f2⟩ => f2.val r2 (.cons (r1.rpb e2 q1) q2)
theorem tA.lenR {K : PySem.W.Frag} {σ : L2.St} {ι : List Addr} {M : Mem} {H : Hp} {Q : VK} {w2 : Bool} {k : List D → C D} (r : SR K ι M H σ ρ) (f : Fit K W ρ w2 σ ι H ((args cs >>= k) M) Q) :
    tA K W ρ w (args cs) σ H (fun vs H1 => vs.length = cs.length ∧ ∃ ds ι1 M1, Ext ρ ι H ι1 H1 ∧ SR K ι1 M1 H1 σ ρ ∧ RpBL w K ρ ι1 H1 ds vs ∧ Fit K W ρ w2 σ ι1 H1 (k ds M1) Q) := by
  refine ⟨ι, M, r, ?_⟩
  have f' : Fit K W ρ w2 σ ι H ((args cs M).bnd k) Q := f
  cases e : args cs M with
  | ok d M1 => rw [e] at f'; exact fun ι1 v H1 e1 r1 q1 => ⟨by rw [← q1.length]; exact args_len e, d, ι1, M1, e1, r1, q1, f'.later e1⟩
  | exc c d M1 => rw [e] at f'; exact f'
  | no => rw [e] at f'; exact f'
theorem line_of {n : Nat} (h : n ≤ 1000) : n ≤ sizeLine := Nat.le_of_lt (small1000 h)
theorem de_tup {k : Nat} (h : DA false X W ρ es (args cs)) (hz : cs.length ≤ 1000 := by decide) : DG w X W ρ (.Tuple es k pos) (tupC cs) := by
  refine pe_imp (pe_tup h) fun σ H Q ⟨ι, M, sr, f⟩ => ?_
  exact (tA.lenR sr f).imp fun vs H1 ⟨hl, ds, ι1, M1, e1, r1, q1, f1⟩ => ⟨by rw [hl]; exact line_of hz, fun p hp => Fit.tup f1 r1 q1.str hp⟩
theorem de_lst (h : DA false X W ρ es (args cs)) (hz : cs.length ≤ 1000 := by decide) : DG w X W ρ (.List es pos) (lstC cs) := by
  refine pe_frz (pe_lst h) fun σ H Q ⟨ι, M, sr, f⟩ => ?_
  exact (tA.lenR sr f).imp fun vs H1 ⟨hl, ds, ι1, M1, e1, r1, q1, f1⟩ => ⟨by rw [hl]; exact line_of hz, fun p hp => Fit.lst f1 r1 q1.str hp⟩
/-! ### built-in calls -/
def callO (g : List D → Option D) (cs : List (C D)) : C D := do let ds ← args cs; lift (g ds)
theorem de_callB {id : String} {g : List D → Option D} {x : Str} {p : Pos} (hc : CallD X (.builtin id) g) (hm : X.mg x = none) (hv : bootBuiltins x = some (.builtin id)) (ha : DA true X W ρ (e :: es) (args (c :: cs))) (hg : Gl X x := by rfl) (hn : x ≠ "__name__" := by decide)
    (hdb : (x == ("__debug__" : Str)) = false := by decide) (he : starEach (e :: es) X.env = (false, eval e X.env) :: starEach es X.env := by rfl) (hpl : (backTo pos (starEach es X.env)).any (·.1) = false := by rfl) :
    DG w X W ρ (.Call (.Name x p) (e :: es) [] pos) (callO g (c :: cs)) := by
  obtain ⟨r, h1, h2⟩ := hc
  refine dv (pe_frz (pe_callB h1 hg hm hv ha hn hdb he hpl) fun σ H Q ⟨ι, M, sr, f⟩ => ?_)
  exact (seqA sr f).imp fun vs H1 ⟨ds, ι1, M1, e1, r1, q1, f1⟩ => h2 r1 q1 f1
theorem de_callTy {T : String} {g : List D → Option D} {x : Str} {p : Pos} (hc : CallD X (.type T) g) (hm : X.mg x = none) (hv : bootBuiltins x = some (.type T)) (ha : DA true X W ρ (e :: es) (args (c :: cs))) (hg : Gl X x := by rfl) (hn : x ≠ "__name__" := by decide)
    (hdb : (x == ("__debug__" : Str)) = false := by decide) (he : starEach (e :: es) X.env = (false, eval e X.env) :: starEach es X.env := by rfl) (hpl : (backTo pos (starEach es X.env)).any (·.1) = false := by rfl) :
    DG w X W ρ (.Call (.Name x p) (e :: es) [] pos) (callO g (c :: cs)) := by
  obtain ⟨r, h1, h2⟩ := hc
  refine dv (pe_frz (pe_callTy h1 hg hm hv ha hn hdb he hpl) fun σ H Q ⟨ι, M, sr, f⟩ => ?_)
  exact (seqA sr f).imp fun vs H1 ⟨ds, ι1, M1, e1, r1, q1, f1⟩ => h2 r1 q1 f1
end
end Fw
set_option Elab.async false
set_option linter.all false
set_option maxRecDepth 100000
set_option maxHeartbeats 1000000
namespace Fw
open PySem PySem.Spec L2

/-! ### statements -/
/-- how a block ends: with these slots; by a return; at a def's end (a return, or None at the text's end) -/
inductive Fin where
  | nx (ρ : List Sl)
  | rt (d : D)
  | fn (d : D)
section
variable (K : PySem.W.Frag) (W : WX) (ρ : List Sl) (σ : L2.St) (ι : List Addr) (H : Hp)
def FitR (d : D) (M' : Mem) (Q : VK) : Prop := ∀ ι' v H', Ex (Own ρ) ι H (fun _ => False) ι' H' → GR K ι' M' H' → Rp K ι' H' d v → Q v H'
def FitF (M' : Mem) : Fin → Ends → Prop
  | .nx ρ', D => ∀ ι' σ' H', Ex (Own ρ) ι H (Own ρ') ι' H' → SR K ι' M' H' σ' ρ' → D.nx σ' H'
  | .rt d, D => FitR K ρ ι H d M' D.rt
  | .fn d, D => FitR K ρ ι H d M' D.rt ∧ (d = .non → ∀ ι' σ' H', Ex (Own ρ) ι H (fun _ => False) ι' H' → GR K ι' M' H' → D.nx σ' H')
def FitS {β : Type} (I : β → Fin) : Out β → Ends → Prop
  | .ok b M', D => FitF K ρ ι H M' (I b) D
  | .exc c d M', _ => ∀ ι' σ' cls dct H', Ex (Own ρ) ι H (fun _ => False) ι' H' → GR K ι' M' H' → XR K ι' H' c d cls dct → W cls dct σ' H'
  | .no, _ => False
end
def tS (K : PySem.W.Frag) (W : WX) (ρ : List Sl) {β : Type} (I : β → Fin) (c : C β) : TS := fun D σ H => ∃ ι M, SR K ι M H σ ρ ∧ FitS K W ρ ι H I (c M) D
abbrev DB (X : Cx) (W : WX) (ρ : List Sl) {β : Type} (I : β → Fin) (sts : List Stmt) (c : C β) : Prop := PSs X sts (tS X.K W ρ I c)

section
variable {K : PySem.W.Frag} {W : WX} {ρ ρ' : List Sl} {σ σ' : L2.St} {ι ι' : List Addr} {H H' : Hp} {M M' : Mem} {β : Type} {I : β → Fin} {w : Bool}
theorem FitR.later {d : D} {Q : VK} (e : Ex (Own ρ) ι H (Own ρ') ι' H') (f : FitR K ρ ι H d M Q) : FitR K ρ' ι' H' d M Q := fun ι2 v H2 e2 => f ι2 v H2 (e.trans e2)
theorem FitF.later {F : Fin} {D : Ends} (e : Ex (Own ρ) ι H (Own ρ') ι' H') (f : FitF K ρ ι H M F D) : FitF K ρ' ι' H' M F D := by
  cases F with
  | nx ρ2 => exact fun ι2 σ2 H2 e2 => f ι2 σ2 H2 (e.trans e2)
  | rt d => exact FitR.later (Q := D.rt) e f
  | fn d => exact ⟨FitR.later e f.1, fun q ι2 σ2 H2 e2 => f.2 q ι2 σ2 H2 (e.trans e2)⟩
theorem FitS.later {o : Out β} {D : Ends} (e : Ex (Own ρ) ι H (Own ρ') ι' H') (f : FitS K W ρ ι H I o D) : FitS K W ρ' ι' H' I o D := by
  cases o with
  | ok d M' => exact FitF.later e f
  | exc c d M' => exact fun ι2 σ2 cls dct H2 e2 => f ι2 σ2 cls dct H2 (e.trans e2)
  | no => exact f
theorem Ex.drop {O O' : Addr → Prop} (e : Ex O ι H O' ι' H') : Ex O ι H (fun _ => False) ι' H' := ⟨e.pre, e.newc, fun _ h => h.elim, e.keep, e.free⟩
theorem FitS.x {c : Str} {d : D} {D : Ends} (f : FitS K W ρ ι H I (.exc c d M') D) : FitX K W ρ σ ι H c d M' := fun ι' cls dct H' e r x => f ι' σ cls dct H' e.drop r.gr x
theorem seqDS {ca : C D} {k : D → C β} {E : Ends} (r : SR K ι M H σ ρ) (f : FitS K W ρ ι H I ((ca >>= k) M) E) :
    tD K W ρ w ca σ H (fun v H1 => ∃ d ι1 M1, Ext ρ ι H ι1 H1 ∧ SR K ι1 M1 H1 σ ρ ∧ RpB w K ρ ι1 H1 d v ∧ FitS K W ρ ι1 H1 I (k d M1) E) := by
  refine ⟨ι, M, r, ?_⟩
  have f' : FitS K W ρ ι H I ((ca M).bnd k) E := f
  cases e : ca M with
  | ok d M1 => rw [e] at f'; exact fun ι1 v H1 e1 r1 q1 => ⟨d, ι1, M1, e1, r1, q1, FitS.later e1 f'⟩
  | exc c d M1 => rw [e] at f'; exact FitS.x (D := E) f'
  | no => rw [e] at f'; exact f'
theorem seqBS {ca : C Bool} {k : Bool → C β} {E : Ends} (r : SR K ι M H σ ρ) (f : FitS K W ρ ι H I ((ca >>= k) M) E) :
    tT K W ρ ca σ H (fun b H1 => ∃ ι1 M1, Ext ρ ι H ι1 H1 ∧ SR K ι1 M1 H1 σ ρ ∧ FitS K W ρ ι1 H1 I (k b M1) E) := by
  refine ⟨ι, M, r, ?_⟩
  have f' : FitS K W ρ ι H I ((ca M).bnd k) E := f
  cases e : ca M with
  | ok d M1 => rw [e] at f'; exact fun ι1 H1 e1 r1 => ⟨ι1, M1, e1, r1, FitS.later e1 f'⟩
  | exc c d M1 => rw [e] at f'; exact FitS.x (D := E) f'
  | no => rw [e] at f'; exact f'
theorem seqAS {ca : C (List D)} {k : List D → C β} {E : Ends} (r : SR K ι M H σ ρ) (f : FitS K W ρ ι H I ((ca >>= k) M) E) :
    tA K W ρ w ca σ H (fun vs H1 => ∃ ds ι1 M1, Ext ρ ι H ι1 H1 ∧ SR K ι1 M1 H1 σ ρ ∧ RpBL w K ρ ι1 H1 ds vs ∧ FitS K W ρ ι1 H1 I (k ds M1) E) := by
  refine ⟨ι, M, r, ?_⟩
  have f' : FitS K W ρ ι H I ((ca M).bnd k) E := f
  cases e : ca M with
  | ok d M1 => rw [e] at f'; exact fun ι1 v H1 e1 r1 q1 => ⟨d, ι1, M1, e1, r1, q1, FitS.later e1 f'⟩
  | exc c d M1 => rw [e] at f'; exact FitS.x (D := E) f'
  | no => rw [e] at f'; exact f'
/-- a block, then what follows it: J tells the block's ends -/
theorem seqSS {α : Type} {J : α → Fin} {ca : C α} {k : α → C β} {E E' : Ends} (r : SR K ι M H σ ρ) (f : FitS K W ρ ι H I ((ca >>= k) M) E)
    (h : ∀ a M1, FitS K W ρ ι H I (k a M1) E → FitF K ρ ι H M1 (J a) E') : tS K W ρ J ca E' σ H := by
  refine ⟨ι, M, r, ?_⟩
  have f' : FitS K W ρ ι H I ((ca M).bnd k) E := f
  cases e : ca M with
  | ok d M1 => rw [e] at f'; exact h d M1 f'
  | exc c d M1 => rw [e] at f'; exact f'
  | no => rw [e] at f'; exact f'
/-- storing a name -/
theorem get_set_own {i j : Nat} {d : D} {a : Addr} {ds : List D} (h : (ρ.set i (.val d))[j]? = some (.own a ds)) : i ≠ j ∧ ρ[j]? = some (Sl.own a ds) := by
  by_cases e : i = j
  · subst e
    by_cases hl : i < ρ.length
    · rw [List.getElem?_set_self hl] at h; cases h
    · rw [List.getElem?_eq_none (by simpa using hl)] at h; cases h
  · rw [List.getElem?_set_ne e] at h; exact ⟨e, h⟩
theorem own_set {i : Nat} {d : D} {b : Addr} (h : Own (ρ.set i (.val d)) b) : Own ρ b := by
  obtain ⟨j, ds, h1⟩ := h
  exact ⟨j, ds, (get_set_own h1).2⟩
theorem SR.set {i : Nat} {d : D} {v : V} (r : SR K ι M H σ ρ) (q : Rp K ι H d v) : SR K ι M H (σ.set i (some v)) (ρ.set i (.val d)) := by
  refine ⟨r.gr, by simp [r.len], fun j s h => ?_, fun j l ds es a h1 h2 => r.apart j l ds es a (get_set_own h1).2 (get_set_own h2).2⟩
  by_cases e : i = j
  · subst e
    by_cases hl : i < ρ.length
    · rw [List.getElem?_set_self hl] at h; cases h
      exact ⟨some v, by rw [List.getElem?_set_self (by rw [r.len]; exact hl)], v, rfl, q⟩
    · rw [List.getElem?_eq_none (by simpa using hl)] at h; cases h
  · rw [List.getElem?_set_ne e] at h
    obtain ⟨o, h1, h2⟩ := r.sl j s h
    exact ⟨o, by rw [List.getElem?_set_ne e]; exact h1, h2⟩
theorem Ex.own_sub {ρ' : List Sl} (h : ∀ b, Own ρ' b → Own ρ b ∨ Nn H b) : Ex (Own ρ) ι H (Own ρ') ι H :=
  ⟨List.prefix_refl _, fun _ h => .inl h, h, fun _ _ h _ _ _ => h, fun _ h => h⟩
theorem Ex.set {i : Nat} {d : D} : Ex (Own ρ) ι H (Own (ρ.set i (.val d))) ι H := Ex.own_sub fun _ h => .inl (own_set h)
/-- a new list of the frame's own, at a (not yet the frame's: no slot has it) -/
theorem get_set_own' {i j : Nat} {a b : Addr} {ds es : List D} (h : (ρ.set i (.own a ds))[j]? = some (.own b es)) : (i = j ∧ a = b ∧ ds = es) ∨ (i ≠ j ∧ ρ[j]? = some (Sl.own b es)) := by
  by_cases e : i = j
  · subst e
    by_cases hl : i < ρ.length
    · rw [List.getElem?_set_self hl] at h; cases h; exact .inl ⟨rfl, rfl, rfl⟩
    · rw [List.getElem?_eq_none (by simpa using hl)] at h; cases h
  · rw [List.getElem?_set_ne e] at h; exact .inr ⟨e, h⟩
theorem SR.setO {i : Nat} {a : Addr} {ds : List D} {xs : List V} (r : SR K ι M H σ ρ) (hn : ¬ Own ρ a) (hi : a ∉ ι) (hl : H a = some (.lst xs)) (q : RpL K ι H ds xs) : SR K ι M H (σ.set i (some (.ref a))) (ρ.set i (.own a ds)) := by
  refine ⟨r.gr, by simp [r.len], fun j s h => ?_, fun j l es fs b h1 h2 => ?_⟩
  · by_cases e : i = j
    · subst e
      by_cases hl' : i < ρ.length
      · rw [List.getElem?_set_self hl'] at h; cases h
        exact ⟨some (.ref a), by rw [List.getElem?_set_self (by rw [r.len]; exact hl')], rfl, hi, xs, hl, q⟩
      · rw [List.getElem?_eq_none (by simpa using hl')] at h; cases h
    · rw [List.getElem?_set_ne e] at h
      obtain ⟨o, h1, h2⟩ := r.sl j s h
      exact ⟨o, by rw [List.getElem?_set_ne e]; exact h1, h2⟩
  · rcases get_set_own' h1 with ⟨e1, e2, _⟩ | ⟨n1, q1⟩
    · rcases get_set_own' h2 with ⟨e3, _, _⟩ | ⟨n2, q2⟩
      · exact e1.symm.trans e3
      · subst e2; exact absurd ⟨l, fs, q2⟩ hn
    · rcases get_set_own' h2 with ⟨e3, e4, _⟩ | ⟨n2, q2⟩
      · subst e4; exact absurd ⟨j, es, q1⟩ hn
      · exact r.apart j l es fs b q1 q2
/-- a list of the frame's own is changed -/
theorem ex_write {a : Addr} {o : HO} (h : MutK H a) (ho : Own ρ a ∨ a ∈ ι) (hnt : notTbl o := by intro _ z; cases z) : Ex (Own ρ) ι H (Own ρ) ι (upd H a o) where
  pre := List.prefix_refl _
  newc := fun _ h => .inl h
  newo := fun _ h => .inl h
  keep := fun b u hb h1 h2 _ => by
    rw [upd_ne (fun z => by subst z; rcases ho with q | q; exact h2 q; exact h1 q)]; exact hb
  free := fun b hb => by
    by_cases e : b = a
    · subst e; exact (hb.no upd_same hnt).elim
    · unfold Nn at hb ⊢; rw [upd_ne e] at hb; exact hb
theorem SR.wown {i : Nat} {a : Addr} {ds ds' : List D} {xs' : List V} (r : SR K ι M H σ ρ) (hi : ρ[i]? = some (.own a ds)) (q : RpL K ι H ds' xs') :
    SR K ι M (upd H a (.lst xs')) σ (ρ.set i (.own a ds')) ∧ Ex (Own ρ) ι H (Own (ρ.set i (.own a ds'))) ι (upd H a (.lst xs')) := by
  obtain ⟨h1, h2, xs, h3, h4⟩ := r.ownE hi
  have e := ex_write (o := .lst xs') ⟨xs, h3⟩ (.inl ⟨i, ds, hi⟩ : Own ρ a ∨ a ∈ ι)
  have hlen : i < ρ.length := (List.getElem?_eq_some_iff.mp hi).1
  refine ⟨⟨⟨r.gr.len, r.gr.nd, fun n b hb => ?_, fun p hp => tabS_lst h3 (r.gr.tab p hp)⟩, by simp [r.len], fun j s h => ?_, fun j l es fs b h1 h2 => ?_⟩, ⟨e.pre, e.newc, fun b hb => ?_, e.keep, e.free⟩⟩
  · obtain ⟨ys, es, g1, g2, g3⟩ := r.gr.at_ n b hb
    refine ⟨ys, es, ?_, g2, r.rpl e g3⟩
    rw [upd_ne (fun z => by subst z; exact h2 (List.mem_of_getElem? hb))]
    exact g1
  · by_cases ej : i = j
    · subst ej
      rw [List.getElem?_set_self hlen] at h; cases h
      exact ⟨some (.ref a), h1, rfl, h2, xs', upd_same, r.rpl e q⟩
    · rw [List.getElem?_set_ne ej] at h
      obtain ⟨o, g1, g2⟩ := r.sl j s h
      refine ⟨o, g1, ?_⟩
      cases s with
      | no => trivial
      | val d =>
        obtain ⟨v, e1, e2⟩ := g2
        exact ⟨v, e1, r.rp e e2⟩
      | own b es =>
        obtain ⟨e1, e2, ys, e3, e4⟩ := g2
        refine ⟨e1, e2, ys, ?_, r.rpl e e4⟩
        rw [upd_ne (fun z => by subst z; exact ej (r.apart i j ds es b hi h))]
        exact e3
  · rcases get_set_own' h1 with ⟨e1, e2, _⟩ | ⟨n1, q1⟩
    · rcases get_set_own' h2 with ⟨e3, _, _⟩ | ⟨n2, q2⟩
      · exact e1.symm.trans e3
      · subst e2; exact absurd (r.apart i l ds fs a hi q2) n2
    · rcases get_set_own' h2 with ⟨e3, e4, _⟩ | ⟨n2, q2⟩
      · subst e4; exact absurd (r.apart i j ds es a hi q1) n1
      · exact r.apart j l es fs b q1 q2
  · obtain ⟨j, es, hj⟩ := hb
    rcases get_set_own' hj with ⟨_, e2, _⟩ | ⟨_, q1⟩
    · subst e2; exact .inl ⟨i, ds, hi⟩
    · exact .inl ⟨j, es, q1⟩
/-- a changing object is changed -/
theorem SR.wcell {n : Nat} {a : Addr} {ds' : List D} {xs' : List V} (r : SR K ι M H σ ρ) (hi : ι[n]? = some a) (q : RpL K ι H ds' xs') :
    SR K ι (M.set n (.lst ds')) (upd H a (.lst xs')) σ ρ ∧ Ext ρ ι H ι (upd H a (.lst xs')) := by
  obtain ⟨ys, es, g1, g2, g3⟩ := r.gr.at_ n a hi
  have e := ex_write (ρ := ρ) (o := .lst xs') ⟨ys, g1⟩ (.inr (List.mem_of_getElem? hi))
  have hn : n < M.length := by rw [← r.gr.len]; exact (List.getElem?_eq_some_iff.mp hi).1
  refine ⟨⟨⟨by simp [r.gr.len], r.gr.nd, fun m b hb => ?_, fun p hp => tabS_lst g1 (r.gr.tab p hp)⟩, r.len, fun j s h => ?_, r.apart⟩, e⟩
  · by_cases em : n = m
    · subst em
      rw [hi] at hb; cases hb
      exact ⟨xs', ds', upd_same, by rw [List.getElem?_set_self hn], r.rpl e q⟩
    · obtain ⟨ys, es, g1, g2, g3⟩ := r.gr.at_ m b hb
      refine ⟨ys, es, ?_, by rw [List.getElem?_set_ne em]; exact g2, r.rpl e g3⟩
      rw [upd_ne (fun z => by subst z; exact em (nd_ix r.gr.nd hi hb))]
      exact g1
  · obtain ⟨o, h1, h2⟩ := r.sl j s h
    refine ⟨o, h1, ?_⟩
    cases s with
    | no => trivial
    | val d =>
      obtain ⟨v, e1, e2⟩ := h2
      exact ⟨v, e1, r.rp e e2⟩
    | own b es =>
      obtain ⟨e1, e2, zs, e3, e4⟩ := h2
      refine ⟨e1, e2, zs, ?_, r.rpl e e4⟩
      rw [upd_ne (fun z => by subst z; exact e2 (List.mem_of_getElem? hi))]
      exact e3

/-! ### forgetting slots -/
/-- ρ' knows no more than ρ -/
inductive Wk : List Sl → List Sl → Prop
  | nil : Wk [] []
  | s {s : Sl} {ρ ρ' : List Sl} : Wk ρ ρ' → Wk (s :: ρ) (s :: ρ')
  | n {s : Sl} {ρ ρ' : List Sl} : Wk ρ ρ' → Wk (s :: ρ) (.no :: ρ')
theorem Wk.refl : ∀ ρ : List Sl, Wk ρ ρ
  | [] => .nil
  | _ :: r => .s (Wk.refl r)
theorem Wk.get {ρ ρ' : List Sl} (h : Wk ρ ρ') : ρ'.length = ρ.length ∧ ∀ (i : Nat) (s : Sl), ρ'[i]? = some s → s = Sl.no ∨ ρ[i]? = some s := by
  induction h with
  | nil => exact ⟨rfl, fun i s h => .inr h⟩
  | s h ih => exact ⟨by simp [ih.1], fun i s h => by
      cases i with
      | zero => exact .inr h
      | succ i => simpa using ih.2 i s (by simpa using h)⟩
  | n h ih => exact ⟨by simp [ih.1], fun i s h => by
      cases i with
      | zero => simp at h; exact .inl h.symm
      | succ i => simpa using ih.2 i s (by simpa using h)⟩
theorem Wk.own (w : Wk ρ ρ') {i : Nat} {a : Addr} {ds : List D} (h : ρ'[i]? = some (Sl.own a ds)) : ρ[i]? = some (Sl.own a ds) := by
  rcases w.get.2 i _ h with e | e
  · cases e
  · exact e
theorem SR.wk (w : Wk ρ ρ') (r : SR K ι M H σ ρ) : SR K ι M H σ ρ' := by
  refine ⟨r.gr, by rw [w.get.1]; exact r.len, fun i s h => ?_, fun i j ds es a h1 h2 => r.apart i j ds es a (w.own h1) (w.own h2)⟩
  have hi : i < σ.length := by rw [r.len, ← w.get.1]; exact (List.getElem?_eq_some_iff.mp h).1
  rcases w.get.2 i s h with rfl | e
  · exact ⟨σ[i], by simp [hi], trivial⟩
  · exact r.sl i s e
theorem Ex.wk (w : Wk ρ ρ') : Ex (Own ρ) ι H (Own ρ') ι H := Ex.own_sub fun _ ⟨i, ds, h1⟩ => .inl ⟨i, ds, w.own h1⟩
end


/-! ### a new list -/
/-- the reading of an expression that makes a new list -/
def FitO (K : PySem.W.Frag) (W : WX) (ρ : List Sl) (σ : L2.St) (ι : List Addr) (H : Hp) : Out (List D) → VK → Prop
  | .ok ds M', Q => ∀ ι' p xs H', Ext ρ ι H ι' H' → SR K ι' M' H' σ ρ → Nn H p → p ∉ ι' → H' p = some (.lst xs) → RpL K ι' H' ds xs → Q (.ref p) H'
  | .exc c d M', _ => FitX K W ρ σ ι H c d M'
  | .no, _ => False
def tO (K : PySem.W.Frag) (W : WX) (ρ : List Sl) (c : C (List D)) : TE := fun σ H Q => ∃ ι M, SR K ι M H σ ρ ∧ FitO K W ρ σ ι H (c M) Q
abbrev DO (X : Cx) (W : WX) (ρ : List Sl) (e : Expr) (c : C (List D)) : Prop := PE X e (tO X.K W ρ c)
section
variable {K : PySem.W.Frag} {W : WX} {ρ ρ' : List Sl} {σ σ' : L2.St} {ι ι' : List Addr} {H H' : Hp} {M M' : Mem} {β : Type} {I : β → Fin} {w : Bool}
theorem FitO.later {o : Out (List D)} {Q : VK} (e : Ext ρ ι H ι' H') (f : FitO K W ρ σ ι H o Q) : FitO K W ρ σ ι' H' o Q := by
  cases o with
  | ok d M' => exact fun ι2 p xs H2 e2 r h => f ι2 p xs H2 (e.trans e2) r (e.free p h)
  | exc c d M' => exact FitX.later e f
  | no => exact f
theorem FitO.new {ds : List D} {Q : VK} {p : Addr} {xs : List V} (f : FitO K W ρ σ ι H (.ok ds M) Q) (r : SR K ι M H σ ρ) (hp : H p = none) (q : RpL K ι H ds xs) : Q (.ref p) (upd H p (.lst xs)) :=
  f ι p xs _ (Ex.same (same_new hp)) (r.same (same_new hp)) (.inl hp) (r.gr.fresh hp) upd_same (q.same (same_new hp))
theorem seqOS {ca : C (List D)} {k : List D → C β} {E : Ends} (r : SR K ι M H σ ρ) (f : FitS K W ρ ι H I ((ca >>= k) M) E) :
    tO K W ρ ca σ H (fun v H1 => ∃ ds ι1 M1 p xs, v = .ref p ∧ Ext ρ ι H ι1 H1 ∧ SR K ι1 M1 H1 σ ρ ∧ Nn H p ∧ p ∉ ι1 ∧ ¬ Own ρ p ∧ H1 p = some (.lst xs) ∧ RpL K ι1 H1 ds xs ∧ FitS K W ρ ι H I (k ds M1) E) := by
  refine ⟨ι, M, r, ?_⟩
  have f' : FitS K W ρ ι H I ((ca M).bnd k) E := f
  cases e : ca M with
  | ok d M1 =>
    rw [e] at f'
    exact fun ι1 p xs H1 e1 r1 h1 h2 h3 q1 => ⟨d, ι1, M1, p, xs, rfl, e1, r1, h1, h2, (fun z => by
      obtain ⟨ys, z⟩ := r.mutK p z
      exact h1.no z nt_lst), h3, q1, f'⟩
  | exc c d M1 => rw [e] at f'; exact FitS.x (D := E) f'
  | no => rw [e] at f'; exact f'
theorem seqDO {ca : C D} {k : D → C (List D)} {Q : VK} (r : SR K ι M H σ ρ) (f : FitO K W ρ σ ι H ((ca >>= k) M) Q) :
    tD K W ρ w ca σ H (fun v H1 => ∃ d ι1 M1, Ext ρ ι H ι1 H1 ∧ SR K ι1 M1 H1 σ ρ ∧ RpB w K ρ ι1 H1 d v ∧ FitO K W ρ σ ι1 H1 (k d M1) Q) := by
  refine ⟨ι, M, r, ?_⟩
  have f' : FitO K W ρ σ ι H ((ca M).bnd k) Q := f
  cases e : ca M with
  | ok d M1 => rw [e] at f'; exact fun ι1 v H1 e1 r1 q1 => ⟨d, ι1, M1, e1, r1, q1, f'.later e1⟩
  | exc c d M1 => rw [e] at f'; exact f'
  | no => rw [e] at f'; exact f'
theorem seqAO {cs : List (C D)} {k : List D → C (List D)} {Q : VK} (r : SR K ι M H σ ρ) (f : FitO K W ρ σ ι H ((args cs >>= k) M) Q) :
    tA K W ρ w (args cs) σ H (fun vs H1 => vs.length = cs.length ∧ ∃ ds ι1 M1, Ext ρ ι H ι1 H1 ∧ SR K ι1 M1 H1 σ ρ ∧ RpBL w K ρ ι1 H1 ds vs ∧ FitO K W ρ σ ι1 H1 (k ds M1) Q) := by
  refine ⟨ι, M, r, ?_⟩
  have f' : FitO K W ρ σ ι H ((args cs M).bnd k) Q := f
  cases e : args cs M with
  | ok d M1 => rw [e] at f'; exact fun ι1 v H1 e1 r1 q1 => ⟨by rw [← q1.length]; exact args_len e, d, ι1, M1, e1, r1, q1, f'.later e1⟩
  | exc c d M1 => rw [e] at f'; exact f'
  | no => rw [e] at f'; exact f'
/-- the frame takes a new list -/
theorem FitS.take {i : Nat} {p : Addr} {ds : List D} {H1 : Hp} {ι1 : List Addr} {o : Out β} {E : Ends} (e : Ext ρ ι H ι1 H1) (h : Nn H p) (f : FitS K W ρ ι H I o E) : FitS K W (ρ.set i (.own p ds)) ι1 H1 I o E := by
  refine FitS.later (?_ : Ex (Own ρ) ι H (Own (ρ.set i (.own p ds))) ι1 H1) f
  refine ⟨e.pre, e.newc, fun b ⟨j, es, hb⟩ => ?_, e.keep, e.free⟩
  rcases get_set_own' hb with ⟨_, e2, _⟩ | ⟨_, q⟩
  · subst e2; exact .inr h
  · exact e.newo b ⟨j, es, q⟩
end
section
variable {X : Cx} {W : WX} {ρ : List Sl} {pos : Pos} {es : List Expr} {cs : List (C D)}
theorem do_lst (h : DA false X W ρ es (args cs)) (hz : cs.length ≤ 1000 := by decide) : DO X W ρ (.List es pos) (args cs) := by
  refine pe_imp (pe_lst h) fun σ H Q ⟨ι, M, sr, f⟩ => ?_
  have f' : FitO X.K W ρ σ ι H ((args cs >>= fun ds => pure ds) M) Q := by rw [show (args cs >>= fun ds => pure ds) = args cs from C.bind_pure _]; exact f
  exact (seqAO sr f').imp fun vs H1 ⟨hl, ds, ι1, M1, e1, r1, q1, f1⟩ => ⟨by rw [hl]; exact line_of hz, fun p hp => FitO.new f1 r1 hp q1.str⟩
end

section
variable {X : Cx} {W : WX} {ρ ρ' : List Sl} {β : Type} {I : β → Fin} {e : Expr} {ce : C D} {rest : List Stmt} {pos : Pos}
theorem db_nil {b : β} (hI : I b = .nx ρ') (w : Wk ρ ρ') : DB X W ρ I [] (pure b) := pss_imp pss_nil fun D σ H ⟨ι, M, r, f⟩ => by
  have f' : FitF X.K ρ ι H M (I b) D := f
  rw [hI] at f'
  exact f' ι σ H (Ex.wk w) (r.wk w)
theorem db_end {b : β} (hI : I b = .fn .non) : DB X W ρ I [] (pure b) := pss_imp pss_nil fun D σ H ⟨ι, M, r, f⟩ => by
  have f' : FitF X.K ρ ι H M (I b) D := f
  rw [hI] at f'
  exact f'.2 rfl ι σ H (Ex.refl (O := Own ρ)).drop r.gr
theorem fitR_of {K : PySem.W.Frag} {ι : List Addr} {H : Hp} {M : Mem} {d : D} {D : Ends} {b : β} (hI : I b = .rt d ∨ I b = .fn d) (f : FitF K ρ ι H M (I b) D) : FitR K ρ ι H d M D.rt := by
  rcases hI with h | h
  · rw [h] at f; exact f
  · rw [h] at f; exact f.1
/-- return e -/
theorem db_retL {r : D → β} (hI : ∀ d, I (r d) = .rt d ∨ I (r d) = .fn d) (he : DE X W ρ e ce) : DB X W ρ I [.Return (some e) pos] (ce >>= fun d => pure (r d)) :=
  pss_imp (pss_one (ps_ret he)) fun D σ H ⟨ι, M, sr, f⟩ => (seqDS sr f).imp fun v H1 ⟨d, ι1, M1, e1, r1, q1, f1⟩ =>
    fitR_of (hI d) (show FitF X.K ρ ι1 H1 M1 (I (r d)) D from f1) ι1 v H1 (Ex.refl (O := Own ρ)).drop r1.gr q1.str
theorem db_ret (he : DE X W ρ e ce) : DB X W ρ Fin.fn [.Return (some e) pos] ce := by
  have h := db_retL (X := X) (W := W) (ρ := ρ) (I := Fin.fn) (r := fun d => d) (pos := pos) (fun d => .inr rfl) he
  rw [show (ce >>= fun d => pure d) = ce from C.bind_pure ce] at h
  exact h
theorem db_retR (he : DE X W ρ e ce) : DB X W ρ Fin.rt [.Return (some e) pos] ce := by
  have h := db_retL (X := X) (W := W) (ρ := ρ) (I := Fin.rt) (r := fun d => d) (pos := pos) (fun d => .inl rfl) he
  rw [show (ce >>= fun d => pure d) = ce from C.bind_pure ce] at h
  exact h
theorem db_retN {b : β} (hI : I b = .rt .non ∨ I b = .fn .non) : DB X W ρ I [.Return none pos] (pure b) :=
  pss_imp (pss_one ps_retN) fun D σ H ⟨ι, M, sr, f⟩ => fitR_of hI (show FitF X.K ρ ι H M (I b) D from f) ι .non H (Ex.refl (O := Own ρ)).drop sr.gr .non
/-- x = e -/
theorem db_set {i : Nat} {x : Str} {p : Pos} {k : D → C β} (he : DE X W ρ e ce) (hr : ∀ d, DB X W (ρ.set i (.val d)) I rest (k d)) (hN : X.N.Nodup) (hi : X.N[i]? = some x := by rfl) (hx : Loc X.env.scope x := by first | exact Or.inl rfl | exact Or.inr rfl)
    (hs : swapsWith e (some (.Name x p)) pos.line X.env = pure false := by rfl) (hf : X.fn x = true ∨ X.env.scope.names.lookup x = some .local := by first | exact .inl rfl | exact .inr rfl | assumption) :
    DB X W ρ I (.Assign [.Name x p] e pos :: rest) (ce >>= k) :=
  pss_imp (pss_cons (ps_set hN hi hx he hs hf) (pss_any hr)) fun D σ H ⟨ι, M, sr, f⟩ => (seqDS sr f).imp fun v H1 ⟨d, ι1, M1, e1, r1, q1, f1⟩ => ⟨d, ι1, M1, r1.set q1.str, FitS.later Ex.set f1⟩
/-- x = a new list -/
theorem db_setO {i : Nat} {x : Str} {p : Pos} {co : C (List D)} {k : List D → C β} (he : DO X W ρ e co) (hr : ∀ a ds, DB X W (ρ.set i (.own a ds)) I rest (k ds)) (hN : X.N.Nodup) (hi : X.N[i]? = some x := by rfl) (hx : Loc X.env.scope x := by first | exact Or.inl rfl | exact Or.inr rfl)
    (hs : swapsWith e (some (.Name x p)) pos.line X.env = pure false := by rfl) (hf : X.fn x = true ∨ X.env.scope.names.lookup x = some .local := by first | exact .inl rfl | exact .inr rfl | assumption) :
    DB X W ρ I (.Assign [.Name x p] e pos :: rest) (co >>= k) :=
  pss_imp (pss_cons (ps_set hN hi hx he hs hf) (pss_any fun a => pss_any (hr a))) fun D σ H ⟨ι, M, sr, f⟩ => by
    obtain ⟨ι0, M0, r0, f0⟩ := seqOS sr f
    refine ⟨ι0, M0, r0, ?_⟩
    cases ec : co M0 with
    | ok ds M1 =>
      rw [ec] at f0
      intro ι1 p xs H1 e1 r1 h1 h2 h3 q1
      obtain ⟨ds', ι1', M1', p', xs', ep, e1', r1', h1', h2', h4', h3', q1', f1⟩ := f0 ι1 p xs H1 e1 r1 h1 h2 h3 q1
      cases ep
      exact ⟨p, ds', ι1', M1', r1'.setO h4' h2' h3' q1', FitS.take e1' h1' f1⟩
    | exc c d M1 => rw [ec] at f0; exact f0
    | no => rw [ec] at f0; exact f0
/-- a list of the frame's own is data from here on -/
theorem db_frz {i : Nat} {a : Addr} {ds : List D} {sts : List Stmt} {c : C β} (hi : ρ[i]? = some (.own a ds)) (h : DB X W (ρ.set i (.val (.lst ds))) I sts c) : DB X W ρ I sts c := by
  refine ⟨fun pins s σ H D J ⟨ι, M, r, f⟩ => ?_⟩
  obtain ⟨h1, h2, xs, h3, h4⟩ := r.ownE hi
  obtain ⟨o, J'⟩ := inv_frz J h3
  have hlen : i < ρ.length := (List.getElem?_eq_some_iff.mp hi).1
  have e := ex_write (ρ := ρ) (ι := ι) (o := .frz o (.lst xs)) ⟨xs, h3⟩ (.inl ⟨i, ds, hi⟩)
  have hl : Rp X.K ι (upd H a (.frz o (.lst xs))) (.lst ds) (.ref a) := .lst (.inl ⟨h2, o, upd_same⟩) (r.rpl e h4)
  refine h.run pins s σ _ D J' ⟨ι, M, ⟨⟨r.gr.len, r.gr.nd, fun n b hb => ?_, fun p hp => tabS_lst h3 (r.gr.tab p hp)⟩, by simp [r.len], fun j t ht => ?_, fun j l es fs b q1 q2 => r.apart j l es fs b (get_set_own q1).2 (get_set_own q2).2⟩, FitS.later (?_ : Ex (Own ρ) ι H (Own (ρ.set i (.val (.lst ds)))) ι _) f⟩
  · obtain ⟨ys, es, g1, g2, g3⟩ := r.gr.at_ n b hb
    refine ⟨ys, es, ?_, g2, r.rpl e g3⟩
    rw [upd_ne (fun z => by subst z; exact h2 (List.mem_of_getElem? hb))]
    exact g1
  · by_cases ej : i = j
    · subst ej
      rw [List.getElem?_set_self hlen] at ht; cases ht
      exact ⟨some (.ref a), h1, .ref a, rfl, hl⟩
    · rw [List.getElem?_set_ne ej] at ht
      obtain ⟨o', g1, g2⟩ := r.sl j t ht
      refine ⟨o', g1, ?_⟩
      cases t with
      | no => trivial
      | val d =>
        obtain ⟨v, e1, e2⟩ := g2
        exact ⟨v, e1, r.rp e e2⟩
      | own b es =>
        obtain ⟨e1, e2, ys, e3, e4⟩ := g2
        refine ⟨e1, e2, ys, ?_, r.rpl e e4⟩
        rw [upd_ne (fun z => by subst z; exact ej (r.apart i j ds es b hi ht))]
        exact e3
  · exact ⟨e.pre, e.newc, fun b hb => .inl (own_set hb), e.keep, e.free⟩
/-- e; -/
theorem db_expr {k : D → C β} (he : DE X W ρ e ce) (hr : ∀ d, DB X W ρ I rest (k d)) (hs : swapsWith e none pos.line X.env = pure false := by rfl) : DB X W ρ I (.Expr e pos :: rest) (ce >>= k) :=
  pss_imp (pss_cons (ps_expr he hs) (pss_any hr)) fun D σ H ⟨ι, M, sr, f⟩ => (seqDS sr f).imp fun v H1 ⟨d, ι1, M1, e1, r1, q1, f1⟩ => ⟨d, ι1, M1, r1, f1⟩
/-- if t: a (which ends in a return or a raise); what follows -/
theorem db_ifR {c : Expr} {a : List Stmt} {tc : C Bool} {ca : C D} {cr : C β} {r : D → β} (hI : ∀ d, I (r d) = .rt d ∨ I (r d) = .fn d) (hc : DT X W ρ c tc) (ha : DB X W ρ Fin.rt a ca) (hr : DB X W ρ I rest cr) :
    DB X W ρ I (.If c a [] pos :: rest) (ifE tc (ca >>= fun d => pure (r d)) cr) := by
  refine pss_imp (pss_cons (ps_if hc ha pss_nil) hr) fun D σ H ⟨ι, M, sr, f⟩ => ?_
  refine (seqBS sr f).imp fun b H1 ⟨ι1, M1, e1, r1, f1⟩ => ?_
  cases b with
  | true => exact seqSS (k := fun d => pure (r d)) r1 f1 fun d M2 f2 => fitR_of (D := D) (hI d) (show FitF X.K ρ ι1 H1 M2 (I (r d)) D from f2)
  | false => exact ⟨ι1, M1, r1, f1⟩
/-- .. in a def's own block -/
theorem db_ifD {c : Expr} {a : List Stmt} {tc : C Bool} {ca cr : C D} (hc : DT X W ρ c tc) (ha : DB X W ρ Fin.rt a ca) (hr : DB X W ρ Fin.fn rest cr) : DB X W ρ Fin.fn (.If c a [] pos :: rest) (ifE tc ca cr) := by
  have h := db_ifR (X := X) (W := W) (pos := pos) (r := fun d => d) (I := Fin.fn) (fun d => .inr rfl) hc ha hr
  rw [show (ca >>= fun d => pure d) = ca from C.bind_pure ca] at h
  exact h
/-- if t: a else: b, the last of a block -/
theorem db_ifT {c : Expr} {a b : List Stmt} {tc : C Bool} {ca cb : C β} (hc : DT X W ρ c tc) (ha : DB X W ρ I a ca) (hb : DB X W ρ I b cb) : DB X W ρ I [.If c a b pos] (ifE tc ca cb) := by
  refine pss_imp (pss_one (ps_if hc ha hb)) fun D σ H ⟨ι, M, sr, f⟩ => ?_
  refine (seqBS sr f).imp fun t H1 ⟨ι1, M1, e1, r1, f1⟩ => ?_
  cases t with
  | true => exact ⟨ι1, M1, r1, f1⟩
  | false => exact ⟨ι1, M1, r1, f1⟩
/-- a statement whose ends are told by J, then what follows -/
theorem db_seq {α : Type} {J : α → Fin} {st : Stmt} {ca : C α} {k : α → C β} (h : DB X W ρ J [st] ca)
    (hr : ∀ x, (∃ ρ', J x = .nx ρ' ∧ DB X W ρ' I rest (k x)) ∨ (∃ d b, (J x = .rt d) ∧ k x = pure b ∧ (I b = .rt d ∨ I b = .fn d))) (hs : ∀ {t}, PSs X [st] t → PS X st t) : DB X W ρ I (st :: rest) (ca >>= k) := by
  have hrest : PSs X rest (fun D σ H => ∃ x : {x : α // ∃ ρ', J x = .nx ρ' ∧ DB X W ρ' I rest (k x)}, tS X.K W x.2.choose I (k x.1) D σ H) := pss_any fun x => x.2.choose_spec.2
  refine pss_imp (pss_cons (hs h) hrest) fun D σ H ⟨ι, M, sr, f⟩ => ?_
  refine seqSS sr f fun x M1 f1 => ?_
  rcases hr x with hx | ⟨d, b, h1, h2, h3⟩
  · have e : J x = .nx hx.choose := hx.choose_spec.1
    rw [e]
    intro ι' σ' H' ex sr'
    exact ⟨⟨x, hx⟩, ι', M1, sr', FitS.later ex f1⟩
  · rw [h1]
    rw [h2] at f1
    exact fitR_of (D := D) h3 (show FitF X.K ρ ι H M1 (I b) D from f1)
end
end Fw
set_option Elab.async false
set_option linter.all false
set_option maxRecDepth 100000
set_option maxHeartbeats 1000000
namespace Fw
open PySem PySem.Spec L2

/-! ### what is walked -/
def keepOwn (ρ ρ2 : List Sl) : Prop := ∀ (i : Nat) (a : Addr) (ds : List D), ρ[i]? = some (Sl.own a ds) → ρ2[i]? = some (Sl.own a ds)
/-- J gives ds, one after another, in all states to come -/
def ItD (K : PySem.W.Frag) (w : Bool) (ρ : List Sl) (ι : List Addr) (H : Hp) (J : It) (ds : List D) : Prop :=
  ∀ ρ2 ι2 M2 H2 σ2, (w = true → keepOwn ρ ρ2) → Ex (Own ρ) ι H (Own ρ2) ι2 H2 → SR K ι2 M2 H2 σ2 ρ2 →
    (∀ i, i < ds.length → J.go i H2) ∧ J.stop ds.length H2 ∧
      ∀ i x H3, i < ds.length → J.yld i H2 x H3 → (∀ b o, H2 b = some o → H3 b = some o) ∧ ∃ d, ds[i]? = some d ∧ Rp K ι2 H3 d x
def FitI (K : PySem.W.Frag) (W : WX) (w : Bool) (ρ : List Sl) (σ : L2.St) (ι : List Addr) (H : Hp) : Out (List D) → (It → Hp → Prop) → Prop
  | .ok ds M', R => ∀ ι' J H', Ext ρ ι H ι' H' → SR K ι' M' H' σ ρ → ItD K w ρ ι' H' J ds → R J H'
  | .exc c d M', _ => FitX K W ρ σ ι H c d M'
  | .no, _ => False
def tI (K : PySem.W.Frag) (W : WX) (w : Bool) (ρ : List Sl) (c : C (List D)) : TI := fun σ H R => ∃ ι M, SR K ι M H σ ρ ∧ FitI K W w ρ σ ι H (c M) R
abbrev DI (w : Bool) (X : Cx) (W : WX) (ρ : List Sl) (tg iter : Expr) (c : C (List D)) : Prop := PI X tg iter (tI X.K W w ρ c)
section
variable {K : PySem.W.Frag} {W : WX} {ρ ρ' : List Sl} {σ σ' : L2.St} {ι ι' : List Addr} {H H' : Hp} {M M' : Mem} {w : Bool}
theorem FitI.later {o : Out (List D)} {R : It → Hp → Prop} (e : Ext ρ ι H ι' H') (f : FitI K W w ρ σ ι H o R) : FitI K W w ρ σ ι' H' o R := by
  cases o with
  | ok d M' => exact fun ι2 J H2 e2 => f ι2 J H2 (e.trans e2)
  | exc c d M' => exact FitX.later e f
  | no => exact f
theorem seqDI {ca : C D} {k : D → C (List D)} {w2 : Bool} {R : It → Hp → Prop} (r : SR K ι M H σ ρ) (f : FitI K W w2 ρ σ ι H ((ca >>= k) M) R) :
    tD K W ρ w ca σ H (fun v H1 => ∃ d ι1 M1, Ext ρ ι H ι1 H1 ∧ SR K ι1 M1 H1 σ ρ ∧ RpB w K ρ ι1 H1 d v ∧ FitI K W w2 ρ σ ι1 H1 (k d M1) R) := by
  refine ⟨ι, M, r, ?_⟩
  have f' : FitI K W w2 ρ σ ι H ((ca M).bnd k) R := f
  cases e : ca M with
  | ok d M1 => rw [e] at f'; exact fun ι1 v H1 e1 r1 q1 => ⟨d, ι1, M1, e1, r1, q1, f'.later e1⟩
  | exc c d M1 => rw [e] at f'; exact f'
  | no => rw [e] at f'; exact f'
theorem seqAI {ca : C (List D)} {k : List D → C (List D)} {w2 : Bool} {R : It → Hp → Prop} (r : SR K ι M H σ ρ) (f : FitI K W w2 ρ σ ι H ((ca >>= k) M) R) :
    tA K W ρ w ca σ H (fun vs H1 => ∃ ds ι1 M1, Ext ρ ι H ι1 H1 ∧ SR K ι1 M1 H1 σ ρ ∧ RpBL w K ρ ι1 H1 ds vs ∧ FitI K W w2 ρ σ ι1 H1 (k ds M1) R) := by
  refine ⟨ι, M, r, ?_⟩
  have f' : FitI K W w2 ρ σ ι H ((ca M).bnd k) R := f
  cases e : ca M with
  | ok d M1 => rw [e] at f'; exact fun ι1 v H1 e1 r1 q1 => ⟨d, ι1, M1, e1, r1, q1, f'.later e1⟩
  | exc c d M1 => rw [e] at f'; exact f'
  | no => rw [e] at f'; exact f'
/-- a list as it is read: still, or the frame's own -/
theorem RpB.lst {ds : List D} {v : V} (r : SR K ι M H σ ρ) (q : RpB w K ρ ι H (.lst ds) v) : ∃ a xs, v = .ref a ∧ SqL K H a xs ∧ RpL K ι H ds xs ∧ True := by
  rcases q with q | ⟨_, i, a, ds', h1, h2, h3⟩
  · obtain ⟨a, xs, e, t, l⟩ := q.lstE
    exact ⟨a, xs, e, t.sq, l, trivial⟩
  · cases h2
    obtain ⟨_, _, xs, h4, h5⟩ := r.ownE h1
    exact ⟨a, xs, h3, .inl (.inl h4), h5, trivial⟩
theorem RpB.tup {ds : List D} {v : V} (q : RpB w K ρ ι H (.tup ds) v) : ∃ a xs, v = .ref a ∧ TupR K ι H a xs ∧ RpL K ι H ds xs := by
  rcases q with q | ⟨_, i, a, ds', h1, h2, h3⟩
  · exact q.tupE
  · cases h2
/-- .. in all states to come -/
theorem RpB.per {ρ2 : List Sl} {ι2 : List Addr} {H2 : Hp} (r : SR K ι M H σ ρ) (hk : w = true → keepOwn ρ ρ2) (e : Ex (Own ρ) ι H (Own ρ2) ι2 H2) {d : D} {v : V} (q : RpB w K ρ ι H d v) : RpB w K ρ2 ι2 H2 d v := by
  rcases q with q | ⟨hw, i, a, ds', h1, h2, h3⟩
  · exact .inl (Rp.ex e r.mutK d v q)
  · exact .inr ⟨hw, i, a, ds', hk hw i a ds' h1, h2, h3⟩
theorem getRp {ds : List D} {xs : List V} {i : Nat} (l : RpL K ι H ds xs) (hi : i < ds.length) {x : V} (hx : xs[i]? = some x) : ∃ d, ds[i]? = some d ∧ Rp K ι H d x := by
  obtain ⟨y, e1, e2⟩ := l.get (i := i) (d := ds[i]) (by simp [hi])
  rw [hx] at e1; cases e1
  exact ⟨_, by simp [hi], e2⟩
end
/-- the items of data that is walked -/
def D.seq? : D → Option (List D)
  | .lst xs => some xs
  | .tup xs => some xs
  | _ => none
def iter (c : C D) : C (List D) := do let d ← c; lift d.seq?
def D.lst? : D → Option (List D)
  | .lst xs => some xs
  | _ => none
def D.tup? : D → Option (List D)
  | .tup xs => some xs
  | _ => none
def iterL (c : C D) : C (List D) := do let d ← c; lift d.lst?
def iterT (c : C D) : C (List D) := do let d ← c; lift d.tup?
/-- the turns of a range -/
def rng (a b : Int) : List D := (List.range (b - a).toNat).map fun (i : Nat) => D.int (a + (i : Int))
def inR (i : Int) : Bool := decide (-(2 ^ 62) ≤ i) && decide (i < 2 ^ 62)
def D.rng1? : List D → Option (List D)
  | [.int b] => if inR b then some (rng 0 b) else none
  | _ => none
def D.rng2? : List D → Option (List D)
  | [.int a, .int b] => if inR a && inR b then some (rng a b) else none
  | _ => none
def iterR1 (c : C D) : C (List D) := do let ds ← args [c]; lift (D.rng1? ds)
def iterR2 (c1 c2 : C D) : C (List D) := do let ds ← args [c1, c2]; lift (D.rng2? ds)
def zip2 (xs ys : List D) : List D := (xs.zip ys).map fun p => D.tup [p.1, p.2]
def D.zip? : List D → Option (List D)
  | [.lst xs, .lst ys] => some (zip2 xs ys)
  | [.tup xs, .tup ys] => some (zip2 xs ys)
  | _ => none
def iterZ (cs : List (C D)) : C (List D) := do let ds ← args cs; lift (D.zip? ds)
def enum (xs : List D) : List D := (List.range xs.length).map fun (i : Nat) => D.tup [.int (i : Int), xs.getD i .non]
def D.enum? : List D → Option (List D)
  | [.lst xs] => some (enum xs)
  | _ => none
def iterE (cs : List (C D)) : C (List D) := do let ds ← args cs; lift (D.enum? ds)
def signs (x : Str) : List D := x.cps.toList.map fun c => D.str ⟨#[c]⟩
def D.sgn? : D → Option (List D)
  | .str x => some (signs x)
  | _ => none
def iterS (c : C D) : C (List D) := do let d ← c; lift d.sgn?
theorem rng_get {a b : Int} {i : Nat} (h : i < (rng a b).length) : (rng a b)[i]? = some (.int (a + i)) ∧ i < (b - a).toNat := by
  unfold rng at *
  rw [List.length_map, List.length_range] at h
  exact ⟨by simp [h], h⟩
theorem rng_len {a b : Int} : (rng a b).length = (b - a).toNat := by simp [rng]
theorem zip2_get {xs ys : List D} {i : Nat} (h : i < (zip2 xs ys).length) : ∃ x y, xs[i]? = some x ∧ ys[i]? = some y ∧ (zip2 xs ys)[i]? = some (.tup [x, y]) := by
  have h' : i < xs.length ∧ i < ys.length := by
    unfold zip2 at h
    rw [List.length_map, List.length_zip] at h
    omega
  refine ⟨xs[i], ys[i], by simp [h'.1], by simp [h'.2], ?_⟩
  unfold zip2
  rw [List.getElem?_map, List.getElem?_eq_getElem (by rw [List.length_zip]; omega)]
  simp
theorem zip2_len {xs ys : List D} : (zip2 xs ys).length = min xs.length ys.length := by simp [zip2]

section
variable {X : Cx} {W : WX} {ρ : List Sl} {w : Bool} {tg e : Expr} {c : C D} {pos : Pos}
theorem di_lst (h : DG w X W ρ e c) : DI w X W ρ tg e (iterL c) := by
  refine ⟨fun pins s σ H R I ⟨ι, M, sr, f⟩ => (pi_list h).run pins s σ H R I ?_⟩
  refine (seqDI sr f).imp fun v H1 ⟨d, ι1, M1, e1, r1, q1, f1⟩ => ?_
  cases d with
  | lst ds =>
    obtain ⟨a, xs, rfl, hq, hl, _⟩ := RpB.lst r1 q1
    refine ⟨a, rfl, ⟨xs, hq⟩, f1 ι1 _ H1 Ex.refl r1 fun ρ2 ι2 M2 H2 σ2 hk e2 r2 => ?_⟩
    obtain ⟨a', ys, ea, hq2, hl2, _⟩ := RpB.lst r2 (RpB.per r1 hk e2 q1)
    cases ea
    have wk := walk_list (K := X.K) (a := a) (xs := ys)
    have hlen := hl2.length
    refine ⟨fun i hi => wk.goes i H2 (by omega) hq2, by rw [hlen]; exact wk.stops H2 hq2, fun i x H3 hi hy => ?_⟩
    obtain ⟨e3, hx⟩ := wk.yields i H2 x H3 (by omega) hq2 hy
    subst e3
    exact ⟨fun _ _ z => z, getRp hl2 hi hx⟩
  | _ => exact (show False from f1).elim
theorem di_tup (h : DG w X W ρ e c) : DI w X W ρ tg e (iterT c) := by
  refine ⟨fun pins s σ H R I ⟨ι, M, sr, f⟩ => (pi_tup h).run pins s σ H R I ?_⟩
  refine (seqDI sr f).imp fun v H1 ⟨d, ι1, M1, e1, r1, q1, f1⟩ => ?_
  cases d with
  | tup ds =>
    obtain ⟨a, xs, rfl, hq, hl⟩ := RpB.tup q1
    refine ⟨a, rfl, ⟨xs, hq.sq⟩, f1 ι1 _ H1 Ex.refl r1 fun ρ2 ι2 M2 H2 σ2 hk e2 r2 => ?_⟩
    obtain ⟨a', ys, ea, hq2, hl2⟩ := RpB.tup (RpB.per r1 hk e2 q1)
    cases ea
    have wk := walk_tup (K := X.K) (a := a) (xs := ys)
    have hlen := hl2.length
    refine ⟨fun i hi => wk.goes i H2 (by omega) hq2.sq, by rw [hlen]; exact wk.stops H2 hq2.sq, fun i x H3 hi hy => ?_⟩
    obtain ⟨e3, hx⟩ := wk.yields i H2 x H3 (by omega) hq2.sq hy
    subst e3
    exact ⟨fun _ _ z => z, getRp hl2 hi hx⟩
  | _ => exact (show False from f1).elim
theorem itd_rng {K : PySem.W.Frag} {ι : List Addr} {H : Hp} {a b : Int} : ItD K w ρ ι H (Itr a (b - a).toNat) (rng a b) := fun ρ2 ι2 M2 H2 σ2 hk e2 r2 => by
  refine ⟨fun i hi => by rw [rng_len] at hi; exact hi, by rw [rng_len]; exact Nat.le_refl _, fun i x H3 hi hy => ?_⟩
  obtain ⟨e3, hx⟩ := hy
  subst e3 hx
  exact ⟨fun _ _ z => z, _, (rng_get hi).1, .int⟩
theorem seqAIl {K : PySem.W.Frag} {σ : L2.St} {ι : List Addr} {M : Mem} {H : Hp} {cs : List (C D)} {k : List D → C (List D)} {w w2 : Bool} {R : It → Hp → Prop} (r : SR K ι M H σ ρ) (f : FitI K W w2 ρ σ ι H ((args cs >>= k) M) R) :
    tA K W ρ w (args cs) σ H (fun vs H1 => ∃ ds ι1 M1, ds.length = cs.length ∧ Ext ρ ι H ι1 H1 ∧ SR K ι1 M1 H1 σ ρ ∧ RpBL w K ρ ι1 H1 ds vs ∧ FitI K W w2 ρ σ ι1 H1 (k ds M1) R) := by
  refine ⟨ι, M, r, ?_⟩
  have f' : FitI K W w2 ρ σ ι H ((args cs M).bnd k) R := f
  cases e : args cs M with
  | ok d M1 => rw [e] at f'; exact fun ι1 v H1 e1 r1 q1 => ⟨d, ι1, M1, args_len e, e1, r1, q1, f'.later e1⟩
  | exc c d M1 => rw [e] at f'; exact f'
  | no => rw [e] at f'; exact f'
theorem FitI.some {K : PySem.W.Frag} {σ : L2.St} {ι : List Addr} {M : Mem} {H : Hp} {o : Option (List D)} {R : It → Hp → Prop} (f : FitI K W w ρ σ ι H (lift o M) R) : ∃ ds, o = some ds ∧ FitI K W w ρ σ ι H (.ok ds M) R := by
  cases o with
  | none => exact (show False from f).elim
  | some ds => exact ⟨ds, rfl, f⟩
theorem rng1_eq {ds rs : List D} (h : D.rng1? ds = some rs) : ∃ b, ds = [.int b] ∧ inR b = true ∧ rs = rng 0 b := by
  unfold D.rng1? at h
  split at h
  · split at h
    · cases h; exact ⟨_, rfl, by assumption, rfl⟩
    · cases h
  · cases h
theorem rng2_eq {ds rs : List D} (h : D.rng2? ds = some rs) : ∃ a b, ds = [.int a, .int b] ∧ (inR a && inR b) = true ∧ rs = rng a b := by
  unfold D.rng2? at h
  split at h
  · split at h
    · cases h; exact ⟨_, _, rfl, by assumption, rfl⟩
    · cases h
  · cases h
theorem inR_eq {i : Int} (h : inR i = true) : -(2 ^ 62) ≤ i ∧ i < 2 ^ 62 := by
  unfold inR at h
  rw [Bool.and_eq_true] at h
  exact ⟨of_decide_eq_true h.1, of_decide_eq_true h.2⟩
theorem RpB.intE {K : PySem.W.Frag} {ι : List Addr} {H : Hp} {i : Int} {v : V} (h : RpB w K ρ ι H (.int i) v) : v = .int i := by
  rcases h with h | ⟨_, _, _, _, _, z, _⟩
  · exact h.intE
  · cases z
theorem di_range1 {p : Pos} (h : DA true X W ρ [e] (args [c])) (hm : X.mg "range" = none) (hg : Gl X "range" := by rfl) (hs : starEach [e] X.env = [(false, eval e X.env)] := by rfl) : DI w X W ρ tg (.Call (.Name "range" p) [e] [] pos) (iterR1 c) := by
  refine ⟨fun pins s σ H R I ⟨ι, M, sr, f⟩ => (pi_range1 hg hm h hs).run pins s σ H R I ?_⟩
  refine (seqAIl sr f).imp fun vs H1 ⟨ds, ι1, M1, hl, e1, r1, q1, f1⟩ => ?_
  obtain ⟨rs, hr, f2⟩ := f1.some
  obtain ⟨b, rfl, hb, rfl⟩ := rng1_eq hr
  cases q1 with
  | cons a1 a2 =>
    cases a2
    rw [a1.intE]
    refine ⟨b, rfl, (inR_eq hb).1, (inR_eq hb).2, ?_⟩
    have := f2 ι1 (Itr 0 (b - 0).toNat) H1 Ex.refl r1 itd_rng
    rw [Int.sub_zero] at this
    exact this
theorem di_range2 {p : Pos} {a b : Expr} {ca cb : C D} (h : DA true X W ρ [a, b] (args [ca, cb])) (hm : X.mg "range" = none) (hg : Gl X "range" := by rfl) (hs : starEach [a, b] X.env = [(false, eval a X.env), (false, eval b X.env)] := by rfl) (hs2 : starEach [b] X.env = [(false, eval b X.env)] := by rfl) :
    DI w X W ρ tg (.Call (.Name "range" p) [a, b] [] pos) (iterR2 ca cb) := by
  refine ⟨fun pins s σ H R I ⟨ι, M, sr, f⟩ => (pi_range2 hg hm h hs hs2).run pins s σ H R I ?_⟩
  refine (seqAIl sr f).imp fun vs H1 ⟨ds, ι1, M1, hl, e1, r1, q1, f1⟩ => ?_
  obtain ⟨rs, hr, f2⟩ := f1.some
  obtain ⟨i, j, rfl, hb, rfl⟩ := rng2_eq hr
  rw [Bool.and_eq_true] at hb
  cases q1 with
  | cons a1 a2 =>
    cases a2 with
    | cons b1 b2 =>
      cases b2
      rw [a1.intE, b1.intE]
      exact ⟨i, j, rfl, ⟨(inR_eq hb.1).1, (inR_eq hb.1).2, (inR_eq hb.2).1, (inR_eq hb.2).2⟩, f2 ι1 (Itr i (j - i).toNat) H1 Ex.refl r1 itd_rng⟩
theorem pairRp {K : PySem.W.Frag} {σ2 : L2.St} {ρ2 : List Sl} {M2 : Mem} {ι2 : List Addr} {H2 H3 : Hp} {T : Addr} {x y : V} {d1 d2 : D} (r2 : SR K ι2 M2 H2 σ2 ρ2) (hT : H2 T = none) (e3 : H3 = upd H2 T (.tup [x, y])) (q1 : Rp K ι2 H2 d1 x) (q2 : Rp K ι2 H2 d2 y) :
    (∀ b o, H2 b = some o → H3 b = some o) ∧ Rp K ι2 H3 (.tup [d1, d2]) (.ref T) := by
  subst e3
  exact ⟨same_new hT, .tup (.inl ⟨r2.gr.fresh hT, upd_same⟩) (.cons (q1.same (same_new hT)) (.one (q2.same (same_new hT))))⟩
theorem enum_eq {ds rs : List D} (h : D.enum? ds = some rs) : ∃ xs, ds = [.lst xs] ∧ rs = enum xs := by
  unfold D.enum? at h
  split at h
  · cases h; exact ⟨_, rfl, rfl⟩
  · cases h
theorem enum_get {xs : List D} {i : Nat} {d : D} (h : xs[i]? = some d) : (enum xs)[i]? = some (.tup [.int (i : Int), d]) := by
  have hi : i < xs.length := (List.getElem?_eq_some_iff.mp h).1
  unfold enum
  rw [List.getElem?_map, List.getElem?_range hi]
  simp [List.getD, h]
theorem enum_len {xs : List D} : (enum xs).length = xs.length := by simp [enum]
theorem di_enum {p : Pos} {elts : List Expr} {kk : Nat} {tpos : Pos} (h : DA w X W ρ [e] (args [c])) (hm : X.mg "enumerate" = none) (hg : Gl X "enumerate" := by rfl) (hs : starEach [e] X.env = [(false, eval e X.env)] := by rfl) :
    DI w X W ρ (.Tuple elts kk tpos) (.Call (.Name "enumerate" p) [e] [] pos) (iterE [c]) := by
  refine ⟨fun pins s σ H R I ⟨ι, M, sr, f⟩ => (pi_enum hg hm h hs).run pins s σ H R I ?_⟩
  refine (seqAIl sr f).imp fun vs H1 ⟨ds, ι1, M1, hl, e1, r1, q1, f1⟩ => ?_
  obtain ⟨rs, hr, f2⟩ := f1.some
  obtain ⟨xs, rfl, rfl⟩ := enum_eq hr
  cases q1 with
  | cons a1 a2 =>
    cases a2
    obtain ⟨a, vs, rfl, hq, hl, _⟩ := RpB.lst r1 a1
    refine ⟨a, vs, rfl, hq, f2 ι1 _ H1 Ex.refl r1 fun ρ2 ι2 M2 H2 σ2 hk e2 r2 => ?_⟩
    obtain ⟨a', ys, ea, hq2, hl2, _⟩ := RpB.lst r2 (RpB.per r1 hk e2 a1)
    cases ea
    have wk := walk_enum (K := X.K) (a := a) (xs := ys)
    have hlen := hl2.length
    rw [enum_len]
    refine ⟨fun i hi => wk.goes i H2 (by omega) hq2, by rw [hlen]; exact wk.stops H2 hq2, fun i x H3 hi hy => ?_⟩
    obtain ⟨T, x1, y1, ex, hT, e3, h1, h2⟩ := wk.yields i H2 x H3 (by omega) hq2 hy
    obtain ⟨d, hd, rd⟩ := getRp hl2 hi h2
    cases ex; cases h1
    obtain ⟨z1, z2⟩ := pairRp r2 hT e3 .int rd
    exact ⟨z1, _, enum_get hd, z2⟩
theorem zip_eq {ds rs : List D} (h : D.zip? ds = some rs) : (∃ xs ys, ds = [.lst xs, .lst ys] ∧ rs = zip2 xs ys) ∨ ∃ xs ys, ds = [.tup xs, .tup ys] ∧ rs = zip2 xs ys := by
  unfold D.zip? at h
  split at h
  · cases h; exact .inl ⟨_, _, rfl, rfl⟩
  · cases h; exact .inr ⟨_, _, rfl, rfl⟩
  · cases h
theorem zip2_at {xs ys : List D} {i : Nat} {x y : D} (h1 : xs[i]? = some x) (h2 : ys[i]? = some y) : (zip2 xs ys)[i]? = some (.tup [x, y]) := by
  unfold zip2
  rw [List.getElem?_map, List.getElem?_zip_eq_some (z := (x, y)) |>.mpr ⟨h1, h2⟩]
  rfl
theorem di_zip {p : Pos} {elts : List Expr} {kk : Nat} {tpos : Pos} {a b : Expr} {ca cb : C D} (h : DA w X W ρ [a, b] (args [ca, cb])) (hm : X.mg "zip" = none) (hg : Gl X "zip" := by rfl)
    (hs : starEach [a, b] X.env = (false, eval a X.env) :: starEach [b] X.env := by rfl) (hpl : (backTo pos (starEach [b] X.env)).any (·.1) = false := by rfl) :
    DI w X W ρ (.Tuple elts kk tpos) (.Call (.Name "zip" p) [a, b] [] pos) (iterZ [ca, cb]) := by
  refine ⟨fun pins s σ H R I ⟨ι, M, sr, f⟩ => (RZ.pi_zipA hg hm h hs hpl).run pins s σ H R I ?_⟩
  refine (seqAIl sr f).imp fun vs H1 ⟨ds, ι1, M1, hl, e1, r1, q1, f1⟩ => ?_
  obtain ⟨rs, hr, f2⟩ := f1.some
  rcases zip_eq hr with ⟨xs, ys, rfl, rfl⟩ | ⟨xs, ys, rfl, rfl⟩
  · cases q1 with
    | cons a1 a2 =>
      cases a2 with
      | cons b1 b2 =>
        cases b2
        obtain ⟨a, us, rfl, hqa, hla, _⟩ := RpB.lst r1 a1
        obtain ⟨b, vs, rfl, hqb, hlb, _⟩ := RpB.lst r1 b1
        refine ⟨a, b, us, vs, rfl, .inl ⟨hqa, hqb, f2 ι1 _ H1 Ex.refl r1 fun ρ2 ι2 M2 H2 σ2 hk e2 r2 => ?_⟩⟩
        obtain ⟨a', us, ea, hqa, hla, _⟩ := RpB.lst r2 (RpB.per r1 hk e2 a1)
        cases ea
        obtain ⟨b', vs, eb, hqb, hlb, _⟩ := RpB.lst r2 (RpB.per r1 hk e2 b1)
        cases eb
        have wk := walk_zip (K := X.K) (a := a) (b := b) (xs := us) (ys := vs) rfl
        have h1 := hla.length
        have h2 := hlb.length
        rw [zip2_len, h1, h2]
        refine ⟨fun i hi => wk.goes i H2 hi ⟨hqa, hqb⟩, wk.stops H2 ⟨hqa, hqb⟩, fun i x H3 hi hy => ?_⟩
        obtain ⟨T, x1, y1, ex, hT, e3, g1, g2⟩ := wk.yields i H2 x H3 hi ⟨hqa, hqb⟩ hy
        obtain ⟨d1, hd1, rd1⟩ := getRp hla (by omega) g1
        obtain ⟨d2, hd2, rd2⟩ := getRp hlb (by omega) g2
        cases ex
        obtain ⟨z1, z2⟩ := pairRp r2 hT e3 rd1 rd2
        exact ⟨z1, _, zip2_at hd1 hd2, z2⟩
  · cases q1 with
    | cons a1 a2 =>
      cases a2 with
      | cons b1 b2 =>
        cases b2
        obtain ⟨a, us, rfl, hqa, hla⟩ := RpB.tup a1
        obtain ⟨b, vs, rfl, hqb, hlb⟩ := RpB.tup b1
        refine ⟨a, b, us, vs, rfl, .inr ⟨hqa.sq, hqb.sq, f2 ι1 _ H1 Ex.refl r1 fun ρ2 ι2 M2 H2 σ2 hk e2 r2 => ?_⟩⟩
        obtain ⟨a', us, ea, hqa, hla⟩ := RpB.tup (RpB.per r1 hk e2 a1)
        cases ea
        obtain ⟨b', vs, eb, hqb, hlb⟩ := RpB.tup (RpB.per r1 hk e2 b1)
        cases eb
        have h1 := hla.length
        have h2 := hlb.length
        rw [zip2_len, h1, h2]
        refine ⟨fun i hi => ⟨us, vs, us[i], vs[i], hqa.sq, hqb.sq, by simp, by simp⟩, ⟨us, vs, hqa.sq, hqb.sq, by omega⟩, fun i x H3 hi hy => ?_⟩
        obtain ⟨T, x1, y1, ex, hT, e3, g1, g2⟩ := hy
        obtain ⟨d1, hd1, rd1⟩ := getRp hla (by omega) (g1 us hqa.sq)
        obtain ⟨d2, hd2, rd2⟩ := getRp hlb (by omega) (g2 vs hqb.sq)
        cases ex
        obtain ⟨z1, z2⟩ := pairRp r2 hT e3 rd1 rd2
        exact ⟨z1, _, zip2_at hd1 hd2, z2⟩
theorem di_str (h : DG w X W ρ e c) : DI w X W ρ tg e (iterS c) := by
  refine ⟨fun pins s σ H R I ⟨ι, M, sr, f⟩ => (pi_str h).run pins s σ H R I ?_⟩
  refine (seqDI sr f).imp fun v H1 ⟨d, ι1, M1, e1, r1, q1, f1⟩ => ?_
  cases d with
  | str x =>
    have q2 : v = .str x := by
      rcases q1 with h | ⟨_, _, _, _, _, z, _⟩
      · exact h.strE
      · cases z
    refine ⟨x, q2, f1 ι1 _ H1 Ex.refl r1 fun ρ2 ι2 M2 H2 σ2 hk e2 r2 => ?_⟩
    have hs : (signs x).length = x.cps.size := by simp [signs]
    rw [hs]
    refine ⟨fun i hi => hi, Nat.le_refl _, fun i y H3 hi hy => ?_⟩
    obtain ⟨e3, c, hc, rfl⟩ := hy
    subst e3
    exact ⟨fun _ _ z => z, .str ⟨#[c]⟩, by simp [signs, hc], .str⟩
  | _ => exact (show False from f1).elim
end

/-! ### targets -/
/-- data laid into slots, from the left -/
def sets (ρ : List Sl) : List Nat → List D → List Sl
  | i :: is, d :: ds => sets (ρ.set i (.val d)) is ds
  | _, _ => ρ
/-- how a target takes data apart -/
inductive Tg where
  | nm
  | tp (ts : List Tg)
mutual
def Tg.app : Tg → D → Option (List D)
  | .nm, d => some [d]
  | .tp ts, .tup ds => Tg.appL ts ds
  | .tp _, _ => none
def Tg.appL : List Tg → List D → Option (List D)
  | [], [] => some []
  | t :: ts, d :: ds => do let a ← t.app d; let b ← Tg.appL ts ds; some (a ++ b)
  | _, _ => none
end
def outOf (σ σ' : L2.St) (is : List Nat) : Prop := σ'.length = σ.length ∧ ∀ j, j ∉ is → σ'[j]? = σ[j]?
def DTg (X : Cx) (tg : Expr) (is : List Nat) (t : Tg) : Prop := ∃ g : TG, PG X tg g ∧ (∀ d ds, t.app d = some ds → ds.length = is.length) ∧
  ∀ {ρ : List Sl} {σ : L2.St} {ι : List Addr} {M : Mem} {H : Hp} {d : D} {v : V} {ds : List D} {Q : L2.St → Hp → Prop}, SR X.K ι M H σ ρ → Rp X.K ι H d v → t.app d = some ds →
    (∀ σ', outOf σ σ' is → SR X.K ι M H σ' (sets ρ is ds) → Q σ' H) → g v σ H Q
def DTgs (X : Cx) (tgs : List Expr) (is : List Nat) (ts : List Tg) : Prop := ∃ g : TGs, PGs X tgs g ∧ (∀ dd ds, Tg.appL ts dd = some ds → dd.length = ts.length ∧ ds.length = is.length) ∧
  ∀ {ρ : List Sl} {σ : L2.St} {ι : List Addr} {M : Mem} {H : Hp} {dd : List D} {vs : List V} {ds : List D} {Q : L2.St → Hp → Prop}, SR X.K ι M H σ ρ → RpL X.K ι H dd vs → Tg.appL ts dd = some ds →
    (∀ σ', outOf σ σ' is → SR X.K ι M H σ' (sets ρ is ds) → Q σ' H) → g vs σ H Q
theorem sets_app : ∀ (is : List Nat) (ds : List D) (js : List Nat) (es : List D) (ρ : List Sl), is.length = ds.length → sets ρ (is ++ js) (ds ++ es) = sets (sets ρ is ds) js es
  | [], [], _, _, _, _ => rfl
  | _ :: is, _ :: ds, js, es, ρ, h => sets_app is ds js es _ (by simpa using h)
  | [], _ :: _, _, _, _, h => by simp at h
  | _ :: _, [], _, _, _, h => by simp at h
theorem appL_cons {t : Tg} {ts : List Tg} {d : D} {dd : List D} {ds : List D} (h : Tg.appL (t :: ts) (d :: dd) = some ds) : ∃ a b, t.app d = some a ∧ Tg.appL ts dd = some b ∧ ds = a ++ b := by
  unfold Tg.appL at h
  cases h1 : t.app d with
  | none => rw [h1] at h; cases h
  | some a =>
    rw [h1] at h
    cases h2 : Tg.appL ts dd with
    | none => rw [h2] at h; cases h
    | some b => rw [h2] at h; cases h; exact ⟨a, b, rfl, rfl, rfl⟩
section
variable {X : Cx} {pos : Pos}
theorem dtg_nm {i : Nat} {x : Str} (hN : X.N.Nodup) (hi : X.N[i]? = some x := by rfl) (hx : Loc X.env.scope x := by first | exact Or.inl rfl | exact Or.inr rfl) (hf : X.fn x = true ∨ X.env.scope.names.lookup x = some .local := by first | exact .inl rfl | exact .inr rfl | assumption) : DTg X (.Name x pos) [i] .nm :=
  ⟨gName i, pg_name hN hi hx hf, fun d ds h => by unfold Tg.app at h; cases h; rfl, fun {ρ σ ι M H d v ds Q} r q h k => by
    unfold Tg.app at h; cases h
    exact k _ ⟨by simp, fun j hj => by rw [List.getElem?_set_ne (fun z => hj (by simp [z]))]⟩ (r.set q)⟩
theorem dtgs_nil : DTgs X [] [] [] := by
  refine ⟨gNil, pgs_nil, fun dd ds h => ?_, fun {ρ σ ι M H dd vs ds Q} r q h k => ?_⟩
  · cases dd with
    | nil => unfold Tg.appL at h; cases h; exact ⟨rfl, rfl⟩
    | cons _ _ => unfold Tg.appL at h; cases h
  · cases dd with
    | nil => unfold Tg.appL at h; cases h; exact ⟨q.nilE, k σ ⟨rfl, fun _ _ => rfl⟩ r⟩
    | cons _ _ => unfold Tg.appL at h; cases h
theorem dtgs_cons {e : Expr} {es : List Expr} {is js : List Nat} {t : Tg} {ts : List Tg} (h1 : DTg X e is t) (h2 : DTgs X es js ts)
    (hs : (assignEach (e :: es) X.env).map (·.2) = assign e X.env :: (assignEach es X.env).map (·.2) := by rfl) : DTgs X (e :: es) (is ++ js) (t :: ts) := by
  obtain ⟨g, p, l1, k1⟩ := h1
  obtain ⟨gs, ps, l2, k2⟩ := h2
  refine ⟨gCons g gs, pgs_cons p ps hs, fun dd ds h => ?_, fun {ρ σ ι M H dd vs ds Q} r q h k => ?_⟩
  · cases dd with
    | nil => unfold Tg.appL at h; cases h
    | cons d dd =>
      obtain ⟨a, b, ha, hb, rfl⟩ := appL_cons h
      have z := l2 _ _ hb
      exact ⟨by simp [z.1], by rw [List.length_append, List.length_append, l1 _ _ ha, z.2]⟩
  · cases dd with
    | nil => unfold Tg.appL at h; cases h
    | cons d dd =>
      obtain ⟨a, b, ha, hb, rfl⟩ := appL_cons h
      obtain ⟨y, ys, rfl, qy, ql⟩ := q.consE
      refine ⟨y, ys, rfl, k1 r qy ha fun σ1 o1 r1 => k2 r1 ql hb fun σ2 o2 r2 => k σ2 ⟨o2.1.trans o1.1, fun j hj => ?_⟩ ?_⟩
      · rw [o2.2 j (fun z => hj (List.mem_append_right _ z)), o1.2 j (fun z => hj (List.mem_append_left _ z))]
      · rw [sets_app _ _ _ _ _ (l1 _ _ ha).symm]; exact r2
theorem dtg_tup {es : List Expr} {kt : Nat} {is : List Nat} {ts : List Tg} (hc : X.calm = true) (h : DTgs X es is ts) (hn : (assignEach es X.env).length = ts.length := by rfl) (hst : (assignEach es X.env).findIdx? (·.1) = none := by rfl) :
    DTg X (.Tuple es kt pos) is (.tp ts) := by
  obtain ⟨gs, ps, l2, k2⟩ := h
  refine ⟨gTup X.K ts.length gs, pg_tup hc ps hn hst, fun d ds h => ?_, fun {ρ σ ι M H d v ds Q} r q h k => ?_⟩
  · cases d with
    | tup dd => unfold Tg.app at h; exact (l2 _ _ h).2
    | _ => unfold Tg.app at h; cases h
  · cases d with
    | tup dd =>
      unfold Tg.app at h
      obtain ⟨a, xs, rfl, t, l⟩ := q.tupE
      exact ⟨a, xs, rfl, t.sq, by rw [← l.length]; exact (l2 _ _ h).1, k2 r l h k⟩
    | _ => unfold Tg.app at h; cases h
end
theorem sets_own : ∀ {is : List Nat} {ds : List D} {ρ : List Sl} {i : Nat} {a : Addr} {es : List D}, (sets ρ is ds)[i]? = some (.own a es) → ρ[i]? = some (.own a es) := by
  intro is
  induction is with
  | nil => intro ds ρ i a es h; exact h
  | cons j is ih =>
    intro ds ρ i a es h
    cases ds with
    | nil => exact h
    | cons d ds => exact (get_set_own (ih h)).2
theorem Ex.sets {ρ : List Sl} {is : List Nat} {ds : List D} {ι : List Addr} {H : Hp} : Ex (Own ρ) ι H (Own (sets ρ is ds)) ι H := Ex.own_sub fun _ ⟨i, es, h⟩ => .inl ⟨i, es, sets_own h⟩

/-! ### for -/
/-- over ds, the state s -/
def forC {S : Type} (t : Tg) (step : S → List D → C S) : List D → S → C S
  | [], s => pure s
  | d :: ds, s => do let l ← lift (t.app d); let s' ← step s l; forC t step ds s'
def forR {S : Type} (t : Tg) (step : S → List D → C (D ⊕ S)) : List D → S → C (D ⊕ S)
  | [], s => pure (.inr s)
  | d :: ds, s => do let l ← lift (t.app d); let r ← step s l; match r with
    | .inl x => pure (.inl x)
    | .inr s' => forR t step ds s'
/-- where a loop with returns goes on -/
def thenR {S β : Type} (r : D → β) (k : S → C β) : D ⊕ S → C β
  | .inl d => pure (r d)
  | .inr s => k s
def finR {S : Type} (env : S → List Sl) : D ⊕ S → Fin
  | .inl d => .rt d
  | .inr s => .nx (env s)
section
variable {X : Cx} {W : WX} {β : Type} {I : β → Fin} {rest : List Stmt} {pos : Pos} {w : Bool}
theorem FitS.bndC {K : PySem.W.Frag} {ρ : List Sl} {ι : List Addr} {H : Hp} {α : Type} {x : C α} {k : α → C β} {M : Mem} {E : Ends} (f : FitS K W ρ ι H I ((x >>= k) M) E) : FitS K W ρ ι H I ((x M).bnd k) E := f
theorem FitS.someL {K : PySem.W.Frag} {ρ : List Sl} {ι : List Addr} {H : Hp} {α : Type} {o : Option α} {k : α → C β} {M : Mem} {E : Ends} (f : FitS K W ρ ι H I ((lift o >>= k) M) E) : ∃ a, o = some a ∧ FitS K W ρ ι H I (k a M) E := by
  cases o with
  | none => exact (show False from f).elim
  | some a => exact ⟨a, rfl, f⟩
/-- for tg in iter: body -/
theorem db_for {S : Type} {env : S → List Sl} {s0 : S} {tg iter : Expr} {body : List Stmt} {ci : C (List D)} {is : List Nat} {t : Tg} {step : S → List D → C S} {k : S → C β} (hp : PassesOwn (model X.prog X.w) X.A X.env X.xe) (hc : X.calm = true)
    (hi : DI w X W (env s0) tg iter ci) (hk : w = true → ∀ s, keepOwn (env s0) (env s)) (ht : DTg X tg is t)
    (hb : ∀ s ds, ds.length = is.length → DB X W (sets (env s) is ds) (fun s' => Fin.nx (env s')) body (step s ds)) (hr : ∀ s, DB X W (env s) I rest (k s)) (hs : ∀ x, foldedSetIterable iter X.env x = pure x := by intro _; rfl) :
    DB X W (env s0) I (.For tg iter body [] pos :: rest) (ci >>= fun ds => forC t step ds s0 >>= k) := by
  obtain ⟨g, pg, tl, tk⟩ := ht
  refine pss_imp (pss_cons (ps_for hp hc hi pg (pss_any fun s => pss_any fun ds : {ds : List D // ds.length = is.length} => hb s ds.1 ds.2) hs) (pss_any hr)) fun E σ H ⟨ι, M, sr, f⟩ => ?_
  have f0 := FitS.bndC f
  refine ⟨ι, M, sr, ?_⟩
  cases e : ci M with
  | no => rw [e] at f0; exact f0
  | exc c d M1 => rw [e] at f0; exact FitS.x (D := E) f0
  | ok ds M1 =>
    rw [e] at f0
    intro ι1 J H1 e1 r1 it
    have f1 : FitS X.K W (env s0) ι1 H1 I ((forC t step ds s0 >>= k) M1) E := FitS.later e1 f0
    let Pv : Nat → L2.St → Hp → Prop := fun i σ H => ∃ s ι M, SR X.K ι M H σ (env s) ∧ Ex (Own (env s0)) ι1 H1 (Own (env s)) ι H ∧ FitS X.K W (env s) ι H I ((forC t step (ds.drop i) s >>= k) M) E
    have wk : Walk J ds.length (fun H => ∃ s ι M σ, SR X.K ι M H σ (env s) ∧ Ex (Own (env s0)) ι1 H1 (Own (env s)) ι H) (fun i H x H' => ∀ s ι M σ, SR X.K ι M H σ (env s) → Ex (Own (env s0)) ι1 H1 (Own (env s)) ι H → (∀ b o, H b = some o → H' b = some o) ∧ ∃ d, ds[i]? = some d ∧ Rp X.K ι H' d x) := by
      refine ⟨fun i H hi ⟨s, ι, M, σ, r, e⟩ => (it _ _ _ _ _ (fun z => hk z s) e r).1 i hi, fun H ⟨s, ι, M, σ, r, e⟩ => (it _ _ _ _ _ (fun z => hk z s) e r).2.1, fun i H x H' hi _ y s ι M σ r e => (it _ _ _ _ _ (fun z => hk z s) e r).2.2 i x H' hi y⟩
    have go := for_it wk (g := g) (tb := fun D σ H => ∃ (s : S) (l : {l : List Fw.D // l.length = is.length}), tS X.K W (sets (env s) is l.1) (fun s' => Fin.nx (env s')) (step s l.1) D σ H) (D := { E with nx := fun σ H => ∃ s, tS X.K W (env s) I (k s) E σ H }) Pv ⟨s0, ι1, M1, r1, Ex.refl, f1⟩ (fun i σ H _ ⟨s, ι, M, r, e, _⟩ => ⟨s, ι, M, σ, r, e⟩) (fun i x σ2 H2 H3 hi ⟨s, ι2, M2, r2, e2, f2⟩ y => ?_) fun σ2 H2 ⟨s, ι2, M2, r2, e2, f2⟩ => ?_
    · exact go
    · obtain ⟨hm, d, hd, rd⟩ := y s ι2 M2 σ2 r2 e2
      have hdrop : ds.drop i = d :: ds.drop (i + 1) := by
        rw [List.drop_eq_getElem_cons hi]
        congr 1
        rw [List.getElem?_eq_getElem hi] at hd
        exact Option.some.inj hd
      rw [hdrop] at f2
      have e3 : Ext (env s) ι2 H2 ι2 H3 := Ex.same hm
      have f3 : FitS X.K W (env s) ι2 H3 I ((lift (t.app d) >>= fun l => (step s l >>= fun s' => (forC t step (ds.drop (i + 1)) s' >>= k))) M2) E := by
        have z := FitS.later e3 f2
        have q : (forC t step (d :: ds.drop (i + 1)) s >>= k) = (lift (t.app d) >>= fun l => (step s l >>= fun s' => (forC t step (ds.drop (i + 1)) s' >>= k))) := by
          show (lift (t.app d) >>= fun l => step s l >>= fun s' => forC t step (ds.drop (i + 1)) s') >>= k = _
          rw [C.bind_assoc]
          congr 1; funext l
          rw [C.bind_assoc]
        rw [q] at z; exact z
      obtain ⟨l, hl, f4⟩ := f3.someL
      refine tk (r2.same hm) rd hl fun σ4 o4 r4 => ⟨s, ⟨l, tl _ _ hl⟩, ?_⟩
      have f5 : FitS X.K W (sets (env s) is l) ι2 H3 I ((step s l >>= fun s' => (forC t step (ds.drop (i + 1)) s' >>= k)) M2) E := FitS.later Ex.sets f4
      refine seqSS r4 f5 fun s' M5 f6 => fun ι6 σ6 H6 e6 r6 => ?_
      exact ⟨s', ι6, M5, r6, e2.trans (e3.trans (Ex.sets.trans e6)), FitS.later e6 f6⟩
    · rw [List.drop_length] at f2
      exact ⟨s, ι2, M2, r2, f2⟩
/-- .. whose body may return -/
theorem db_forR {S : Type} {env : S → List Sl} {s0 : S} {tg iter : Expr} {body : List Stmt} {ci : C (List D)} {is : List Nat} {t : Tg} {step : S → List D → C (D ⊕ S)} {k : S → C β} {r : D → β} (hI : ∀ d, I (r d) = .rt d ∨ I (r d) = .fn d) (hp : PassesOwn (model X.prog X.w) X.A X.env X.xe) (hc : X.calm = true)
    (hi : DI w X W (env s0) tg iter ci) (hk : w = true → ∀ s, keepOwn (env s0) (env s)) (ht : DTg X tg is t)
    (hb : ∀ s ds, ds.length = is.length → DB X W (sets (env s) is ds) (finR env) body (step s ds)) (hr : ∀ s, DB X W (env s) I rest (k s)) (hs : ∀ x, foldedSetIterable iter X.env x = pure x := by intro _; rfl) :
    DB X W (env s0) I (.For tg iter body [] pos :: rest) (ci >>= fun ds => forR t step ds s0 >>= thenR r k) := by
  obtain ⟨g, pg, tl, tk⟩ := ht
  refine pss_imp (pss_cons (ps_for hp hc hi pg (pss_any fun s => pss_any fun ds : {ds : List D // ds.length = is.length} => hb s ds.1 ds.2) hs) (pss_any hr)) fun E σ H ⟨ι, M, sr, f⟩ => ?_
  have f0 := FitS.bndC f
  refine ⟨ι, M, sr, ?_⟩
  cases e : ci M with
  | no => rw [e] at f0; exact f0
  | exc c d M1 => rw [e] at f0; exact FitS.x (D := E) f0
  | ok ds M1 =>
    rw [e] at f0
    intro ι1 J H1 e1 r1 it
    have f1 : FitS X.K W (env s0) ι1 H1 I ((forR t step ds s0 >>= thenR r k) M1) E := FitS.later e1 f0
    let Pv : Nat → L2.St → Hp → Prop := fun i σ H => ∃ s ι M, SR X.K ι M H σ (env s) ∧ Ex (Own (env s0)) ι1 H1 (Own (env s)) ι H ∧ FitS X.K W (env s) ι H I ((forR t step (ds.drop i) s >>= thenR r k) M) E
    have wk : Walk J ds.length (fun H => ∃ s ι M σ, SR X.K ι M H σ (env s) ∧ Ex (Own (env s0)) ι1 H1 (Own (env s)) ι H) (fun i H x H' => ∀ s ι M σ, SR X.K ι M H σ (env s) → Ex (Own (env s0)) ι1 H1 (Own (env s)) ι H → (∀ b o, H b = some o → H' b = some o) ∧ ∃ d, ds[i]? = some d ∧ Rp X.K ι H' d x) := by
      refine ⟨fun i H hi ⟨s, ι, M, σ, r, e⟩ => (it _ _ _ _ _ (fun z => hk z s) e r).1 i hi, fun H ⟨s, ι, M, σ, r, e⟩ => (it _ _ _ _ _ (fun z => hk z s) e r).2.1, fun i H x H' hi _ y s ι M σ r e => (it _ _ _ _ _ (fun z => hk z s) e r).2.2 i x H' hi y⟩
    have go := for_it wk (g := g) (tb := fun D σ H => ∃ (s : S) (l : {l : List Fw.D // l.length = is.length}), tS X.K W (sets (env s) is l.1) (finR env) (step s l.1) D σ H) (D := { E with nx := fun σ H => ∃ s, tS X.K W (env s) I (k s) E σ H }) Pv ⟨s0, ι1, M1, r1, Ex.refl, f1⟩ (fun i σ H _ ⟨s, ι, M, r, e, _⟩ => ⟨s, ι, M, σ, r, e⟩) (fun i x σ2 H2 H3 hi ⟨s, ι2, M2, r2, e2, f2⟩ y => ?_) fun σ2 H2 ⟨s, ι2, M2, r2, e2, f2⟩ => ?_
    · exact go
    · obtain ⟨hm, d, hd, rd⟩ := y s ι2 M2 σ2 r2 e2
      have hdrop : ds.drop i = d :: ds.drop (i + 1) := by
        rw [List.drop_eq_getElem_cons hi]
        congr 1
        rw [List.getElem?_eq_getElem hi] at hd
        exact Option.some.inj hd
      rw [hdrop] at f2
      have e3 : Ext (env s) ι2 H2 ι2 H3 := Ex.same hm
      have f3 : FitS X.K W (env s) ι2 H3 I ((lift (t.app d) >>= fun l => (step s l >>= thenR (S := S) r fun s' => (forR t step (ds.drop (i + 1)) s' >>= thenR r k))) M2) E := by
        have z := FitS.later e3 f2
        have q : (forR t step (d :: ds.drop (i + 1)) s >>= thenR r k) = (lift (t.app d) >>= fun l => (step s l >>= thenR (S := S) r fun s' => (forR t step (ds.drop (i + 1)) s' >>= thenR r k))) := by
          show (lift (t.app d) >>= fun l => step s l >>= fun x => match x with
            | .inl x => pure (.inl x)
            | .inr s' => forR t step (ds.drop (i + 1)) s') >>= thenR r k = _
          rw [C.bind_assoc]
          congr 1; funext l
          rw [C.bind_assoc]
          congr 1; funext x
          cases x <;> rfl
        rw [q] at z; exact z
      obtain ⟨l, hl, f4⟩ := f3.someL
      refine tk (r2.same hm) rd hl fun σ4 o4 r4 => ⟨s, ⟨l, tl _ _ hl⟩, ?_⟩
      have f5 : FitS X.K W (sets (env s) is l) ι2 H3 I ((step s l >>= thenR (S := S) r fun s' => (forR t step (ds.drop (i + 1)) s' >>= thenR r k)) M2) E := FitS.later Ex.sets f4
      refine seqSS r4 f5 fun x M5 f6 => ?_
      cases x with
      | inl d => exact fitR_of (D := E) (hI d) (show FitF X.K _ ι2 H3 M5 (I (r d)) E from f6)
      | inr s' => exact fun ι6 σ6 H6 e6 r6 => ⟨s', ι6, M5, r6, e2.trans (e3.trans (Ex.sets.trans e6)), FitS.later e6 f6⟩
    · rw [List.drop_length] at f2
      exact ⟨s, ι2, M2, r2, f2⟩
end
end Fw
set_option Elab.async false
set_option linter.all false
set_option maxRecDepth 100000
set_option maxHeartbeats 1000000
namespace Fw
open PySem PySem.Spec L2

/-! ### by number of parts -/
def ap1 {α : Type} (f : D → C α) : List D → C α
  | [a] => f a
  | _ => C.no
def ap2 {α : Type} (f : D → D → C α) : List D → C α
  | [a, b] => f a b
  | _ => C.no
def ap3 {α : Type} (f : D → D → D → C α) : List D → C α
  | [a, b, c] => f a b c
  | _ => C.no
def ap4 {α : Type} (f : D → D → D → D → C α) : List D → C α
  | [a, b, c, d] => f a b c d
  | _ => C.no
def ap5 {α : Type} (f : D → D → D → D → D → C α) : List D → C α
  | [a, b, c, d, e] => f a b c d e
  | _ => C.no
theorem len0 {P : List D → Prop} (h : P []) : ∀ ds, ds.length = 0 → P ds
  | [], _ => h
  | _ :: _, z => by simp at z
theorem len1 {P : List D → Prop} (h : ∀ a, P [a]) : ∀ ds, ds.length = 1 → P ds
  | [a], _ => h a
  | [], z => by simp at z
  | _ :: _ :: _, z => by simp at z
theorem len2 {P : List D → Prop} (h : ∀ a b, P [a, b]) : ∀ ds, ds.length = 2 → P ds
  | [a, b], _ => h a b
  | [], z => by simp at z
  | [_], z => by simp at z
  | _ :: _ :: _ :: _, z => by simp at z
theorem len3 {P : List D → Prop} (h : ∀ a b c, P [a, b, c]) : ∀ ds, ds.length = 3 → P ds
  | [a, b, c], _ => h a b c
  | [], z => by simp at z
  | [_], z => by simp at z
  | [_, _], z => by simp at z
  | _ :: _ :: _ :: _ :: _, z => by simp at z
theorem len4 {P : List D → Prop} (h : ∀ a b c d, P [a, b, c, d]) : ∀ ds, ds.length = 4 → P ds
  | [a, b, c, d], _ => h a b c d
  | [], z => by simp at z
  | [_], z => by simp at z
  | [_, _], z => by simp at z
  | [_, _, _], z => by simp at z
  | _ :: _ :: _ :: _ :: _ :: _, z => by simp at z
theorem len5 {P : List D → Prop} (h : ∀ a b c d e, P [a, b, c, d, e]) : ∀ ds, ds.length = 5 → P ds
  | [a, b, c, d, e], _ => h a b c d e
  | [], z => by simp at z
  | [_], z => by simp at z
  | [_, _], z => by simp at z
  | [_, _, _], z => by simp at z
  | [_, _, _, _], z => by simp at z
  | _ :: _ :: _ :: _ :: _ :: _ :: _, z => by simp at z


/-! ### a list that nobody knows yet -/
section
variable {K : PySem.W.Frag} {W : WX} {ρ ρ' : List Sl} {σ σ' : L2.St} {ι ι' : List Addr} {H H' H1 : Hp} {M M' : Mem} {w : Bool}
/-- changing a list that is neither a changing object nor the frame's -/
theorem ex_by {p : Addr} {xs : List V} {o : HO} (h : H p = some (.lst xs)) (hnt : notTbl o := by intro _ z; cases z) : Ex (fun b => Own ρ b ∨ b = p) ι H (Own ρ) ι (upd H p o) where
  pre := List.prefix_refl _
  newc := fun _ h => .inl h
  newo := fun _ h => .inl (.inl h)
  keep := fun b u hb h1 h2 _ => by rw [upd_ne fun z => h2 (.inr z)]; exact hb
  free := fun b hb => by
    by_cases e : b = p
    · subst e; exact (hb.no upd_same hnt).elim
    · unfold Nn at hb ⊢; rw [upd_ne e] at hb; exact hb
theorem SR.by_ {p : Addr} {xs : List V} {o : HO} (r : SR K ι M H σ ρ) (h : H p = some (.lst xs)) (hn : ¬ Own ρ p) (hi : p ∉ ι) (hnt : notTbl o := by intro _ z; cases z) :
    SR K ι M (upd H p o) σ ρ ∧ (∀ d v, Rp K ι H d v → Rp K ι (upd H p o) d v) ∧ ∀ ds vs, RpL K ι H ds vs → RpL K ι (upd H p o) ds vs := by
  have e := ex_by (ρ := ρ) (ι := ι) (o := o) h hnt
  have hO : ∀ b, (Own ρ b ∨ b = p) → MutK H b := fun b hb => by
    rcases hb with hb | rfl
    · exact r.mutK b hb
    · exact ⟨xs, h⟩
  refine ⟨⟨⟨r.gr.len, r.gr.nd, fun n b hb => ?_, fun q hq => tabS_lst h (r.gr.tab q hq)⟩, r.len, fun i s hs => ?_, r.apart⟩, fun d v q => Rp.ex e hO d v q, fun d v q => RpL.ex e hO d v q⟩
  · obtain ⟨ys, es, g1, g2, g3⟩ := r.gr.at_ n b hb
    refine ⟨ys, es, ?_, g2, RpL.ex e hO _ _ g3⟩
    rw [upd_ne (fun z => by subst z; exact hi (List.mem_of_getElem? hb))]
    exact g1
  · obtain ⟨u, h1, h2⟩ := r.sl i s hs
    refine ⟨u, h1, ?_⟩
    cases s with
    | no => trivial
    | val d =>
      obtain ⟨v, e1, e2⟩ := h2
      exact ⟨v, e1, Rp.ex e hO _ _ e2⟩
    | own b es =>
      obtain ⟨e1, e2, ys, e3, e4⟩ := h2
      refine ⟨e1, e2, ys, ?_, RpL.ex e hO _ _ e4⟩
      rw [upd_ne (fun z => by subst z; exact hn ⟨i, es, hs⟩)]
      exact e3
/-- .. seen from ahead of its making -/
theorem ext_by {p : Addr} {xs : List V} {o : HO} (e : Ext ρ ι H ι' H1) (hp : Nn H p) (h : H1 p = some (.lst xs)) : Ext ρ ι H ι' (upd H1 p o) where
  pre := e.pre
  newc := e.newc
  newo := e.newo
  keep := fun b u hb h1 h2 h3 => by
    rw [upd_ne fun z => by subst z; exact hp.no hb h3]
    exact e.keep b u hb h1 h2 h3
  free := fun b hb => by
    by_cases z : b = p
    · subst z; exact hp
    · unfold Nn at hb; rw [upd_ne z] at hb; exact e.free b hb
theorem SR.notOwn (r : SR K ι M H σ ρ) {p : Addr} (hp : Nn H p) : ¬ Own ρ p := fun z => by
  obtain ⟨ys, z⟩ := r.mutK p z
  exact hp.no z nt_lst
end
section
variable {X : Cx} {W : WX} {ρ ρ' : List Sl} {β : Type} {I : β → Fin} {e : Expr} {ce : C D} {rest sts : List Stmt} {pos : Pos} {w : Bool}
theorem db_wk {c : C β} (hw : Wk ρ ρ') (h : DB X W ρ' I sts c) : DB X W ρ I sts c := pss_imp h fun E σ H ⟨ι, M, r, f⟩ => ⟨ι, M, r.wk hw, FitS.later (Ex.wk hw) f⟩
def asL (co : C (List D)) : C D := do let ds ← co; pure (.lst ds)
theorem to_frz {K : PySem.W.Frag} {co : C (List D)} {σ : L2.St} {H : Hp} {Q : VK} (h : tD K W ρ false (asL co) σ H Q) : tO K W ρ co σ H (frzQ Q) := by
  obtain ⟨ι, M, r, f⟩ := h
  refine ⟨ι, M, r, ?_⟩
  have f0 : Fit K W ρ false σ ι H ((co M).bnd fun ds m => .ok (.lst ds) m) Q := f
  cases ec : co M with
  | no => rw [ec] at f0; exact f0
  | exc c d M1 => rw [ec] at f0; exact f0
  | ok ds M1 =>
    rw [ec] at f0
    intro ι1 p xs H1 e1 r1 h1 h2 h3 q1
    refine .inr ⟨p, xs, rfl, h3, fun o => ?_⟩
    have hn : ¬ Own ρ p := r.notOwn h1
    obtain ⟨r2, k1, k2⟩ := r1.by_ (o := .frz o (.lst xs)) h3 hn h2
    exact f0 ι1 _ _ (ext_by e1 h1 h3) r2 (.of (.lst (.inl ⟨h2, o, upd_same⟩) (k2 _ _ q1)))
/-- a new list as data that lies still -/
theorem de_of {co : C (List D)} (h : DO X W ρ e co) : DG w X W ρ e (asL co) := dv (pe_frz h fun σ H Q q => to_frz q)

/-! ### the frame's own lists -/
def appC (ds : List D) (d : D) : C (List D) := if ds.length < 2 ^ 24 then pure (ds ++ [d]) else C.no
/-- x.append(e) -/
theorem db_app {i : Nat} {x : Str} {a : Addr} {ds : List D} {p ap cp ep : Pos} {k : List D → C β} (hN : PE X (.Name x p) (tVar i)) (hρ : ρ[i]? = some (.own a ds)) (he : DE X W ρ e ce) (hr : ∀ ds', DB X W (ρ.set i (.own a ds')) I rest (k ds'))
    (hbase : attributeBase (.Name x p) "append" X.env (eval (.Name x p) X.env) = eval (.Name x p) X.env := by rfl)
    (hfew : ((backTo cp (starEach [e] X.env)).all (fun x => !x.1) && (backToKw cp (keywordEach [] X.env)).all (fun x => x.1.isSome)
      && decide (([e] : List Expr).length + ([] : List Keyword).length + (if ([] : List Keyword).isEmpty then 0 else 1) < 30)) = true := by rfl)
    (hline : (ap.endLine == cp.line) = true := by rfl) (hs : starEach [e] X.env = (false, eval e X.env) :: starEach [] X.env := by rfl) (hplain : (backTo cp (starEach [] X.env)).any (·.1) = false := by rfl)
    (hsw : swapsWith (.Call (.Attribute (.Name x p) "append" ap) [e] [] cp) none ep.line X.env = pure false := by rfl) :
    DB X W ρ I (.Expr (.Call (.Attribute (.Name x p) "append" ap) [e] [] cp) ep :: rest) (ce >>= fun d => appC ds d >>= k) := by
  refine pss_imp (pss_cons (ps_expr (pe_bm PySem.F.plainAttrs_list PySem.F.slot_list_append PySem.F.type_list_append mt_append hN (pa_cons he pa_nil hs) hbase hfew hline hs hplain) hsw) (pss_any hr)) fun E σ H ⟨ι, M, sr, f⟩ => ?_
  obtain ⟨h1, h2, xs, h3, h4⟩ := sr.ownE hρ
  refine ⟨.ref a, h1, .inl ⟨rfl, _, SqL.of h3⟩, ?_⟩
  refine (seqDS sr f).imp fun v H1 ⟨d, ι1, M1, e1, r1, q1, f1⟩ => ?_
  obtain ⟨_, _, ys, g3, g4⟩ := r1.ownE hρ
  unfold appC at f1
  by_cases hz : ds.length < 2 ^ 24
  · rw [if_pos hz] at f1
    refine ⟨a, ys, v, rfl, rfl, g3, by rw [← g4.length]; exact hz, ds ++ [d], ι1, M1, ?_⟩
    obtain ⟨r2, e2⟩ := r1.wown hρ (g4.append (.one q1.str))
    exact ⟨r2, FitS.later e2 f1⟩
  · rw [if_neg hz] at f1
    exact (show False from f1).elim
/-- x[i] = d of the frame's own list -/
def setL (ds : List D) (i : D) (d : D) : Option (List D) :=
  match i with
  | .int k => (ixN ds.length k).map fun j => ds.set j d
  | _ => none
def setC (ds : List D) (i : D) (d : D) : C (List D) := lift (setL ds i d)
theorem setL_eq {ds ds' : List D} {i d : D} (h : setL ds i d = some ds') : ∃ k j, i = .int k ∧ ixN ds.length k = some j ∧ ds' = ds.set j d := by
  unfold setL at h
  split at h
  · cases e : ixN ds.length _ with
    | none => rw [e] at h; cases h
    | some j => rw [e] at h; cases h; exact ⟨_, j, rfl, e, rfl⟩
  · cases h
theorem db_setI {i : Nat} {x : Str} {a : Addr} {ds : List D} {p sp : Pos} {ei : Expr} {ci : C D} {k : List D → C β} (hN : PE X (.Name x p) (tVar i)) (hρ : ρ[i]? = some (.own a ds)) (he : DE X W ρ e ce) (hi : DE X W ρ ei ci) (hr : ∀ ds', DB X W (ρ.set i (.own a ds')) I rest (k ds'))
    (ha : ∀ v, assign (.Subscript (.Name x p) ei sp) X.env v = (do
      let ov ← holding [v] (eval (.Name x p) X.env)
      let iv ← holding [v, ov] (eval ei X.env)
      standAt sp
      holding [v, ov, iv] (setItem ov iv v)
      release [v, ov, iv] []) := by intro _; rfl)
    (hs : swapsWithSole [.Subscript (.Name x p) ei sp] e pos.line X.env = pure false := by rfl) (hw : swappedStores [.Subscript (.Name x p) ei sp] e X.env = pure none := by rfl)
    (h1 : (assignEach [.Subscript (.Name x p) ei sp] X.env).map (·.2) = [assign (.Subscript (.Name x p) ei sp) X.env] := by rfl) :
    DB X W ρ I (.Assign [.Subscript (.Name x p) ei sp] e pos :: rest) (ce >>= fun d => ci >>= fun j => setC ds j d >>= k) := by
  refine pss_imp (pss_cons (ps_asg he (pg_sub hN hi set_list ha) hs hw h1) (pss_any hr)) fun E σ H ⟨ι, M, sr, f⟩ => ?_
  refine (seqDS sr f).imp fun v H1 ⟨d, ι1, M1, e1, r1, q1, f1⟩ => ?_
  obtain ⟨h1, h2, xs, h3, h4⟩ := r1.ownE hρ
  refine ⟨.ref a, h1, (seqDS r1 f1).imp fun y H2 ⟨j, ι2, M2, e2, r2, q2, f2⟩ => ?_⟩
  obtain ⟨_, _, ys, g3, g4⟩ := r2.ownE hρ
  obtain ⟨ds', hd, f3⟩ := FitS.someL f2
  obtain ⟨k', j', rfl, hj, rfl⟩ := setL_eq hd
  rw [q2.str.intE]
  refine ⟨a, ys, k', j', rfl, rfl, g3, by rw [← g4.length]; exact hj, ds.set j' d, ι2, M2, ?_⟩
  obtain ⟨r3, e3⟩ := r2.wown hρ (RpL.set (r1.rp e2 q1.str) j' g4)
  exact ⟨r3, FitS.later e3 f3⟩

/-! ### changing objects -/
def rdC (a b : D) : C D := fun M => match a, b with
  | .cell n, .int i => match M[n]? with
    | some (.lst ds) => match atI ds i with
      | some d => .ok d M
      | none => .no
    | _ => .no
  | _, _ => .no
def cellIx (ca cb : C D) : C D := do let a ← ca; let b ← cb; rdC a b
theorem rdC_eq {a b d : D} {M M' : Mem} {Q : Prop} (h : rdC a b M = .ok d M') : ∃ n i ds, a = .cell n ∧ b = .int i ∧ M[n]? = some (.lst ds) ∧ atI ds i = some d ∧ M' = M := by
  unfold rdC at h
  split at h
  · split at h
    · split at h
      · cases h; exact ⟨_, _, _, rfl, rfl, by assumption, by assumption, rfl⟩
      · cases h
    · cases h
  · cases h
theorem rdC_no {a b : D} {M : Mem} : (∃ d, rdC a b M = .ok d M) ∨ rdC a b M = .no := by
  unfold rdC
  split
  · split
    · split
      · exact .inl ⟨_, rfl⟩
      · exact .inr rfl
    · exact .inr rfl
  · exact .inr rfl
theorem RpL.atI {K : PySem.W.Frag} {ι : List Addr} {H : Hp} {ds : List D} {vs : List V} {i : Int} {d : D} (l : RpL K ι H ds vs) (h : atI ds i = some d) : ∃ v, L2.atI vs i = some v ∧ Rp K ι H d v := by
  unfold L2.atI at h ⊢
  rw [← l.length]
  cases e : ixN ds.length i with
  | none => rw [e] at h; cases h
  | some j => rw [e] at h; exact l.get h
/-- x[i] of a changing object -/
theorem de_ixC {a b : Expr} {ca cb : C D} (ha : DE X W ρ a ca) (hb : DE X W ρ b cb) (hs : PlainIx b := by intro _ _; rfl) : DG w X W ρ (.Subscript a b pos) (cellIx ca cb) := by
  refine dv (pe_imp (pe_ix ix_list ha hb hs) fun σ H Q ⟨ι, M, sr, f⟩ => ?_)
  refine (seqD sr f).imp fun x H1 ⟨d1, ι1, M1, e1, r1, q1, f1⟩ => (seqD r1 f1).imp fun y H2 ⟨d2, ι2, M2, e2, r2, q2, f2⟩ => ?_
  rcases rdC_no (a := d1) (b := d2) (M := M2) with ⟨d, hd⟩ | hd
  · obtain ⟨n, i, ds, rfl, rfl, hn, hi, _⟩ := rdC_eq (Q := True) hd
    rw [hd] at f2
    have q1' := r1.rp e2 q1.str
    unfold Rp at q1'
    obtain ⟨p, rfl, hp⟩ := q1'
    obtain ⟨xs, es, g1, g2, g3⟩ := r2.gr.at_ n p hp
    rw [hn] at g2; cases g2
    obtain ⟨v, hv, qv⟩ := g3.atI hi
    rw [q2.str.intE]
    exact ⟨p, xs, i, v, rfl, rfl, SqL.of g1, hv, f2.val r2 qv⟩
  · rw [hd] at f2; exact (show False from f2).elim
def wrC (a b d : D) : C Unit := fun M => match a, b with
  | .cell n, .int i => match M[n]? with
    | some (.lst ds) => match ixN ds.length i with
      | some j => .ok () (M.set n (.lst (ds.set j d)))
      | none => .no
    | _ => .no
  | _, _ => .no
theorem wrC_eq {a b d : D} {M : Mem} : (∃ n i ds j, a = .cell n ∧ b = .int i ∧ M[n]? = some (.lst ds) ∧ ixN ds.length i = some j ∧ wrC a b d M = .ok () (M.set n (.lst (ds.set j d)))) ∨ wrC a b d M = .no := by
  unfold wrC
  split
  · split
    · split
      · exact .inl ⟨_, _, _, _, rfl, rfl, by assumption, by assumption, rfl⟩
      · exact .inr rfl
    · exact .inr rfl
  · exact .inr rfl
/-- x[i] = e of a changing object that a name holds -/
theorem db_wr {i : Nat} {x : Str} {n : D} {p sp : Pos} {ei : Expr} {ci : C D} {k : C β} (hN : PE X (.Name x p) (tVar i)) (hρ : ρ[i]? = some (.val n)) (he : DE X W ρ e ce) (hi : DE X W ρ ei ci) (hr : DB X W ρ I rest k)
    (ha : ∀ v, assign (.Subscript (.Name x p) ei sp) X.env v = (do
      let ov ← holding [v] (eval (.Name x p) X.env)
      let iv ← holding [v, ov] (eval ei X.env)
      standAt sp
      holding [v, ov, iv] (setItem ov iv v)
      release [v, ov, iv] []) := by intro _; rfl)
    (hs : swapsWithSole [.Subscript (.Name x p) ei sp] e pos.line X.env = pure false := by rfl) (hw : swappedStores [.Subscript (.Name x p) ei sp] e X.env = pure none := by rfl)
    (h1 : (assignEach [.Subscript (.Name x p) ei sp] X.env).map (·.2) = [assign (.Subscript (.Name x p) ei sp) X.env] := by rfl) :
    DB X W ρ I (.Assign [.Subscript (.Name x p) ei sp] e pos :: rest) (ce >>= fun d => ci >>= fun j => wrC n j d >>= fun _ => k) := by
  refine pss_imp (pss_cons (ps_asg he (pg_sub hN hi set_list ha) hs hw h1) hr) fun E σ H ⟨ι, M, sr, f⟩ => ?_
  refine (seqDS sr f).imp fun v H1 ⟨d, ι1, M1, e1, r1, q1, f1⟩ => ?_
  obtain ⟨o, h1, v', rfl, h2⟩ := r1.sl i _ hρ
  refine ⟨v', h1, (seqDS r1 f1).imp fun y H2 ⟨j, ι2, M2, e2, r2, q2, f2⟩ => ?_⟩
  have f3 := FitS.bndC f2
  rcases wrC_eq (a := n) (b := j) (d := d) (M := M2) with ⟨m, i', ds, j', rfl, rfl, hm, hj, hd⟩ | hd
  · rw [hd] at f3
    have q1' := r1.rp e2 h2
    unfold Rp at q1'
    obtain ⟨p, rfl, hp⟩ := q1'
    obtain ⟨xs, es, g1, g2, g3⟩ := r2.gr.at_ m p hp
    rw [hm] at g2; cases g2
    rw [q2.str.intE]
    obtain ⟨r3, e3⟩ := r2.wcell hp (RpL.set (r1.rp e2 q1.str) j' g3)
    exact ⟨p, xs, i', j', rfl, rfl, g1, by rw [← g3.length]; exact hj, ι2, _, r3, FitS.later e3 f3⟩
  · rw [hd] at f3; exact (show False from f3).elim
/-! a list that nobody knows becomes a changing object -/
section
variable {K : PySem.W.Frag} {ι : List Addr} {H : Hp} {p : Addr} {ys : List V}
theorem notin_grow {a : Addr} {o : HO} (hp : H p = some (.lst ys)) (ha : H a = some o) (hn : ∀ xs, o ≠ .lst xs) (hi : a ∉ ι) : a ∉ ι ++ [p] := fun z => by
  rcases List.mem_append.mp z with z | z
  · exact hi z
  · rw [List.mem_singleton.mp z, hp] at ha
    cases ha; exact hn _ rfl
mutual
theorem Rp.grow (hp : H p = some (.lst ys)) : ∀ (d : D) (v : V), Rp K ι H d v → Rp K (ι ++ [p]) H d v
  | .non, v, h => by unfold Rp at h ⊢; exact h
  | .bl b, v, h => by unfold Rp at h ⊢; exact h
  | .int i, v, h => by unfold Rp at h ⊢; exact h
  | .str x, v, h => by unfold Rp at h ⊢; exact h
  | .tup ds, v, h => by
    unfold Rp at h ⊢
    obtain ⟨a, xs, e1, t, l⟩ := h
    refine ⟨a, xs, e1, ?_, RpL.grow hp ds xs l⟩
    rcases t with ⟨h1, h2⟩ | t
    · exact .inl ⟨notin_grow hp h2 (fun _ z => by cases z) h1, h2⟩
    · exact .inr t
  | .lst ds, v, h => by
    unfold Rp at h ⊢
    obtain ⟨a, xs, e1, t, l⟩ := h
    refine ⟨a, xs, e1, ?_, RpL.grow hp ds xs l⟩
    rcases t with ⟨h1, o, h2⟩ | t
    · exact .inl ⟨notin_grow hp h2 (fun _ z => by cases z) h1, o, h2⟩
    · exact .inr t
  | .dic ks ds, v, h => by
    unfold Rp at h ⊢
    obtain ⟨a, kvs, e1, ⟨h1, o, h2⟩, q, l⟩ := h
    exact ⟨a, kvs, e1, ⟨notin_grow hp h2 (fun _ z => by cases z) h1, o, h2⟩, q, RpL.grow hp ds _ l⟩
  | .cell n, v, h => by
    unfold Rp at h ⊢
    obtain ⟨a, e1, q⟩ := h
    exact ⟨a, e1, by rw [List.getElem?_append_left (List.getElem?_eq_some_iff.mp q).1]; exact q⟩
  | .exc c d, v, h => by
    unfold Rp at h ⊢
    obtain ⟨a, dd, y, e1, n1, n2, h1, h2, r⟩ := h
    exact ⟨a, dd, y, e1, notin_grow hp h1 (fun _ z => by unfold ExO at z; cases z) n1, notin_grow hp h2 (fun _ z => by cases z) n2, h1, h2, Rp.grow hp d y r⟩
theorem RpL.grow (hp : H p = some (.lst ys)) : ∀ (ds : List D) (xs : List V), RpL K ι H ds xs → RpL K (ι ++ [p]) H ds xs
  | [], xs, h => by unfold RpL at h ⊢; exact h
  | d :: ds, xs, h => by
    unfold RpL at h ⊢
    obtain ⟨y, ys', e1, r, l⟩ := h
    exact ⟨y, ys', e1, Rp.grow hp d y r, RpL.grow hp ds ys' l⟩
end
theorem GR.grow {M : Mem} {ds : List D} (g : GR K ι M H) (hp : H p = some (.lst ys)) (hi : p ∉ ι) (l : RpL K ι H ds ys) : GR K (ι ++ [p]) (M ++ [.lst ds]) H := by
  refine ⟨by simp [g.len], ?_, fun n a hn => ?_, g.tab⟩
  · rw [List.nodup_append]
    exact ⟨g.nd, by simp, fun a ha b hb => by rw [List.mem_singleton.mp hb]; intro z; subst z; exact hi ha⟩
  · by_cases hl : n < ι.length
    · rw [List.getElem?_append_left hl] at hn
      obtain ⟨xs, es, g1, g2, g3⟩ := g.at_ n a hn
      exact ⟨xs, es, g1, by rw [List.getElem?_append_left (by rw [← g.len]; exact hl)]; exact g2, RpL.grow hp es xs g3⟩
    · rw [List.getElem?_append_right (by omega)] at hn
      have hz : n - ι.length = 0 := by
        cases e : n - ι.length with
        | zero => rfl
        | succ k => rw [e] at hn; simp at hn
      rw [hz] at hn
      cases hn
      refine ⟨ys, ds, hp, ?_, RpL.grow hp ds ys l⟩
      rw [List.getElem?_append_right (by rw [← g.len]; omega), ← g.len, hz]
      rfl
end
/-- a new list that goes out as a changing object -/
def newC (ds : List D) : C D := fun M => .ok (.cell M.length) (M ++ [.lst ds])
theorem db_retC {co : C (List D)} (he : DO X W ρ e co) : DB X W ρ Fin.fn [.Return (some e) pos] (co >>= newC) := by
  refine pss_imp (pss_one (ps_ret he)) fun E σ H ⟨ι, M, sr, f⟩ => ⟨ι, M, sr, ?_⟩
  have f0 := FitS.bndC f
  cases ec : co M with
  | no => rw [ec] at f0; exact f0
  | exc c d M1 => rw [ec] at f0; exact FitS.x (D := E) f0
  | ok ds M1 =>
    rw [ec] at f0
    intro ι1 p xs H1 e1 r1 h1 h2 h3 q1
    have e2 : Ex (Own ρ) ι H (fun _ => False) (ι1 ++ [p]) H1 := by
      refine ⟨e1.pre.trans (List.prefix_append _ _), fun b hb => ?_, fun _ z => z.elim, e1.keep, e1.free⟩
      rcases List.mem_append.mp hb with z | z
      · exact e1.newc b z
      · rw [List.mem_singleton.mp z]; exact .inr h1
    have f1 : FitR X.K ρ ι H (.cell M1.length) (M1 ++ [.lst ds]) E.rt := (show FitF X.K ρ ι H _ (Fin.fn _) E from f0).1
    refine f1 _ _ _ e2 (r1.gr.grow h3 h2 q1) ?_
    unfold Rp
    exact ⟨p, rfl, by rw [List.getElem?_append_right (by rw [r1.gr.len]; exact Nat.le_refl _), r1.gr.len]; simp⟩

/-! ### stores of several names, joins, loops -/
/-- target = e -/
theorem db_asgT {tg : Expr} {is : List Nat} {t : Tg} {k : List D → C β} (he : DE X W ρ e ce) (ht : DTg X tg is t) (hr : ∀ ds, ds.length = is.length → DB X W (sets ρ is ds) I rest (k ds)) (hs : swapsWithSole [tg] e pos.line X.env = pure false := by rfl)
    (hw : swappedStores [tg] e X.env = pure none := by rfl) (h1 : (assignEach [tg] X.env).map (·.2) = [assign tg X.env] := by rfl) :
    DB X W ρ I (.Assign [tg] e pos :: rest) (ce >>= fun d => lift (t.app d) >>= k) := by
  obtain ⟨g, pg, tl, tk⟩ := ht
  refine pss_imp (pss_cons (ps_asg he pg hs hw h1) (pss_any fun ds : {ds : List D // ds.length = is.length} => hr ds.1 ds.2)) fun E σ H ⟨ι, M, sr, f⟩ => ?_
  refine (seqDS sr f).imp fun v H1 ⟨d, ι1, M1, e1, r1, q1, f1⟩ => ?_
  obtain ⟨l, hl, f2⟩ := FitS.someL f1
  exact tk r1 q1.str hl fun σ2 o2 r2 => ⟨⟨l, tl _ _ hl⟩, ι1, M1, r2, FitS.later Ex.sets f2⟩
theorem seqAlS {K : PySem.W.Frag} {σ : L2.St} {ι : List Addr} {M : Mem} {H : Hp} {cs : List (C D)} {k : List D → C β} {E : Ends} (r : SR K ι M H σ ρ) (f : FitS K W ρ ι H I ((args cs >>= k) M) E) :
    tA K W ρ w (args cs) σ H (fun vs H1 => ∃ ds ι1 M1, ds.length = cs.length ∧ Ext ρ ι H ι1 H1 ∧ SR K ι1 M1 H1 σ ρ ∧ RpBL w K ρ ι1 H1 ds vs ∧ FitS K W ρ ι1 H1 I (k ds M1) E) := by
  refine ⟨ι, M, r, ?_⟩
  have f' : FitS K W ρ ι H I ((args cs M).bnd k) E := f
  cases e : args cs M with
  | ok d M1 => rw [e] at f'; exact fun ι1 v H1 e1 r1 q1 => ⟨d, ι1, M1, args_len e, e1, r1, q1, FitS.later e1 f'⟩
  | exc c d M1 => rw [e] at f'; exact FitS.x (D := E) f'
  | no => rw [e] at f'; exact f'
/-- x, y = a, b -/
theorem db_par {i j : Nat} {x y : Str} {a b : Expr} {ca cb : C D} {px py pt : Pos} {kt k2 pt2} {k : D → D → C β} (hc : X.calm = true) (ha : DA false X W ρ [a, b] (args [ca, cb])) (hr : ∀ d1 d2, DB X W ((ρ.set i (.val d1)).set j (.val d2)) I rest (k d1 d2))
    (hN : X.N.Nodup) (hij : i ≠ j := by decide) (hi : X.N[i]? = some x := by rfl) (hj : X.N[j]? = some y := by rfl)
    (hx : X.env.scope.names.lookup x = some .local := by rfl) (hy : X.env.scope.names.lookup y = some .local := by rfl)
    (hw : swappedStores [.Tuple [.Name x px, .Name y py] kt pt] (.Tuple [a, b] k2 pt2) X.env = pure (some [x, y]) := by rfl)
    (hs : swapsWithSole [.Tuple [.Name x px, .Name y py] kt pt] (.Tuple [a, b] k2 pt2) pos.line X.env = pure false := by rfl) :
    DB X W ρ I (.Assign [.Tuple [.Name x px, .Name y py] kt pt] (.Tuple [a, b] k2 pt2) pos :: rest) (args [ca, cb] >>= ap2 k) := by
  refine pss_imp (pss_cons (ps_par hc hN hi hj hij hx hy ha hw hs) (pss_any fun d1 => pss_any (hr d1))) fun E σ H ⟨ι, M, sr, f⟩ => ?_
  refine (seqAlS sr f).imp fun vs H1 ⟨ds, ι1, M1, hl, e1, r1, q1, f1⟩ => ?_
  obtain ⟨d1, d2, rfl⟩ : ∃ d1 d2, ds = [d1, d2] := by
    revert hl
    exact len2 (P := fun ds => ∃ d1 d2, ds = [d1, d2]) (fun a b => ⟨a, b, rfl⟩) ds
  obtain ⟨v1, v2, rfl, p1, p2⟩ := q1.str.twoE
  exact ⟨v1, v2, rfl, d1, d2, ι1, M1, (r1.set p1).set p2, FitS.later (Ex.set.trans Ex.set) f1⟩
theorem db_par3 {i j l : Nat} {x y z : Str} {a b c : Expr} {ca cb cc : C D} {px py pz pt : Pos} {kt k2 pt2} {k : D → D → D → C β} (hc : X.calm = true) (ha : DA false X W ρ [a, b, c] (args [ca, cb, cc])) (hr : ∀ d1 d2 d3, DB X W (((ρ.set i (.val d1)).set j (.val d2)).set l (.val d3)) I rest (k d1 d2 d3))
    (hN : X.N.Nodup) (hij : i ≠ j := by decide) (hil : i ≠ l := by decide) (hjl : j ≠ l := by decide) (hi : X.N[i]? = some x := by rfl) (hj : X.N[j]? = some y := by rfl) (hl : X.N[l]? = some z := by rfl)
    (hx : X.env.scope.names.lookup x = some .local := by rfl) (hy : X.env.scope.names.lookup y = some .local := by rfl) (hz : X.env.scope.names.lookup z = some .local := by rfl)
    (hw : swappedStores [.Tuple [.Name x px, .Name y py, .Name z pz] kt pt] (.Tuple [a, b, c] k2 pt2) X.env = pure (some [x, y, z]) := by rfl)
    (hs : swapsWithSole [.Tuple [.Name x px, .Name y py, .Name z pz] kt pt] (.Tuple [a, b, c] k2 pt2) pos.line X.env = pure false := by rfl) :
    DB X W ρ I (.Assign [.Tuple [.Name x px, .Name y py, .Name z pz] kt pt] (.Tuple [a, b, c] k2 pt2) pos :: rest) (args [ca, cb, cc] >>= ap3 k) := by
  refine pss_imp (pss_cons (ps_par3 hc hN hi hj hl hij hil hjl hx hy hz ha hw hs) (pss_any fun d1 => pss_any fun d2 => pss_any (hr d1 d2))) fun E σ H ⟨ι, M, sr, f⟩ => ?_
  refine (seqAlS sr f).imp fun vs H1 ⟨ds, ι1, M1, hlen, e1, r1, q1, f1⟩ => ?_
  obtain ⟨d1, d2, d3, rfl⟩ : ∃ d1 d2 d3, ds = [d1, d2, d3] := by
    revert hlen
    exact len3 (P := fun ds => ∃ d1 d2 d3, ds = [d1, d2, d3]) (fun a b c => ⟨a, b, c, rfl⟩) ds
  obtain ⟨v1, vs', rfl, p1, q2⟩ := q1.str.consE
  obtain ⟨v2, v3, rfl, p2, p3⟩ := q2.twoE
  exact ⟨v1, v2, v3, rfl, d1, d2, d3, ι1, M1, ((r1.set p1).set p2).set p3, FitS.later ((Ex.set.trans Ex.set).trans Ex.set) f1⟩
/-- if c: a else: b; what follows -/
theorem db_ifS {S : Type} {env : S → List Sl} {c : Expr} {a b : List Stmt} {tc : C Bool} {ca cb : C S} {k : S → C β} (hc : DT X W ρ c tc) (ha : DB X W ρ (fun s => Fin.nx (env s)) a ca) (hb : DB X W ρ (fun s => Fin.nx (env s)) b cb) (hr : ∀ s, DB X W (env s) I rest (k s)) :
    DB X W ρ I (.If c a b pos :: rest) (ifE tc ca cb >>= k) := by
  refine pss_imp (pss_cons (ps_if hc ha hb) (pss_any hr)) fun E σ H ⟨ι, M, sr, f⟩ => ?_
  have e : (ifE tc ca cb >>= k) = (tc >>= fun t => (if t then ca else cb) >>= k) := by unfold ifE; rw [C.bind_assoc]
  rw [e] at f
  refine (seqBS sr f).imp fun t H1 ⟨ι1, M1, e1, r1, f1⟩ => ?_
  cases t with
  | true => exact seqSS r1 f1 fun s M2 f2 => fun ι2 σ2 H2 e2 r2 => ⟨s, ι2, M2, r2, FitS.later e2 f2⟩
  | false => exact seqSS r1 f1 fun s M2 f2 => fun ι2 σ2 H2 e2 r2 => ⟨s, ι2, M2, r2, FitS.later e2 f2⟩
theorem db_ifSR {S : Type} {env : S → List Sl} {c : Expr} {a b : List Stmt} {tc : C Bool} {ca cb : C (D ⊕ S)} {k : S → C β} {r : D → β} (hI : ∀ d, I (r d) = .rt d ∨ I (r d) = .fn d) (hc : DT X W ρ c tc) (ha : DB X W ρ (finR env) a ca) (hb : DB X W ρ (finR env) b cb) (hr : ∀ s, DB X W (env s) I rest (k s)) :
    DB X W ρ I (.If c a b pos :: rest) (ifE tc ca cb >>= thenR r k) := by
  refine pss_imp (pss_cons (ps_if hc ha hb) (pss_any hr)) fun E σ H ⟨ι, M, sr, f⟩ => ?_
  have e : (ifE tc ca cb >>= thenR r k) = (tc >>= fun t => (if t then ca else cb) >>= thenR r k) := by unfold ifE; rw [C.bind_assoc]
  rw [e] at f
  refine (seqBS sr f).imp fun t H1 ⟨ι1, M1, e1, r1, f1⟩ => ?_
  have fin : ∀ x M2, FitS X.K W ρ ι1 H1 I (thenR (S := S) r k x M2) E → FitF X.K ρ ι1 H1 M2 (finR env x) { E with nx := fun σ H => ∃ s, tS X.K W (env s) I (k s) E σ H } := fun x M2 f2 => by
    cases x with
    | inl d => exact fitR_of (D := E) (hI d) (show FitF X.K _ ι1 H1 M2 (I (r d)) E from f2)
    | inr s => exact fun ι2 σ2 H2 e2 r2 => ⟨s, ι2, M2, r2, FitS.later e2 f2⟩
  cases t with
  | true => exact seqSS r1 f1 fin
  | false => exact seqSS r1 f1 fin
/-- while, with so much fuel -/
def whileC {S : Type} (c : S → C Bool) (b : S → C S) : Nat → S → C S
  | 0, _ => C.no
  | n + 1, s => do let t ← c s; if t then (do let s' ← b s; whileC c b n s') else pure s
theorem db_while {S : Type} {env : S → List Sl} {s0 : S} {c : Expr} {body : List Stmt} {tc : S → C Bool} {cb : S → C S} {k : S → C β} (n : Nat) (hp : PassesOwn (model X.prog X.w) X.A X.env X.xe)
    (hc : ∀ s, DT X W (env s) c (tc s)) (hb : ∀ s, DB X W (env s) (fun s' => Fin.nx (env s')) body (cb s)) (hr : ∀ s, DB X W (env s) I rest (k s)) :
    DB X W (env s0) I (.While c body [] pos :: rest) (whileC tc cb n s0 >>= k) := by
  refine pss_imp (pss_cons (ps_while hp (pt_any hc) (pss_any hb)) (pss_any hr)) fun E σ H ⟨ι, M, sr, f⟩ => ?_
  refine ⟨fun m σ H => ∃ s ι M, SR X.K ι M H σ (env s) ∧ FitS X.K W (env s) ι H I ((whileC tc cb m s >>= k) M) E, ⟨n, s0, ι, M, sr, f⟩, ?_⟩
  rintro m σ H ⟨s, ι, M, sr, f⟩
  cases m with
  | zero => exact (show False from f).elim
  | succ m =>
    have e : (whileC tc cb (m + 1) s >>= k) = (tc s >>= fun t => (if t then (cb s >>= fun s' => whileC tc cb m s') else pure s) >>= k) := by
      show (tc s >>= fun t => if t then (cb s >>= fun s' => whileC tc cb m s') else pure s) >>= k = _
      rw [C.bind_assoc]
    rw [e] at f
    refine ⟨s, (seqBS sr f).imp fun t H1 ⟨ι1, M1, e1, r1, f1⟩ => ?_⟩
    cases t with
    | false => exact ⟨s, ι1, M1, r1, f1⟩
    | true =>
      refine ⟨fun σ' H' => ∃ s ι M, SR X.K ι M H' σ' (env s) ∧ FitS X.K W (env s) ι H' I ((whileC tc cb m s >>= k) M) E, fun σ' H' q => ⟨m, Nat.lt_succ_self _, q⟩, s, ?_⟩
      have f2 : FitS X.K W (env s) ι1 H1 I ((cb s >>= fun s' => (whileC tc cb m s' >>= k)) M1) E := by
        have z : FitS X.K W (env s) ι1 H1 I (((cb s >>= fun s' => whileC tc cb m s') >>= k) M1) E := f1
        rw [C.bind_assoc] at z; exact z
      exact seqSS r1 f2 fun s' M2 f3 => fun ι2 σ2 H2 e2 r2 => ⟨s', ι2, M2, r2, FitS.later e2 f3⟩
end

/-! ### comprehensions -/
/-- slots forgotten -/
def wipeS (ρ : List Sl) : List Nat → List Sl
  | [] => ρ
  | v :: vs => (wipeS ρ vs).set v .no
def calm {α : Type} (c : C α) : C α := fun M => match c M with
  | .ok a m => .ok a m
  | _ => .no
def lcGo (t : Tg) (cond : List D → C Bool) (elt : List D → C D) : List D → C (List D)
  | [] => pure []
  | d :: ds => do let l ← lift (t.app d); let b ← calm (cond l); if b then (do let y ← calm (elt l); let ys ← lcGo t cond elt ds; pure (y :: ys)) else lcGo t cond elt ds
def lcC (ci : C (List D)) (t : Tg) (cond : List D → C Bool) (elt : List D → C D) : C (List D) := do let ds ← ci; if ds.length < 2 ^ 24 then lcGo t cond elt ds else C.no
def yesC : List D → C Bool := fun _ => pure true

theorem wipe_len (σ : L2.St) (vs : List Nat) : (wipe σ vs).length = σ.length := wipe_length σ vs
theorem wipe_get {σ : L2.St} {j : Nat} : ∀ {vs : List Nat}, (wipe σ vs)[j]? = if j ∈ vs then (if j < σ.length then some none else none) else σ[j]?
  | [] => by simp [wipe]
  | v :: vs => by
    unfold wipe
    by_cases e : v = j
    · subst e
      rw [if_pos (by simp)]
      by_cases h : v < σ.length
      · rw [if_pos h, List.getElem?_set_self (by rw [wipe_length]; exact h)]
      · rw [if_neg h, List.getElem?_eq_none (by rw [List.length_set, wipe_length]; omega)]
    · rw [List.getElem?_set_ne e, wipe_get (vs := vs)]
      have : (j ∈ v :: vs) ↔ j ∈ vs := by simp [Ne.symm e]
      simp only [this]
theorem wipe_out {σ σ2 : L2.St} {vs is : List Nat} (h : ∀ j ∈ is, j ∈ vs) (o : outOf (wipe σ vs) σ2 is) : wipe σ2 vs = wipe σ vs := by
  have hl : σ2.length = σ.length := by rw [o.1, wipe_length]
  refine List.ext_getElem? fun j => ?_
  rw [wipe_get, wipe_get, hl]
  by_cases hj : j ∈ vs
  · rw [if_pos hj, if_pos hj]
  · rw [if_neg hj, if_neg hj, o.2 j (fun z => hj (h j z)), wipe_get, if_neg hj]
/-- no slot of vs is known -/
def noAll (ρ : List Sl) : List Nat → Prop
  | [] => True
  | v :: vs => ρ[v]? = some .no ∧ noAll ρ vs
theorem noAll.at_ {ρ : List Sl} : ∀ {vs : List Nat}, noAll ρ vs → ∀ j ∈ vs, ρ[j]? = some .no
  | v :: vs, h, j, hj => by
    rcases List.mem_cons.mp hj with rfl | hj
    · exact h.1
    · exact noAll.at_ h.2 j hj
theorem sets_ne {j : Nat} : ∀ {is : List Nat} {ds : List D} {ρ : List Sl}, j ∉ is → (sets ρ is ds)[j]? = ρ[j]?
  | [], _, _, _ => rfl
  | _ :: _, [], _, _ => rfl
  | i :: is, d :: ds, ρ, h => by
    show (sets (ρ.set i (.val d)) is ds)[j]? = _
    rw [sets_ne (fun z => h (List.mem_cons_of_mem _ z)), List.getElem?_set_ne (fun z => h (by simp [z]))]
theorem sets_len : ∀ {is : List Nat} {ds : List D} {ρ : List Sl}, (sets ρ is ds).length = ρ.length
  | [], _, _ => rfl
  | _ :: _, [], _ => rfl
  | i :: is, d :: ds, ρ => by
    show (sets (ρ.set i (.val d)) is ds).length = _
    rw [sets_len, List.length_set]
section
variable {K : PySem.W.Frag} {W : WX} {ρ : List Sl} {σ σ' σ2 : L2.St} {ι : List Addr} {M : Mem} {H : Hp} {is vs : List Nat}
theorem SR.wipe_ (r : SR K ι M H σ ρ) (h : noAll ρ vs) : SR K ι M H (wipe σ vs) ρ := by
  refine ⟨r.gr, by rw [wipe_length]; exact r.len, fun i s hs => ?_, r.apart⟩
  obtain ⟨o, h1, h2⟩ := r.sl i s hs
  by_cases hi : i ∈ vs
  · have := h.at_ i hi
    rw [hs] at this; cases this
    exact ⟨none, by rw [wipe_get, if_pos hi, if_pos (List.getElem?_eq_some_iff.mp h1).1], trivial⟩
  · exact ⟨o, by rw [wipe_get, if_neg hi]; exact h1, h2⟩
theorem SR.unwipe (r : SR K ι M H (wipe σ vs) ρ) : SR K ι M H σ ρ := by
  refine ⟨r.gr, by rw [← r.len, wipe_length], fun i s hs => ?_, r.apart⟩
  obtain ⟨o, h1, h2⟩ := r.sl i s hs
  cases s with
  | no =>
    have hl : i < σ.length := by
      have := (List.getElem?_eq_some_iff.mp h1).1
      rw [wipe_length] at this; exact this
    exact ⟨σ[i], by simp [hl], trivial⟩
  | val d =>
    obtain ⟨v, rfl, q⟩ := h2
    exact ⟨some v, (wipe_some h1).1, v, rfl, q⟩
  | own a ds =>
    obtain ⟨rfl, q⟩ := h2
    exact ⟨some (.ref a), (wipe_some h1).1, rfl, q⟩
theorem SR.back {ds : List D} (r : SR K ι M H σ2 (sets ρ is ds)) (o : outOf σ' σ2 is) (h : noAll ρ vs) (hs : ∀ j ∈ is, j ∈ vs) : SR K ι M H σ' ρ := by
  have own : ∀ {j : Nat} {a : Addr} {es : List D}, ρ[j]? = some (.own a es) → (sets ρ is ds)[j]? = some (.own a es) := fun {j a es} e => by
    rw [sets_ne fun z => ?_]
    · exact e
    · have := h.at_ j (hs j z)
      rw [e] at this; cases this
  refine ⟨r.gr, by rw [← o.1, r.len, sets_len], fun i s e => ?_, fun i j es fs a h1 h2 => r.apart i j es fs a (own h1) (own h2)⟩
  by_cases hi : i ∈ is
  · have := h.at_ i (hs i hi)
    rw [e] at this; cases this
    have hl : i < σ'.length := by
      rw [← o.1, r.len, sets_len]; exact (List.getElem?_eq_some_iff.mp e).1
    exact ⟨σ'[i], by simp [hl], trivial⟩
  · obtain ⟨u, h1, h2⟩ := r.sl i s (by rw [sets_ne hi]; exact e)
    exact ⟨u, by rw [← o.2 i hi]; exact h1, h2⟩
theorem own_back {ds : List D} (h : noAll ρ vs) (hs : ∀ j ∈ is, j ∈ vs) {b : Addr} (hb : Own ρ b) : Own (sets ρ is ds) b := by
  obtain ⟨j, es, e⟩ := hb
  refine ⟨j, es, ?_⟩
  rw [sets_ne fun z => ?_]
  · exact e
  · have := h.at_ j (hs j z)
    rw [e] at this; cases this
end
/-- the reading of a target -/
def tG (K : PySem.W.Frag) (is : List Nat) (t : Tg) : TG := fun v σ H Q => ∃ ρ ι M d ds, SR K ι M H σ ρ ∧ Rp K ι H d v ∧ t.app d = some ds ∧ ∀ σ', outOf σ σ' is → SR K ι M H σ' (sets ρ is ds) → Q σ' H
theorem DTg.pg {X : Cx} {tg : Expr} {is : List Nat} {t : Tg} (h : DTg X tg is t) : PG X tg (tG X.K is t) := by
  obtain ⟨g, pg, _, k⟩ := h
  exact ⟨fun pins s σ H v u Q I r ⟨ρ, ι, M, d, ds, r1, q, e, z⟩ => pg.run pins s σ H v u Q I r (k r1 q e z)⟩
abbrev W0 : WX := fun _ _ _ _ => False
section
variable {K : PySem.W.Frag} {W : WX} {ρ : List Sl} {w : Bool}
def tTs (K : PySem.W.Frag) (ρ : List Sl) (is : List Nat) (cond : List D → C Bool) : TT := fun σ H Q => ∃ l : {l : List D // l.length = is.length}, tT K W0 (sets ρ is l.1) (cond l.1) σ H Q
def tEs (K : PySem.W.Frag) (ρ : List Sl) (is : List Nat) (elt : List D → C D) : TE := fun σ H Q => ∃ l : {l : List D // l.length = is.length}, tD K W0 (sets ρ is l.1) false (elt l.1) σ H Q
theorem lc_imp {ci : C (List D)} {t : Tg} {cond : List D → C Bool} {elt : List D → C D} {is vs : List Nat} {σ : L2.St} {H : Hp} {Q : VK} (tl : ∀ d ds, t.app d = some ds → ds.length = is.length) (hno : noAll ρ vs) (hs : ∀ j ∈ is, j ∈ vs)
    (h : tO K W ρ (lcC ci t cond elt) σ H Q) : tLc (tI K W w ρ ci) (tG K is t) (tTs K ρ is cond) (tEs K ρ is elt) vs σ H Q := by
  obtain ⟨ι, M, r, f⟩ := h
  refine ⟨ι, M, r, ?_⟩
  have f0 : FitO K W ρ σ ι H ((ci M).bnd fun ds M => (if ds.length < 2 ^ 24 then lcGo t cond elt ds else C.no) M) Q := f
  cases ec : ci M with
  | no => rw [ec] at f0; exact f0
  | exc c d M1 => rw [ec] at f0; exact f0
  | ok ds M1 =>
    rw [ec] at f0
    have f1 : FitO K W ρ σ ι H ((if ds.length < 2 ^ 24 then lcGo t cond elt ds else C.no) M1) Q := f0
    by_cases hz : ds.length < 2 ^ 24
    case neg => rw [if_neg hz] at f1; exact (show False from f1).elim
    rw [if_pos hz] at f1
    intro ι1 J H1 e1 r1 it
    have f2 : FitO K W ρ σ ι1 H1 (((lcGo t cond elt ds) M1).bnd fun ys m => .ok ([] ++ ys) m) Q := by
      have : ((lcGo t cond elt ds) M1).bnd (fun ys m => .ok ([] ++ ys) m) = (lcGo t cond elt ds) M1 := by
        cases (lcGo t cond elt ds) M1 <;> rfl
      rw [this]
      exact f1.later e1
    intro Dn hD
    have hnO : ¬ Own ρ Dn := r1.notOwn (.inl hD)
    let Pv : Nat → Hp → Prop := fun i H => ∃ ι M acc ds', SR K ι M H (wipe σ vs) ρ ∧ Ext ρ ι1 H1 ι H ∧ H Dn = some (.lst acc) ∧ Dn ∉ ι ∧ RpL K ι H ds' acc ∧ ds'.length ≤ i ∧ FitO K W ρ σ ι1 H1 (((lcGo t cond elt (ds.drop i)) M).bnd fun ys m => .ok (ds' ++ ys) m) Q
    have wk : Walk J ds.length (fun H => ∃ ι M, SR K ι M H (wipe σ vs) ρ ∧ Ext ρ ι1 H1 ι H) (fun i H x H' => ∀ ι M, SR K ι M H (wipe σ vs) ρ → Ext ρ ι1 H1 ι H → (∀ b o, H b = some o → H' b = some o) ∧ ∃ d, ds[i]? = some d ∧ Rp K ι H' d x) := by
      refine ⟨fun i H hi ⟨ι, M, r, e⟩ => (it _ _ _ _ _ (fun _ _ _ _ z => z) e r).1 i hi, fun H ⟨ι, M, r, e⟩ => (it _ _ _ _ _ (fun _ _ _ _ z => z) e r).2.1, fun i H x H' hi _ y ι M r e => (it _ _ _ _ _ (fun _ _ _ _ z => z) e r).2.2 i x H' hi y⟩
    refine lc_it wk Pv ⟨ι1, M1, [], [], (r1.wipe_ hno).same (same_new hD), Ex.same (same_new hD), upd_same, r1.gr.fresh hD, .nil, Nat.le_refl _, f2⟩ (fun i H _ ⟨ι, M, _, _, r, e, _⟩ => ⟨ι, M, r, e⟩) (fun i x H2 H3 hi ⟨ι2, M2, acc, ds', r2, e2, hD2, hn2, q2, hl2, f3⟩ y => ?_) fun H2 ⟨ι2, M2, acc, ds', r2, e2, hD2, hn2, q2, hl2, f3⟩ => ?_
    · obtain ⟨hm, d, hd, rd⟩ := y ι2 M2 r2 e2
      have hdrop : ds.drop i = d :: ds.drop (i + 1) := by
        rw [List.drop_eq_getElem_cons hi]
        congr 1
        rw [List.getElem?_eq_getElem hi] at hd
        exact Option.some.inj hd
      rw [hdrop] at f3
      cases hl : t.app d with
      | none => unfold lcGo at f3; rw [hl] at f3; exact (show False from f3).elim
      | some l =>
        have f4 : FitO K W ρ σ ι1 H1 (((calm (cond l) >>= fun b => if b then (do let y ← calm (elt l); let ys ← lcGo t cond elt (ds.drop (i + 1)); pure (y :: ys)) else lcGo t cond elt (ds.drop (i + 1))) M2).bnd fun ys m => .ok (ds' ++ ys) m) Q := by
          unfold lcGo at f3; rw [hl] at f3; exact f3
        refine ⟨ρ, ι2, M2, d, l, r2.same hm, rd, hl, fun σ4 o4 r4 => ⟨wipe_out hs o4, ⟨l, tl _ _ hl⟩, ι2, M2, r4, ?_⟩⟩
        have e3 : Ext ρ ι1 H1 ι2 H3 := e2.trans (Ex.same hm)
        have back : ∀ {ι5 : List Addr} {M5 : Mem} {H5 : Hp}, Ext (sets ρ is l) ι2 H3 ι5 H5 → SR K ι5 M5 H5 σ4 (sets ρ is l) → SR K ι5 M5 H5 (wipe σ vs) ρ ∧ Ext ρ ι1 H1 ι5 H5 ∧ H5 Dn = some (.lst acc) ∧ Dn ∉ ι5 ∧ RpL K ι5 H5 ds' acc := fun {ι5 M5 H5} e5 r5 => by
          refine ⟨r5.back o4 hno hs, e3.trans (Ex.sets.trans (e5.trans (Ex.own_sub fun b hb => .inl (own_back hno hs hb)))), ?_, fun z => ?_, RpL.ex e5 r4.mutK _ _ (q2.same hm)⟩
          · refine e5.keep Dn _ (hm _ _ hD2) hn2 (fun ⟨j, es, z⟩ => hnO ⟨j, es, sets_own z⟩) fun _ z => by cases z
          · rcases e5.newc _ z with z | z
            · exact hn2 z
            · exact z.no (hm _ _ hD2) nt_lst
        have f5 : FitO K W ρ σ ι1 H1 (((calm (cond l)) M2).bnd fun b m => (((if b then (do let y ← calm (elt l); let ys ← lcGo t cond elt (ds.drop (i + 1)); pure (y :: ys)) else lcGo t cond elt (ds.drop (i + 1))) : C (List D)) m).bnd fun ys m => .ok (ds' ++ ys) m) Q := by
          have z : ((calm (cond l) >>= fun b => if b then (do let y ← calm (elt l); let ys ← lcGo t cond elt (ds.drop (i + 1)); pure (y :: ys)) else lcGo t cond elt (ds.drop (i + 1))) M2).bnd (fun ys m => Out.ok (ds' ++ ys) m) = (((calm (cond l)) M2).bnd fun b m => (((if b then (do let y ← calm (elt l); let ys ← lcGo t cond elt (ds.drop (i + 1)); pure (y :: ys)) else lcGo t cond elt (ds.drop (i + 1))) : C (List D)) m).bnd fun ys m => .ok (ds' ++ ys) m) := by
            rw [C.run_bind]
            cases (calm (cond l)) M2 <;> rfl
          rw [z] at f4; exact f4
        cases ecd : cond l M2 with
        | no => unfold calm at f5; rw [ecd] at f5; exact (show False from f5).elim
        | exc c d M1 => unfold calm at f5; rw [ecd] at f5; exact (show False from f5).elim
        | ok b M5 =>
          have hcal : calm (cond l) M2 = .ok b M5 := by unfold calm; rw [ecd]
          rw [hcal] at f5
          intro ι5 H5 e5 r5
          cases b with
          | false =>
            obtain ⟨z1, z2, z3, z4, z5⟩ := back e5 r5
            exact ⟨ι5, M5, acc, ds', z1, z2, z3, z4, z5, Nat.le_succ_of_le hl2, f5⟩
          | true =>
            refine ⟨⟨l, tl _ _ hl⟩, ι5, M5, r5, ?_⟩
            have f6 : FitO K W ρ σ ι1 H1 (((calm (elt l)) M5).bnd fun y m => (lcGo t cond elt (ds.drop (i + 1)) m).bnd fun ys m => .ok (ds' ++ (y :: ys)) m) Q := by
              have z : (((if true = true then (do let y ← calm (elt l); let ys ← lcGo t cond elt (ds.drop (i + 1)); pure (y :: ys)) else lcGo t cond elt (ds.drop (i + 1))) : C (List D)) M5).bnd (fun ys m => Out.ok (ds' ++ ys) m) = (((calm (elt l)) M5).bnd fun y m => (lcGo t cond elt (ds.drop (i + 1)) m).bnd fun ys m => .ok (ds' ++ (y :: ys)) m) := by
                rw [if_pos rfl, C.run_bind]
                cases (calm (elt l)) M5 with
                | ok y m =>
                  show Out.bnd (Out.bnd (lcGo t cond elt (ds.drop (i + 1)) m) _) _ = Out.bnd (lcGo t cond elt (ds.drop (i + 1)) m) _
                  cases lcGo t cond elt (ds.drop (i + 1)) m <;> rfl
                | exc _ _ _ => rfl
                | no => rfl
              have f5' : FitO K W ρ σ ι1 H1 ((((if true = true then (do let y ← calm (elt l); let ys ← lcGo t cond elt (ds.drop (i + 1)); pure (y :: ys)) else lcGo t cond elt (ds.drop (i + 1))) : C (List D)) M5).bnd (fun ys m => Out.ok (ds' ++ ys) m)) Q := f5
              rw [z] at f5'; exact f5'
            cases ee : elt l M5 with
            | no => unfold calm at f6; rw [ee] at f6; exact (show False from f6).elim
            | exc c d M1 => unfold calm at f6; rw [ee] at f6; exact (show False from f6).elim
            | ok yd M7 =>
              have hcal : calm (elt l) M5 = .ok yd M7 := by unfold calm; rw [ee]
              rw [hcal] at f6
              intro ι7 yv H7 e7 r7 q7
              obtain ⟨z1, z2, z3, z4, z5⟩ := back (e5.trans e7) r7
              obtain ⟨b1, b2, b3⟩ := z1.by_ (o := .lst (acc ++ [yv])) z3 hnO z4
              refine ⟨acc, z3, ?_, ι7, M7, acc ++ [yv], ds' ++ [yd], b1, ext_by z2 (.inl hD) z3, upd_same, z4, b3 _ _ (z5.append (.one q7.str)), ?_, ?_⟩
              · rw [← z5.length]; show _ < 2 ^ 24; omega
              · rw [List.length_append]; simp; omega
              · have : (fun (ys : List D) (m : Mem) => Out.ok (ds' ++ (yd :: ys)) m) = fun ys m => Out.ok (ds' ++ [yd] ++ ys) m := by funext ys m; simp
                have f7 : FitO K W ρ σ ι1 H1 ((lcGo t cond elt (ds.drop (i + 1)) M7).bnd fun ys m => .ok (ds' ++ (yd :: ys)) m) Q := f6
                rw [this] at f7; exact f7
    · rw [List.drop_length] at f3
      have f4 : FitO K W ρ σ ι1 H1 (.ok (ds' ++ []) M2) Q := f3
      rw [List.append_nil] at f4
      exact f4 ι2 Dn acc H2 e2 r2.unwipe (.inl hD) hn2 hD2 q2
end
section
variable {X : Cx} {W : WX} {ρ : List Sl} {w : Bool} {elt tg iter : Expr} {ifs : List Expr} {scope : Scope} {own : List (Str × Nat)} {pos : Pos} {ci : C (List D)} {is : List Nat} {t : Tg} {cond : List D → C Bool} {ce : List D → C D}
abbrev Xb (X : Cx) (scope : Scope) (s : Shared) (H : Hp) (C : Addr) (cl : List (Str × Addr)) (fp : List Addr) : Cx := X.blk s H scope (compEnvC scope cl C X.env) fp
def DTs (X : Cx) (ρ : List Sl) (is : List Nat) (ifs : List Expr) (cond : List D → C Bool) : Prop := PTs X ifs (tTs X.K ρ is cond)
theorem dts_nil {is : List Nat} : DTs X ρ is [] yesC := ⟨fun pins s σ H Q I ⟨l, ι, M, r, f⟩ => pts_nil.run pins s σ H Q I ((show FitB X.K W0 _ σ ι H (.ok true M) Q from f).val r)⟩
theorem dts_one {is : List Nat} {c : Expr} (h : ∀ l, l.length = is.length → DT X W0 (sets ρ is l) c (cond l)) : DTs X ρ is [c] cond := ⟨fun pins s σ H Q I ⟨l, q⟩ => (pts_one (h l.1 l.2)).run pins s σ H Q I q⟩
theorem do_lc (hc : X.calm = true) (hN : X.N.Nodup) (hi : DI w X W ρ tg iter ci) (ok : BlkOk X.N X.env.scope scope own) (hno : noAll ρ (own.map (·.2))) (hsub : ∀ j ∈ is, j ∈ own.map (·.2))
    (ht : ∀ s H C cl fp, DTg (Xb X scope s H C cl fp) tg is t) (hcd : ∀ s H C cl fp, DTs (Xb X scope s H C cl fp) ρ is ifs cond) (he : ∀ s H C cl fp l, l.length = is.length → DE (Xb X scope s H C cl fp) W0 (sets ρ is l) elt (ce l))
    (hs : ∀ x, foldedSetIterable iter X.env x = pure x := by intro _; rfl) : DO X W ρ (.ListComp elt [⟨tg, iter, ifs, 0⟩] scope pos) (lcC ci t cond ce) := by
  refine ⟨fun pins s σ H Q I q => ?_⟩
  have tl := (ht s H 0 [] []).choose_spec.2.1
  refine (pe_lc (g := tG X.K is t) (tt := tTs X.K ρ is cond) (te := tEs X.K ρ is ce) hc hN hi ok (fun s H C cl fp => (ht s H C cl fp).pg) hcd (fun s H C cl fp => ?_) hs).run pins s σ H Q I (lc_imp tl hno hsub q)
  exact ⟨fun pins s' σ H' Q I ⟨l, z⟩ => (he s H C cl fp l.1 l.2).run pins s' σ H' Q I z⟩
variable {β : Type} {I : β → Fin} {rest : List Stmt} {spos : Pos}
/-- x = [..] -/
theorem db_setLc {i : Nat} {y : Str} {py : Pos} {k : List D → C β} (hc : X.calm = true) (hN : X.N.Nodup) (hi : DI w X W ρ tg iter ci) (ok : BlkOk X.N X.env.scope scope own) (hno : noAll ρ (own.map (·.2))) (hsub : ∀ j ∈ is, j ∈ own.map (·.2))
    (ht : ∀ s H C cl fp, DTg (Xb X scope s H C cl fp) tg is t) (hcd : ∀ s H C cl fp, DTs (Xb X scope s H C cl fp) ρ is ifs cond) (he : ∀ s H C cl fp l, l.length = is.length → DE (Xb X scope s H C cl fp) W0 (sets ρ is l) elt (ce l))
    (hr : ∀ a ds, DB X W (ρ.set i (.own a ds)) I rest (k ds))
    (hy : X.N[i]? = some y := by rfl) (hyl : X.env.scope.names.lookup y = some .local := by rfl)
    (hsw : swapsWith (.ListComp elt [⟨tg, iter, ifs, 0⟩] scope pos) (some (.Name y py)) spos.line X.env = pure true := by rfl)
    (hs : ∀ x, foldedSetIterable iter X.env x = pure x := by intro _; rfl) :
    DB X W ρ I (.Assign [.Name y py] (.ListComp elt [⟨tg, iter, ifs, 0⟩] scope pos) spos :: rest) (lcC ci t cond ce >>= k) := by
  refine ⟨fun pins s σ H E J q => ?_⟩
  have tl := (ht s H 0 [] []).choose_spec.2.1
  have p := ps_setLc (pos := pos) (spos := spos) (elt := elt) (py := py) (g := tG X.K is t) (tt := tTs X.K ρ is cond) hc hN hy hyl hsw hi ok (fun s H C cl fp => (ht s H C cl fp).pg) hcd (te := tEs X.K ρ is ce) (fun s H C cl fp => ⟨fun pins s' σ H' Q I ⟨l, z⟩ => (he s H C cl fp l.1 l.2).run pins s' σ H' Q I z⟩) hs
  refine (pss_cons p (pss_any fun a => pss_any (hr a))).run pins s σ H E J ?_
  obtain ⟨ι, M, sr, f⟩ := q
  show tLc (tI X.K W w ρ ci) (tG X.K is t) (tTs X.K ρ is cond) (tEs X.K ρ is ce) (own.map (·.2)) σ H fun x H1 => gName i x σ H1 fun σ H => ∃ a ds, tS X.K W (ρ.set i (.own a ds)) I (k ds) E σ H
  refine lc_imp tl hno hsub ?_
  obtain ⟨ι0, M0, r0, f0⟩ := seqOS sr f
  refine ⟨ι0, M0, r0, ?_⟩
  cases ec : lcC ci t cond ce M0 with
  | ok ds M1 =>
    rw [ec] at f0
    intro ι1 p xs H1 e1 r1 h1 h2 h3 q1
    obtain ⟨ds', ι1', M1', p', xs', ep, e1', r1', h1', h2', h4', h3', q1', f1⟩ := f0 ι1 p xs H1 e1 r1 h1 h2 h3 q1
    cases ep
    exact ⟨p, ds', ι1', M1', r1'.setO h4' h2' h3' q1', FitS.take e1' h1' f1⟩
  | exc c d M1 => rw [ec] at f0; exact f0
  | no => rw [ec] at f0; exact f0
end
end Fw
set_option Elab.async false
set_option linter.all false
set_option maxRecDepth 100000
set_option maxHeartbeats 1000000
namespace Fw
open PySem PySem.Spec L2

/-! ### what a def computes -/
abbrev NoO : Addr → Prop := fun _ => False
def FitFn (K : PySem.W.Frag) (ι : List Addr) (H : Hp) : Out D → VK → XK → Prop
  | .ok d M', Q, _ => ∀ ι' v H', Ex NoO ι H NoO ι' H' → GR K ι' M' H' → Rp K ι' H' d v → Q v H'
  | .exc c d M', _, E => ∀ ι' cls dct H', Ex NoO ι H NoO ι' H' → GR K ι' M' H' → XR K ι' H' c d cls dct → E cls dct H'
  | .no, _, _ => False
def spM (K : PySem.W.Frag) (n : Nat) (m : List D → C D) : Sp := fun vs H Q E => ∃ ι M ds, vs.length = n ∧ RpL K ι H ds vs ∧ GR K ι M H ∧ FitFn K ι H (m ds M) Q E
/-- room for k levels; where g, no repr is under way -/
structure Rm (g : Bool) (k : Nat) (A : Around) : Prop where
  room : Room k A
  gd : g = true → A.guards = some []
theorem Rm.mono {g : Bool} {j k : Nat} {A : Around} (r : Rm g k A) (h : j ≤ k) : Rm g j A := ⟨r.room.mono h, r.gd⟩
theorem Rm.plain {g : Bool} {k : Nat} {A : Around} (r : Rm g k A) : Rm false k A := ⟨r.room, fun z => by cases z⟩
theorem Rm.of {k : Nat} {A : Around} (r : Room k A) : Rm false k A := ⟨r, fun z => by cases z⟩
/-- a def's run, at a state with room -/
structure FnC (P : Program) (w : World) (K : PySem.W.Frag) (mg : Str → Option Value) (base : Heap) (g : Bool) (k : Nat) (f : Addr) (fd : FuncData) (ps : List Str) (sp : Sp) : Prop where
  len : ∀ vs H Q E, sp vs H Q E → vs.length = ps.length
  run : ∀ (A : Around) (outer : List Env) (s : Shared) (H : Hp) (args : Args) (us : List Value) (vs : List V) (Q : VK) (E : XK), Rm g k A → Env0 P w K mg base A outer s H → BindsTo s fd args (ps.zip us) → Vals vs us → sp vs H Q E →
    codeAny (model P w) A (.call (.ref f) args) (CR (L2.CX P w) outer P w H s Q E) s
theorem FnC.ok {P : Program} {w : World} {K : PySem.W.Frag} {mg : Str → Option Value} {base : Heap} {k : Nat} {f : Addr} {fd : FuncData} {ps : List Str} {sp : Sp} (F : FnC P w K mg base false k f fd ps sp) : FnOk P w K mg base (L2.CX P w) k f fd ps sp :=
  ⟨F.len, fun A outer s H args us vs Q E hr => F.run A outer s H args us vs Q E (.of hr)⟩
/-- the module's def x computes m -/
def Fn (P : Program) (w : World) (K : PySem.W.Frag) (mg : Str → Option Value) (base : Heap) (g : Bool) (k : Nat) (x : Str) (ps : List Str) (m : List D → C D) : Prop :=
  ∃ f fd, mg x = some (.ref f) ∧ PySem.W.keepIn K (.ref f) = true ∧ Binds K fd ps [] ∧ FnC P w K mg base g k f fd ps (spM K ps.length m)
theorem Fn.mono {P : Program} {w : World} {K : PySem.W.Frag} {mg : Str → Option Value} {base : Heap} {g : Bool} {j k : Nat} {x : Str} {ps : List Str} {m : List D → C D} (h : Fn P w K mg base g j x ps m) (l : j ≤ k) : Fn P w K mg base g k x ps m := by
  obtain ⟨f, fd, h1, h2, h3, h4⟩ := h
  exact ⟨f, fd, h1, h2, h3, ⟨h4.len, fun A outer s H args us vs Q E hr => h4.run A outer s H args us vs Q E (hr.mono l)⟩⟩
theorem Fn.up {P : Program} {w : World} {K : PySem.W.Frag} {mg : Str → Option Value} {base : Heap} {g : Bool} {k : Nat} {x : Str} {ps : List Str} {m : List D → C D} (h : Fn P w K mg base false k x ps m) : Fn P w K mg base g k x ps m := by
  obtain ⟨f, fd, h1, h2, h3, h4⟩ := h
  exact ⟨f, fd, h1, h2, h3, ⟨h4.len, fun A outer s H args us vs Q E hr => h4.run A outer s H args us vs Q E hr.plain⟩⟩
/-- the slots at a def's entry -/
def slots (N : List Str) (ds : List D) : List Sl := ds.map Sl.val ++ List.replicate (N.length - ds.length) Sl.no
section
variable {K : PySem.W.Frag} {W : WX} {ρ : List Sl} {σ : L2.St} {ι ι' : List Addr} {M M' : Mem} {H H' : Hp} {w : Bool}
theorem no_mut : ∀ b, NoO b → MutK H b := fun _ z => z.elim
theorem SR.call (r : SR K ι M H σ ρ) (e : Ex NoO ι H NoO ι' H') (g : GR K ι' M' H') : SR K ι' M' H' σ ρ ∧ Ext ρ ι H ι' H' := by
  refine ⟨⟨g, r.len, fun i s hs => ?_, r.apart⟩, ⟨e.pre, e.newc, fun b hb => .inl hb, fun b o h1 h2 _ h4 => e.keep b o h1 h2 (fun z => z) h4, e.free⟩⟩
  obtain ⟨o, h1, h2⟩ := r.sl i s hs
  refine ⟨o, h1, ?_⟩
  cases s with
  | no => trivial
  | val d =>
    obtain ⟨v, e1, e2⟩ := h2
    exact ⟨v, e1, Rp.ex e no_mut _ _ e2⟩
  | own a ds =>
    obtain ⟨e1, n1, xs, e3, e4⟩ := h2
    refine ⟨e1, fun z => ?_, xs, e.keep _ _ e3 n1 (fun z => z) (fun _ z => by cases z), RpL.ex e no_mut _ _ e4⟩
    rcases e.newc _ z with z | z
    · exact n1 z
    · exact z.no e3 nt_lst
theorem fit_fn {o : Out D} {Q : VK} (r : SR K ι M H σ ρ) (f : Fit K W ρ w σ ι H o Q) : FitFn K ι H o Q (WE W σ) := by
  cases o with
  | no => exact f
  | ok d M' => exact fun ι' v H' e g q => f ι' v H' (r.call e g).2 (r.call e g).1 (.of q)
  | exc c d M' => exact fun ι' cls dct H' e g q => f ι' cls dct H' (r.call e g).2 (r.call e g).1 q
end
def callM (m : List D → C D) (cs : List (C D)) : C D := args cs >>= m
section
variable {X : Cx} {W : WX} {ρ : List Sl} {w : Bool} {e : Expr} {es : List Expr} {c : C D} {cs : List (C D)} {x : Str} {p pos : Pos} {ps : List Str} {m : List D → C D} {k : Nat}
/-- the callee runs; what it lets out is wished for at the caller's slots -/
theorem run_c {g : Bool} {f : Addr} {fd : FuncData} {sp : Sp} {pins : List (Addr × Obj)} {σ : L2.St} {H : Hp} {s : Shared} {Q : VK} {args : Args} {us : List Value} {vs : List V} (F : FnC X.prog X.w X.K X.mg X.base g k f fd ps sp) (hr : Rm g k X.A) (tk : Takes X W)
    (I : Inv X pins σ H s) (hb : BindsTo s fd args (ps.zip us)) (r : Vals vs us) (h : sp vs H Q (WE W σ)) : codeAny (model X.prog X.w) X.A (.call (.ref f) args) (fun r s' => match r with
      | .ok (.ret u) => EP X pins σ Q u s'
      | .ok _ => False
      | .error e => X.xe e s') s := by
  refine codeAny_mono (F.run X.A X.stack s H args us vs Q (WE W σ) hr I.env0 hb r h) fun r s' hq => ?_
  cases r with
  | error e => exact passAt tk σ pins H s e s' I hq
  | ok fl => cases fl with
    | ret u => exact I.after hq
    | next => exact hq
    | brk => exact hq
    | cont => exact hq
theorem call_c {f : Addr} {pins : List (Addr × Obj)} {σ : L2.St} {s : Shared} {Q : VK} {us : List Value} {kw : List (Str × Value)} (h : codeAny (model X.prog X.w) X.A (.call (.ref f) ⟨us, kw⟩) (fun r s' => match r with
      | .ok (.ret u) => EP X pins σ Q u s'
      | .ok _ => False
      | .error e => X.xe e s') s) : wpAny (model X.prog X.w) X.A (PySem.call (.ref f) us kw) (EP X pins σ Q) X.xe s := by
  refine wpAny_call (codeAny_mono h fun r s' hq => ?_)
  cases r with
  | error e => exact hq
  | ok fl => cases fl <;> first | exact hq | exact hq.elim
theorem de_call {g : Bool} (h : Fn X.prog X.w X.K X.mg X.base g k x ps m) (hr : Rm g k X.A) (tk : Takes X W) (ha : DA false X W ρ (e :: es) (args (c :: cs))) (hlen : ps.length = (c :: cs).length := by rfl) (hg : Gl X x := by rfl) (hdb : (x == ("__debug__" : Str)) = false := by decide)
    (he : starEach (e :: es) X.env = (false, eval e X.env) :: starEach es X.env := by rfl) (hpl : (backTo pos (starEach es X.env)).any (·.1) = false := by rfl) :
    DG w X W ρ (.Call (.Name x p) (e :: es) [] pos) (callM m (c :: cs)) := by
  obtain ⟨f, fd, h1, h2, h3, h4⟩ := h
  refine dv ⟨fun pins s σ H Q I ⟨ι, M, sr, f0⟩ => ?_⟩
  refine wpAny_Call_Name_kw (ld_glob I hg h1 ?_ hdb)
  refine PySem.W.callWith_K (h₀ := X.base) I.ok.mod.kin h2 (thn (ha.run pos pins s σ H _ I (tA.lenR sr f0)) fun us s1 ⟨vs, H1, I1, r, hl, ds, ι1, M1, e1, r1, q1, f1⟩ => ⟨I1.kIn, ?_⟩) he hpl
  have hus : us.length = ps.length := by rw [← r.length, hl, hlen]
  have b := h3 s1 us I1.kIn (by rw [List.append_nil]; exact hus)
  rw [List.append_nil] at b
  exact call_c (run_c h4 hr tk I1 b r ⟨ι1, M1, ds, by rw [hl, hlen], q1.str, r1.gr, fit_fn r1 f1⟩)
theorem de_call0 {g : Bool} (h : Fn X.prog X.w X.K X.mg X.base g k x [] m) (hr : Rm g k X.A) (tk : Takes X W) (hg : Gl X x := by rfl) (hdb : (x == ("__debug__" : Str)) = false := by decide) :
    DG w X W ρ (.Call (.Name x p) [] [] pos) (callM m []) := by
  obtain ⟨f, fd, h1, h2, h3, h4⟩ := h
  refine dv ⟨fun pins s σ H Q I ⟨ι, M, sr, q⟩ => ?_⟩
  refine wpAny_Call_Name_kw (ld_glob I hg h1 ?_ hdb)
  refine PySem.W.callWith_K0 I.kIn h2 (call_c (run_c h4 hr tk I (h3 s [] I.kIn rfl) .nil ⟨ι, M, [], rfl, .nil, sr.gr, ?_⟩))
  have f1 : Fit X.K W ρ false σ ι H (m [] M) Q := q
  exact fit_fn sr f1
end
theorem takes_cx {P : Program} {w : World} {K : PySem.W.Frag} {mg : Str → Option Value} {base : Heap} {N : List Str} {qual : Str} {scope : Scope} {f : Addr} {cd : Value} {A : Around} {outer : List Env} {s : Shared} {H : Hp} {E : XK} :
    Takes (cxOf (L2.CX P w) P w K mg base N qual scope f cd A outer s H E) (fun cls d _ H => E cls d H) := takes_of rfl rfl rfl rfl
theorem passes_cx {P : Program} {w : World} {K : PySem.W.Frag} {mg : Str → Option Value} {base : Heap} {N : List Str} {qual : Str} {scope : Scope} {f : Addr} {cd : Value} {A : Around} {outer : List Env} {s : Shared} {H : Hp} {E : XK} :
    PassesOwn (model P w) (cxOf (L2.CX P w) P w K mg base N qual scope f cd A outer s H E).A (cxOf (L2.CX P w) P w K mg base N qual scope f cd A outer s H E).env (cxOf (L2.CX P w) P w K mg base N qual scope f cd A outer s H E).xe := passes_of (X := cxOf (L2.CX P w) P w K mg base N qual scope f cd A outer s H E) rfl
theorem takes_w0 {X : Cx} : Takes X W0 := fun u s' ⟨_, _, _, _, _, _, _, _, _, _, _, _, _, _, _, _, z⟩ => z.elim
section
variable {P : Program} {w : World} {K : PySem.W.Frag} {mg : Str → Option Value} {base : Heap}
theorem SR.start {N : List Str} {ι : List Addr} {M : Mem} {H : Hp} {ds : List D} {vs : List V} (g : GR K ι M H) (l : RpL K ι H ds vs) : SR K ι M H (L2.start N vs) (slots N ds) := by
  have hl := l.length
  refine ⟨g, by unfold L2.start slots; simp [hl], fun i s hs => ?_, fun i j es fs a h1 h2 => ?_⟩
  · unfold slots at hs
    unfold L2.start
    by_cases hi : i < ds.length
    · rw [List.getElem?_append_left (by simpa using hi), List.getElem?_map] at hs
      rw [List.getElem?_append_left (by simpa [← hl] using hi), List.getElem?_map]
      cases e : ds[i]? with
      | none => rw [e] at hs; cases hs
      | some d =>
        rw [e] at hs; cases hs
        obtain ⟨v, h1, h2⟩ := l.get e
        exact ⟨some v, by rw [h1]; rfl, v, rfl, h2⟩
    · rw [List.getElem?_append_right (by simpa using Nat.le_of_not_lt hi)] at hs
      rw [List.getElem?_append_right (by simpa [← hl] using Nat.le_of_not_lt hi)]
      rw [List.getElem?_replicate] at hs
      split at hs
      · cases hs
        exact ⟨none, by rw [List.getElem?_replicate, if_pos]; simp at *; omega, trivial⟩
      · cases hs
  · unfold slots at h1
    by_cases hi : i < ds.length
    · rw [List.getElem?_append_left (by simpa using hi), List.getElem?_map] at h1
      cases e : ds[i]? with
      | none => rw [e] at h1; cases h1
      | some d => rw [e] at h1; cases h1
    · rw [List.getElem?_append_right (by simpa using Nat.le_of_not_lt hi), List.getElem?_replicate] at h1
      split at h1 <;> cases h1
theorem slots_own {N : List Str} {ds : List D} {b : Addr} : ¬ Own (slots N ds) b := fun ⟨i, es, h⟩ => by
  unfold slots at h
  by_cases hi : i < ds.length
  · rw [List.getElem?_append_left (by simpa using hi), List.getElem?_map] at h
    cases e : ds[i]? with
    | none => rw [e] at h; cases h
    | some d => rw [e] at h; cases h
  · rw [List.getElem?_append_right (by simpa using Nat.le_of_not_lt hi), List.getElem?_replicate] at h
    split at h <;> cases h
theorem fit_body {N : List Str} {ds : List D} {ι : List Addr} {H : Hp} {o : Out D} {Q : VK} {E : XK} (hf : FitFn K ι H o Q E) : FitS K (fun cls d _ H => E cls d H) (slots N ds) ι H Fin.fn o { nx := fun _ H' => Q .non H', rt := Q } := by
  have up : ∀ {ι' : List Addr} {H' : Hp}, Ex (Own (slots N ds)) ι H (fun _ => False) ι' H' → Ex NoO ι H NoO ι' H' := fun e => ⟨e.pre, e.newc, fun _ z => z.elim, fun b o h1 h2 h3 h4 => e.keep b o h1 h2 slots_own h4, e.free⟩
  cases o with
  | no => exact hf
  | exc c d M' => exact fun ι' σ' cls dct H' e g x => hf ι' cls dct H' (up e) g x
  | ok d M' =>
    refine ⟨fun ι' v H' e g q => hf ι' v H' (up e) g q, fun hd ι' σ' H' e g => ?_⟩
    subst hd
    exact hf ι' .non H' (up e) g .non
/-- the context of a def's body -/
abbrev cxB (P : Program) (w : World) (K : PySem.W.Frag) (mg : Str → Option Value) (base : Heap) (N : List Str) (qual : Str) (scope : Scope) (f : Addr) (cd : Value) (A : Around) (outer : List Env) (s : Shared) (H : Hp) (E : XK) : Cx := cxOf (L2.CX P w) P w K mg base N qual scope f cd A outer s H E
/-- a def by its body -/
theorem Fn.of_body {x qual : Str} {params : Arguments} {body : List Stmt} {scope : Scope} {f : Addr} {fd : FuncData} {N ps : List Str} {g : Bool} {k : Nat} {m : List D → C D} (F : FunD K x qual params body scope [] [] f fd) (hm : mg x = some (.ref f)) (S : FnScope N ps scope) (b : Binds K fd ps [])
    (hb : ∀ (cdv : Value) (A : Around) (outer : List Env) (s : Shared) (H : Hp) (E : XK), Rm g k (A.deeper (PyProof.Rows.envOfC qual scope s.heap.objs.size f cdv)) → ∀ ds, ds.length = ps.length →
      DB (cxB P w K mg base N qual scope f cdv A outer s H E) (fun cls d _ H => E cls d H) (slots N ds) Fin.fn body (m ds)) : Fn P w K mg base g (k + 1) x ps m := by
  obtain ⟨oc, od, dV, kV, doc, pm, an, cdv, ct, osl, rfl, lk, hcd, _, _⟩ := F.ex
  refine ⟨f, _, hm, F.kp, b, ⟨fun vs H Q E ⟨_, _, _, h, _⟩ => h, fun A outer s H args us vs Q E hr e0 hbn r ⟨ι, M, ds, hl, hrp, hg, hf⟩ => ?_⟩⟩
  refine LamX.run_ofS lk hcd S hr.room e0 hbn r hl fun hr' => ⟨_, hb cdv A outer s H E ⟨hr', hr.gd⟩ ds (by rw [hrp.length, hl]), ι, M, SR.start hg hrp, fit_body hf⟩
end
end Fw
set_option Elab.async false
set_option linter.all false
set_option maxRecDepth 100000
set_option maxHeartbeats 1000000
namespace Fw
open PySem PySem.Spec L2

section
variable {K : PySem.W.Frag} {W : WX} {ρ : List Sl} {σ : L2.St} {ι : List Addr} {M : Mem} {H : Hp} {w : Bool}
theorem Fit.someD {o : Option D} {Q : VK} (f : Fit K W ρ w σ ι H (lift o M) Q) : ∃ a, o = some a ∧ Fit K W ρ w σ ι H (.ok a M) Q := by
  cases o with
  | none => exact (show False from f).elim
  | some a => exact ⟨a, rfl, f⟩
theorem FitB.someB {o : Option Bool} {Q : Bool → Hp → Prop} (f : FitB K W ρ σ ι H (lift o M) Q) : ∃ a, o = some a ∧ FitB K W ρ σ ι H (.ok a M) Q := by
  cases o with
  | none => exact (show False from f).elim
  | some a => exact ⟨a, rfl, f⟩
theorem RpB.blE {i : Bool} {v : V} (h : RpB w K ρ ι H (.bl i) v) : v = .bl i := by
  rcases h with h | ⟨_, _, _, _, _, z, _⟩
  · exact h.blE
  · cases z
theorem RpB.strE {i : Str} {v : V} (h : RpB w K ρ ι H (.str i) v) : v = .str i := by
  rcases h with h | ⟨_, _, _, _, _, z, _⟩
  · exact h.strE
  · cases z
theorem RpB.nonE {v : V} (h : RpB w K ρ ι H .non v) : v = .non := by
  rcases h with h | ⟨_, _, _, _, _, z, _⟩
  · exact h.nonE
  · cases z
def D.isNon : D → Bool
  | .non => true
  | _ => false
/-- the value is None just if the data is -/
theorem RpB.isNon {d : D} {v : V} (h : RpB w K ρ ι H d v) : decide (v = .non) = d.isNon := by
  rcases h with h | ⟨_, _, a, _, _, rfl, rfl⟩
  · cases d <;> unfold Rp at h
    case non => subst h; rfl
    case bl => subst h; rfl
    case int => subst h; rfl
    case str => subst h; rfl
    case tup => obtain ⟨a, _, rfl, _⟩ := h; rfl
    case lst => obtain ⟨a, _, rfl, _⟩ := h; rfl
    case dic => obtain ⟨a, _, rfl, _⟩ := h; rfl
    case cell => obtain ⟨a, rfl, _⟩ := h; rfl
    case exc => obtain ⟨a, _, _, rfl, _⟩ := h; rfl
  · rfl
theorem RpL.ints {ds : List D} : ∀ {vs : List V} {ns : List Int}, RpL K ι H ds vs → ds = ns.map D.int → vs = ns.map V.int := by
  intro vs ns
  induction ns generalizing ds vs with
  | nil => intro l e; subst e; exact l.nilE
  | cons n ns ih =>
    intro l e; subst e
    obtain ⟨y, ys, rfl, r, l⟩ := l.consE
    rw [r.intE, ih l rfl]; rfl
theorem RpL.bools {ds : List D} : ∀ {vs : List V} {ns : List Bool}, RpL K ι H ds vs → ds = ns.map D.bl → vs = ns.map V.bl := by
  intro vs ns
  induction ns generalizing ds vs with
  | nil => intro l e; subst e; exact l.nilE
  | cons n ns ih =>
    intro l e; subst e
    obtain ⟨y, ys, rfl, r, l⟩ := l.consE
    rw [r.blE, ih l rfl]; rfl
end

/-! ### numbers -/
def D.i2 (g : Int → Int → Option Int) : D → D → Option D
  | .int i, .int j => (g i j).map .int
  | _, _ => none
theorem i2_eq {g : Int → Int → Option Int} {d e r : D} (h : D.i2 g d e = some r) : ∃ i j k, d = .int i ∧ e = .int j ∧ g i j = some k ∧ r = .int k := by
  unfold D.i2 at h
  split at h
  · cases hg : g _ _ with
    | none => rw [hg] at h; cases h
    | some k => rw [hg] at h; cases h; exact ⟨_, _, k, rfl, rfl, hg, rfl⟩
  · cases h
def gSub (i j : Int) : Option Int := some (i - j)
def gMul (i j : Int) : Option Int := if i.natAbs.log2 + j.natAbs.log2 < 1000000 then some (i * j) else none
def gDiv (i j : Int) : Option Int := if j ≠ 0 ∧ j.natAbs.log2 < 9000 then some (i.fdiv j) else none
def gMod (i j : Int) : Option Int := if j ≠ 0 then some (i.fmod j) else none
def gPow (i j : Int) : Option Int := if 0 ≤ j ∧ (Builtin.Int.intBits i : Int) * j ≤ 2 ^ 27 then some (i ^ j.toNat) else none
def D.sub := D.i2 gSub
def D.div := D.i2 gDiv
def D.mod := D.i2 gMod
def D.pow := D.i2 gPow
def D.mul := D.i2 gMul
def D.add : D → D → Option D
  | .int i, .int j => some (.int (i + j))
  | .lst a, .lst b => if a.length + b.length ≤ 2 ^ 24 then some (.lst (a ++ b)) else none
  | .tup a, .tup b => if a.length + b.length ≤ 2 ^ 24 then some (.tup (a ++ b)) else none
  | .str a, .str b => if a.length + b.length ≤ 2 ^ 24 then some (.str (a ++ b)) else none
  | _, _ => none
theorem add_eq {d e r : D} (h : D.add d e = some r) : (∃ i j, d = .int i ∧ e = .int j ∧ r = .int (i + j)) ∨ (∃ a b, d = .lst a ∧ e = .lst b ∧ a.length + b.length ≤ 2 ^ 24 ∧ r = .lst (a ++ b)) ∨
    (∃ a b, d = .tup a ∧ e = .tup b ∧ a.length + b.length ≤ 2 ^ 24 ∧ r = .tup (a ++ b)) ∨ (∃ a b, d = .str a ∧ e = .str b ∧ a.length + b.length ≤ 2 ^ 24 ∧ r = .str (a ++ b)) := by
  unfold D.add at h
  split at h
  · cases h; exact .inl ⟨_, _, rfl, rfl, rfl⟩
  · split at h
    · cases h; exact .inr (.inl ⟨_, _, rfl, rfl, by assumption, rfl⟩)
    · cases h
  · split at h
    · cases h; exact .inr (.inr (.inl ⟨_, _, rfl, rfl, by assumption, rfl⟩))
    · cases h
  · split at h
    · cases h; exact .inr (.inr (.inr ⟨_, _, rfl, rfl, by assumption, rfl⟩))
    · cases h
  · cases h
section
variable {X : Cx}
theorem od_i2 {f : Value → Value → Sem Value} {P : Int → Int → Prop} {h : Int → Int → Int} {g : Int → Int → Option Int} (ho : OpR X f (rI P fun i j => .int (h i j))) (hg : ∀ i j k, g i j = some k → P i j ∧ k = h i j) : OpD X f (D.i2 g) := by
  refine ⟨_, ho, fun {W ρ σ ι M H x y d e Q} r rx ry f => ?_⟩
  obtain ⟨a, ha, f1⟩ := f.someD
  obtain ⟨i, j, k, rfl, rfl, hk, rfl⟩ := i2_eq ha
  rw [rx.intE, ry.intE]
  obtain ⟨hp, rfl⟩ := hg i j k hk
  exact ⟨i, j, rfl, rfl, hp, .inl (f1.val r .int)⟩
theorem od_sub : OpD X (binaryOp .Sub) D.sub := by
  refine ⟨_, op_sub, fun {W ρ σ ι M H x y d e Q} r rx ry f => ?_⟩
  obtain ⟨a, ha, f1⟩ := f.someD
  obtain ⟨i, j, k, rfl, rfl, hk, rfl⟩ := i2_eq ha
  cases hk
  rw [rx.intE, ry.intE]
  exact ⟨i, j, rfl, rfl, .inl (f1.val r .int)⟩
theorem od_mul : OpD X (binaryOp .Mult) D.mul := od_i2 op_mulW fun i j k h => by
  unfold gMul at h
  split at h
  · cases h; exact ⟨by assumption, rfl⟩
  · cases h
theorem od_mod : OpD X (binaryOp .Mod) D.mod := od_i2 op_modN fun i j k h => by
  unfold gMod at h
  split at h
  · cases h; exact ⟨by assumption, rfl⟩
  · cases h
theorem op_divG : OpR X (binaryOp .FloorDiv) (rI (fun _ j => j ≠ 0 ∧ j.natAbs.log2 < 9000) fun i j => .int (i.fdiv j)) := opI fun _ _ _ _ _ _ _ hc q => PyProof.Rows.floordiv_int hc.1 q (.inl (PyProof.noPylong_of_log2 hc.2))
theorem od_div : OpD X (binaryOp .FloorDiv) D.div := od_i2 op_divG fun i j k h => by
  unfold gDiv at h
  split at h
  · cases h; exact ⟨by assumption, rfl⟩
  · cases h
theorem op_powG : OpR X (binaryOp .Pow) (rI (fun i j => 0 ≤ j ∧ (Builtin.Int.intBits i : Int) * j ≤ 2 ^ 27) fun i j => .int (i ^ j.toNat)) := opI fun _ _ _ _ _ _ _ hc q => PyProof.Rows.pow_int hc.1 hc.2 q
theorem od_pow : OpD X (binaryOp .Pow) D.pow := od_i2 op_powG fun i j k h => by
  unfold gPow at h
  split at h
  · cases h; exact ⟨by assumption, rfl⟩
  · cases h
/-- list + list, of any that may be read -/
def rCatS (K : PySem.W.Frag) : R2 := fun x y H Q => ∃ l b xs zs, x = .ref l ∧ y = .ref b ∧ SqL K H l xs ∧ SqL K H b zs ∧ xs.length + zs.length ≤ sizeLine ∧ ∀ p, H p = none → Q (.ref p) (upd H p (.lst (xs ++ zs)))
theorem op_catS : OpR X (binaryOp .Add) (rCatS X.K) := by
  intro pins s σ H x y v u Q I rx ry h
  obtain ⟨l, b, xs, zs, rfl, rfl, hl, hb, hz, q⟩ := h
  cases rx
  cases ry
  obtain ⟨its, r, ⟨⟨oc, od, dt, sl⟩, n, e, hc, hd, hs⟩, _⟩ := I.list hl
  obtain ⟨its2, r2, ⟨⟨oc2, od2, dt2, sl2⟩, n2, e2, hc2, hd2, hs2⟩, _⟩ := I.list hb
  simp only at hc hd hs hc2 hd2 hs2
  subst hc hd hs hc2 hd2 hs2
  have l1 := r.length
  have l2 := r2.length
  refine PySem.concat_meets ⟨_, e, rfl⟩ ⟨_, e2, rfl⟩ noFill_list_add seq_list_add PySem.F.slot_list_add PySem.F.entry_list_add (PySem.F.args_list_add_2 _ _) (PyProof.Rows.list_addW l b its.toArray its2.toArray n n2 none none sl sl2 (by simp only [List.size_toArray]; omega)) ⟨e, e2, ?_⟩
  have ea : its.toArray ++ its2.toArray = (its ++ its2).toArray := by simp
  rw [ea]
  exact ⟨.ref _, _, I.lnew (t' := s.toks) (r.append r2) (by rw [List.length_append]; omega), rfl, q _ I.fresh⟩
theorem od_add : OpD X (binaryOp .Add) D.add := by
  refine ⟨_, (op_add.or op_catS).or (op_catA.or op_add_str), fun {W ρ σ ι M H x y d e Q} r rx ry f => ?_⟩
  obtain ⟨a, ha, f1⟩ := f.someD
  rcases add_eq ha with ⟨i, j, rfl, rfl, rfl⟩ | ⟨as, bs, rfl, rfl, hz, rfl⟩ | ⟨as, bs, rfl, rfl, hz, rfl⟩ | ⟨i, j, rfl, rfl, hz, rfl⟩
  · rw [rx.intE, ry.intE]
    exact .inl (.inl ⟨i, j, rfl, rfl, .inl (f1.val r .int)⟩)
  · obtain ⟨l, xs, rfl, h1, h2, _⟩ := RpB.lst r rx
    obtain ⟨b, zs, rfl, h3, h4, _⟩ := RpB.lst r ry
    exact .inl (.inr ⟨l, b, xs, zs, rfl, rfl, h1, h3, by rw [← h2.length, ← h4.length]; exact hz, fun p hp => Fit.lst f1 r (h2.append h4) hp⟩)
  · obtain ⟨l, xs, rfl, h1, h2⟩ := RpB.tup rx
    obtain ⟨b, zs, rfl, h3, h4⟩ := RpB.tup ry
    refine .inr (.inl ⟨l, b, xs, zs, rfl, rfl, h1.sq, h3.sq, by rw [← h2.length, ← h4.length]; exact hz, fun e => ?_, fun _ e => ?_, fun _ _ p hp => .inl (Fit.tup f1 r (h2.append h4) hp)⟩)
    · subst e
      have : as = [] := List.length_eq_zero_iff.mp h2.length
      subst this
      exact .inl (f1.val r (.tup h3 h4))
    · subst e
      have : bs = [] := List.length_eq_zero_iff.mp h4.length
      subst this
      rw [List.append_nil] at f1
      exact .inl (f1.val r (.tup h1 h2))
  · rw [rx.strE, ry.strE]
    exact .inr (.inr ⟨i, j, rfl, rfl, hz, .inl (f1.val r .str)⟩)
def D.neg : D → Option D
  | .int i => some (.int (-i))
  | _ => none
theorem ud_neg : UnD X (unaryOp .USub) D.neg := by
  refine ⟨_, un_neg, fun {W ρ σ ι M H x d Q} r rx f => ?_⟩
  obtain ⟨a, ha, f1⟩ := f.someD
  cases d with
  | int i => cases ha; rw [rx.intE]; exact ⟨i, rfl, .inl (f1.val r .int)⟩
  | _ => cases ha

/-! ### comparisons -/
def D.ib (g : Int → Int → Bool) : D → D → Option Bool
  | .int i, .int j => some (g i j)
  | _, _ => none
def D.lt := D.ib fun i j => decide (i < j)
def D.le := D.ib fun i j => decide (i ≤ j)
def D.gt := D.ib fun i j => decide (j < i)
def D.ge := D.ib fun i j => decide (j ≤ i)
theorem cd_ib {f : Value → Value → Sem Value} {g : Int → Int → Bool} (ho : OpR X f (rI0 fun i j => .bl (g i j))) : CmpD X f (D.ib g) := by
  refine ⟨_, ho, fun {W ρ σ ι M H x y d e Q} r rx ry f => ?_⟩
  obtain ⟨a, ha, f1⟩ := f.someB
  unfold D.ib at ha
  split at ha
  · cases ha
    rw [rx.intE, ry.intE]
    exact ⟨_, _, rfl, rfl, _, rfl, f1.val r⟩
  · cases ha
theorem cd_lt : CmpD X (compareOp .Lt) D.lt := cd_ib op_lt
theorem cd_le : CmpD X (compareOp .LtE) D.le := cd_ib op_le
theorem cd_gt : CmpD X (compareOp .Gt) D.gt := cd_ib op_gt
theorem cd_ge : CmpD X (compareOp .GtE) D.ge := cd_ib op_ge
def D.is_ : D → D → Option Bool
  | d, .non => some d.isNon
  | _, _ => none
def D.isnt : D → D → Option Bool
  | d, .non => some (!d.isNon)
  | _, _ => none
theorem cd_is : CmpD X (compareOp .Is) D.is_ := by
  refine ⟨_, op_isN, fun {W ρ σ ι M H x y d e Q} r rx ry f => ?_⟩
  obtain ⟨a, ha, f1⟩ := f.someB
  cases e with
  | non =>
    have e1 : a = d.isNon := by unfold D.is_ at ha; exact (Option.some.inj ha).symm
    subst e1
    exact ⟨ry.nonE, d.isNon, by rw [rx.isNon], f1.val r⟩
  | _ => unfold D.is_ at ha; cases ha
theorem cd_isnt : CmpD X (compareOp .IsNot) D.isnt := by
  refine ⟨_, op_notN, fun {W ρ σ ι M H x y d e Q} r rx ry f => ?_⟩
  obtain ⟨a, ha, f1⟩ := f.someB
  cases e with
  | non =>
    have e1 : a = !d.isNon := by unfold D.isnt at ha; exact (Option.some.inj ha).symm
    subst e1
    exact ⟨ry.nonE, !d.isNon, by rw [rx.isNon], f1.val r⟩
  | _ => unfold D.isnt at ha; cases ha

/-! ### == of data -/
mutual
def D.py : D → Option PyData
  | .non => some .none
  | .bl b => some (.bool b)
  | .int i => some (.int i)
  | .str x => some (.str x)
  | .tup xs => (D.pyL xs).map .tuple
  | .lst xs => (D.pyL xs).map .list
  | _ => none
def D.pyL : List D → Option (List PyData)
  | [] => some []
  | d :: ds => (D.py d).bind fun p => (D.pyL ds).map fun ps => p :: ps
end
def D.eq (d e : D) : Option Bool := (D.py d).bind fun p => (D.py e).bind fun q => if SeqAt.shaped p && SeqAt.shaped q then some (PyData.eqv p q) else none
def D.ne (d e : D) : Option Bool := (D.eq d e).map fun b => !b
section
variable {K : PySem.W.Frag} {ι : List Addr} {H : Hp}
mutual
theorem Rp.dp : ∀ (d : D) (v : V) (p : PyData), Rp K ι H d v → D.py d = some p → Dp K H v p
  | .non, v, p, h, e => by unfold Rp at h; unfold D.py at e; cases e; subst h; exact .non
  | .bl b, v, p, h, e => by unfold Rp at h; unfold D.py at e; cases e; subst h; exact .bl b
  | .int b, v, p, h, e => by unfold Rp at h; unfold D.py at e; cases e; subst h; exact .int b
  | .str b, v, p, h, e => by unfold Rp at h; unfold D.py at e; cases e; subst h; exact .str b
  | .tup ds, v, p, h, e => by
    obtain ⟨a, xs, rfl, t, l⟩ := h.tupE
    unfold D.py at e
    cases el : D.pyL ds with
    | none => rw [el] at e; cases e
    | some ps => rw [el] at e; cases e; exact .tup t.sq (RpL.dp ds xs ps l el)
  | .lst ds, v, p, h, e => by
    obtain ⟨a, xs, rfl, t, l⟩ := h.lstE
    unfold D.py at e
    cases el : D.pyL ds with
    | none => rw [el] at e; cases e
    | some ps => rw [el] at e; cases e; exact .lst t.sq (RpL.dp ds xs ps l el)
  | .dic _ _, v, p, h, e => by unfold D.py at e; cases e
  | .cell _, v, p, h, e => by unfold D.py at e; cases e
  | .exc _ _, v, p, h, e => by unfold D.py at e; cases e
theorem RpL.dp : ∀ (ds : List D) (vs : List V) (ps : List PyData), RpL K ι H ds vs → D.pyL ds = some ps → DpAll K H vs ps
  | [], vs, ps, h, e => by rw [h.nilE]; unfold D.pyL at e; cases e; exact .nil
  | d :: ds, vs, ps, h, e => by
    obtain ⟨y, ys, rfl, r, l⟩ := h.consE
    unfold D.pyL at e
    cases e1 : D.py d with
    | none => rw [e1] at e; cases e
    | some p =>
      rw [e1] at e
      cases e2 : D.pyL ds with
      | none => rw [e2] at e; cases e
      | some qs => rw [e2] at e; cases e; exact .cons (Rp.dp d y p r e1) (RpL.dp ds ys qs l e2)
end
theorem RpB.dp {w : Bool} {ρ : List Sl} {σ : L2.St} {M : Mem} (r : SR K ι M H σ ρ) {d : D} {v : V} {p : PyData} (h : RpB w K ρ ι H d v) (e : D.py d = some p) : Dp K H v p := by
  rcases h with h | ⟨hw, i, a, ds, h1, rfl, rfl⟩
  · exact Rp.dp d v p h e
  · obtain ⟨_, _, xs, h4, h5⟩ := r.ownE h1
    unfold D.py at e
    cases el : D.pyL ds with
    | none => rw [el] at e; cases e
    | some ps => rw [el] at e; cases e; exact .lst (.inl (.inl h4)) (RpL.dp ds xs ps h5 el)
end
theorem eq_eq {d e : D} {b : Bool} (h : D.eq d e = some b) : ∃ p q, D.py d = some p ∧ D.py e = some q ∧ SeqAt.shaped p = true ∧ SeqAt.shaped q = true ∧ b = PyData.eqv p q := by
  unfold D.eq at h
  cases h1 : D.py d with
  | none => rw [h1] at h; cases h
  | some p =>
    rw [h1] at h
    cases h2 : D.py e with
    | none => rw [h2] at h; cases h
    | some q =>
      rw [h2] at h
      simp only [Option.bind_some] at h
      split at h
      · cases h
        rename_i hs
        rw [Bool.and_eq_true] at hs
        exact ⟨p, q, rfl, rfl, hs.1, hs.2, rfl⟩
      · cases h
theorem cd_eq {g : Bool} {k : Nat} (hr : Rm g k X.A) : CmpD X (compareOp .Eq) D.eq := by
  refine ⟨_, op_eqD (by have := hr.room.un; omega), fun {W ρ σ ι M H x y d e Q} r rx ry f => ?_⟩
  obtain ⟨a, ha, f1⟩ := f.someB
  obtain ⟨p, q, h1, h2, h3, h4, rfl⟩ := eq_eq ha
  exact ⟨p, q, rx.dp r h1, ry.dp r h2, h3, h4, _, rfl, f1.val r⟩
theorem cd_ne {g : Bool} {k : Nat} (hr : Rm g k X.A) : CmpD X (compareOp .NotEq) D.ne := by
  refine ⟨_, op_neD (by have := hr.room.un; omega), fun {W ρ σ ι M H x y d e Q} r rx ry f => ?_⟩
  obtain ⟨a, ha, f1⟩ := f.someB
  unfold D.ne at ha
  cases he : D.eq d e with
  | none => rw [he] at ha; cases ha
  | some b =>
    rw [he] at ha; cases ha
    obtain ⟨p, q, h1, h2, h3, h4, rfl⟩ := eq_eq he
    exact ⟨p, q, rx.dp r h1, ry.dp r h2, h3, h4, _, rfl, f1.val r⟩

/-! ### subscripts -/
def D.ix : D → D → Option D
  | .lst xs, .int i => atI xs i
  | .tup xs, .int i => atI xs i
  | .str x, .int i => if x.length ≤ sizeLine then (atI x.cps.toList i).map fun c => .str ⟨#[c]⟩ else none
  | _, _ => none
theorem ix_eq {d e r : D} (h : D.ix d e = some r) : (∃ xs i, d = .lst xs ∧ e = .int i ∧ atI xs i = some r) ∨ (∃ xs i, d = .tup xs ∧ e = .int i ∧ atI xs i = some r) ∨
    (∃ x i c, d = .str x ∧ e = .int i ∧ x.length ≤ sizeLine ∧ atI x.cps.toList i = some c ∧ r = .str ⟨#[c]⟩) := by
  unfold D.ix at h
  split at h
  · exact .inl ⟨_, _, rfl, rfl, h⟩
  · exact .inr (.inl ⟨_, _, rfl, rfl, h⟩)
  · split at h
    · cases e : atI _ _ with
      | none => rw [e] at h; cases h
      | some c => rw [e] at h; cases h; exact .inr (.inr ⟨_, _, c, rfl, rfl, by assumption, e, rfl⟩)
    · cases h
  · cases h
theorem xd_ix : IxD X D.ix := by
  refine ⟨_, ix_seq, fun {W ρ σ ι M H x y d e Q} r rx ry f => ?_⟩
  obtain ⟨a, ha, f1⟩ := f.someD
  rcases ix_eq ha with ⟨xs, i, rfl, rfl, hi⟩ | ⟨xs, i, rfl, rfl, hi⟩ | ⟨z, i, c, rfl, rfl, hz, hi, rfl⟩
  · obtain ⟨l, vs, rfl, h1, h2, _⟩ := RpB.lst r rx
    obtain ⟨v, hv, qv⟩ := h2.atI hi
    exact .inl ⟨l, vs, i, v, rfl, ry.intE, h1, hv, .inl (f1.val r qv)⟩
  · obtain ⟨l, vs, rfl, h1, h2⟩ := RpB.tup rx
    obtain ⟨v, hv, qv⟩ := h2.atI hi
    exact .inr (.inl ⟨l, vs, i, v, rfl, ry.intE, h1.sq, hv, .inl (f1.val r qv)⟩)
  · exact .inr (.inr ⟨z, i, c, rx.strE, ry.intE, hz, hi, .inl (f1.val r .str)⟩)

/-! ### built-in calls -/
def bAbs : List D → Option D
  | [.int i] => some (.int (if i < 0 then -i else i))
  | _ => none
theorem kd_abs : CallD X (.builtin "abs") bAbs := by
  refine ⟨_, call_abs, fun {W ρ σ ι M H xs ds Q} r rx f => ?_⟩
  obtain ⟨a, ha, f1⟩ := f.someD
  unfold bAbs at ha
  split at ha
  · cases ha
    cases rx with
    | cons a1 a2 => cases a2; rw [a1.intE]; exact ⟨_, rfl, .inl (f1.val r .int)⟩
  · cases ha
def bInt : List D → Option D
  | [.int i] => some (.int i)
  | [.bl k] => some (.int (if k then 1 else 0))
  | _ => none
theorem kd_int : CallD X (.type "int") bInt := by
  refine ⟨_, call_int1, fun {W ρ σ ι M H xs ds Q} r rx f => ?_⟩
  obtain ⟨a, ha, f1⟩ := f.someD
  unfold bInt at ha
  split at ha
  · cases ha
    cases rx with
    | cons a1 a2 => cases a2; rw [a1.intE]; exact .inl ⟨_, rfl, .inl (f1.val r .int)⟩
  · cases ha
    cases rx with
    | cons a1 a2 => cases a2; rw [a1.blE]; exact .inr ⟨_, rfl, .inl (f1.val r .int)⟩
  · cases ha
def bLen : List D → Option D
  | [.lst xs] => some (.int xs.length)
  | [.tup xs] => some (.int xs.length)
  | [.str x] => if x.length ≤ sizeLine then some (.int x.length) else none
  | _ => none
theorem kd_len : CallD X (.builtin "len") bLen := by
  refine ⟨_, call_len, fun {W ρ σ ι M H xs ds Q} r rx f => ?_⟩
  obtain ⟨a, ha, f1⟩ := f.someD
  unfold bLen at ha
  split at ha
  · cases ha
    cases rx with
    | cons a1 a2 =>
      cases a2
      obtain ⟨l, vs, rfl, h1, h2, _⟩ := RpB.lst r a1
      exact ⟨_, _, rfl, .inl ⟨vs, h1, h2.length⟩, .inl (f1.val r .int)⟩
  · cases ha
    cases rx with
    | cons a1 a2 =>
      cases a2
      obtain ⟨l, vs, rfl, h1, h2⟩ := RpB.tup a1
      exact ⟨_, _, rfl, .inr ⟨vs, h1.sq, h2.length⟩, .inl (f1.val r .int)⟩
  · split at ha
    · cases ha
      cases rx with
      | cons a1 a2 =>
        cases a2
        rw [a1.strE]
        exact ⟨_, _, rfl, ⟨by assumption, rfl⟩, .inl (f1.val r .int)⟩
    · cases ha
  · cases ha
def D.bools : List D → Option (List Bool)
  | [] => some []
  | .bl b :: r => (D.bools r).map fun bs => b :: bs
  | _ => none
def D.ints : List D → Option (List Int)
  | [] => some []
  | .int b :: r => (D.ints r).map fun bs => b :: bs
  | _ => none
theorem bools_eq : ∀ {ds : List D} {bs : List Bool}, D.bools ds = some bs → ds = bs.map .bl
  | [], bs, h => by unfold D.bools at h; cases h; rfl
  | d :: ds, bs, h => by
    cases d with
    | bl b =>
      unfold D.bools at h
      cases e : D.bools ds with
      | none => rw [e] at h; cases h
      | some cs => rw [e] at h; cases h; rw [bools_eq e]; rfl
    | _ => unfold D.bools at h; cases h
theorem ints_eq : ∀ {ds : List D} {bs : List Int}, D.ints ds = some bs → ds = bs.map .int
  | [], bs, h => by unfold D.ints at h; cases h; rfl
  | d :: ds, bs, h => by
    cases d with
    | int b =>
      unfold D.ints at h
      cases e : D.ints ds with
      | none => rw [e] at h; cases h
      | some cs => rw [e] at h; cases h; rw [ints_eq e]; rfl
    | _ => unfold D.ints at h; cases h
def bAll : List D → Option D
  | [.lst xs] => (D.bools xs).map fun bs => .bl (bs.all id)
  | _ => none
def bAny : List D → Option D
  | [.lst xs] => (D.bools xs).map fun bs => .bl (bs.any id)
  | _ => none
def bSum : List D → Option D
  | [.lst xs] => (D.ints xs).map fun ns => .int ns.sum
  | _ => none
theorem lst1 {g : List D → Option D} {r : D} {ds : List D} (h : (match ds with | [.lst xs] => g xs | _ => none) = some r) : ∃ xs, ds = [.lst xs] ∧ g xs = some r := by
  split at h
  · exact ⟨_, rfl, h⟩
  · cases h
theorem kd_all (hc : X.calm = true) : CallD X (.builtin "all") bAll := by
  refine ⟨_, cr_all hc, fun {W ρ σ ι M H xs ds Q} r rx f => ?_⟩
  obtain ⟨a, ha, f1⟩ := f.someD
  unfold bAll at ha
  split at ha
  · cases e : D.bools _ with
    | none => rw [e] at ha; cases ha
    | some bs =>
      rw [e] at ha; cases ha
      cases rx with
      | cons a1 a2 =>
        cases a2
        obtain ⟨l, vs, rfl, h1, h2, _⟩ := RpB.lst r a1
        exact ⟨l, bs, rfl, by rw [← h2.bools (bools_eq e)]; exact h1, .inl (f1.val r .bl)⟩
  · cases ha
theorem kd_any (hc : X.calm = true) : CallD X (.builtin "any") bAny := by
  refine ⟨_, cr_any hc, fun {W ρ σ ι M H xs ds Q} r rx f => ?_⟩
  obtain ⟨a, ha, f1⟩ := f.someD
  unfold bAny at ha
  split at ha
  · cases e : D.bools _ with
    | none => rw [e] at ha; cases ha
    | some bs =>
      rw [e] at ha; cases ha
      cases rx with
      | cons a1 a2 =>
        cases a2
        obtain ⟨l, vs, rfl, h1, h2, _⟩ := RpB.lst r a1
        exact ⟨l, bs, rfl, by rw [← h2.bools (bools_eq e)]; exact h1, .inl (f1.val r .bl)⟩
  · cases ha
theorem kd_sum (hc : X.calm = true) : CallD X (.builtin "sum") bSum := by
  refine ⟨_, cr_sum hc, fun {W ρ σ ι M H xs ds Q} r rx f => ?_⟩
  obtain ⟨a, ha, f1⟩ := f.someD
  unfold bSum at ha
  split at ha
  · cases e : D.ints _ with
    | none => rw [e] at ha; cases ha
    | some bs =>
      rw [e] at ha; cases ha
      cases rx with
      | cons a1 a2 =>
        cases a2
        obtain ⟨l, vs, rfl, h1, h2, _⟩ := RpB.lst r a1
        exact ⟨l, bs, rfl, by rw [← h2.ints (ints_eq e)]; exact h1, .inl (f1.val r .int)⟩
  · cases ha
def bMax : List D → Option D
  | [.int i, .int j] => some (.int (if j > i then j else i))
  | _ => none
def bMin : List D → Option D
  | [.int i, .int j] => some (.int (if j < i then j else i))
  | _ => none
theorem kd_max (hc : X.calm = true) : CallD X (.builtin "max") bMax := by
  refine ⟨_, call_max2 hc, fun {W ρ σ ι M H xs ds Q} r rx f => ?_⟩
  obtain ⟨a, ha, f1⟩ := f.someD
  unfold bMax at ha
  split at ha
  · cases ha
    cases rx with
    | cons a1 a2 => cases a2 with
      | cons a3 a4 => cases a4; rw [a1.intE, a3.intE]; exact ⟨_, _, rfl, .inl (f1.val r .int)⟩
  · cases ha
theorem kd_min (hc : X.calm = true) : CallD X (.builtin "min") bMin := by
  refine ⟨_, call_min2 hc, fun {W ρ σ ι M H xs ds Q} r rx f => ?_⟩
  obtain ⟨a, ha, f1⟩ := f.someD
  unfold bMin at ha
  split at ha
  · cases ha
    cases rx with
    | cons a1 a2 => cases a2 with
      | cons a3 a4 => cases a4; rw [a1.intE, a3.intE]; exact ⟨_, _, rfl, .inl (f1.val r .int)⟩
  · cases ha
def bTup : List D → Option D
  | [.lst xs] => some (.tup xs)
  | [.tup xs] => some (.tup xs)
  | _ => none
theorem kd_tup : CallD X (.type "tuple") bTup := by
  refine ⟨_, call_tuple_of, fun {W ρ σ ι M H xs ds Q} r rx f => ?_⟩
  obtain ⟨a, ha, f1⟩ := f.someD
  unfold bTup at ha
  split at ha
  · cases ha
    cases rx with
    | cons a1 a2 =>
      cases a2
      obtain ⟨l, vs, rfl, h1, h2, _⟩ := RpB.lst r a1
      exact ⟨l, vs, rfl, .inl ⟨h1, fun p hp => .inl (Fit.tup f1 r h2 hp)⟩⟩
  · cases ha
    cases rx with
    | cons a1 a2 =>
      cases a2
      obtain ⟨l, vs, rfl, h1, h2⟩ := RpB.tup a1
      exact ⟨l, vs, rfl, .inr ⟨h1.sq, .inl (f1.val r (.tup h1 h2))⟩⟩
  · cases ha
end
end Fw
set_option Elab.async false
set_option linter.all false
set_option maxRecDepth 100000
set_option maxHeartbeats 1000000
namespace Fw
open PySem PySem.Spec L2

/-! ### isinstance -/
inductive Ty where
  | bool | int | str | tup | lst | dic
def Ty.nm : Ty → String
  | .bool => "bool" | .int => "int" | .str => "str" | .tup => "tuple" | .lst => "list" | .dic => "dict"
def Ty.isi : Ty → D → Option Bool
  | _, .exc _ _ => none
  | .int, .int _ => some true
  | .int, .bl _ => some true
  | .bool, .bl _ => some true
  | .str, .str _ => some true
  | .tup, .tup _ => some true
  | .lst, .lst _ => some true
  | .lst, .cell _ => some true
  | .dic, .dic _ _ => some true
  | _, _ => some false
def D.tyN : D → String
  | .non => "NoneType"
  | .bl _ => "bool"
  | .int _ => "int"
  | .str _ => "str"
  | .tup _ => "tuple"
  | .lst _ => "list"
  | .cell _ => "list"
  | .dic _ _ => "dict"
  | .exc _ _ => "object"
theorem RpB.ty {K : PySem.W.Frag} {ρ : List Sl} {σ : L2.St} {ι : List Addr} {M : Mem} {H : Hp} {w : Bool} (r : SR K ι M H σ ρ) {d : D} {v : V} (h : RpB w K ρ ι H d v) (hx : ∀ c e, d ≠ .exc c e) : TyX K H v (.type d.tyN) := by
  rcases h with h | ⟨_, i, a, ds, h1, rfl, rfl⟩
  · cases d with
    | non => rw [h.nonE]; exact .base .non
    | bl b => rw [h.blE]; exact .base (.bl b)
    | int b => rw [h.intE]; exact .base (.int b)
    | str b => rw [h.strE]; exact .base (.str b)
    | tup ds =>
      obtain ⟨a, xs, rfl, t, _⟩ := h.tupE
      rcases t with ⟨_, t⟩ | ⟨o, its, n, t, hc, _⟩
      · exact .base (.tup t)
      · exact .kTuple t hc
    | lst ds =>
      obtain ⟨a, xs, rfl, t, _⟩ := h.lstE
      rcases t with ⟨_, o, t⟩ | ⟨o, its, n, t, hc, _⟩
      · exact .base (.frz t)
      · exact .kList t hc
    | dic ks ds =>
      unfold Rp at h
      obtain ⟨a, kvs, rfl, ⟨_, o, t⟩, _⟩ := h
      exact .fDict t
    | cell n =>
      unfold Rp at h
      obtain ⟨a, rfl, hn⟩ := h
      obtain ⟨xs, _, e, _⟩ := r.gr.at_ n a hn
      exact .base (.lst e)
    | exc c e => exact absurd rfl (hx c e)
  · obtain ⟨_, _, xs, e, _⟩ := r.ownE h1
    exact .base (.lst e)
theorem kit_isi (T : Ty) (d : D) (b : Bool) (h : T.isi d = some b) : kitB d.tyN T.nm = some b := by
  cases T <;> cases d <;> first | (cases h; simp only [D.tyN, Ty.nm]; decide +kernel) | cases h
def isiC (T : Ty) (ca : C D) : C Bool := do let a ← ca; lift (T.isi a)
section
variable {X : Cx} {W : WX} {ρ : List Sl} {w : Bool} {e : Expr} {ca : C D} {p p2 pos : Pos} {x : Str}
theorem isi_rd {T : Ty} {σ : L2.St} {ι : List Addr} {M : Mem} {H : Hp} {d : D} {v : V} {Q : VK} {b : Bool} (r : SR X.K ι M H σ ρ) (q : RpB true X.K ρ ι H d v) (hb : T.isi d = some b) (f : Q (.bl b) H) : rIsi X.K [v, .ty T.nm] H Q :=
  ⟨v, .ty T.nm, .type d.tyN, .type T.nm, b, rfl, .ty _, q.ty r (fun c e z => by subst z; cases T <;> cases hb), kit_ty (kit_isi T d b hb), f⟩
/-- isinstance(e, T) -/
theorem de_isi (T : Ty) (ha : DV X W ρ e ca) (hm : X.mg "isinstance" = none) (hx : X.mg x = none) (hT : bootBuiltins x = some (.type T.nm)) (hg : Gl X "isinstance" := by rfl) (hgx : Gl X x := by rfl) (hb : bootBuiltins "isinstance" = some (.builtin "isinstance") := by decide +kernel)
    (hn : x ≠ "__name__" := by decide) (hd : (x == ("__debug__" : Str)) = false := by decide)
    (he : starEach [e, .Name x p2] X.env = (false, eval e X.env) :: starEach [.Name x p2] X.env := by rfl) (he2 : starEach [.Name x p2] X.env = (false, eval (.Name x p2) X.env) :: starEach [] X.env := by rfl) (hpl : (backTo pos (starEach [.Name x p2] X.env)).any (·.1) = false := by rfl) :
    DG w X W ρ (.Call (.Name "isinstance" p) [e, .Name x p2] [] pos) (valB (isiC T ca)) := by
  refine dv (pe_imp (pe_callB call_isi hg hm hb (pa_cons ha (pa_cons (pe_bltn (v := .ty T.nm) hgx hx hT rfl hn hd) pa_nil he2) he) (by decide) (by decide) he hpl) fun σ H Q ⟨ι, M, sr, f⟩ => ?_)
  have f' : Fit X.K W ρ false σ ι H ((ca >>= fun a => lift (T.isi a) >>= fun b => pure (.bl b)) M) Q := by
    have z : valB (isiC T ca) = (ca >>= fun a => lift (T.isi a) >>= fun b => pure (.bl b)) := by unfold valB isiC; rw [C.bind_assoc]
    rw [← z]; exact f
  refine (seqD sr f').imp fun v H1 ⟨d, ι1, M1, e1, r1, q1, f1⟩ => ?_
  show rIsi X.K [v, .ty T.nm] H1 Q
  cases hb : T.isi d with
  | none => rw [hb] at f1; exact (show False from f1).elim
  | some b =>
    rw [hb] at f1
    exact isi_rd r1 q1 hb ((show Fit X.K W ρ false σ ι1 H1 (.ok (.bl b) M1) Q from f1).val r1 .bl)
end

/-! ### list(..) -/
section
variable {X : Cx} {W : WX} {ρ : List Sl} {w : Bool} {e : Expr} {ca : C D} {p pos : Pos}
def listC (c : C D) : C (List D) := do let d ← c; lift d.seq?
theorem seq_eq {d : D} {ds : List D} (h : d.seq? = some ds) : d = .lst ds ∨ d = .tup ds := by
  unfold D.seq? at h
  split at h
  · cases h; exact .inl rfl
  · cases h; exact .inr rfl
  · cases h
theorem FitO.someO {K : PySem.W.Frag} {σ : L2.St} {ι : List Addr} {M : Mem} {H : Hp} {o : Option (List D)} {Q : VK} (f : FitO K W ρ σ ι H (lift o M) Q) : ∃ a, o = some a ∧ FitO K W ρ σ ι H (.ok a M) Q := by
  cases o with
  | none => exact (show False from f).elim
  | some a => exact ⟨a, rfl, f⟩
theorem do_list (ha : DV X W ρ e ca) (hm : X.mg "list" = none) (hg : Gl X "list" := by rfl) (hb : bootBuiltins "list" = some (.type "list") := by decide +kernel) (he : starEach [e] X.env = (false, eval e X.env) :: starEach [] X.env := by rfl) (hpl : (backTo pos (starEach [] X.env)).any (·.1) = false := by rfl) :
    DO X W ρ (.Call (.Name "list" p) [e] [] pos) (listC ca) := by
  refine pe_imp (pe_callTy call_list_of hg hm hb (pa_cons ha pa_nil he) (by decide) (by decide) he hpl) fun σ H Q ⟨ι, M, sr, f⟩ => ?_
  refine (seqDO sr f).imp fun v H1 ⟨d, ι1, M1, e1, r1, q1, f1⟩ => ?_
  obtain ⟨ds, hs, f2⟩ := f1.someO
  rcases seq_eq hs with rfl | rfl
  · obtain ⟨l, vs, rfl, h1, h2, _⟩ := RpB.lst r1 q1
    exact ⟨l, vs, rfl, .inl h1, fun p hp => FitO.new f2 r1 hp h2⟩
  · obtain ⟨l, vs, rfl, h1, h2⟩ := RpB.tup q1
    exact ⟨l, vs, rfl, .inr h1.sq, fun p hp => FitO.new f2 r1 hp h2⟩
end

/-! ### slices -/
def cutD (xs : List D) (lo hi : Option Int) : List D := (xs.drop (HT.sIx xs.length 0 lo)).take (HT.sIx xs.length xs.length hi - HT.sIx xs.length 0 lo)
def part : Option (C D) → C (Option Int)
  | none => pure none
  | some c => do let d ← c; match d with
    | .int i => pure (some i)
    | _ => C.no
def D.slice (d : D) (lo hi : Option Int) : Option D :=
  match d with
  | .lst xs => some (.lst (cutD xs lo hi))
  | .tup xs => some (.tup (cutD xs lo hi))
  | .str x => if x.length ≤ sizeLine then some (.str (cutS x lo hi)) else none
  | _ => none
def slC (ca : C D) (lo hi : Option (C D)) : C D := do let a ← ca; let l ← part lo; let h ← part hi; lift (a.slice l h)
def slO (ca : C D) (lo hi : Option (C D)) : C (List D) := do let a ← ca; let l ← part lo; let h ← part hi; match a with
  | .lst xs => pure (cutD xs l h)
  | _ => C.no
theorem slice_eq {d r : D} {lo hi : Option Int} (h : d.slice lo hi = some r) : (∃ xs, d = .lst xs ∧ r = .lst (cutD xs lo hi)) ∨ (∃ xs, d = .tup xs ∧ r = .tup (cutD xs lo hi)) ∨ ∃ x, d = .str x ∧ x.length ≤ sizeLine ∧ r = .str (cutS x lo hi) := by
  unfold D.slice at h
  split at h
  · cases h; exact .inl ⟨_, rfl, rfl⟩
  · cases h; exact .inr (.inl ⟨_, rfl, rfl⟩)
  · split at h
    · cases h; exact .inr (.inr ⟨_, rfl, by assumption, rfl⟩)
    · cases h
  · cases h
section
variable {X : Cx} {W : WX} {ρ : List Sl} {w : Bool} {e : Expr} {ca : C D} {p pos p2 : Pos}
/-- the bounds of a slice, then what follows -/
def DP (X : Cx) (W : WX) (ρ : List Sl) (o : Option Expr) (c : Option (C D)) : Prop := ∃ t : TO, PO X o t ∧
  ∀ {σ : L2.St} {ι : List Addr} {M : Mem} {H : Hp} {k : Option Int → C D} {Q : VK} {R : Option Int → Hp → Prop}, SR X.K ι M H σ ρ → Fit X.K W ρ false σ ι H ((part c >>= k) M) Q →
    (∀ i ι1 M1 H1, Ext ρ ι H ι1 H1 → SR X.K ι1 M1 H1 σ ρ → Fit X.K W ρ false σ ι1 H1 (k i M1) Q → R i H1) → t σ H R
theorem dp_none : DP X W ρ none none := ⟨tNoPart, po_none, fun {σ ι M H k Q R} r f z => z none ι M H Ex.refl r f⟩
theorem dp_some {o : Expr} {c : C D} (h : DE X W ρ o c) : DP X W ρ (some o) (some c) := by
  refine ⟨_, po_some h, fun {σ ι M H k Q R} r f z => ?_⟩
  have f' : Fit X.K W ρ false σ ι H ((c >>= fun d => (match d with | .int i => (pure (some i) : C (Option Int)) | _ => C.no) >>= k) M) Q := by
    have z : (part (some c) >>= k) = (c >>= fun d => (match d with | .int i => (pure (some i) : C (Option Int)) | _ => C.no) >>= k) := by
      show ((c >>= fun d => _) >>= k) = _
      rw [C.bind_assoc]
    rw [← z]; exact f
  refine (seqD r f').imp fun v H1 ⟨d, ι1, M1, e1, r1, q1, f1⟩ => ?_
  cases d with
  | int i => exact ⟨i, q1.str.intE, z _ ι1 M1 H1 e1 r1 f1⟩
  | _ => exact (show False from f1).elim
theorem RpL.cut {K : PySem.W.Frag} {ι : List Addr} {H : Hp} {ds : List D} {vs : List V} (l : RpL K ι H ds vs) (lo hi : Option Int) : RpL K ι H (cutD ds lo hi) (cutV vs lo hi) := by
  unfold cutD cutV
  rw [l.length]
  exact (l.drop _).take _
theorem de_slice {lo hi : Option Expr} {cl ch : Option (C D)} (ha : DV X W ρ e ca) (hl : DP X W ρ lo cl) (hh : DP X W ρ hi ch) : DG w X W ρ (.Subscript e (.Slice lo hi none p2) pos) (slC ca cl ch) := by
  obtain ⟨tl, p1, k1⟩ := hl
  obtain ⟨th, p2, k2⟩ := hh
  refine dv ⟨fun pins s σ H Q I ⟨ι, M, sr, f⟩ => thn ((pe_slice (sl_list.or (sl_tupA.or sl_str)) ha p1 p2).run pins s σ H (frzQ Q) I ?_) fun _ _ z => ep_frz z⟩
  refine (seqD sr f).imp fun v H1 ⟨d, ι1, M1, e1, r1, q1, f1⟩ => ?_
  refine k1 r1 f1 fun l ι2 M2 H2 e2 r2 f2 => k2 r2 f2 fun h ι3 M3 H3 e3 r3 f3 => ?_
  obtain ⟨r, hr, f4⟩ := f3.someD
  have q3 := r1.rpb (e2.trans e3) q1
  rcases slice_eq hr with ⟨xs, rfl, rfl⟩ | ⟨xs, rfl, rfl⟩ | ⟨x, rfl, hz, rfl⟩
  · obtain ⟨a, vs, rfl, h1, h2, _⟩ := RpB.lst r3 q3
    exact .inl ⟨a, vs, rfl, h1, fun p hp => Fit.lst f4 r3 (h2.cut l h) hp⟩
  · obtain ⟨a, vs, rfl, h1, h2⟩ := RpB.tup q3
    refine .inr (.inl ⟨a, vs, rfl, h1.sq, fun hw => ?_, fun _ p hp => .inl (Fit.tup f4 r3 (h2.cut l h) hp)⟩)
    have e : cutD xs l h = xs := by
      unfold cutD
      rw [h2.length, hw.1, hw.2, List.drop_zero, Nat.sub_zero, ← h2.length, List.take_length]
    rw [e] at f4
    exact .inl (f4.val r3 (.tup h1 h2))
  · exact .inr (.inr ⟨x, q3.strE, hz, .inl (f4.val r3 .str)⟩)
end

/-! ### x[::-1] -/
section
variable {prog : Program} {w : World} {A : Around} {E : Value → Shared → Prop} {s : Shared}
open PyProof.Rows in
theorem rev_pick (xs : Array Value) : ((List.range xs.size).filterMap fun (k : Nat) => xs[(((xs.size : Int) - 1) + (k : Int) * (-1)).toNat]?) = xs.toList.reverse := by
  have key : ∀ n : Nat, n ≤ xs.size → ((List.range n).filterMap fun (k : Nat) => xs[(((xs.size : Int) - 1) + (k : Int) * (-1)).toNat]?) = xs.toList.reverse.take n := by
    intro n
    induction n with
    | zero => intro _; simp
    | succ n ih =>
      intro hn
      rw [List.range_succ, List.filterMap_append, ih (by omega)]
      have e : (((xs.size : Int) - 1) + (n : Int) * (-1)).toNat = xs.size - 1 - n := by omega
      have h2 : n < xs.toList.reverse.length := by simp; omega
      rw [List.take_succ_eq_append_getElem h2]
      congr 1
      have h3 : xs.size - 1 - n < xs.size := by omega
      have h4 : xs[(((xs.size : Int) - 1) + (n : Int) * (-1)).toNat]? = some (xs[xs.size - 1 - n]) := by rw [e]; simp [h3]
      rw [List.filterMap_cons_some (f := fun (k : Nat) => xs[(((xs.size : Int) - 1) + (k : Int) * (-1)).toNat]?) h4]
      simp
  rw [key xs.size (Nat.le_refl _), List.take_of_length_le (by simp)]
theorem slice_rev {sl : Addr} {vk : Value} {n : Nat} {Q : Int × Int × Nat → Shared → Prop} (hs : s.heap.IsSliceOf sl .none .none vk) (pk : IsPart vk (some (-1))) (h : Q ((n : Int) - 1, -1, n) s) : wpAny (model prog w) A (Builtin.Slice.sliceApplied (.ref sl) (pure (n : Int))) Q E s := by
  obtain ⟨os, hos, hcs, hds⟩ := id hs
  unfold Builtin.Slice.sliceApplied Builtin.Slice.sliceFields
  refine wpAny_bind (wpAny_bind (wpAny_field hos hds (x := .none) rfl (wpAny_bind (wpAny_field hos hds (x := .none) rfl (wpAny_bind (wpAny_field hos hds (x := vk) rfl (wpAny_pure ?_)))))))
  refine wpAny_bind (HT.slicePart_ pk ?_)
  show wpAny _ _ (if ((-1 : Int) == 0) = true then _ else _) _ _ s
  rw [if_neg (by decide)]
  refine wpAny_bind (HT.slicePart_ .none (wpAny_bind (HT.slicePart_ .none (wpAny_bind (wpAny_pure ?_)))))
  show wpAny _ _ (pure ((n : Int) - 1, (-1 : Int), Builtin.Slice.slicePlaces ((n : Int) - 1) (-1) (-1))) _ _ s
  have e : Builtin.Slice.slicePlaces ((n : Int) - 1) (-1) (-1) = n := by
    unfold Builtin.Slice.slicePlaces
    rw [if_neg (by decide)]
    by_cases hn : (n : Int) - 1 > -1
    · rw [if_pos hn]; simp
    · rw [if_neg hn]; omega
  rw [e]
  exact wpAny_pure h
theorem tup_rev {t sl : Addr} {items : Array Value} {vk : Value} {Q : Value → Shared → Prop} (ht : PyProof.Rows.IsTup s.heap t items) (hs : s.heap.IsSliceOf sl .none .none vk) (pk : IsPart vk (some (-1)))
    (h : Q (.ref s.heap.objs.size) { s with heap := s.heap.push { cls := .type "tuple", data := .seq items.toList.reverse.toArray } }) (hsz : items.size ≤ sizeLine) : wpAny (model prog w) A (getItem (.ref t) (.ref sl)) Q E s := by
  have hsize : sizeOk (.seq items.toList.reverse.toArray) := by
    show items.toList.reverse.toArray.size ≤ sizeLine
    simpa using hsz
  obtain ⟨os, hos, hcs, hds⟩ := id hs
  have hTs : s.TypeIs (.ref sl) "slice" := ⟨os, hos, hcs⟩
  unfold getItem
  try with_reducible refine wpAny_holding ?_
  first | refine wpAny_bind (wpAny_pure ?_) | skip
  refine wpAny_bind (wpAny_sequenceKey ht.typeIs (by decide) ?_)
  refine wpAny_bind (wpAny_callSpecial?_slot (name := Str.ofString "__getitem__") ht.typeIs PyProof.Rows.slot_tuple_getitem
    (wpAny_call_entry PyProof.Rows.slot_tuple_getitem ht.typeIs PyProof.Rows.entry_tuple_getitem ?_ (PyProof.Rows.args_tuple_getitem _ _)))
  show wpAny _ _ (Builtin.Tuple.tupleItemsOf (.ref t) >>= _) _ _ s
  refine wpAny_bind (PyProof.Rows.tupleItemsOf_ ht ?_)
  refine wpAny_bind (wpAny_typeOf hTs ?_)
  rw [if_pos (by decide)]
  refine wpAny_bind (slice_rev hs pk ?_)
  show wpAny _ _ (if (((items.size : Int) - 1) == 0 && (-1 : Int) == 1 && items.size == items.size) = true then _ else _) _ _ s
  rw [if_neg (by simp), rev_pick]
  first
    | exact wpAny_bind (m := Builtin.Tuple.tupleExact _) (wpAny_newObj_type (wpAny_pure ⟨_, rfl, wpAny_pure h⟩) hsize)
    | exact wpAny_bind (m := Builtin.Tuple.tupleExact _) (wpAny_newObj_type (wpAny_bind (wpAny_pure (wpAny_pure ⟨_, rfl, wpAny_pure h⟩))) hsize)
    | exact wpAny_bind (wpAny_bind (m := Builtin.Tuple.tupleExact _) (wpAny_newObj_type (wpAny_pure (wpAny_pure ⟨_, rfl, wpAny_pure h⟩)) hsize))
    | exact wpAny_bind (wpAny_bind (m := Builtin.Tuple.tupleExact _) (wpAny_newObj_type (wpAny_pure ⟨_, rfl, wpAny_pure h⟩) hsize))
end

def D.rev : D → Option D
  | .lst xs => some (.lst xs.reverse)
  | .tup xs => some (.tup xs.reverse)
  | _ => none
def revC (ca : C D) : C D := do let a ← ca; lift a.rev
section
variable {X : Cx} {W : WX} {ρ : List Sl} {w : Bool} {e : Expr} {ca : C D} {p pos p2 p3 p4 : Pos} {j : Nat}
theorem list_rev (items : Array Value) : slicePick items none none (some (-1)) = items.toList.reverse.toArray := by
  unfold slicePick
  have hb : sliceBounds none none (some (-1)) items.size = ((items.size : Int) - 1, -1, -1) := by
    unfold sliceBounds
    simp
  rw [hb]
  have hr : sliceRange ((items.size : Int) - 1) (-1) (-1) = (List.range items.size).map fun (k : Nat) => (((items.size : Int) - 1) + (k : Int) * (-1)).toNat := by
    unfold sliceRange
    have e : (if (-1 : Int) > 0 then (if ((items.size : Int) - 1) < -1 then ((-1) - ((items.size : Int) - 1) + (-1) - 1) / (-1) else 0) else (if ((items.size : Int) - 1) > -1 then (((items.size : Int) - 1) - (-1) - (-1) - 1) / (-(-1)) else 0)) = (items.size : Int) := by
      rw [if_neg (by decide)]
      by_cases hn : (items.size : Int) - 1 > -1
      · rw [if_pos hn]; simp
      · rw [if_neg hn]; omega
    simp only [e, Int.toNat_natCast]
    refine List.map_congr_left fun k _ => ?_
    congr 1
    omega
  show ((sliceRange ((items.size : Int) - 1) (-1) (-1)).filterMap (items[·]?)).toArray = _
  rw [hr, List.filterMap_map]
  exact congrArg List.toArray (rev_pick items)
theorem Vals.rev {xs : List V} {us : List Value} (h : Vals xs us) : Vals xs.reverse us.reverse := L2.Vals.reverse h
theorem de_rev (ha : DV X W ρ e ca) : DG w X W ρ (.Subscript e (.Slice none none (some (.UnaryOp .USub (.Constant (.int 1) j p4) p3)) p2) pos) (revC ca) := by
  refine dv ⟨fun pins s σ H Q I ⟨ι, M, sr, f⟩ => ?_⟩
  refine PyProof.Rows.Subscript_ (thn (ha.run pins s σ H _ I (seqD sr f)) fun v s1 ⟨x, H1, I1, r1, d, ι1, M1, e1, sr1, q1, f1⟩ => ?_)
  have st : PO X (some (.UnaryOp .USub (.Constant (.int 1) j p4) p3)) (tPart (tUn (rU fun i => .int (-i)) (tC (.int 1)))) := po_some (pe_un un_neg pe_int)
  have pn : PO X none tNoPart := po_none
  refine wpAny_Slice (thn (pn.run pins s1 σ H1 (fun o H' => o = none ∧ H' = H1) I1 ⟨rfl, rfl⟩) fun vl s2 ⟨o2, H2, I2, p2, eo2, eH2⟩ => ?_)
  subst eo2
  rw [eH2] at I2
  cases p2
  refine thn (pn.run pins s2 σ H1 (fun o H' => o = none ∧ H' = H1) I2 ⟨rfl, rfl⟩) fun vu s3 ⟨o3, H3, I3, p3, eo3, eH3⟩ => ?_
  subst eo3
  rw [eH3] at I3
  cases p3
  refine thn (st.run pins s3 σ H1 (fun o H' => o = some (-1) ∧ H' = H1) I3 ⟨1, rfl, -1, rfl, rfl, rfl⟩) fun vk s4 ⟨o4, H4, I4, pk, eo4, eH4⟩ => ?_
  subst eo4
  rw [eH4] at I4
  have I5 : Inv X pins σ H1 { s4 with heap := s4.heap.push { cls := .type "slice", data := .fields #[.none, .none, vk] } } := I4.kept (t' := s4.toks) fun b ob q => Heap.get?_push_of_some _ q
  have hsl : (s4.heap.push { cls := .type "slice", data := .fields #[.none, .none, vk] }).IsSliceOf s4.heap.objs.size .none .none vk := Heap.IsSliceOf.new ..
  obtain ⟨r, hr, f2⟩ := f1.someD
  have key : ∃ T id, typeLookup (.type T) "__getitem__" = pure (some (.builtin id)) ∧ Shared.TypeIs { s4 with heap := s4.heap.push { cls := .type "slice", data := .fields #[.none, .none, vk] } } v T ∧
      wpAny (model X.prog X.w) X.A (getItem v (.ref s4.heap.objs.size)) (EP X pins σ (frzQ Q)) X.xe { s4 with heap := s4.heap.push { cls := .type "slice", data := .fields #[.none, .none, vk] } } := by
    cases d with
    | lst xs =>
      cases hr
      obtain ⟨a, vs, rfl, h1, h2, _⟩ := RpB.lst sr1 q1
      cases r1
      obtain ⟨its, rv, pl, hz⟩ := I5.list h1
      have hlen := rv.length
      refine ⟨"list", _, PySem.list_getitem_lookup, pl.isList.typeIs, wpAny_getItem_list_slice pl.isList hsl .none .none pk (by decide) ?_ (by rw [List.size_toArray]; omega)⟩
      rw [list_rev]
      exact ⟨.ref _, _, I5.lnew (t' := s4.toks) (its := its.reverse) (by simpa using Vals.rev rv) (by rw [List.length_reverse]; exact hz), rfl, Fit.lst f2 sr1 h2.reverse I5.fresh⟩
    | tup xs =>
      cases hr
      obtain ⟨a, vs, rfl, h1, h2⟩ := RpB.tup q1
      cases r1
      obtain ⟨its, rv, pl, hz⟩ := I5.tuple h1.sq
      have hlen := rv.length
      refine ⟨"tuple", _, PyProof.Rows.slot_tuple_getitem.lookup, pl.typeIs, tup_rev pl hsl pk ?_ (by rw [List.size_toArray]; omega)⟩
      refine ⟨.ref _, upd H1 _ (.tup vs.reverse), I5.laid (t' := s4.toks) (fun b o e => Heap.get?_push_of_some _ e) (Nat.le_refl _) ⟨by rw [List.length_reverse]; exact hz, its.reverse, Vals.rev rv, ?_⟩, rfl, .inl (Fit.tup f2 sr1 h2.reverse I5.fresh)⟩
      have nw := PyProof.Rows.IsTup.new (s4.heap.push { cls := .type "slice", data := .fields #[.none, .none, vk] }) its.reverse.toArray
      have e1 : its.toArray.toList.reverse.toArray = its.reverse.toArray := by simp
      rw [e1]
      exact nw
    | _ => cases hr
  obtain ⟨T, id, hT, ht, hg⟩ := key
  refine thn ?_ fun _ _ z => ep_frz z
  exact PyProof.Rows.tail_any (ops := [v, .ref s4.heap.objs.size]) ht hT hg (by with_unfolding_all rfl)
end
end Fw
set_option Elab.async false
set_option linter.all false
set_option maxRecDepth 100000
set_option maxHeartbeats 1000000
namespace Fw
open PySem PySem.Spec L2

/-! ### dicts by ints and texts -/
def frzD (Q : VK) : VK := fun v H' => Q v H' ∨ ∃ (a : Addr) (kvs : List (Key × V)), v = .ref a ∧ H' a = some (.dK kvs) ∧ ∀ o, Q v (upd H' a (.frz o (.dK kvs)))
section
variable {X : Cx} {pins : List (Addr × Obj)} {σ : L2.St} {H : Hp} {s : Shared}
theorem inv_frzD {a : Addr} {kvs : List (Key × V)} (I : Inv X pins σ H s) (h : H a = some (.dK kvs)) : ∃ o, Inv X pins σ (upd H a (.frz o (.dK kvs))) s := by
  have ok : ObjOk X.prog X.w H s.heap a (.dK kvs) := I.hok a _ h
  obtain ⟨z, y, vs, r, dd⟩ := id ok
  obtain ⟨o, _, _, ho, _⟩ := id dd
  have ne : ∀ b u, H b = some u → (∀ ys, u ≠ .dK ys) → b ≠ a := fun b u q n z => by
    subst z; rw [h] at q; cases q; exact n _ rfl
  have nn : ∀ b, H b = none → b ≠ a := fun b q z => by subst z; rw [h] at q; cases q
  refine ⟨o, ?_⟩
  have u : Un X.fs [] H (upd H a (.frz o (.dK kvs))) s.heap s.heap :=
    ⟨fun b o q _ _ _ => q, fun b o q _ _ _ => ⟨o.slots, q⟩, fun b o _ q _ => by rw [upd_ne (nn b q)]; exact q, fun b o q _ => ⟨o, q⟩,
      fun b ys q => by rw [upd_ne (ne b _ q fun _ z => by cases z)]; exact q, fun b o u q => by rw [upd_ne (ne b _ q fun _ z => by cases z)]; exact q,
      fun b ps q => ⟨#[], by rw [upd_ne (ne b _ q fun _ z => by cases z), q]; simp⟩⟩
  have hk : HOk X.prog X.w (upd H a (.frz o (.dK kvs))) s.heap := fun b w q => by
    by_cases hb : b = a
    · subst hb
      rw [upd_same] at q; cases q
      exact ⟨ho, ok⟩
    · rw [upd_ne hb] at q
      refine (I.hok b w q).stay (fun c v _ q => q) (fun c q => ?_) fun c ys q => ?_
      · rw [upd_ne (ne c _ q fun _ z => by cases z)]; exact q
      · rw [upd_ne (ne c _ q fun _ z => by cases z)]; exact q
  exact I.un (t' := s.toks) u hk
theorem ep_frzD {Q : VK} {u : Value} (h : EP X pins σ (frzD Q) u s) : EP X pins σ Q u s := by
  obtain ⟨v, H', I, r, q | ⟨a, xs, e, ha, q⟩⟩ := h
  · exact ⟨v, H', I, r, q⟩
  · obtain ⟨o, J⟩ := inv_frzD I ha
    exact ⟨v, _, J, r, q o⟩
end

/-! ### an object that no data holds may change -/
section
variable {K : PySem.W.Frag} {ι : List Addr} {H : Hp} {p : Addr} {o : HO} {kvs : List (Key × V)}
theorem ne_dk {a : Addr} {u : HO} (hp : H p = some (.dK kvs)) (ha : H a = some u) (hn : ∀ z, u ≠ .dK z) : a ≠ p := fun e => by
  subst e; rw [hp] at ha; cases ha; exact hn _ rfl
mutual
theorem Rp.dk (hp : H p = some (.dK kvs)) : ∀ (d : D) (v : V), Rp K ι H d v → Rp K ι (upd H p o) d v
  | .non, v, h => by unfold Rp at h ⊢; exact h
  | .bl b, v, h => by unfold Rp at h ⊢; exact h
  | .int i, v, h => by unfold Rp at h ⊢; exact h
  | .str x, v, h => by unfold Rp at h ⊢; exact h
  | .tup ds, v, h => by
    unfold Rp at h ⊢
    obtain ⟨a, xs, e1, t, l⟩ := h
    refine ⟨a, xs, e1, ?_, RpL.dk hp ds xs l⟩
    rcases t with ⟨h1, h2⟩ | t
    · exact .inl ⟨h1, by rw [upd_ne (ne_dk hp h2 fun _ z => by cases z)]; exact h2⟩
    · exact .inr t
  | .lst ds, v, h => by
    unfold Rp at h ⊢
    obtain ⟨a, xs, e1, t, l⟩ := h
    refine ⟨a, xs, e1, ?_, RpL.dk hp ds xs l⟩
    rcases t with ⟨h1, u, h2⟩ | t
    · exact .inl ⟨h1, u, by rw [upd_ne (ne_dk hp h2 fun _ z => by cases z)]; exact h2⟩
    · exact .inr t
  | .dic ks ds, v, h => by
    unfold Rp at h ⊢
    obtain ⟨a, xs, e1, ⟨h1, u, h2⟩, q, l⟩ := h
    exact ⟨a, xs, e1, ⟨h1, u, by rw [upd_ne (ne_dk hp h2 fun _ z => by cases z)]; exact h2⟩, q, RpL.dk hp ds _ l⟩
  | .cell n, v, h => by unfold Rp at h ⊢; exact h
  | .exc c d, v, h => by
    unfold Rp at h ⊢
    obtain ⟨a, dd, y, e1, n1, n2, h1, h2, r⟩ := h
    exact ⟨a, dd, y, e1, n1, n2, by rw [upd_ne (ne_dk hp h1 fun _ z => by unfold ExO at z; cases z)]; exact h1, by rw [upd_ne (ne_dk hp h2 fun _ z => by cases z)]; exact h2, Rp.dk hp d y r⟩
theorem RpL.dk (hp : H p = some (.dK kvs)) : ∀ (ds : List D) (vs : List V), RpL K ι H ds vs → RpL K ι (upd H p o) ds vs
  | [], vs, h => by unfold RpL at h ⊢; exact h
  | d :: ds, vs, h => by
    unfold RpL at h ⊢
    obtain ⟨y, ys, e1, r, l⟩ := h
    exact ⟨y, ys, e1, Rp.dk hp d y r, RpL.dk hp ds ys l⟩
end
theorem SR.dk {M : Mem} {σ : L2.St} {ρ : List Sl} (hp : H p = some (.dK kvs)) (r : SR K ι M H σ ρ) : SR K ι M (upd H p o) σ ρ := by
  have tb : ∀ P q, LamX.TabS H P q → LamX.TabS (upd H p o) P q := fun P q t => tabS_by t fun b v hb hv => by
    rw [upd_ne (ne_dk hp hb fun z e => by
      subst e
      rcases hv with ⟨_, hv⟩ | ⟨_, hv⟩ <;> cases hv)]
    exact hb
  refine ⟨⟨r.gr.len, r.gr.nd, fun n b hb => ?_, fun z hz => tb _ _ (r.gr.tab z hz)⟩, r.len, fun i s hs => ?_, r.apart⟩
  · obtain ⟨ys, es, g1, g2, g3⟩ := r.gr.at_ n b hb
    exact ⟨ys, es, by rw [upd_ne (ne_dk hp g1 fun _ z => by cases z)]; exact g1, g2, RpL.dk hp _ _ g3⟩
  · obtain ⟨u, h1, h2⟩ := r.sl i s hs
    refine ⟨u, h1, ?_⟩
    cases s with
    | no => trivial
    | val d =>
      obtain ⟨v, e1, e2⟩ := h2
      exact ⟨v, e1, Rp.dk hp _ _ e2⟩
    | own b es =>
      obtain ⟨e1, e2, ys, e3, e4⟩ := h2
      exact ⟨e1, e2, ys, by rw [upd_ne (ne_dk hp e3 fun _ z => by cases z)]; exact e3, RpL.dk hp _ _ e4⟩
end
def prs (K : PySem.W.Frag) (W : WX) (ρ : List Sl) : List Str → List (C D) → List (TE × TE)
  | k :: ks, c :: cs => (tC (.str k), tD K W ρ false c) :: prs K W ρ ks cs
  | _, _ => []
theorem seqD0 {K : PySem.W.Frag} {W : WX} {ρ : List Sl} {σ : L2.St} {w w2 : Bool} {ι0 ι : List Addr} {M : Mem} {H0 H : Hp} {ca : C D} {k : D → C D} {Q : VK} (e0 : Ext ρ ι0 H0 ι H) (r : SR K ι M H σ ρ) (f : Fit K W ρ w2 σ ι0 H0 ((ca >>= k) M) Q) :
    tD K W ρ w ca σ H (fun v H1 => ∃ d ι1 M1, Ext ρ ι H ι1 H1 ∧ SR K ι1 M1 H1 σ ρ ∧ RpB w K ρ ι1 H1 d v ∧ Fit K W ρ w2 σ ι0 H0 (k d M1) Q) := by
  refine ⟨ι, M, r, ?_⟩
  have f' : Fit K W ρ w2 σ ι0 H0 ((ca M).bnd k) Q := f
  cases e : ca M with
  | ok d M1 => rw [e] at f'; exact fun ι1 v H1 e1 r1 q1 => ⟨d, ι1, M1, e1, r1, q1, f'⟩
  | exc c d M1 => rw [e] at f'; exact FitX.later e0 f'
  | no => rw [e] at f'; exact f'
theorem prs_run {K : PySem.W.Frag} {W : WX} {ρ : List Sl} {σ : L2.St} {w : Bool} {Q : VK} {R : List (V × V) → Hp → Prop} {ι0 : List Addr} {H0 : Hp} : ∀ (ks : List Str) (cs : List (C D)) {ι : List Addr} {M : Mem} {H : Hp} {k : List D → C D}, ks.length = cs.length → Ext ρ ι0 H0 ι H → SR K ι M H σ ρ → Fit K W ρ w σ ι0 H0 ((args cs >>= k) M) Q →
    (∀ ds vs ι1 M1 H1, Ext ρ ι H ι1 H1 → SR K ι1 M1 H1 σ ρ → RpL K ι1 H1 ds vs → ds.length = ks.length → Fit K W ρ w σ ι0 H0 (k ds M1) Q → R ((ks.map V.str).zip vs) H1) → tPairs (prs K W ρ ks cs) σ H R
  | [], [], ι, M, H, k, _, _, r, f, z => z [] [] ι M H Ex.refl r .nil rfl f
  | x :: ks, c :: cs, ι, M, H, k, hl, e0, r, f, z => by
    show tC (.str x) σ H fun u H1 => tD K W ρ false c σ H1 fun y H2 => tPairs (prs K W ρ ks cs) σ H2 fun ps H3 => R ((u, y) :: ps) H3
    have f' : Fit K W ρ w σ ι0 H0 ((c >>= fun a => args cs >>= fun as => k (a :: as)) M) Q := by
      have e : (args (c :: cs) >>= k) = (c >>= fun a => args cs >>= fun as => k (a :: as)) := by
        show ((c >>= fun a => args cs >>= fun as => pure (a :: as)) >>= k) = _
        rw [C.bind_assoc]
        congr 1; funext a
        rw [C.bind_assoc]; rfl
      rw [← e]; exact f
    refine (seqD0 e0 r f').imp fun y H1 ⟨d, ι1, M1, e1, r1, q1, f1⟩ => ?_
    refine prs_run ks cs (by simpa using hl) (e0.trans e1) r1 f1 fun ds vs ι2 M2 H2 e2 r2 q2 hl2 f2 => ?_
    exact z (d :: ds) (y :: vs) ι2 M2 H2 (e1.trans e2) r2 (.cons (r1.rp e2 q1.str) q2) (by simp [hl2]) f2
  | [], _ :: _, _, _, _, _, hl, _, _, _, _ => by simp at hl
  | _ :: _, [], _, _, _, _, hl, _, _, _, _ => by simp at hl
def dicC (ks : List Str) (cs : List (C D)) : C D := do let ds ← args cs; pure (.dic (ks.map Sum.inr) ds)
theorem merge_nodup : ∀ (more acc : List (Key × V)), ((acc ++ more).map (·.1)).Nodup → mergeK acc more = acc ++ more
  | [], acc, _ => by simp [mergeK]
  | kv :: more, acc, h => by
    have hn : kv.1 ∉ acc.map (·.1) := by
      rw [List.map_append, List.map_cons, List.nodup_append] at h
      exact fun z => h.2.2 _ z _ List.mem_cons_self rfl
    have e : putK acc kv.1 kv.2 = acc ++ [kv] := by
      unfold putK
      rw [if_neg]
      intro z
      obtain ⟨p, hp, e⟩ := List.any_eq_true.mp z
      exact hn (by rw [← of_decide_eq_true e]; exact List.mem_map_of_mem hp)
    show mergeK (putK acc kv.1 kv.2) more = _
    rw [e, merge_nodup more (acc ++ [kv]) (by simpa using h)]
    simp
/-- the keys are named once each -/
def ndS : List Str → Bool
  | [] => true
  | x :: xs => !(xs.contains x) && ndS xs
theorem nd_of : ∀ {ks : List Str}, ndS ks = true → (ks.map (Sum.inr : Str → Key)).Nodup
  | [], _ => by simp
  | x :: xs, h => by
    unfold ndS at h
    rw [Bool.and_eq_true] at h
    have h1 := nd_of h.2
    rw [List.map_cons, List.nodup_cons]
    refine ⟨fun z => ?_, h1⟩
    obtain ⟨y, hy, e⟩ := List.mem_map.mp z
    cases e
    have := h.1
    simp [hy] at this
section
variable {X : Cx} {W : WX} {ρ : List Sl} {w : Bool} {pos : Pos} {keys : List (Option Expr)} {values : List Expr}
theorem zip_keys : ∀ (ks : List Str) (vs : List V), ks.length = vs.length → (ks.map V.str).zip vs = ((ks.map (Sum.inr : Str → Key)).zip vs).map fun kv => (kV kv.1, kv.2)
  | [], _, _ => rfl
  | x :: ks, [], h => by simp at h
  | x :: ks, v :: vs, h => by
    show (V.str x, v) :: (ks.map V.str).zip vs = (kV (.inr x), v) :: _
    rw [zip_keys ks vs (by simpa using h)]; rfl
theorem de_disp {ks : List Str} {cs : List (C D)} (h : PPs X pos keys values (prs X.K W ρ ks cs)) (hlen : ks.length = cs.length := by rfl) (hnd : ndS ks = true := by decide) (hall : keys.all (·.isSome) = true := by rfl) (hl : keys.length = values.length := by rfl) (h0 : keys ≠ [] := by intro z; cases z) (h15 : keys.length ≤ 15 := by decide)
    (hk15 : ks.length ≤ 15 := by decide) : DG w X W ρ (.Dict keys values pos) (dicC ks cs) := by
  refine dv ⟨fun pins s σ H Q I ⟨ι, M, sr, f⟩ => thn ((pe_disp h hall hl h0 h15).run pins s σ H (frzD Q) I ?_) fun _ _ z => ep_frzD z⟩
  intro p hp
  have r0 := sr.same (same_new (o := .dK []) hp)
  have e0 : Ext ρ ι H ι (upd H p (.dK [])) := Ex.same (same_new hp)
  have hnO : ¬ Own ρ p := sr.notOwn (.inl hp)
  refine prs_run ks cs hlen e0 r0 f fun ds vs ι1 M1 H1 e1 r1 q1 hl1 f1 => ?_
  have hp1 : H1 p = some (.dK []) := e1.keep p _ upd_same (sr.gr.fresh hp) hnO fun _ z => by cases z
  have hi1 : p ∉ ι1 := fun z => by
    rcases e1.newc _ z with z | z
    · exact sr.gr.fresh hp z
    · exact z.no upd_same fun _ z => by cases z
  have hv : ks.length = vs.length := by rw [← hl1, q1.length]
  refine ⟨hp1, (ks.map (Sum.inr : Str → Key)).zip vs, zip_keys ks vs hv, ?_, ?_⟩
  · rw [List.length_zip, List.length_map]; omega
  · have hm : ((ks.map (Sum.inr : Str → Key)).zip vs).map (·.1) = ks.map Sum.inr := by
      rw [List.map_fst_zip]; simp [hv]
    have hs : ((ks.map (Sum.inr : Str → Key)).zip vs).map (·.2) = vs := by
      rw [List.map_snd_zip]; simp [hv]
    rw [merge_nodup _ [] (by rw [List.nil_append, hm]; exact nd_of hnd), List.nil_append]
    refine .inr ⟨p, _, rfl, upd_same, fun o => ?_⟩
    rw [upd_upd']
    have e2 : Ext ρ ι H ι1 (upd H1 p (.frz o (.dK ((ks.map (Sum.inr : Str → Key)).zip vs)))) := by
      have z := e0.trans e1
      refine ⟨z.pre, z.newc, z.newo, fun b u hb h1 h2 h3 => ?_, fun b hb => ?_⟩
      · rw [upd_ne fun e => by subst e; rw [hp] at hb; cases hb]; exact z.keep b u hb h1 h2 h3
      · by_cases e : b = p
        · subst e; exact .inl hp
        · unfold Nn at hb; rw [upd_ne e] at hb; exact z.free b hb
    refine f1 ι1 _ _ e2 (r1.dk hp1) (.of ?_)
    unfold Rp
    exact ⟨p, _, rfl, ⟨hi1, o, upd_same⟩, hm, by rw [hs]; exact RpL.dk hp1 _ _ q1⟩
def dicGet : List Key → List D → Key → Option D
  | k' :: ks, x :: xs, k => if k' = k then some x else dicGet ks xs k
  | _, _, _ => none
def D.key? : D → Option Key
  | .int i => some (.inl i)
  | .str x => some (.inr x)
  | _ => none
def D.dget : D → D → Option D
  | .dic ks xs, d => d.key?.bind fun k => dicGet ks xs k
  | _, _ => none
theorem dicGet_eq {K : PySem.W.Frag} {ι : List Addr} {H : Hp} {k : Key} {d : D} : ∀ {ks : List Key} {ds : List D} {kvs : List (Key × V)}, kvs.map (·.1) = ks → RpL K ι H ds (kvs.map (·.2)) → dicGet ks ds k = some d → ∃ v, valV kvs k = some v ∧ Rp K ι H d v
  | [], ds, kvs, _, _, h => by unfold dicGet at h; cases h
  | k' :: ks, [], kvs, _, _, h => by unfold dicGet at h; cases h
  | k' :: ks, x :: xs, [], e, _, h => by cases e
  | k' :: ks, x :: xs, p :: kvs, e, l, h => by
    rw [List.map_cons] at e l
    obtain ⟨y, ys, e1, r, l2⟩ := l.consE
    cases e1
    have e2 : p.1 = k' := (List.cons.inj e).1
    have e3 : kvs.map (·.1) = ks := (List.cons.inj e).2
    unfold dicGet at h
    by_cases hk : k' = k
    · rw [if_pos hk] at h; cases h
      exact ⟨p.2, valV_pos (e2.trans hk), r⟩
    · rw [if_neg hk] at h
      obtain ⟨v, h1, h2⟩ := dicGet_eq e3 l2 h
      exact ⟨v, by rw [valV_neg (by rw [e2]; exact hk)]; exact h1, h2⟩
theorem key_eq {K : PySem.W.Frag} {ι : List Addr} {H : Hp} {d : D} {k : Key} {v : V} (h : d.key? = some k) (q : Rp K ι H d v) : v = kV k := by
  unfold D.key? at h
  split at h
  · cases h; exact q.intE
  · cases h; exact q.strE
  · cases h
theorem de_dget {a b : Expr} {ca cb : C D} {g : Bool} {k : Nat} (hr : Rm g k X.A) (ha : DE X W ρ a ca) (hb : DE X W ρ b cb) (hs : NoSl b := by intro _ _; rfl) : DG w X W ρ (.Subscript a b pos) (bin D.dget ca cb) := by
  refine dv (pe_imp (pe_dget (by have := hr.room.un; omega) ha hb hs) fun σ H Q ⟨ι, M, sr, f⟩ => ?_)
  refine (seqD sr f).imp fun x H1 ⟨d1, ι1, M1, e1, r1, q1, f1⟩ => (seqD r1 f1).imp fun y H2 ⟨d2, ι2, M2, e2, r2, q2, f2⟩ => ?_
  obtain ⟨r, hr, f3⟩ := f2.someD
  have q1' := r1.rp e2 q1.str
  cases d1 with
  | dic ks ds =>
    have hr : (d2.key?.bind fun k => dicGet ks ds k) = some r := hr
    cases hk : d2.key? with
    | none => rw [hk] at hr; cases hr
    | some k =>
      rw [hk] at hr
      unfold Rp at q1'
      obtain ⟨p, kvs, rfl, ⟨_, o, hp⟩, hm, l⟩ := q1'
      obtain ⟨v, hv, rv⟩ := dicGet_eq hm l hr
      exact ⟨p, v, rfl, .inl ⟨kvs, k, .inr ⟨o, hp⟩, key_eq hk q2.str, hv.symm⟩, f3.val r2 rv⟩
  | _ => exact absurd (show (none : Option D) = some r from hr) (by simp)
end
end Fw
set_option Elab.async false
set_option linter.all false
set_option maxRecDepth 100000
set_option maxHeartbeats 2000000
namespace Fw
open PySem PySem.Spec PySem.W L2

/-! ### own exceptions: class E(ValueError) whose __init__ says super().__init__(value); self.value = value -/
def eA (p1 p2 : Pos) : Arguments := { posonlyargs := [], args := [{ arg := "self", annotation := none, pos := p1 }, { arg := "value", annotation := none, pos := p2 }], vararg := none, kwonlyargs := [], kw_defaults := [], kwarg := none, defaults := [] }
def eB (q1 q2 q3 q4 q5 q6 q7 q8 q9 q10 : Pos) : List Stmt :=
  [.Expr (.Call (.Attribute (.Call (.Name "super" q1) [] [] q2) "__init__" q3) [.Name "value" q4] [] q5) q6, .Assign [.Attribute (.Name "self" q7) "value" q8] (.Name "value" q9) q10]
def eS : Scope := { kind := .function, names := [(PySem.Str.ofString "self", .local), (PySem.Str.ofString "value", .local), (PySem.Str.ofString "__class__", .free), (PySem.Str.ofString "super", .globalImplicit)], isGenerator := false, isCoroutine := false, more := [] }
/-- what the written part says of the class that has the __init__ (at D), of its __init__ (at f) -/
structure ErrD (P : Program) (K : Frag) (D f : Addr) : Prop where
  clsD : ∃ cdD, clsIn K D = some cdD
  any : nsIn K cStatics "thirdparty.any" = some none
  sup : nsIn K mainGlobals "super" = some none
  top : (P.main.scope.names.lookup ("super" : Str)).isSome = false
  tf : typeIn K (.ref f) = some (.type "function")
  fn : ∃ (oc : Value) (od : Option Addr) (doc pm ct : Value) (an : Option Addr) (osl : Array (Option Value)) (cc cda : Addr) (p1 p2 q1 q2 q3 q4 q5 q6 q7 q8 q9 q10 : Pos) (cl : Value) (cld : Option Addr) (csl : Array (Option Value)) (ccl : Value) (cdd : Option Addr) (vs : Array Value) (ccs : Array (Option Value)) (file : Str) (tk : Tok),
    K.lookup f = some ⟨oc, od, .func (ksFn "__init__" "ClackError.__init__" (eA p1 p2) (eB q1 q2 q3 q4 q5 q6 q7 q8 q9 q10) eS .none .none doc pm an (.ref cda) ct cc), osl⟩ ∧ codeIn K (.ref cda) "ClackError.__init__" = true ∧
    (∃ pl : Env → Sem Bool, ∀ env, eval (.Call (.Attribute (.Call (.Name "super" q1) [] [] q2) "__init__" q3) [.Name "value" q4] [] q5) env = (do
      let ov ← attributeBase (.Call (.Name "super" q1) [] [] q2) "__init__" env (eval (.Call (.Name "super" q1) [] [] q2) env)
      standAt q3.atName
      let (f, first) ← holding [ov] (getMethod ov "__init__" (pl env))
      callWith q5 f first (backTo q5 (starEach [.Name "value" q4] env)) [])) ∧
    (∀ env, swapsWith (.Call (.Attribute (.Call (.Name "super" q1) [] [] q2) "__init__" q3) [.Name "value" q4] [] q5) none q6.line env = pure false) ∧
    (∀ env, swapsWith (.Name "value" q9) (some (.Attribute (.Name "self" q7) "value" q8)) q10.line env = pure false) ∧
    K.lookup cc = some ⟨cl, cld, .cell (some (.ref D)), csl⟩ ∧ K.lookup cda = some ⟨ccl, cdd, .fields vs, ccs⟩ ∧ vs[2]? = some (.str file tk) ∧ ((P.main.file : Str) == file) = true
/-- .. of a class at C -/
structure ErrC (K : Frag) (C D f : Addr) : Prop where
  cls : ∃ nm q N bs bm sn sub ab col dd k0 k1 k2 k3 k5, K.lookup C = some (excClassObj nm q C N bs bm true sn sub ab col dd k0 k1 k2 k3 k5 "ValueError.__new__") ∧ PySem.HandSPX.refsVE bm = true
  sa : findIn K (.ref C) "__setattr__" = some (some (.builtin "object.__setattr__"))
  ga : findIn K (.ref C) "__getattribute__" = some (some (.builtin "BaseException.__getattribute__"))
  gg : findIn K (.ref C) "__getattr__" = some none
  noV : findIn K (.ref C) "value" = some none
  iC : findIn K (.ref C) "__init__" = some (some (.ref f))
  kC : keepIn K (.ref C) = true
  exC : subIn K (.ref C) (.type "BaseException") = some true
  veC : subIn K (.ref C) (.type "ValueError") = some true
  tyC : typeIn K (.ref C) = some (.type "type")
  hdC : hasDictIn K C = true
  subD : mroIn K C (.ref D) = some true
  along : ks_superIn K C D "__init__" = some (some (.builtin "ValueError.__init__"))
/-- what __init__ leaves of a fresh exception at x -/
structure IEnd (h h' : Heap) (x C dx : Addr) (v : Value) : Prop where
  keep : ∀ b o, b ≠ x → h.get? b = some o → h'.get? b = some o
  obj : ∃ t1, h'.get? x = some { cls := .ref C, dict := some dx, data := .fields #[.ref t1, .none, .none, .none, .bool false, .none] }
  dbig : h.objs.size ≤ dx
  dne : dx ≠ x
  ns : h'.Ns1 dx (fun y => if y = ("value" : Str) then some v else none)
section
variable {prog : Program} {w : World} {A : Around} {E : Value → Shared → Prop} {R : Result → Shared → Prop} {s : Shared} {K : Frag} {C D fI : Addr} {mb : Str → Option Value}
theorem ldE {M : Model} {L a : Addr} {fd : FuncData} {m : Str → Option Value} {x : Str} {pos : Pos} {v : Value} {Q : Value → Shared → Prop} (hfd : fd.scope = eS) (hn : s.heap.Ns L m) (hv : m x = some v) (hl : eS.names.lookup x = some .local) (h : Q v s)
    (hd : (x == ("__debug__" : Str)) = false := by decide) : wpAny M A (eval (.Name x pos) (callEnv fd L a)) Q E s := by
  refine wpAny_Name (wpAny_loadName_local (m := m) ?_ ?_ hn hv h) hd
  · show fd.scope.kind = .function
    rw [hfd]; rfl
  · show fd.scope.names.lookup x = some .local
    rw [hfd]; exact hl
theorem call_mw {h : Heap} {g : Array GenState} {d : Drawn} {t : Nat} {os : OsState} {nm q : Str} {N u e t0 : Addr} {bs bm : List Value} {hdct : Bool} {sn : List Str} {sub : List Value} {ab : Bool} {col : Option Bool} {dd : Option Addr} {k0 k1 k2 k3 k5 : Option Value} {rest : List Value} {Q : Value → Shared → Prop}
    (hC : h.get? C = some (excClassObj nm q C N bs bm hdct sn sub ab col dd k0 k1 k2 k3 k5 "ValueError.__new__")) (he : h.get? e = some (PySem.HandSPX.excO C t0)) (hu : h.get? u = some (kxs_mw "ValueError.__init__" e)) (hrest : rest.length ≤ sizeLine)
    (hq : ∀ h' t1, (∀ b o, b ≠ e → h.get? b = some o → h'.get? b = some o) → h'.get? e = some (PySem.HandSPX.excO C t1) → Q .none ⟨h', g, d, t, os⟩) : wpAny (model prog w) A (call (.ref u) rest) Q E ⟨h, g, d, t, os⟩ := by
  have FB := PySem.F.excBase_ValueError
  refine wpAny_call (codeAny_of_tree ?_)
  show wpAny _ A.in1 (callAny (.ref u) ⟨rest, []⟩) _ _ _
  simp only [callAny]
  refine wpAny_bind (wpAny_load hu ?_)
  simp only [kxs_mw, show (Value.type "method-wrapper" == Value.type "method" || Value.type "method-wrapper" == Value.type "builtin_function_or_method" || Value.type "method-wrapper" == Value.type "method-wrapper") = true by decide, if_true]
  refine KFB.if_so (by decide) (wpAny_bind (check_bound_init FB.toExcCallFacts hC he rfl ?_))
  refine wpAny_bind (wpAny_pure (wpAny_pure ⟨plainId_quiet FB.init.plain _, codeAny_builtin FB.initEntry ?_⟩))
  rw [Around.under_plainId FB.init.plain _]
  exact exc_init_tree (cls := .ref C) (t0 := t0) (dv := none) (c2 := .none) (c3 := .none) (b4 := .bool false) he hrest fun h' k hx _ => hq h' _ k hx
theorem err_init (TD : ErrD prog K D fI) (T : ErrC K C D fI) {x t0 : Addr} {v : Value} (X : K.In s.heap) (hmg : ∃ mg, s.heap.Ns mainGlobals mg) (hb : s.heap.Ns builtinsNs mb) (hbb : ∀ x : Str, x ≠ "__name__" → mb x = bootBuiltins x) (hlim : s.heap.NoLimit)
    (hx : s.heap.get? x = some (PySem.HandSPX.excO C t0)) (hnx : K.lookup x = none) (hroom : A.depth < recursionLimit) (hq : ∀ h' tk dx, IEnd s.heap h' x C dx v → R (.ok (.ret .none)) { s with heap := h', toks := tk }) :
    codeAny (model prog w) A (.call (.ref fI) ⟨[.ref x, v], []⟩) R s := by
  obtain ⟨oc, od, doc, pm, ct, an, osl, cc, cda, p1, p2, q1, q2, q3, q4, q5, q6, q7, q8, q9, q10, cl, cld, csl, ccl, cdd, vs, ccs, file, tk, ho, hcd, ⟨pl, hcall⟩, hsw1, hsw2, hcc, hcda, hvs, hfile⟩ := TD.fn
  obtain ⟨cdD, hD⟩ := TD.clsD
  obtain ⟨mg, hG⟩ := hmg
  obtain ⟨nm, q, N, bs, bm, sn, sub, ab, col, dd, k0, k1, k2, k3, k5, hC, hbm⟩ := T.cls
  have hcl : clsIn K C = some { name := nm, bases := bs, mro := .ref C :: bm, ns := N, qualname := q, hasDict := true, slotNames := sn, subclasses := sub, abstract := ab, collection := col, hasDel := false } := by unfold clsIn; rw [hC] <;> rfl
  refine ks_codeAny_call_defAt (binds := [("self", .ref x), ("value", v)]) hroom (X _ _ ho) rfl hlim (codeRec_of X hcd) rfl (BindsTo.of_eq (by first | rfl | with_unfolding_all rfl)) (show ∀ x ∈ eS.names, x.2 ≠ .cell by decide +kernel) ?hloc (fun h₁ hns hk => ?_) rfl rfl rfl
  case hloc =>
    intro y hy
    rcases List.mem_cons.mp hy with rfl | hy
    · show eS.names.lookup ("self" : Str) = some .local
      decide +kernel
    · rcases List.mem_cons.mp hy with rfl | hy
      · show eS.names.lookup ("value" : Str) = some .local
        decide +kernel
      · cases hy
  have X₁ : K.In h₁ := X.keeps hk
  have hx₁ := hk _ _ hx
  have I₁ : InstAt h₁ x (PySem.HandSPX.excO C t0) C none := ⟨hx₁, rfl, rfl, trivial⟩
  obtain ⟨oD, hD1, hD2⟩ : ∃ oD, h₁.get? D = some oD ∧ oD.data = .cls cdD := by
    unfold clsIn at hD
    split at hD
    · rename_i c d cd' sl ho
      cases hD
      exact ⟨_, X₁ _ _ ho, rfl⟩
    · cases hD
  have hxL : s.heap.objs.size ≠ x := Nat.ne_of_gt (Heap.lt_size hx)
  have hself : (fun y : Str => List.lookup y [(("self" : Str), Value.ref x), ("value", v)].reverse) ("self" : Str) = some (.ref x) := by first | rfl | decide +kernel
  have hval : (fun y : Str => List.lookup y [(("self" : Str), Value.ref x), ("value", v)].reverse) ("value" : Str) = some v := by first | rfl | decide +kernel
  -- super().__init__(value)
  refine ks_wpAt_execs_cons (ks_wpAt_Expr_any (ks_wpAt_MethodCall (pl := pl _) ?_ (hcall _)) (by rfl) (hsw1 _))
  refine ks_wpAt_super_base (env := callEnv _ _ _) (by rfl) (by rfl) (by rfl) rfl (X₁ _ _ ho) rfl rfl rfl (X₁ _ _ hcda) rfl hvs hfile TD.top ?_
  refine ks_loadName_global rfl (by rfl) (PySem.Calls.loadGlobal_builtin (hG.keeps hk) (mg_none_of X hG TD.sup) (hb.keeps hk) ((hbb _ (by decide +kernel)).trans (by decide +kernel)) ⟨rfl, ?_⟩)
  refine wpAny_loadName_free rfl (by rfl) rfl ⟨_, X₁ _ _ hcc, rfl⟩ ?_
  refine wpAny_loadName_local rfl (by rfl) hns hself ?_
  refine ks_wpAny_isType_cls hD1 hD2 ⟨rfl, ?_⟩
  refine ks_wpAny_call_super hD1 hD2 hx₁ rfl (fun c e => by cases e) (looks_mroIn X₁ T.subD) fun h₂ hso k₂ => ?_
  have X₂ : K.In h₂ := X₁.keeps k₂
  have hx₂ := k₂ _ _ hx₁
  have I₂ : InstAt h₂ x (PySem.HandSPX.excO C t0) C none := ⟨hx₂, rfl, rfl, trivial⟩
  have hal := T.along
  unfold ks_superIn at hal
  rw [hcl] at hal
  refine kxs_getMethod kxs_ValueError hso (looks_opaque X₂ TD.any) (l₀ := .ref C :: bm) ((looks_clsIn X₂ hcl).andThen .now) rfl X₂ hal (I₂.type.andThen (looks_subIn X₂ T.veC)) (ks_ne X₂ I₂ hcl) (by rfl) ?_
  have hmw : (h₂.push (kxs_mw "ValueError.__init__" x)).get? h₂.objs.size = some (kxs_mw "ValueError.__init__" x) := Heap.get?_push_at rfl rfl
  have k₃ : ∀ b o, h₂.get? b = some o → (h₂.push (kxs_mw "ValueError.__init__" x)).get? b = some o := fun b o e => Heap.get?_push_of_some _ e
  have hx₃ := k₃ _ _ hx₂
  have ns₃ := hns.keeps fun b o e => k₃ b o (k₂ b o e)
  refine kxs_callWith (i := "ValueError.__init__") (x := x) (by rfl) (PySem.Calls.evalArgs_plain ?_)
  show wpAny _ _ (spliced ((false, eval (.Name "value" q4) (callEnv (ksFn "__init__" "ClackError.__init__" (eA p1 p2) (eB q1 q2 q3 q4 q5 q6 q7 q8 q9 q10) eS .none .none doc pm an (.ref cda) ct cc) s.heap.objs.size fI)) :: backTo q5 (starEach [] (callEnv (ksFn "__init__" "ClackError.__init__" (eA p1 p2) (eB q1 q2 q3 q4 q5 q6 q7 q8 q9 q10) eS .none .none doc pm an (.ref cda) ct cc) s.heap.objs.size fI)))) _ _ _
  refine PySem.Calls.spliced_cons (ldE rfl ns₃ hval (by decide +kernel) (PySem.Calls.spliced_nil ⟨hmw, ?_⟩))
  refine call_mw (k₃ _ _ (X₂ _ _ hC)) hx₃ hmw (by show 1 ≤ sizeLine; decide) fun h₄ t1 k₄ hx₄ => ?_
  -- self.value = value
  have hLx : s.heap.objs.size ≠ x := hxL
  have ns₄ := ns₃.at fun o e => k₄ _ o hLx e
  have X₄ : K.In h₄ := fun b o e => k₄ b o (fun z => by rw [z, hnx] at e; cases e) (k₃ _ _ (X₂ _ _ e))
  refine ks_wpAt_execs_cons (wpAt_of_wpAny (plainObj_wpAny_Assign_Attribute ?_ (hsw2 _)))
  refine ldE (v := v) rfl ns₄ hval (by decide +kernel) (ldE (v := .ref x) rfl ns₄ hself (by decide +kernel) ?_)
  refine set_plain X₄ (ox := PySem.HandSPX.excO C t1) (od := none) ⟨hx₄, rfl, rfl, trivial⟩ T.sa ?_
  refine PySem.HandSPX.exc_osa X₄ hx₄ hcl (show PySem.HandSPX.refsVE (.ref C :: bm) = true from hbm) rfl T.noV (fun h₅ tk₅ dx k₅ dn dne hx₅ hn₅ => ?_)
  refine wpAt_of_wpAny (wpAny_execs_nil ?_)
  have old : ∀ b o, b ≠ x → s.heap.get? b = some o → h₅.get? b = some o := fun b o hb e => k₅ b o hb (k₄ b o hb (k₃ b o (k₂ b o (hk b o e))))
  exact hq h₅ tk₅ dx ⟨old, ⟨t1, hx₅⟩, Nat.le_trans (Nat.le_of_lt ns₄.lt) dn, dne, hn₅⟩
/-- a made one -/
structure Made (h h' : Heap) (e C d : Addr) (v : Value) : Prop where
  keep : ∀ b o, h.get? b = some o → h'.get? b = some o
  new : h.objs.size ≤ e
  obj : ∃ oe vs, h'.get? e = some oe ∧ oe.cls = .ref C ∧ oe.dict = some d ∧ oe.data = .fields vs ∧ vs[1]? = some .none
  dbig : h.objs.size ≤ d
  dne : d ≠ e
  ns : h'.Ns1 d (fun y => if y = ("value" : Str) then some v else none)
theorem err_made (TD : ErrD prog K D fI) (T : ErrC K C D fI) {v : Value} (X : K.In s.heap) (hmg : ∃ mg, s.heap.Ns mainGlobals mg) (hb : s.heap.Ns builtinsNs mb) (hbb : ∀ x : Str, x ≠ "__name__" → mb x = bootBuiltins x) (hlim : s.heap.NoLimit) (hroom : A.depth + 1 < recursionLimit)
    (hq : ∀ h' tk e d, Made s.heap h' e C d v → R (.ok (.ret (.ref e))) { s with heap := h', toks := tk }) : codeAny (model prog w) A (.call (.ref C) ⟨[v], []⟩) R s := by
  obtain ⟨nm, q, N, bs, bm, sn, sub, ab, col, dd, k0, k1, k2, k3, k5, hC, hbm⟩ := T.cls
  obtain ⟨hp, g, dr, tk, os⟩ := s
  have grow : ∀ b o, hp.get? b = some o → ((hp.push (kdv_tup [v])).push (PySem.HandSPX.excO C hp.objs.size)).get? b = some o := fun b o e => Heap.get?_push_of_some _ (Heap.get?_push_of_some _ e)
  have at_ : ((hp.push (kdv_tup [v])).push (PySem.HandSPX.excO C hp.objs.size)).get? (hp.objs.size + 1) = some (PySem.HandSPX.excO C hp.objs.size) := by heap_get
  have hnx : K.lookup (hp.objs.size + 1) = none := by
    cases e : K.lookup (hp.objs.size + 1) with
    | none => rfl
    | some o => exact absurd (Nat.lt_of_succ_lt (Heap.lt_size (X _ _ e))) (Nat.lt_irrefl _)
  obtain ⟨mg, hG⟩ := hmg
  refine PySem.HandSPX.call_own PySem.F.excBase_ValueError (fun Z => PySem.HandSPX.refsVE_contains Z bm hbm) (X _ _ hC) (looks_findIn X T.iC) (fun self => bind_fn X self TD.tf) (by show 1 ≤ sizeLine; decide) ?_
  refine err_init (s := ⟨(hp.push (kdv_tup [v])).push (PySem.HandSPX.excO C hp.objs.size), g, dr, tk, os⟩) TD T (X.keeps grow) ⟨mg, hG.keeps grow⟩ (hb.keeps grow) hbb (hlim.keeps grow) at_ hnx ?_ fun h' tk' dx ⟨k', ⟨t1, hx⟩, dn, dne, hns⟩ => ?_
  · show A.depth + 1 < recursionLimit
    exact hroom
  · refine ⟨rfl, hq h' tk' (hp.objs.size + 1) dx ⟨fun b o e => k' b o (Nat.ne_of_lt (Nat.lt_succ_of_lt (Heap.lt_size e))) (grow b o e), Nat.le_succ _, ⟨_, _, hx, rfl, rfl, rfl, rfl⟩, ?_, dne, hns⟩⟩
    refine Nat.le_trans (Nat.le_trans (Nat.le_succ _) (Nat.le_succ _)) (?_ : hp.objs.size + 1 + 1 ≤ dx)
    have z := dn
    rw [Heap.size_push, Heap.size_push] at z
    exact z
end
theorem relO_val {v : V} {v' : Value} (r : RelV v v') (f : Str) : RelO (List.lookup f [(("value" : Str), v)]) (if f = ("value" : Str) then some v' else none) := by
  by_cases hw : f = ("value" : Str)
  · rw [if_pos hw, hw, List.lookup_cons_self]
    exact r
  · rw [if_neg hw, List.lookup_cons, show (f == ("value" : Str)) = false by simpa using hw]
    exact True.intro
section
variable {X : Cx} {W : WX} {ρ : List Sl}
def FitM (K : Frag) (W : WX) (ρ : List Sl) (σ : L2.St) (ι : List Addr) (H : Hp) (c : Str) : Out D → XK → Prop
  | .ok d M', Q => ∀ ι' cls dct H', Ext ρ ι H ι' H' → SR K ι' M' H' σ ρ → XR K ι' H' c d cls dct → Q cls dct H'
  | .exc c' d M', _ => FitX K W ρ σ ι H c' d M'
  | .no, _ => False
/-- the reading of an expression that makes an exception of the class c, its value by ca -/
def tM (K : Frag) (W : WX) (ρ : List Sl) (c : Str) (ca : C D) : L2.St → Hp → XK → Prop := fun σ H Q => ∃ ι M, SR K ι M H σ ρ ∧ FitM K W ρ σ ι H c (ca M) Q
theorem pm_err {c : Str} {a : Expr} {ca : C D} {D f : Addr} {p pos : Pos} {g : Bool} {k : Nat} (TD : ErrD X.prog X.K D f) (T : ErrC X.K (He.ga X.K c) D f) (hm : X.mg c = some (.ref (He.ga X.K c))) (hr : Rm g k X.A) (ha : DE X W ρ a ca) (hg : Gl X c := by rfl) (hdb : (c == ("__debug__" : Str)) = false := by decide)
    (he : starEach (a :: []) X.env = (false, eval a X.env) :: starEach [] X.env := by rfl) (hpl : (backTo pos (starEach [] X.env)).any (·.1) = false := by rfl) :
    PMk X (.Call (.Name c p) [a] [] pos) (tM X.K W ρ c ca) := by
  intro pins s σ H Q I ⟨ι, M, sr, f0⟩
  refine wpAny_Call_Name_kw (ld_glob I hg hm ?_ hdb)
  have rd : tD X.K W ρ false ca σ H (fun v H1 => ∃ d ι1 M1, Ext ρ ι H ι1 H1 ∧ SR X.K ι1 M1 H1 σ ρ ∧ Rp X.K ι1 H1 d v ∧ FitM X.K W ρ σ ι1 H1 c (.ok d M1) Q) := by
    refine ⟨ι, M, sr, ?_⟩
    cases ec : ca M with
    | ok d M1 =>
      rw [ec] at f0
      exact fun ι1 v H1 e1 r1 q1 => ⟨d, ι1, M1, e1, r1, q1.str, fun ι2 cls dct H2 e2 => f0 ι2 cls dct H2 (e1.trans e2)⟩
    | exc c' d M1 => rw [ec] at f0; exact f0
    | no => rw [ec] at f0; exact f0
  refine PySem.W.callWith_K (h₀ := X.base) I.ok.mod.kin T.kC (thn ((pa_cons ha pa_nil he).run pos pins s σ H (fun vs H1 => ∃ v, vs = [v] ∧ ∃ d ι1 M1, Ext ρ ι H ι1 H1 ∧ SR X.K ι1 M1 H1 σ ρ ∧ Rp X.K ι1 H1 d v ∧ FitM X.K W ρ σ ι1 H1 c (.ok d M1) Q) I (rd.imp fun v H1 z => ⟨v, rfl, z⟩)) fun us s1 ⟨vs, H1, I1, rvs, v, evs, d, ι1, M1, e1, r1, q1, f1⟩ => ⟨I1.kIn, ?_⟩) he hpl
  subst evs
  obtain ⟨u, rfl, rv⟩ := Vals.one rvs
  obtain ⟨h1, h2, h3, h4⟩ := I1.ok.mod
  obtain ⟨mb, nb, bb⟩ := h3
  have hlim := I1.nolimit
  have hG : s1.heap.Ns mainGlobals X.mg := h2.keeps I1.bk
  have hB : s1.heap.Ns builtinsNs mb := nb.keeps I1.bk
  obtain ⟨hp, gg, dr, tk, os⟩ := s1
  refine wpAny_call (err_made TD T I1.kIn ⟨_, hG⟩ hB bb hlim (by have := hr.room.dp; omega) fun h' tk' e dx Md => ?_)
  obtain ⟨oe, fv, hoe, hc, hd, hdat, hv1⟩ := Md.obj
  have hns := Md.ns
  obtain ⟨G', g1, g2⟩ := restrict h' fun b => decide (b ≠ e)
  have gk : ∀ b, b ≠ e → G'.get? b = h'.get? b := fun b hb => g1 b (decide_eq_true hb)
  have ge : G'.get? e = none := g2 e (by simp)
  have old : ∀ b o, hp.get? b = some o → G'.get? b = some o := fun b o q => (gk b (Nat.ne_of_lt (Nat.lt_of_lt_of_le (Heap.lt_size q) Md.new))).trans (Md.keep b o q)
  have nd : H1 dx = none := I1.hok.fresh Md.dbig
  have J : Inv X pins σ (upd H1 dx (.xd [(("value" : Str), v)])) ⟨G', gg, dr, tk', os⟩ := I1.laid (t' := tk') old Md.dbig (show ObjOk X.prog X.w _ G' dx (.xd [(("value" : Str), v)]) from ⟨_, hns.at (fun o q => (gk dx Md.dne).trans q), fun f => relO_val rv f⟩)
  refine ⟨e, oe, fv, ⟨G', gg, dr, tk', os⟩, _, .ref (He.ga X.K c), some dx, rfl, J, fun b o q => ?_, ge, hoe, ⟨hc, hd⟩, hdat, hv1, ?_, rfl, I1.bare, raises_own T.exC T.tyC, ?_⟩
  · by_cases hb : b = e
    · have q' : G'.get? b = some o := q
      rw [hb, ge] at q'; cases q'
    · exact (gk b hb).symm.trans q
  · rw [upd_ne (Ne.symm Md.dne)]
    exact I1.hok.fresh Md.new
  · exact f1 ι1 _ _ _ (Ex.same (same_new nd)) (r1.same (same_new nd)) ⟨rfl, dx, v, rfl, r1.gr.fresh nd, upd_same, q1.same (same_new nd)⟩
/-- raise c(a) -/
theorem db_raise {β : Type} {I : β → Fin} {c : Str} {a : Expr} {ca : C D} {D f : Addr} {p pos pos2 : Pos} {g : Bool} {k : Nat} {rest : List Stmt} (hc : X.calm = true) (tk : Takes X W) (TD : ErrD X.prog X.K D f) (T : ErrC X.K (He.ga X.K c) D f) (hm : X.mg c = some (.ref (He.ga X.K c))) (hr : Rm g k X.A) (ha : DE X W ρ a ca)
    (hg : Gl X c := by rfl) (hdb : (c == ("__debug__" : Str)) = false := by decide)
    (he : starEach (a :: []) X.env = (false, eval a X.env) :: starEach [] X.env := by rfl) (hpl : (backTo pos (starEach [] X.env)).any (·.1) = false := by rfl) :
    DB X W ρ I [.Raise (some (.Call (.Name c p) [a] [] pos)) none pos2] (ca >>= fun d => C.raise c d) := by
  refine pss_imp (pss_one (ps_raise hc tk (pm_err TD T hm hr ha hg hdb he hpl))) fun E σ H ⟨ι, M, sr, f⟩ => ⟨ι, M, sr, ?_⟩
  have f0 := FitS.bndC f
  cases ec : ca M with
  | no => rw [ec] at f0; exact f0
  | exc c' d M1 => rw [ec] at f0; exact FitS.x (D := E) f0
  | ok d M1 =>
    rw [ec] at f0
    exact fun ι1 cls dct H1 e1 r1 x1 => f0 ι1 σ cls dct H1 e1.drop r1.gr x1
end
end Fw
set_option Elab.async false
set_option linter.all false
set_option maxRecDepth 100000
set_option maxHeartbeats 2000000
namespace Fw
open PySem PySem.Spec PyProof.Rows L2

/-! ### a caught exception is kept -/
section
variable {X : Cx} {pins : List (Addr × Obj)} {σ : L2.St} {H : Hp} {s : Shared}
theorem inv_track {a : Addr} {u : HO} (I : Inv X pins σ H s) (hn : H a = none) (n0 : X.s_0.heap.get? a = none) (nL : a ≠ X.env.locals) (nC : ∀ y c, X.env.cells.lookup y = some c → c ≠ a) (nP : ∀ p ∈ X.pn ++ pins, p.1 ≠ a)
    (new : ObjOk X.prog X.w (upd H a u) s.heap a u) : Inv X pins σ (upd H a u) s := by
  have b0 := I.base
  refine ⟨I.ok, I.os, I.bare, ⟨b0.keep, b0.slot, fun b o e n hb => ?_, b0.there, fun b xs e => ?_, fun b o v e => ?_, fun b ps e => ?_⟩, I.loc, I.cell, ?_, fun y c e => ?_, fun p hp => ?_, fun b v e => ?_, I.len⟩
  · rw [upd_ne fun z => by subst z; rw [n0] at e; cases e]
    exact b0.free b o e n hb
  · have q := b0.tups b xs e
    rw [upd_ne (ne_of_none q hn)]; exact q
  · have q := b0.frzs b o v e
    rw [upd_ne (ne_of_none q hn)]; exact q
  · obtain ⟨more, q⟩ := b0.tbls b ps e
    exact ⟨more, by rw [upd_ne (ne_of_none q hn)]; exact q⟩
  · rw [upd_ne (Ne.symm nL)]; exact I.free
  · rw [upd_ne (nC y c e)]; exact I.freeC y c e
  · obtain ⟨p1, p2, p3⟩ := I.pin p hp
    exact ⟨p1, by rw [upd_ne (nP p hp)]; exact p2, p3⟩
  · by_cases hb : b = a
    · subst hb
      rw [upd_same] at e; cases e
      exact new
    · rw [upd_ne hb] at e
      exact (I.hok b v e).stay (fun c v _ q => q) (fun c q => by rw [upd_ne (ne_of_none q hn)]; exact q) fun c xs q => by rw [upd_ne (ne_of_none q hn)]; exact q
theorem exO_ok {P : Program} {w : World} {H : Hp} {h : Heap} {a C d : Addr} {oe : Obj} {vs : Array Value} (e : h.get? a = some oe) (z : Zc (.ref C) (some d) oe) (dd : oe.data = .fields vs) : ObjOk P w H h a (ExO a C d) :=
  ⟨⟨oe, vs, e, z.1, z.2, dd⟩, ⟨_, e⟩, fun h1 h2 ⟨oe, vs, q, r⟩ k => ⟨oe, vs, k _ q, r⟩⟩
end
/-- what the clause wishes of an exception of the body: slot i is the name's; the exception stays known behind the suite -/
def wTrk (K : PySem.W.Frag) (c : Value) (i : Nat) (ts : Addr → Value → Option Addr → TS) (E : Ends) : WX := fun cls d σ H =>
  PySem.W.exmOne K cls c = some true ∧ ∃ C dd, cls = .ref C ∧ d = some dd ∧ ∀ a, H a = none → ts a cls d { nx := fun σ' H' => E.nx (σ'.set i none) (upd H' a (ExO a C dd)), rt := fun _ _ => False, bk := fun _ _ => False, ct := fun _ _ => False } (σ.set i (some (.ref a))) H
section
variable {X : Cx} {x n : Str} {c : Value} {i : Nat} {body suite : List Stmt} {b₀ : Stmt} {np pos pos' : Pos} {tb : WX → TS} {ts : Addr → Value → Option Addr → TS}
theorem ps_try_trk (hs : X.stack = X.env :: X.outer) (hf : X.env.frame = some X.env.locals) (hex : X.ex = []) (hN : X.N.Nodup) (hi : X.N[i]? = some n) (hln : X.env.kindOf n = some .local) (hc : Names X x c)
    (hb : ∀ (W : WX) (pn : List (Addr × Obj)) (xe : Value → Shared → Prop), Takes (X.tr pn xe) W → PassesOwn (model X.prog X.w) X.A X.env xe → PSs (X.tr pn xe) body (tb W))
    (hsu : ∀ (a : Addr) (oe : Obj) (cls : Value) (d : Option Addr) (pn : List (Addr × Obj)), Zc cls d oe → (∃ vs, oe.data = .fields vs) → PSs (X.suite a ((a, oe) :: pn)) (b₀ :: suite) (ts a cls d)) :
    PS X (.Try body [.ExceptHandler (some (.Name x np)) (some n) (b₀ :: suite) pos'] [] [] pos) (fun D σ H => tb (wTrk X.K c i ts D) D σ H) := by
  refine ⟨fun pins s σ H D I h => ?_⟩
  have ok := I.ok
  have hfr : X.A.frames = some (X.env :: X.outer) := by rw [ok.frames, hs]
  refine wpAny_Try_except ?_
  refine wpAny_mono ((hb (wTrk X.K c i ts D) (X.pn ++ pins) (fun e s₁ => wpAny (model X.prog X.w) X.A (noteFrame e X.env) (fun _ s₂ => wpAny (model X.prog X.w) X.A (setFlight e none) (fun _ s₃ =>
    wpAny (model X.prog X.w) X.A (handleBy e X.env [.ExceptHandler (some (.Name x np)) (some n) (b₀ :: suite) pos']) (SP X pins D) X.xe s₃) X.xe s₂) X.xe s₁) (fun u s' xx => ?_) PassesOwn.looking).run [] s σ H D (I.toTry _) h) (fun f s1 hsp => ?_) (fun e s1 he => he)
  case refine_2 =>
    cases f with
    | next =>
      obtain ⟨σ', H', J', q⟩ := hsp
      exact wpAny_execs_nil ⟨σ', H', J'.ofTry ok, q⟩
    | brk => obtain ⟨σ', H', J', q⟩ := hsp; exact ⟨σ', H', J'.ofTry ok, q⟩
    | cont => obtain ⟨σ', H', J', q⟩ := hsp; exact ⟨σ', H', J'.ofTry ok, q⟩
    | ret v => obtain ⟨v', σ', H', J', r, q⟩ := hsp; exact ⟨v', σ', H', J'.ofTry ok, r, q⟩
  obtain ⟨a, B, sI, pins', σ', H', cls, d, rfl, J', nb, up, sky, na, os, ag, hm1, C, dd, ec, ed, hyes⟩ := xx
  have J : Inv X pins σ' H' sI := J'.ofTry ok
  have sky' : Sky B (X.env :: X.outer) a (Zc cls d) X.env.locals s'.heap := by rw [← hs]; exact sky
  show wpAny (model X.prog X.w) X.A (noteFrame (.ref a) X.env) _ _ _
  refine Sky.land Zc.steady hfr hf sky' fun h3 fl3 up3 => ?_
  have J3 : Inv X pins σ' H' { s' with heap := h3 } := J.landed nb fl3.1 (up.trans up3) os ag
  obtain ⟨oe3, vs3, he3, hz3, hd3⟩ := fl3.there
  have nfr : a ∉ frs (X.env :: X.outer) := fun hm => by
    obtain ⟨_, o', e', hnf⟩ := fl3.2.2.1.mem hm
    rw [he3] at e'; cases e'
    exact hnf _ hd3
  have nL : a ≠ X.env.locals := fun z => nfr (List.mem_filterMap.mpr ⟨X.env, List.mem_cons_self, by rw [hf, z]⟩)
  have nF : a ∉ X.fs := fun hm => by
    obtain ⟨e, he, q⟩ := List.mem_filterMap.mp hm
    exact nfr (List.mem_filterMap.mpr ⟨e, List.mem_cons_of_mem _ he, q⟩)
  -- the exception is new to the frame
  have nI : sI.heap.get? a = none := by
    cases e : sI.heap.get? a with
    | none => rfl
    | some o =>
      have z := nb a o e (by rw [hs]; exact nfr)
      rw [fl3.2.1] at z; cases z
  have n0 : X.s_0.heap.get? a = none := by
    cases e : X.s_0.heap.get? a with
    | none => rfl
    | some o =>
      obtain ⟨o', z⟩ := J.base.there a o e (by rw [hex]; exact fun z => nomatch z)
      rw [nI] at z; cases z
  have nP : ∀ p ∈ X.pn ++ pins, p.1 ≠ a := fun p hp z => by
    have q := (J.pin p hp).1
    rw [z, nI] at q; cases q
  have nC : ∀ y e, X.env.cells.lookup y = some e → e ≠ a := fun y e hy z => by
    obtain ⟨v, o, ho, _⟩ := J.cell y e hy
    rw [z, nI] at ho; cases ho
  have S3 := J3.suite he3 hd3 na nL nF
  refine wpAny_handleBy_cons (codeAny_handlers_test ?_) (by intro q; cases q)
  have LT : PySem.W.Looks (model X.prog X.w) h3 (typeOf (.ref a)) cls := fun A Q E s k q => wpAny_typeOf_ref (k _ _ he3) (by rw [hz3.1]; exact q)
  have LM := PySem.W.exm_one (M := model X.prog X.w) (J3.kIn) LT hm1
  have test : ∀ {Q : Value → Shared → Prop} {E : Value → Shared → Prop}, Q c { s' with heap := h3 } → wpAny (model X.prog X.w) (X.A.mark (some (.ref a))) (eval (.Name x np) X.env) Q E { s' with heap := h3 } := fun {Q E} q => by
    obtain ⟨hg, hdbg, hm | ⟨hm, hv, hnn⟩⟩ := hc
    · exact ld_glob (X := X.suite a ((a, oe3) :: (X.pn ++ pins))) S3 hg hm q hdbg
    · exact ld_blt (X := X.suite a ((a, oe3) :: (X.pn ++ pins))) S3 hg hm hv q hnn hdbg
  refine test (LM.here ?_)
  refine codeAny_handlers_suite_as ?_
  refine HandSPX.lands_againZ fl3 fun h4 fl4 up4 => ?_
  have J4 : Inv X pins σ' H' { s' with heap := h4 } := J.landed nb fl4.1 ((up.trans up3).trans up4) os ag
  obtain ⟨oe4, vs4, he4, hz4, hd4⟩ := fl4.there
  have S4 := J4.suite he4 hd4 na nL nF
  refine store_ok (X := X.suite a ((a, oe4) :: (X.pn ++ pins))) (v := .ref a) S4 hN hi (.inl hln) rfl (fun s5 S5 => ?_) (.inr hln)
  refine wpAny_mono ((hsu a oe4 cls d (X.pn ++ pins) hz4 ⟨_, hd4⟩).run [] s5 _ H' _ S5 (hyes a na)) (fun f s6 hsp => ?_) (fun _ _ z => z.elim)
  cases f with
  | brk => obtain ⟨_, _, _, q⟩ := hsp; exact q.elim
  | cont => obtain ⟨_, _, _, q⟩ := hsp; exact q.elim
  | ret v => obtain ⟨_, _, _, _, _, q⟩ := hsp; exact q.elim
  | next =>
    obtain ⟨σ6, H6, S6, q6⟩ := hsp
    obtain ⟨g1, g2, _⟩ := S6.pin (a, oe4) (List.mem_append_left _ List.mem_cons_self)
    have J6 : Inv X pins σ6 H6 s6 := S6.unsuite ok
    subst ec ed
    have T6 := inv_track (u := ExO a C dd) J6 g2 n0 nL nC nP (exO_ok g1 hz4 hd4)
    exact gone_ok T6 hN hi hln fun s7 J7 => ⟨_, _, J7, q6⟩
end

/-! ### a lambda, called within the def that got it: what it raises is wished for at that def's slots -/
section
variable {X : Cx} {pins : List (Addr × Obj)} {σ : L2.St} {H : Hp} {s : Shared}
theorem pe_actS {Ng : List Str} {qg : Str} {sg : Scope} {g f c' : Addr} {cdg pm ctv : Value} {params : Arguments} {body : Expr} {scope : Scope} {k i : Nat} {a : Str} {pn : List (Addr × Obj)} {xe : Value → Shared → Prop} {W : WX} {tb : XK → TE} {p1 p2 : Pos}
    (I : Inv X pins σ H s) (L : LamX.LamS X.env.scope scope) (hf : s.heap.get? f = some (PySem.W.kla_obj "<lambda>" (X.env.qual ++ "<lambda>") params body scope (cloFrom X.env.cells scope.names []) pm c' ctv)) (hfn : H f = none) (hfr : f ∉ frs X.stack)
    (hbind : bindArgs (PySem.W.kla_fn "<lambda>" (X.env.qual ++ "<lambda>") params body scope (cloFrom X.env.cells scope.names []) pm (.ref c') ctv) ⟨[], []⟩ = pure [])
    (tk : Takes ((cxOf C8.CX0 X.prog X.w X.K X.mg X.base Ng qg sg g cdg X.A X.stack s H C8.E0).tr pn xe) W) (hr : Room (k + 1) (X.A.deeper (envOfC qg sg s.heap.objs.size g cdg)))
    (hbody : ∀ (A : Around) (outer : List Env) (s : Shared) (H : Hp) (E : XK), Room k (A.deeper (LamX.lamEnv X scope s.heap.objs.size f c')) → PE (LamX.lamCx X A outer s H E scope f c') body (tb E))
    (hN : Ng[i]? = some a) (hv : Vis sg a) (hd : (a == ("__debug__" : Str)) = false := by decide) (hcd : (a == ("__classdict__" : Str)) = false := by decide) :
    PE ((cxOf C8.CX0 X.prog X.w X.K X.mg X.base Ng qg sg g cdg X.A X.stack s H C8.E0).tr pn xe) (.Call (.Name a p1) [] [] p2)
      (fun σZ HZ Q => σZ[i]? = some (some (.ref f)) ∧ HZ c' = some (LamX.CodeO c' (X.env.qual ++ "<lambda>")) ∧ tb (WE W σZ) σ HZ Q) := by
  refine ⟨fun pinsZ sZ σZ HZ Q IZ ⟨hs, hc, ht⟩ => ?_⟩
  refine wpAny_Call_Name_kw (thn ((pe_var (pos := p1) (i := i) hN hv hd hcd).run pinsZ sZ σZ HZ (fun v H1 => v = .ref f ∧ H1 = HZ) IZ ⟨.ref f, hs, rfl, rfl⟩) fun u s1 ⟨v, H1, I1, r1, ev, eH⟩ => ?_)
  subst ev
  rw [eH] at I1
  obtain rfl : u = Value.ref f := r1
  have of1 := I1.base.keep f _ hf hfn hfr (fun z => nomatch (show f ∈ ([] : List Addr) from z))
  have un : Un (frs X.stack) [] H HZ s.heap s1.heap := I1.base
  obtain ⟨⟨oc, vs, t, hoc, hdc, hvc⟩, _, _⟩ := I1.hok c' _ hc
  refine PySem.W.callWith_F0 ⟨_, _, _, _, of1⟩ (wpAny_call ?_)
  show codeAny (model X.prog X.w) (X.A.deeper (envOfC qg sg s.heap.objs.size g cdg)) (.call (.ref f) ⟨[], []⟩) _ s1
  refine PySem.W.kla_callFunE hr.depth of1 rfl L.co L.gen rfl ⟨c', oc, vs, t, rfl, hoc, hdc, hvc⟩ ?_
  rw [hbind]
  refine wpAny_pure (wpAny_newFunctionEnv (fun y hy => (L.own y hy).2) (fun y hy => absurd hy (by simp)) (fun h₁ hns hsb => ⟨I1.nolimit.fresh _ hsb, ?_⟩) L.kind)
  have kp : ∀ b o, s1.heap.get? b = some o → h₁.get? b = some o := fun b o e => hsb.extBut b o (Nat.ne_of_lt (Heap.lt_size e)) (Heap.get?_push_of_some _ e)
  have J : Inv (LamX.lamCx X (X.A.deeper (envOfC qg sg s.heap.objs.size g cdg)) (envOfC qg sg s.heap.objs.size g cdg :: X.stack) s1 HZ (WE W σZ) scope f c') [] σ HZ { s1 with heap := h₁, toks := s1.toks + ([] : List (Str × Value)).length } := LamX.lam_start2 I L I1.env0 hr.hd un hns kp
  refine PySem.W.kla_codeExpr (wpAny_mono ((hbody _ _ s1 HZ (WE W σZ) (hr.deeper _)).run [] _ _ HZ Q J ht) (fun v s' hq => ?_) fun e s' hq => ?_)
  · obtain ⟨w', H', J', rv, q⟩ := hq
    exact I1.after ⟨w', H', J'.os, J'.bare, J'.base, J'.hok, rv, q⟩
  · refine wpAny_mono hq (fun _ s2 z => ?_) fun e2 s2 z => ?_
    · exact passAt tk σZ pinsZ HZ s1 e s2 I1 z
    · exact passAt tk σZ pinsZ HZ s1 e2 s2 I1 z
end
/-! ### def _law_heard(call): caught, given = (None, None); try: given = call(); except E as error: caught = error; return (caught, given) -/
section
variable {X : Cx}
/-- what the def makes of the lambda's reading -/
def TTh (K : PySem.W.Frag) (CS : Addr) (tl : XK → Hp → VK → Prop) (H : Hp) (Q : VK) : Prop := ∀ H', (∀ b o, H b = some o → H' b = some o) → ∀ (E : XK) (R : VK),
  (∀ cls d H1, PySem.W.exmOne K cls (.ref CS) = some true → ∀ C dd, cls = .ref C → d = some dd → (∀ a, H1 a = none → ∀ p, upd H1 a (ExO a C dd) p = none → Q (.ref p) (upd (upd H1 a (ExO a C dd)) p (.tup [.ref a, .non]))) → E cls d H1) →
  (∀ v H1, (∀ p, H1 p = none → Q (.ref p) (upd H1 p (.tup [.non, v]))) → R v H1) → tl E H' R
/-- the def that calls what it got -/
def Gives (X : Cx) (Ng : List Str) (x : Str) (sg : Scope) (g : Addr) (cdg : Value) (bg : List Stmt) (a : Str) (q : Str) (TT : (XK → Hp → VK → Prop) → Hp → VK → Prop) : Prop :=
  ∀ (f c' : Addr) (s : Shared) (H : Hp) (Q : VK) (tl : XK → Hp → VK → Prop),
    (∀ (W : WX) (pn : List (Addr × Obj)) (xe : Value → Shared → Prop) (p1 p2 : Pos), Takes ((cxOf C8.CX0 X.prog X.w X.K X.mg X.base Ng x sg g cdg X.A X.stack s H C8.E0).tr pn xe) W →
      PE ((cxOf C8.CX0 X.prog X.w X.K X.mg X.base Ng x sg g cdg X.A X.stack s H C8.E0).tr pn xe) (.Call (.Name a p1) [] [] p2) (fun σZ HZ Q => σZ[0]? = some (some (.ref f)) ∧ HZ c' = some (LamX.CodeO c' q) ∧ tl (WE W σZ) HZ Q)) →
    H c' = some (LamX.CodeO c' q) → TT tl H Q →
    ∃ t, PSs (cxOf C8.CX0 X.prog X.w X.K X.mg X.base Ng x sg g cdg X.A X.stack s H C8.E0).nox bg t ∧ t { nx := fun _ H' => Q .non H', rt := Q } (L2.start Ng [.ref f]) H
abbrev Nh : List Str := ["call", "caught", "given", "error"]
theorem ndNh : Nh.Nodup := by decide +kernel
theorem heard_gives {x e q : Str} {sg : Scope} {g CS : Addr} {cdg : Value} {j1 j2 k1 k2 k3 : Nat} {p1 p2 p3 p4 p5 p6 p7 p8 p9 p10 p11 p12 p13 p14 p15 p16 p17 p18 p19 p20 p21 : Pos}
    (hge : sg.names.lookup e = some .globalImplicit) (hme : X.mg e = some (.ref CS)) (hde : (e == ("__debug__" : Str)) = false) (h1 : sg.names.lookup ("caught" : Str) = some .local) (h2 : sg.names.lookup ("given" : Str) = some .local) (h3 : sg.names.lookup ("error" : Str) = some .local)
    (hw : ∀ L : Addr, swappedStores [.Tuple [.Name "caught" p1, .Name "given" p2] k1 p3] (.Tuple [.Constant .none j1 p4, .Constant .none j2 p5] k2 p6) (envOfC x sg L g cdg) = pure none)
    (hs1 : ∀ L : Addr, swapsWithSole [.Tuple [.Name "caught" p1, .Name "given" p2] k1 p3] (.Tuple [.Constant .none j1 p4, .Constant .none j2 p5] k2 p6) p7.line (envOfC x sg L g cdg) = pure false)
    (hs2 : ∀ L : Addr, swapsWith (.Call (.Name "call" p9) [] [] p10) (some (.Name "given" p8)) p11.line (envOfC x sg L g cdg) = pure false)
    (hs3 : ∀ L : Addr, swapsWith (.Name "error" p14) (some (.Name "caught" p13)) p15.line (envOfC x sg L g cdg) = pure false) :
    Gives X Nh x sg g cdg [.Assign [.Tuple [.Name "caught" p1, .Name "given" p2] k1 p3] (.Tuple [.Constant .none j1 p4, .Constant .none j2 p5] k2 p6) p7,
      .Try [.Assign [.Name "given" p8] (.Call (.Name "call" p9) [] [] p10) p11] [.ExceptHandler (some (.Name e p12)) (some "error") [.Assign [.Name "caught" p13] (.Name "error" p14) p15] p16] [] [] p17,
      .Return (some (.Tuple [.Name "caught" p18, .Name "given" p19] k3 p20)) p21] "call" q (TTh X.K CS) := by
  intro f c' s H Q tl act hc h
  have hgl : Gl (cxOf C8.CX0 X.prog X.w X.K X.mg X.base Nh x sg g cdg X.A X.stack s H C8.E0).nox e := hge
  have v1 : PSs (cxOf C8.CX0 X.prog X.w X.K X.mg X.base Nh x sg g cdg X.A X.stack s H C8.E0).nox [.Return (some (.Tuple [.Name "caught" p18, .Name "given" p19] k3 p20)) p21] (tRet (tTup (tCons (tVar 1) (tCons (tVar 2) tNil)))) :=
    pss_one (ps_ret (pe_tup (pa_cons (pe_var rfl (.inl h1)) (pa_cons (pe_var rfl (.inl h2)) pa_nil))))
  have lookN : ∀ y, ((cxOf C8.CX0 X.prog X.w X.K X.mg X.base Nh x sg g cdg X.A X.stack s H C8.E0).nox).env.scope.names.lookup y = sg.names.lookup y := fun _ => rfl
  have tgt : PG (cxOf C8.CX0 X.prog X.w X.K X.mg X.base Nh x sg g cdg X.A X.stack s H C8.E0).nox (.Tuple [.Name "caught" p1, .Name "given" p2] k1 p3) (gTup X.K 2 (gCons (gName 1) (gCons (gName 2) gNil))) :=
    pg_tup rfl (pgs_cons (pg_name ndNh rfl (.inl h1) (.inr h1)) (pgs_cons (pg_name ndNh rfl (.inl h2) (.inr h2)) pgs_nil rfl) rfl) rfl rfl
  have st1 : PS (cxOf C8.CX0 X.prog X.w X.K X.mg X.base Nh x sg g cdg X.A X.stack s H C8.E0).nox (.Assign [.Tuple [.Name "caught" p1, .Name "given" p2] k1 p3] (.Tuple [.Constant .none j1 p4, .Constant .none j2 p5] k2 p6) p7)
      (tAsg (tTup (tCons (tC .non) (tCons (tC .non) tNil))) (gTup X.K 2 (gCons (gName 1) (gCons (gName 2) gNil)))) := ps_asg (pe_tup (pa_cons pe_non (pa_cons pe_non pa_nil))) tgt (hs1 _) (hw _) rfl
  have st2 : PS (cxOf C8.CX0 X.prog X.w X.K X.mg X.base Nh x sg g cdg X.A X.stack s H C8.E0).nox
      (.Try [.Assign [.Name "given" p8] (.Call (.Name "call" p9) [] [] p10) p11] [.ExceptHandler (some (.Name e p12)) (some "error") [.Assign [.Name "caught" p13] (.Name "error" p14) p15] p16] [] [] p17)
      (fun D σ H0 => σ[0]? = some (some (.ref f)) ∧ H0 c' = some (LamX.CodeO c' q) ∧ tl (WE (wTrk X.K (.ref CS) 3 (fun a cls d => tAsg (tVar 3) (gName 1)) D) σ) H0 fun v H1 => D.nx (σ.set 2 (some v)) H1) := by
    refine ps_try_trk (X := (cxOf C8.CX0 X.prog X.w X.K X.mg X.base Nh x sg g cdg X.A X.stack s H C8.E0).nox) (i := 3) (n := "error") (c := .ref CS) (ts := fun a cls d => tAsg (tVar 3) (gName 1)) (tb := fun W D σ H0 => σ[0]? = some (some (.ref f)) ∧ H0 c' = some (LamX.CodeO c' q) ∧ tl (WE W σ) H0 fun v H1 => D.nx (σ.set 2 (some v)) H1) rfl rfl rfl ndNh rfl h3 ⟨hgl, hde, .inl hme⟩ (fun W pn xe tk _ => ?_) (fun a oe cls d pn _ _ => ?_)
    · exact pss_one (ps_set (i := 2) ndNh rfl (.inl h2) (act W pn xe p9 p10 tk) (hs2 _) (.inr h2))
    · exact pss_one (ps_set (i := 1) ndNh rfl (.inl h1) (pe_var (i := 3) rfl (.inl h3)) (hs3 _) (.inr h1))
  refine ⟨_, pss_cons st1 (pss_cons st2 v1), ?_⟩
  refine ⟨(show 2 ≤ sizeLine by decide), fun p0 hp0 => ?_⟩
  refine ⟨p0, _, rfl, .inl (.inl upd_same), rfl, _, _, rfl, _, _, rfl, rfl, ?_⟩
  have hsub : ∀ b o, H b = some o → upd H p0 (.tup [.non, .non]) b = some o := same_new hp0
  refine ⟨rfl, hsub _ _ hc, h _ hsub _ _ (fun cls d H1 z1 C dd ec ed z2 => ?_) fun v H1 z => ?_⟩
  · refine ⟨z1, C, dd, ec, ed, fun a na => ?_⟩
    exact ⟨.ref a, rfl, .ref a, rfl, .non, rfl, (show 2 ≤ sizeLine by decide), fun p hp => z2 a na p hp⟩
  · exact ⟨.non, rfl, v, rfl, (show 2 ≤ sizeLine by decide), fun p hp => z p hp⟩
end
end Fw
set_option Elab.async false
set_option linter.all false
set_option maxRecDepth 100000
set_option maxHeartbeats 2000000
namespace Fw
open PySem PySem.Spec PyProof.Rows L2

/-! ### x(lambda: body), x the def that hears -/
section
variable {X : Cx}
theorem pe_heard {T : List (Addr × Str)} {CS : Addr} {x a : Str} {g c P : Addr} {fd : FuncData} {k : Nat} {pg : Arguments} {bg : List Stmt} {sg : Scope} {Ng : List Str} {params : Arguments} {body : Expr} {scope : Scope} {t : XK → TE} {p lpos pos : Pos}
    (hg : Gl X x) (hm : X.mg x = some (.ref g)) (F : FunD X.K x x pg bg sg [] [] g fd) (hb : Binds X.K fd [a] []) (Sg : FnScope Ng [a] sg) (hNg : Ng[0]? = some a) (hva : Vis sg a)
    (hG : ∀ cdg, Gives X Ng x sg g cdg bg a (X.env.qual ++ "<lambda>") (TTh X.K CS)) (TBc : LamX.TabB X.base X.mg c P) (hcode : X.env.code = .ref c) (hmT : (P, X.env.qual ++ "<lambda>") ∈ T) (hu : ∀ p ∈ T, p.1 = P → p.2 = X.env.qual ++ "<lambda>")
    (hr : Room (k + 2) X.A) (L : LamX.LamS X.env.scope scope) (hdef : defaultsOf params X.env = ([], []))
    (hbind : ∀ (q : Str) (cl : List (Str × Addr)) (pm cv ctv : Value), bindArgs (PySem.W.kla_fn "<lambda>" q params body scope cl pm cv ctv) ⟨[], []⟩ = pure [])
    (hbody : ∀ (A : Around) (outer : List Env) (s : Shared) (H : Hp) (E : XK) (f c' : Addr), Room k (A.deeper (LamX.lamEnv X scope s.heap.objs.size f c')) → PE (LamX.lamCx X A outer s H E scope f c') body (t E))
    (hdb : (x == ("__debug__" : Str)) = false := by decide) (hd : (a == ("__debug__" : Str)) = false := by decide) (hcd : (a == ("__classdict__" : Str)) = false := by decide) :
    PE X (.Call (.Name x p) [.Lambda params body scope lpos] [] pos) (fun σ H Q => LamX.Tabs T H ∧ ∀ H1, LamX.ExtN H H1 → LamX.Tabs T H1 → TTh X.K CS (fun E H' Q' => t E σ H' Q') H1 Q) := by
  obtain ⟨oc, od, dV, kV, doc, pm, an, cdv, ct, osl, rfl, lk, hcg, _, _⟩ := F.ex
  refine ⟨fun pins s σ H Q I ⟨hT, h⟩ => ?_⟩
  refine wpAny_Call_Name_kw (ld_glob I hg hm ?_ hdb)
  refine PySem.W.callWith_K (h₀ := X.base) I.ok.mod.kin F.kp ?_ (by rfl) (by rfl)
  show wpAny _ _ (spliced ((false, eval (.Lambda params body scope lpos) X.env) :: backTo pos (starEach [] X.env))) _ _ s
  refine Calls.spliced_cons (LamX.lam_make2 I TBc hcode hmT hu hT hdef (L.has I.ok) fun f c' pm' ctv H1 s' I1 eN T1 hf hfn hfr hco => ?_)
  refine Calls.spliced_nil ⟨I1.kIn, ?_⟩
  have rc : codeAny (model X.prog X.w) X.A (.call (.ref g) ⟨[.ref f], []⟩) (CR C8.CX0 X.stack X.prog X.w H1 s' Q C8.E0) s' := by
    refine LamX.run_ofS (N := Ng) (ps := [a]) (us := [.ref f]) (vs := [.ref f]) lk hcg Sg hr I1.env0 (hb s' [.ref f] I1.kIn rfl) (.cons rfl .nil) rfl fun hr' => ?_
    obtain ⟨t', ht', hq'⟩ := hG cdv f c' s' H1 Q (fun E H' Q' => t E σ H' Q') (fun W pn xe p1 p2 tk => pe_actS (i := 0) I1 L hf hfn hfr (hbind _ _ _ _ _) tk hr' (fun A outer s H E hr2 => hbody A outer s H E f c' hr2) hNg hva hd hcd) hco (h H1 eN T1)
    exact ⟨t', ht'.nox, hq'⟩
  refine wpAny_call (codeAny_mono rc fun r s2 hq => ?_)
  cases r with
  | error e => exact (show False from hq).elim
  | ok fl => cases fl with
    | ret u => exact I1.after hq
    | next => exact hq.elim
    | brk => exact hq.elim
    | cont => exact hq.elim
end
def heardC (known : Str → Bool) (c : C D) : C D := fun M => match c M with
  | .ok d M' => .ok (.tup [.non, d]) M'
  | .exc k v M' => if known k then .ok (.tup [.exc k v, .non]) M' else .no
  | .no => .no
section
variable {K : PySem.W.Frag} {ρ : List Sl} {σ : L2.St} {ι : List Addr} {M : Mem} {H H1 : Hp}
theorem SR.extN (r : SR K ι M H σ ρ) (e : LamX.ExtN H H1) (t : LamX.Tabs (TB K) H1) : SR K ι M H1 σ ρ ∧ Ext ρ ι H ι H1 := by
  have ex : Ext ρ ι H ι H1 := by
    refine ⟨List.prefix_refl _, fun _ h => .inl h, fun _ h => .inl h, fun b o q _ _ n => e b o q n, fun b q => ?_⟩
    cases q1 : H b with
    | none => exact .inl q1
    | some o =>
      by_cases hn : notTbl o
      · exact (q.no (e b o q1 hn) hn).elim
      · refine .inr (Classical.byContradiction fun z => hn fun ps w => z ⟨ps, by rw [q1, w]⟩)
  have nl : ∀ b xs, H b = some (.lst xs) → H1 b = some (.lst xs) := fun b xs q => e b _ q fun _ z => by cases z
  refine ⟨⟨⟨r.gr.len, r.gr.nd, fun n b hb => ?_, t⟩, r.len, fun i s hs => ?_, r.apart⟩, ex⟩
  · obtain ⟨ys, es, g1, g2, g3⟩ := r.gr.at_ n b hb
    exact ⟨ys, es, nl b ys g1, g2, RpL.ex ex r.mutK _ _ g3⟩
  · obtain ⟨u, h1, h2⟩ := r.sl i s hs
    refine ⟨u, h1, ?_⟩
    cases s with
    | no => trivial
    | val d =>
      obtain ⟨v, e1, e2⟩ := h2
      exact ⟨v, e1, Rp.ex ex r.mutK _ _ e2⟩
    | own b es =>
      obtain ⟨e1, e2, ys, e3, e4⟩ := h2
      exact ⟨e1, e2, ys, nl b ys e3, RpL.ex ex r.mutK _ _ e4⟩
end

section
variable {X : Cx} {W : WX} {ρ : List Sl} {w : Bool}
theorem de_heard {CS : Addr} {x a : Str} {g c P : Addr} {fd : FuncData} {gb : Bool} {k : Nat} {pg : Arguments} {bg : List Stmt} {sg : Scope} {Ng : List Str} {params : Arguments} {body : Expr} {scope : Scope} {ce : C D} {known : Str → Bool} {p lpos pos : Pos}
    (hm : X.mg x = some (.ref g)) (F : FunD X.K x x pg bg sg [] [] g fd) (hb : Binds X.K fd [a] []) (Sg : FnScope Ng [a] sg) (hNg : Ng[0]? = some a) (hva : Vis sg a)
    (hG : ∀ cdg, Gives X Ng x sg g cdg bg a (X.env.qual ++ "<lambda>") (TTh X.K CS)) (TBc : LamX.TabB X.base X.mg c P) (hcode : X.env.code = .ref c) (hmT : (P, X.env.qual ++ "<lambda>") ∈ TB X.K) (hu : ∀ p ∈ TB X.K, p.1 = P → p.2 = X.env.qual ++ "<lambda>")
    (hkn : ∀ n, known n = true → PySem.W.exmOne X.K (.ref (He.ga X.K n)) (.ref CS) = some true)
    (hr : Rm gb (k + 2) X.A) (L : LamX.LamS X.env.scope scope) (hdef : defaultsOf params X.env = ([], []))
    (hbind : ∀ (q : Str) (cl : List (Str × Addr)) (pm cv ctv : Value), bindArgs (PySem.W.kla_fn "<lambda>" q params body scope cl pm cv ctv) ⟨[], []⟩ = pure [])
    (hbody : ∀ (A : Around) (outer : List Env) (s : Shared) (H : Hp) (E : XK) (f c' : Addr), Rm false k (A.deeper (LamX.lamEnv X scope s.heap.objs.size f c')) → DE (LamX.lamCx X A outer s H E scope f c') (fun cls d _ H => E cls d H) ρ body ce)
    (hg : Gl X x := by rfl) (hdb : (x == ("__debug__" : Str)) = false := by decide) (hd : (a == ("__debug__" : Str)) = false := by decide) (hcd : (a == ("__classdict__" : Str)) = false := by decide) :
    DG w X W ρ (.Call (.Name x p) [.Lambda params body scope lpos] [] pos) (heardC known ce) := by
  refine dv (pe_imp (pe_heard (T := TB X.K) (t := fun E => tD X.K (fun cls d _ H => E cls d H) ρ false ce) hg hm F hb Sg hNg hva hG TBc hcode hmT hu hr.room L hdef hbind (fun A outer s H E f c' h => hbody A outer s H E f c' (.of h)) hdb hd hcd) fun σ H Q ⟨ι, M, sr, f⟩ => ?_)
  refine ⟨sr.gr.tab, fun H1 eN T1 H2 hsub E R hE hR => ?_⟩
  obtain ⟨r1, e1⟩ := sr.extN eN T1
  have r2 := r1.same hsub
  have e2 : Ext ρ ι H ι H2 := e1.trans (Ex.same hsub)
  refine ⟨ι, M, r2, ?_⟩
  have f0 : Fit X.K W ρ false σ ι H (heardC known ce M) Q := f
  unfold heardC at f0
  cases ec : ce M with
  | no => rw [ec] at f0; exact (show False from f0).elim
  | ok d M' =>
    rw [ec] at f0
    intro ι3 v H3 e3 r3 q3
    refine hR v H3 fun p hp => ?_
    exact Fit.tup (f0.later (e2.trans e3)) r3 (.cons .non (.one q3.str)) hp
  | exc k v M' =>
    rw [ec] at f0
    intro ι3 cls dct H3 e3 r3 ⟨x1, dd, y, x2, x3, x4, x5⟩
    have f0 : Fit X.K W ρ false σ ι H (if known k = true then .ok (.tup [.exc k v, .non]) M' else .no) Q := f0
    cases hk : known k with
    | false => rw [hk] at f0; exact (show False from f0).elim
    | true =>
      rw [hk, if_pos rfl] at f0
      refine hE cls dct H3 (by rw [x1]; exact hkn k hk) _ _ x1 x2 fun a na p hp => ?_
      have nda : dd ≠ a := ne_of_none x4 na
      have r4 := r3.same (same_new (o := ExO a (He.ga X.K k) dd) na)
      have xa : Rp X.K ι3 (upd H3 a (ExO a (He.ga X.K k) dd)) (.exc k v) (.ref a) := by
        unfold Rp
        exact ⟨a, dd, y, rfl, r3.gr.fresh na, x3, upd_same, by rw [upd_ne nda]; exact x4, x5.same (same_new na)⟩
      exact Fit.tup (f0.later ((e2.trans e3).trans (Ex.same (same_new na)))) r4 (.cons xa (.one .non)) hp
end
end Fw
set_option Elab.async false
set_option linter.all false
set_option maxRecDepth 100000
set_option maxHeartbeats 2000000
namespace Fw
open PySem PySem.Spec PyProof.Rows L2

/-! ### a kept exception: isinstance, .value -/
/-- what the written part says of an exception class at C -/
structure ErrV (K : PySem.W.Frag) (C : Addr) : Prop where
  cls : (PySem.W.clsIn K C).isSome = true
  ga : PySem.W.findIn K (.ref C) "__getattribute__" = some (some (.builtin "BaseException.__getattribute__"))
  gg : PySem.W.findIn K (.ref C) "__getattr__" = some none
  exC : PySem.W.subIn K (.ref C) (.type "BaseException") = some true
  hd : PySem.W.hasDictIn K C = true
  noV : PySem.W.findIn K (.ref C) "value" = some none
  ha : PySem.W.findIn K (.ref C) "__class__" = some (some (.builtin "object.__class__"))
  hn : PySem.W.specialIn K (.builtin "object.__class__") "__get__" = some (some (.builtin "getset_descriptor.__get__"))
  htk : PySem.W.takesIn K (.builtin "object.__class__") = some true
  hm : PySem.W.mroIn K C (.type "object") = some true
section
variable {X : Cx} {pins : List (Addr × Obj)} {σ : L2.St} {H : Hp} {s : Shared}
theorem exo_inst {a C dd : Addr} {fs : List (Str × V)} (I : Inv X pins σ H s) (ha : H a = some (ExO a C dd)) (hd : H dd = some (.xd fs)) :
    ∃ oe od, PySem.W.InstAt s.heap a oe C (some od) ∧ ∀ (f : Str) (v : V), List.lookup f fs = some v → ∃ u, PySem.W.lookIn f od = some (some u) ∧ RelV v u := by
  obtain ⟨⟨oe, vs, h1, h2, h3, h4⟩, _, _⟩ := (show ObjOk X.prog X.w H s.heap a (ExO a C dd) from I.hok a _ ha)
  obtain ⟨mA, hns, hr⟩ := (show ObjOk X.prog X.w H s.heap dd (.xd fs) from I.hok dd _ hd)
  obtain ⟨od, ho, hl⟩ := lookIn_ns hns
  refine ⟨oe, od, ⟨h1, h2, by unfold PySem.W.notCls; rw [h4] <;> rfl, by rw [h3]; exact ho⟩, fun f v e => ?_⟩
  obtain ⟨u, hu, ru⟩ := RelO.some_of (v := v) (o := mA f) (by rw [← e]; exact hr f)
  exact ⟨u, by rw [hl, hu], ru⟩
/-- isinstance(a kept exception, a class) -/
def rIsX (K : PySem.W.Frag) : List V → Hp → VK → Prop := fun xs H Q => ∃ a C dd fs c b, xs = [.ref a, .ref c] ∧ H a = some (ExO a C dd) ∧ H dd = some (.xd fs) ∧ ErrV K C ∧ PySem.W.kitOne K (.ref C) (.ref c) = some b ∧ Q (.bl b) H
theorem call_isX : CallR X (.builtin "isinstance") (rIsX X.K) := by
  intro pins s σ H xs us Q I r h
  obtain ⟨a, C, dd, fs, c, b, rfl, h1, h2, T, e, q⟩ := h
  obtain ⟨u1, u2, rfl, r1, r2⟩ := vals2 r
  cases (show u1 = Value.ref a from r1)
  cases (show u2 = Value.ref c from r2)
  obtain ⟨oe, od, J, _⟩ := exo_inst I h1 h2
  exact PySem.W.kia_one (PySem.W.kitx_exc T.cls T.ga T.gg T.exC T.ha T.hn T.htk T.hm) I.kIn J e (fun z => nomatch z) fun tk => ⟨.bl b, H, I.kept (t' := tk) fun _ _ z => z, rfl, q⟩
end
def isExc (known : Str → Bool) (c : Str) : D → Option Bool
  | .non => some false
  | .exc k _ => if known k then some (k == c) else none
  | _ => none
def isExcC (known : Str → Bool) (c : Str) (ca : C D) : C Bool := do let a ← ca; lift (isExc known c a)
def excVal (known : Str → Bool) : D → Option D
  | .exc k v => if known k then some v else none
  | _ => none
theorem isExc_eq {known : Str → Bool} {c : Str} {d : D} {b : Bool} (h : isExc known c d = some b) : (d = .non ∧ b = false) ∨ ∃ k v, d = .exc k v ∧ known k = true ∧ b = (k == c) := by
  cases d with
  | non => cases h; exact .inl ⟨rfl, rfl⟩
  | exc k v =>
    have h : (if known k = true then some (k == c) else none) = some b := h
    cases hk : known k with
    | false => rw [hk] at h; cases h
    | true => rw [hk, if_pos rfl] at h; cases h; exact .inr ⟨k, v, rfl, hk, rfl⟩
  | _ => cases h
section
variable {X : Cx} {W : WX} {ρ : List Sl} {w : Bool} {e : Expr} {ca : C D} {p p2 pos : Pos} {c : Str}
theorem de_isX {known : Str → Bool} (ha : DE X W ρ e ca) (hm : X.mg "isinstance" = none) (hc : X.mg c = some (.ref (He.ga X.K c))) (hkn : ∀ k, known k = true → ErrV X.K (He.ga X.K k) ∧ PySem.W.kitOne X.K (.ref (He.ga X.K k)) (.ref (He.ga X.K c)) = some (k == c))
    (hno : PySem.W.kitOne X.K (.type "NoneType") (.ref (He.ga X.K c)) = some false)
    (hg : Gl X "isinstance" := by rfl) (hgc : Gl X c := by rfl) (hb : bootBuiltins "isinstance" = some (.builtin "isinstance") := by decide +kernel) (hd : (c == ("__debug__" : Str)) = false := by decide)
    (he : starEach [e, .Name c p2] X.env = (false, eval e X.env) :: starEach [.Name c p2] X.env := by rfl) (he2 : starEach [.Name c p2] X.env = (false, eval (.Name c p2) X.env) :: starEach [] X.env := by rfl) (hpl : (backTo pos (starEach [.Name c p2] X.env)).any (·.1) = false := by rfl) :
    DG w X W ρ (.Call (.Name "isinstance" p) [e, .Name c p2] [] pos) (valB (isExcC known c ca)) := by
  refine dv (pe_imp (pe_callB (call_isi.or call_isX) hg hm hb (pa_cons ha (pa_cons (pe_glob (v := .ref (He.ga X.K c)) hgc hc rfl hd) pa_nil he2) he) (by decide) (by decide) he hpl) fun σ H Q ⟨ι, M, sr, f⟩ => ?_)
  have f' : Fit X.K W ρ false σ ι H ((ca >>= fun a => lift (isExc known c a) >>= fun b => pure (.bl b)) M) Q := by
    have z : valB (isExcC known c ca) = (ca >>= fun a => lift (isExc known c a) >>= fun b => pure (.bl b)) := by unfold valB isExcC; rw [C.bind_assoc]
    rw [← z]; exact f
  refine (seqD sr f').imp fun v H1 ⟨d, ι1, M1, e1, r1, q1, f1⟩ => ?_
  cases hb : isExc known c d with
  | none => rw [hb] at f1; exact (show False from f1).elim
  | some b =>
    rw [hb] at f1
    have q2 := (show Fit X.K W ρ false σ ι1 H1 (.ok (.bl b) M1) Q from f1).val r1 .bl
    rcases isExc_eq hb with ⟨rfl, rfl⟩ | ⟨k, x, rfl, hk, rfl⟩
    · rw [q1.str.nonE]
      exact .inl ⟨.non, .ref (He.ga X.K c), .type "NoneType", .ref (He.ga X.K c), false, rfl, .own _, .base .non, hno, q2⟩
    · have q3 := q1.str
      unfold Rp at q3
      obtain ⟨a, dd, y, rfl, _, _, h1, h2, _⟩ := q3
      exact .inr ⟨a, _, dd, _, _, _, rfl, h1, h2, (hkn k hk).1, (hkn k hk).2, q2⟩
/-- e.value -/
theorem de_excV {known : Str → Bool} (ha : DE X W ρ e ca) (hkn : ∀ k, known k = true → ErrV X.K (He.ga X.K k)) (hb : attributeBase e "value" X.env (eval e X.env) = eval e X.env := by rfl) : DG w X W ρ (.Attribute e "value" pos) (un (excVal known) ca) := by
  refine dv ⟨fun pins s σ H Q I ⟨ι, M, sr, f⟩ => attr_of hb (thn (ha.run pins s σ H _ I (seqD sr f)) fun u s1 ⟨v, H1, I1, rv, d, ι1, M1, e1, r1, q1, f1⟩ => ?_)⟩
  obtain ⟨r, hr, f2⟩ := f1.someD
  cases d with
  | exc k x =>
    have hr : (if known k = true then some x else none) = some r := hr
    cases hk : known k with
    | false => rw [hk] at hr; cases hr
    | true =>
      rw [hk, if_pos rfl] at hr
      cases hr
      have q3 := q1.str
      unfold Rp at q3
      obtain ⟨a, dd, y, rfl, _, _, h1, h2, qy⟩ := q3
      obtain rfl : u = Value.ref a := rv
      obtain ⟨oe, od, J, hl⟩ := exo_inst I1 h1 h2
      have T := hkn k hk
      obtain ⟨w', hw, rw'⟩ := hl "value" y (by simp [List.lookup])
      exact HandSPX.exc_get I1.kIn J T.ga T.gg T.exC (PySem.W.findObj_own T.hd T.noV rfl hw) (handed_of rw') ⟨y, H1, I1.tok _, rw', f2.val r1 qy⟩
  | _ => cases hr
end

/-! ### repr of data -/
def bRepr : List D → Option D
  | [.tup xs] => (D.py (.tup xs)).bind fun p => if SeqAt.shaped p && p.showable && decide (p.shown.length ≤ sizeLine) then some (.str p.shown) else none
  | _ => none
theorem kd_repr {X : Cx} {k : Nat} (hr : Rm true k X.A) : CallD X (.builtin "repr") bRepr := by
  refine ⟨fun xs H Q => ∃ a p, xs = [.ref a] ∧ Dp X.K H (.ref a) p ∧ SeqAt.shaped p = true ∧ p.showable = true ∧ p.shown.length ≤ sizeLine ∧ Q (.str p.shown) H, ?_, fun {W ρ σ ι M H xs ds Q} r rx f => ?_⟩
  · intro pins s σ H xs us Q I r h
    obtain ⟨a, p, rfl, hd, h1, h2, h3, q⟩ := h
    obtain ⟨u, rfl, ru⟩ := vals1 r
    cases (show u = Value.ref a from ru)
    obtain ⟨as, rd⟩ := Dp.reads I p (.ref a) (.ref a) hd rfl
    have hun := hr.room.un
    have hdp := SeqAt.depth_of_shaped h1
    refine PySem.repr_of_reads' rd h2 (PyData.noDict_hsm (PyData.hasDict_of_canLay _ (SeqAt.canLay_of_shaped h1))) (hr.gd rfl) (by omega) (fun _ _ e => e) (fun h' u tk hk => ?_) h3
    exact ⟨.str p.shown, H, I.kept (t' := tk) hk, ⟨u, rfl⟩, q⟩
  · obtain ⟨a, ha, f1⟩ := f.someD
    unfold bRepr at ha
    split at ha
    · rename_i ys
      cases hp : D.py (.tup ys) with
      | none => rw [hp] at ha; cases ha
      | some p =>
        rw [hp] at ha
        simp only [Option.bind_some] at ha
        split at ha
        · rename_i hc
          cases ha
          rw [Bool.and_eq_true, Bool.and_eq_true] at hc
          cases rx with
          | cons a1 a2 =>
            cases a2
            have d := a1.dp r hp
            obtain ⟨l, vs, rfl, _, _⟩ := RpB.tup a1
            exact ⟨l, p, rfl, d, hc.1.1, hc.1.2, of_decide_eq_true hc.2, .inl (f1.val r .str)⟩
        · cases ha
    · cases ha

/-! ### calls by keywords -/
def pick {α : Type} (is : List Nat) (xs : List α) : List α := is.filterMap (xs[·]?)
theorem RpL.pick {K : PySem.W.Frag} {ι : List Addr} {H : Hp} {ds : List D} {vs : List V} (l : RpL K ι H ds vs) : ∀ is : List Nat, RpL K ι H (Fw.pick is ds) (Fw.pick is vs)
  | [] => .nil
  | i :: is => by
    have ih := l.pick is
    unfold Fw.pick at ih ⊢
    cases hd : ds[i]? with
    | none =>
      have hv : vs[i]? = none := by rw [List.getElem?_eq_none_iff] at hd ⊢; rw [← l.length]; exact hd
      simp only [List.filterMap_cons, hd, hv]; exact ih
    | some d =>
      obtain ⟨v, hv, r⟩ := l.get hd
      simp only [List.filterMap_cons, hd, hv]; exact .cons r ih
theorem vals_pick {vs : List V} {us : List Value} (h : Vals vs us) : ∀ is : List Nat, Vals (pick is vs) (pick is us)
  | [] => .nil
  | i :: is => by
    have ih := vals_pick h is
    unfold pick at ih ⊢
    cases hd : vs[i]? with
    | none =>
      have hv : us[i]? = none := by rw [List.getElem?_eq_none_iff] at hd ⊢; rw [← h.length]; exact hd
      simp only [List.filterMap_cons, hd, hv]; exact ih
    | some d =>
      obtain ⟨u, hv, r⟩ := h.get hd
      simp only [List.filterMap_cons, hd, hv]; exact .cons r ih
/-- x(k = .., ..) computes m of its values in the parameters' order: is tells each parameter's place among the keywords -/
def FnK (P : Program) (w : World) (K : PySem.W.Frag) (mg : Str → Option Value) (base : Heap) (g : Bool) (k : Nat) (x : Str) (ks : List Str) (is : List Nat) (m : List D → C D) : Prop :=
  ∃ f fd ps, mg x = some (.ref f) ∧ PySem.W.keepIn K (.ref f) = true ∧ (∀ ws : List Value, ws.length = ks.length → bindArgs fd ⟨[], ks.zip ws⟩ = pure (ps.zip (pick is ws))) ∧ is.length = ps.length ∧ (∀ i ∈ is, i < ks.length) ∧ FnC P w K mg base g k f fd ps (spM K ps.length m)
theorem pick_len {α : Type} {is : List Nat} {xs : List α} (h : ∀ i ∈ is, i < xs.length) : (pick is xs).length = is.length := by
  unfold pick
  induction is with
  | nil => rfl
  | cons i is ih =>
    have hi := h i List.mem_cons_self
    rw [List.filterMap_cons_some (List.getElem?_eq_getElem hi)]
    simp [ih fun j hj => h j (List.mem_cons_of_mem _ hj)]
abbrev DKs (X : Cx) (W : WX) (ρ : List Sl) (kws : List Keyword) (cs : List (C D)) : Prop := PK X kws (tA X.K W ρ false (args cs))
section
variable {X : Cx} {W : WX} {ρ : List Sl} {w : Bool} {e : Expr} {c : C D} {cs : List (C D)} {kws : List Keyword} {nm : Option Str} {kpos p pos : Pos} {x : Str} {ks : List Str} {is : List Nat} {m : List D → C D} {k : Nat}
theorem dk_nil : DKs X W ρ [] [] := ⟨fun pos pins s σ H Q I ⟨ι, M, sr, f⟩ => pk_nil.run pos pins s σ H Q I (f.val sr .nil)⟩
theorem dk_cons (ha : DE X W ρ e c) (hr : DKs X W ρ kws cs) : DKs X W ρ (⟨nm, e, kpos⟩ :: kws) (c :: cs) := by
  refine ⟨fun pos pins s σ H Q I ⟨ι, M, sr, f⟩ => (pk_cons ha hr).run pos pins s σ H Q I ?_⟩
  exact (seqDA sr f).imp fun x H1 ⟨d1, ι1, M1, e1, r1, q1, f1⟩ => (seqAA r1 f1).imp fun xs H2 ⟨ds, ι2, M2, e2, r2, q2, f2⟩ => f2.val r2 (.cons (r1.rpb e2 q1) q2)
def callK (m : List D → C D) (is : List Nat) (cs : List (C D)) : C D := do let ds ← args cs; m (pick is ds)
theorem de_callK0 {g : Bool} (h : FnK X.prog X.w X.K X.mg X.base g k x ks is m) (hr : Rm g k X.A) (tk : Takes X W) (ha : DKs X W ρ kws cs) (hlen : ks.length = cs.length := by rfl) (hg : Gl X x := by rfl)
    (hall : (backToKw pos (keywordEach kws X.env)).all (·.1.isSome) = true := by rfl) (hks : (backToKw pos (keywordEach kws X.env)).filterMap (·.1) = ks := by rfl) (hdb : (x == ("__debug__" : Str)) = false := by decide)
    (hpl : ((backTo pos (starEach [] X.env)).any (·.1) || (backToKw pos (keywordEach kws X.env)).any (·.1.isNone)) = false := by rfl) :
    DG w X W ρ (.Call (.Name x p) [] kws pos) (callK m is cs) := by
  obtain ⟨f, fd, ps, h1, h2, h3, h5, h6, h4⟩ := h
  refine dv ⟨fun pins s σ H Q I ⟨ι, M, sr, f0⟩ => ?_⟩
  refine wpAny_Call_Name_kw (ld_glob I hg h1 ?_ hdb)
  refine PySem.W.callWith_KW0 (h₀ := X.base) I.ok.mod.kin h2 hall (thn (ha.run pos pins s σ H _ I (tA.lenR sr f0)) fun us s1 ⟨vs, H1, I1, r, hl, ds, ι1, M1, e1, r1, q1, f1⟩ => ⟨I1.kIn, ?_⟩) hpl
  rw [hks]
  have hus : us.length = ks.length := by rw [← r.length, hl, hlen]
  have hv : vs.length = ks.length := by rw [hl, hlen]
  refine call_c (run_c h4 hr tk I1 (.of_eq (h3 us hus)) (vals_pick r is) ⟨ι1, M1, pick is ds, ?_, q1.str.pick is, r1.gr, fit_fn r1 f1⟩)
  rw [pick_len (by rw [hv]; exact h6), h5]
end
end Fw
set_option Elab.async false
set_option linter.all false
set_option maxRecDepth 100000
set_option maxHeartbeats 2000000
namespace Fw
open PySem PySem.Spec PyProof.Rows L2

/-! ### the law's own end -/
theorem law_end {P : Program} {w : World} {K : PySem.W.Frag} {mg mb : Str → Option Value} {k : Nat} {fa a : Addr} {cs : List (Addr × Addr)} {fd : FuncData} {x : Str} {m : List D → C D} {s₁ : Shared} {vs : List Value} {ns : List Int}
    (KX : K.In s₁.heap) (hns : s₁.heap.Ns mainGlobals mg) (hb : s₁.heap.Ns builtinsNs mb) (hbb : ∀ x : Str, x ≠ "__name__" → mb x = bootBuiltins x) (hlim : s₁.heap.NoLimit) (hg : s₁.gens = #[])
    (hT : ∀ p ∈ cs, s₁.heap.get? p.2 = some { cls := .none, data := .fields #[] }) (nT : ∀ p ∈ cs, K.lookup p.2 = none) (Cd : ∀ p ∈ cs, PySem.W.CodeHd s₁.heap p.1 p.2)
    (hbm : ∃ (bm : Addr) (ob : Obj), mg "__builtins__" = some (.ref bm) ∧ bm ≠ builtinsNs ∧ s₁.heap.get? bm = some ob ∧ ob.cls = .type "module" ∧ ob.dict = some builtinsNs ∧ ob.data = .plain)
    (ha : s₁.heap.get? a = some { cls := .type "list", data := .seq vs.toArray }) (hi : IntsAre vs ns) (hl : ns.length ≤ sizeLine) (hr : Rm true k callerA)
    (F : ∀ base : Heap, K.In base → base.Ns mainGlobals mg → (∀ p ∈ cs, LamX.TabB base mg p.1 p.2) → FnC P w K mg base true k fa fd [x] (spM K 1 m)) (hbind : ∀ (s : Shared) (u : Value), BindsTo s fd ⟨[u], []⟩ [(x, u)])
    (htab : ∀ p ∈ TB K, ∃ c, (c, p.1) ∈ cs) (hlaw : ∃ M', m [.lst (ns.map D.int)] [] = .ok (.bl true) M') :
    codeAny (model P w) callerA (.call (.ref fa) ⟨[.ref a], []⟩) (fun r s' => r = .ok (.ret (.bool true)) ∧ OldK s₁.heap s'.heap ∧ s'.os = s₁.os ∧ AllBare s'.gens) s₁ := by
  have rv := vals_ints hi
  have lenV := hi.length
  have isT : ∀ b : Addr, b ∈ cs.map (·.2) → s₁.heap.get? b = some { cls := .none, data := .fields #[] } := fun b hb => by
    obtain ⟨p, hp, rfl⟩ := List.mem_map.mp hb
    exact hT p hp
  have aT : a ∉ cs.map (·.2) := fun z => by
    have q := isT a z
    rw [ha] at q
    have z' : Data.seq vs.toArray _ = Data.fields #[] := congrArg Obj.data (Option.some.inj q)
    cases z'
  have rints : ∀ (ι : List Addr) (H : Hp) (ns : List Int), RpL K ι H (ns.map D.int) (ns.map V.int) := fun ι H ns => by
    induction ns with
    | nil => exact .nil
    | cons n ns ih => exact .cons .int ih
  -- where at most the script and the tables are known
  have core : ∀ H : Hp, (∀ p ∈ cs, H p.2 = some (.tbl #[])) → (∀ b, H b = none ∨ b ∈ cs.map (·.2) ∨ ∃ o xs, H b = some (.frz o (.lst xs))) → LstR K [] H a (ns.map V.int) → HOk P w H s₁.heap → (∀ b, H b ≠ none → b = a ∨ b ∈ cs.map (·.2)) → (H a ≠ none → K.lookup a = none) →
      codeAny (model P w) callerA (.call (.ref fa) ⟨[.ref a], []⟩) (fun r s' => r = .ok (.ret (.bool true)) ∧ OldK s₁.heap s'.heap ∧ s'.os = s₁.os ∧ AllBare s'.gens) s₁ := by
    intro H hH hO hS hok hA hK
    have base_of : ∀ {b : Addr} {o : Obj}, s₁.heap.get? b = some o → H b = none → (hidT s₁.heap H).get? b = some o := fun e n => hidT_get e n
    have noD : ∀ {b : Addr} {o : Obj}, s₁.heap.get? b = some o → (∀ vs n, o.data ≠ .seq vs n) → o.data ≠ .fields #[] → H b = none := fun {b o} e h1 h2 => by
      refine Classical.byContradiction fun q => ?_
      rcases hA b q with rfl | e'
      · rw [ha] at e; cases e; exact h1 _ _ rfl
      · rw [isT b e'] at e; cases e; exact h2 rfl
    have noA : ∀ {b : Addr} {o : Obj} {es : Array DictEntry} {ep : Nat}, s₁.heap.get? b = some o → o.data = .dict es ep → H b = none := fun {b o es ep} e d =>
      noD e (fun vs n z => by rw [d] at z; cases z) fun z => by rw [d] at z; cases z
    have nsK : ∀ {b : Addr} {m : Str → Option Value}, s₁.heap.Ns b m → (hidT s₁.heap H).Ns b m := fun {b m} ⟨o, es, ep, e, d, r⟩ => ⟨o, es, ep, base_of e (noA e d), d, r⟩
    have hKb : K.In (hidT s₁.heap H) := fun b o e => base_of (KX b o e) (Classical.byContradiction fun q => by
      rcases hA b q with rfl | e'
      · rw [hK q] at e; cases e
      · obtain ⟨p, hp, rfl⟩ := List.mem_map.mp e'
        rw [nT p hp] at e; cases e)
    have hM : L2.Mod K mg (hidT s₁.heap H) := ⟨hKb, nsK hns, ⟨mb, nsK hb, hbb⟩, let ⟨mc, h1, h2⟩ := hlim; ⟨mc, nsK h1, h2⟩⟩
    have tbs : ∀ p ∈ cs, LamX.TabB (hidT s₁.heap H) mg p.1 p.2 := fun p hp => by
      have hTp := hT p hp
      have nG : mainGlobals ≠ p.2 := fun z => by
        obtain ⟨o, es, ep, e, hd, _⟩ := hns
        rw [z, hTp] at e; cases e; cases hd
      refine ⟨?_, ?_, nG⟩
      · obtain ⟨o, us, file, tf, flags, tg, inF, text, tt, e1, r1, r2, r3, rest⟩ := Cd p hp
        refine ⟨o, us, file, tf, flags, tg, inF, text, tt, base_of e1 (noD e1 (fun vs n z => by rw [r2] at z; cases z) fun z => ?_), r1, r2, r3, rest⟩
        rw [r2] at z; cases z; simp at r3
      · obtain ⟨bm, ob, b1, b2, b3, b4, b5, b6⟩ := hbm
        refine ⟨bm, ob, b1, b2, fun q => ?_, fun q => ?_, base_of b3 (noD b3 (fun vs n z => by rw [b6] at z; cases z) fun z => by rw [b6] at z; cases z), b4, b5, b6⟩
        · obtain ⟨o, es, ep, e, hd, _⟩ := hns
          rw [q, e] at b3; cases b3; rw [hd] at b6; cases b6
        · rw [q, hTp] at b3; cases b3; cases b6
    have e0 : Env0 P w K mg (hidT s₁.heap H) callerA [] s₁ H := ⟨rfl, hM, fun b o e => of_hidT e, Nat.le_of_eq (hidT_size _ _), trivial, fun b hb => absurd (show b ∈ ([] : List Addr) from hb) (by simp), hok, .of_eq hg⟩
    obtain ⟨M', hm⟩ := hlaw
    have sp : spM K 1 m [.ref a] H (fun v _ => v = .bl true) (fun _ _ _ => False) := by
      refine ⟨[], [], [.lst (ns.map D.int)], rfl, .one (.lst hS (rints _ _ ns)), ⟨rfl, List.nodup_nil, fun n b e => by simp at e, fun p hp => ?_⟩, ?_⟩
      · obtain ⟨c, hc⟩ := htab p hp
        exact LamX.TabS.nil (hH _ hc)
      · rw [hm]
        exact fun ι' v H' _ _ q => q.blE
    refine codeAny_mono ((F _ hKb (nsK hns) tbs).run callerA [] s₁ H ⟨[.ref a], []⟩ [.ref a] [.ref a] _ _ hr e0 (hbind s₁ (.ref a)) (.cons rfl .nil) sp) fun r s' h => ?_
    cases r with
    | error e =>
      obtain ⟨_, _, _, _, _, _, _, _, _, _, _, _, z⟩ := h
      exact z.elim
    | ok fl =>
      cases fl with
      | next => exact False.elim h
      | brk => exact False.elim h
      | cont => exact False.elim h
      | ret u =>
        obtain ⟨v, H', os, bare, un, hok', r', q⟩ := h
        have q' : v = .bl true := q
        subst q'
        obtain rfl : u = Value.bool true := r'
        have key : ∀ b o, b ∉ cs.map (·.2) → s₁.heap.get? b = some o → s'.heap.get? b = some o := fun b o nb e => by
          rcases hO b with z | z | ⟨ob, xs, z⟩
          · exact un.keep b o e z (by intro y; cases y) (by simp)
          · exact absurd z nb
          · have z2 := un.frzs b ob _ z
            obtain ⟨e1, _⟩ := hok b _ z
            obtain ⟨e2, _⟩ := hok' b _ z2
            rw [e] at e1; cases e1
            exact e2
        have grown : ∀ p ∈ cs, ∃ more : Array Value, s'.heap.get? p.2 = some { cls := .none, data := .fields more } := fun p hp => by
          obtain ⟨more, z⟩ := un.tbls p.2 #[] (hH p hp)
          exact ⟨_, hok' p.2 _ z⟩
        refine ⟨rfl, ⟨fun b o e => ?_, fun b o e => ?_⟩, os, bare⟩
        · by_cases hb : b ∈ cs.map (·.2)
          · obtain ⟨p, hp, rfl⟩ := List.mem_map.mp hb
            obtain ⟨more, hm⟩ := grown p hp
            rw [hT p hp] at e; cases e
            exact .inr (.inl ⟨((Cd p hp).tab (hT p hp)).isCodeTable, rfl, #[], more, rfl, by rw [Array.empty_append]; exact hm⟩)
          · exact .inl (key b o hb e)
        · by_cases hb : b ∈ cs.map (·.2)
          · obtain ⟨p, hp, rfl⟩ := List.mem_map.mp hb
            obtain ⟨more, hm⟩ := grown p hp
            exact ⟨_, hm⟩
          · exact ⟨o, key b o hb e⟩
  have memT : ∀ p ∈ cs, p.2 ∈ cs.map (·.2) := fun p hp => List.mem_map.mpr ⟨p, hp, rfl⟩
  cases hk : K.lookup a with
  | some o =>
    have e := KX a o hk
    rw [ha] at e
    cases e
    refine core (fun b => if b ∈ cs.map (·.2) then some (.tbl #[]) else none) (fun p hp => if_pos (memT p hp)) (fun b => ?_) (.inr ⟨_, vs.toArray, _, hk, rfl, rfl, rfl, by rw [List.size_toArray, lenV]; exact hl, by simpa using rv⟩) (fun b u z => ?_) (fun b z => ?_) fun z => absurd (if_neg aT) z
    · by_cases hb : b ∈ cs.map (·.2)
      · exact .inr (.inl hb)
      · exact .inl (if_neg hb)
    · by_cases hb : b ∈ cs.map (·.2)
      · have z2 := (if_pos hb).symm.trans z
        cases z2
        exact isT b hb
      · have z2 := (if_neg hb).symm.trans z
        cases z2
    · by_cases hb : b ∈ cs.map (·.2)
      · exact .inr hb
      · exact absurd (if_neg hb) z
  | none =>
    refine core (fun b => if b = a then some (.frz { cls := .type "list", data := .seq vs.toArray } (.lst (ns.map V.int))) else if b ∈ cs.map (·.2) then some (.tbl #[]) else none) (fun p hp => ?_) (fun b => ?_)
      (.inl ⟨by simp, { cls := .type "list", data := .seq vs.toArray }, if_pos rfl⟩) (fun b u z => ?_) (fun b z => ?_) fun _ => hk
    · show (if p.2 = a then _ else _) = _
      rw [if_neg (fun z => aT (by rw [← z]; exact memT p hp)), if_pos (memT p hp)]
    · by_cases hb : b = a
      · exact .inr (.inr ⟨_, _, if_pos hb⟩)
      · by_cases hb2 : b ∈ cs.map (·.2)
        · exact .inr (.inl hb2)
        · exact .inl ((if_neg hb).trans (if_neg hb2))
    · by_cases hb : b = a
      · have z2 := (if_pos hb).symm.trans z
        cases z2
        rw [hb]
        exact ⟨ha, by rw [List.length_map]; exact hl, vs, _, rv, ha⟩
      · have z1 := (if_neg hb).symm.trans z
        by_cases hb2 : b ∈ cs.map (·.2)
        · have z2 := (if_pos hb2).symm.trans z1
          cases z2
          exact isT b hb2
        · have z2 := (if_neg hb2).symm.trans z1
          cases z2
    · by_cases hb : b = a
      · exact .inl hb
      · by_cases hb2 : b ∈ cs.map (·.2)
        · exact .inr hb2
        · exact absurd ((if_neg hb).trans (if_neg hb2)) z
end Fw
set_option Elab.async false
set_option linter.all false
set_option maxRecDepth 100000
set_option maxHeartbeats 2000000
namespace Fw
open PySem PySem.Spec L2

/-! ### a def by its body, its code object told -/
section
variable {P : Program} {w : World} {K : PySem.W.Frag} {mg : Str → Option Value} {base : Heap}
theorem Fn.of_bodyC {x qual : Str} {params : Arguments} {body : List Stmt} {scope : Scope} {f : Addr} {fd : FuncData} {N ps : List Str} {g : Bool} {k : Nat} {m : List D → C D} (F : FunD K x qual params body scope [] [] f fd) (hm : mg x = some (.ref f)) (S : FnScope N ps scope) (b : Binds K fd ps [])
    (hga : He.ga K x = f)
    (hb : ∀ (cdv : Value) (A : Around) (outer : List Env) (s : Shared) (H : Hp) (E : XK), cdv = .ref (He.codeOf K (x, none)) → Rm g k (A.deeper (PyProof.Rows.envOfC qual scope s.heap.objs.size f cdv)) → ∀ ds, ds.length = ps.length →
      DB (cxB P w K mg base N qual scope f cdv A outer s H E) (fun cls d _ H => E cls d H) (slots N ds) Fin.fn body (m ds)) : Fn P w K mg base g (k + 1) x ps m := by
  obtain ⟨oc, od, dV, kV, doc, pm, an, cdv, ct, osl, rfl, lk, hcd, _, _⟩ := F.ex
  obtain ⟨c, rfl⟩ := He.codeIn_ref hcd
  have hc : He.codeOf K (x, none) = c := He.codeOf_eq (p := (x, none)) (by rw [show He.fAd K (x, none) = f from hga]; exact lk) rfl
  refine ⟨f, _, hm, F.kp, b, ⟨fun vs H Q E ⟨_, _, _, h, _⟩ => h, fun A outer s H args us vs Q E hr e0 hbn r ⟨ι, M, ds, hl, hrp, hg, hf⟩ => ?_⟩⟩
  refine LamX.run_ofS lk hcd S hr.room e0 hbn r hl fun hr' => ⟨_, hb (.ref c) A outer s H E (by rw [hc]) ⟨hr', hr.gd⟩ ds (by rw [hrp.length, hl]), ι, M, SR.start hg hrp, fit_body hf⟩
theorem FnC.of_body {x qual : Str} {params : Arguments} {body : List Stmt} {scope : Scope} {f : Addr} {fd : FuncData} {N ps : List Str} {g : Bool} {k : Nat} {m : List D → C D} (F : FunD K x qual params body scope [] [] f fd) (S : FnScope N ps scope)
    (hb : ∀ (cdv : Value) (A : Around) (outer : List Env) (s : Shared) (H : Hp) (E : XK), Rm g k (A.deeper (PyProof.Rows.envOfC qual scope s.heap.objs.size f cdv)) → ∀ ds, ds.length = ps.length →
      DB (cxB P w K mg base N qual scope f cdv A outer s H E) (fun cls d _ H => E cls d H) (slots N ds) Fin.fn body (m ds)) : FnC P w K mg base g (k + 1) f fd ps (spM K ps.length m) := by
  obtain ⟨oc, od, dV, kV, doc, pm, an, cdv, ct, osl, rfl, lk, hcd, _, _⟩ := F.ex
  refine ⟨fun vs H Q E ⟨_, _, _, h, _⟩ => h, fun A outer s H args us vs Q E hr e0 hbn r ⟨ι, M, ds, hl, hrp, hg, hf⟩ => ?_⟩
  refine LamX.run_ofS lk hcd S hr.room e0 hbn r hl fun hr' => ⟨_, hb cdv A outer s H E ⟨hr', hr.gd⟩ ds (by rw [hrp.length, hl]), ι, M, SR.start hg hrp, fit_body hf⟩
/-- called by keywords alone -/
theorem FnK.of {x qual : Str} {params : Arguments} {body : List Stmt} {scope : Scope} {f : Addr} {fd : FuncData} {ks ps : List Str} {is : List Nat} {g : Bool} {k : Nat} {m : List D → C D} (F : FunD K x qual params body scope [] [] f fd) (hm : mg x = some (.ref f)) (h : FnC P w K mg base g k f fd ps (spM K ps.length m))
    (hb : ∀ (kV doc pm : Value) (an : Option Addr) (cdv ct : Value) (ws : List Value), ws.length = ks.length → bindArgs (PySem.W.fnOf x qual params body scope .none kV doc pm an cdv ct) ⟨[], ks.zip ws⟩ = pure (ps.zip (pick is ws))) (hl : is.length = ps.length) (hi : ∀ i ∈ is, i < ks.length) : FnK P w K mg base g k x ks is m := by
  refine ⟨f, fd, ps, hm, F.kp, ?_, hl, hi, h⟩
  obtain ⟨oc, od, dV, kV, doc, pm, an, cdv, ct, osl, rfl, lk, hcd, hD, _⟩ := F.ex
  rcases hD with ⟨_, rfl⟩ | ⟨e, _⟩
  · exact hb kV doc pm an cdv ct
  · exact absurd rfl e
theorem FnK.mono {g : Bool} {j k : Nat} {x : Str} {ks : List Str} {is : List Nat} {m : List D → C D} (h : FnK P w K mg base g j x ks is m) (l : j ≤ k) : FnK P w K mg base g k x ks is m := by
  obtain ⟨f, fd, ps, h1, h2, h3, h5, h6, h4⟩ := h
  exact ⟨f, fd, ps, h1, h2, h3, h5, h6, ⟨h4.len, fun A outer s H args us vs Q E hr => h4.run A outer s H args us vs Q E (hr.mono l)⟩⟩
theorem FnK.up {g : Bool} {k : Nat} {x : Str} {ks : List Str} {is : List Nat} {m : List D → C D} (h : FnK P w K mg base false k x ks is m) : FnK P w K mg base g k x ks is m := by
  obtain ⟨f, fd, ps, h1, h2, h3, h5, h6, h4⟩ := h
  exact ⟨f, fd, ps, h1, h2, h3, h5, h6, ⟨h4.len, fun A outer s H args us vs Q E hr => h4.run A outer s H args us vs Q E hr.plain⟩⟩
theorem Fn.zero {x qual : Str} {params : Arguments} {body : List Stmt} {scope : Scope} {f : Addr} {fd : FuncData} {ps : List Str} {g : Bool} {k : Nat} (F : FunD K x qual params body scope [] [] f fd) (hm : mg x = some (.ref f)) (b : Binds K fd ps []) : Fn P w K mg base g k x ps (fun _ => C.no) :=
  ⟨f, fd, hm, F.kp, b, ⟨fun vs H Q E ⟨_, _, _, h, _⟩ => h, fun A outer s H args us vs Q E hr e0 hbn r ⟨ι, M, ds, hl, hrp, hg, hf⟩ => (show False from hf).elim⟩⟩
end

/-! ### a list joined of two, a list of a range -/
section
variable {X : Cx} {W : WX} {ρ : List Sl} {w : Bool} {a b e : Expr} {ca cb ce : C D} {p p2 pos : Pos}
def D.cat : D → D → Option (List D)
  | .lst a, .lst b => if a.length + b.length ≤ 2 ^ 24 then some (a ++ b) else none
  | _, _ => none
def catC (ca cb : C D) : C (List D) := do let a ← ca; let b ← cb; lift (D.cat a b)
theorem do_cat (ha : DV X W ρ a ca) (hb : DV X W ρ b cb) : DO X W ρ (.BinOp a .Add b pos) (catC ca cb) := by
  refine pe_imp (pe_op op_catS ha hb) fun σ H Q ⟨ι, M, sr, f⟩ => ?_
  refine (seqDO sr f).imp fun x H1 ⟨d1, ι1, M1, e1, r1, q1, f1⟩ => (seqDO r1 f1).imp fun y H2 ⟨d2, ι2, M2, e2, r2, q2, f2⟩ => ?_
  obtain ⟨ds, hs, f3⟩ := f2.someO
  have q1 := r1.rpb e2 q1
  cases d1 with
  | lst as => cases d2 with
    | lst bs =>
      have hs : (if as.length + bs.length ≤ 2 ^ 24 then some (as ++ bs) else none) = some ds := hs
      by_cases hz : as.length + bs.length ≤ 2 ^ 24
      · rw [if_pos hz] at hs; cases hs
        obtain ⟨l, xs, rfl, h1, h2, _⟩ := RpB.lst r2 q1
        obtain ⟨b, zs, rfl, h3, h4, _⟩ := RpB.lst r2 q2
        exact ⟨l, b, xs, zs, rfl, rfl, h1, h3, by rw [← h2.length, ← h4.length]; exact hz, fun p hp => FitO.new f3 r2 hp (h2.append h4)⟩
      · rw [if_neg hz] at hs; cases hs
    | _ => cases hs
  | _ => cases hs
def D.rgl : D → Option (List D)
  | .int n => if 0 ≤ n ∧ n ≤ 16777216 then some (rng 0 n) else none
  | _ => none
def listR (ca : C D) : C (List D) := do let d ← ca; lift d.rgl
theorem do_listR (hc : X.calm = true) (ha : DE X W ρ e ce) (hm : X.mg "list" = none) (hm2 : X.mg "range" = none) (hg : Gl X "list" := by rfl) (hg2 : Gl X "range" := by rfl)
    (he : starEach [e] X.env = (false, eval e X.env) :: starEach [] X.env := by rfl) (he2 : starEach [.Call (.Name "range" p2) [e] [] pos] X.env = (false, eval (.Call (.Name "range" p2) [e] [] pos) X.env) :: starEach [] X.env := by rfl) :
    DO X W ρ (.Call (.Name "list" p) [.Call (.Name "range" p2) [e] [] pos] [] p3) (listR ce) := by
  refine pe_imp (pe_listRg hc hg hm (prg_1 hg2 hm2 ha he) he2) fun σ H Q ⟨ι, M, sr, f⟩ => ?_
  refine (seqDO sr f).imp fun v H1 ⟨d, ι1, M1, e1, r1, q1, f1⟩ => ?_
  obtain ⟨ds, hs, f2⟩ := f1.someO
  cases d with
  | int n =>
    have hs : (if 0 ≤ n ∧ n ≤ 16777216 then some (rng 0 n) else none) = some ds := hs
    by_cases hz : 0 ≤ n ∧ n ≤ 16777216
    · rw [if_pos hz] at hs; cases hs
      refine ⟨n, q1.intE, RgOk.of_le (Int.le_refl 0) hz.2 (by decide) hz.1, fun q hq => FitO.new f2 r1 hq ?_⟩
      unfold rng rgV
      generalize List.range (n - 0).toNat = l
      induction l with
      | nil => exact .nil
      | cons i l ih => exact .cons .int ih
    · rw [if_neg hz] at hs; cases hs
  | _ => cases hs
end

/-! ### x[i], x[j] = a, b -/
section
variable {X : Cx} {W : WX} {ρ : List Sl} {β : Type} {I : β → Fin} {rest : List Stmt} {pos : Pos}
theorem db_set2I {i : Nat} {x : Str} {a : Addr} {ds : List D} {p1 p2 sp1 sp2 tp tp2 : Pos} {kt kt2 : _} {e1 e2 i1 i2 : Expr} {c1 c2 ci1 ci2 : C D} {k : List D → C β} (hc : X.calm = true) (hN1 : PE X (.Name x p1) (tVar i)) (hN2 : PE X (.Name x p2) (tVar i)) (hρ : ρ[i]? = some (.own a ds))
    (he : DA false X W ρ [e1, e2] (args [c1, c2])) (h1 : DE X W ρ i1 ci1) (hr : ∀ ds', DB X W (ρ.set i (.own a ds')) I rest (k ds'))
    (h2' : ∀ ds', DE X W (ρ.set i (.own a ds')) i2 ci2)
    (ha1 : ∀ v, assign (.Subscript (.Name x p1) i1 sp1) X.env v = (do
      let ov ← holding [v] (eval (.Name x p1) X.env)
      let iv ← holding [v, ov] (eval i1 X.env)
      standAt sp1
      holding [v, ov, iv] (setItem ov iv v)
      release [v, ov, iv] []) := by intro _; rfl)
    (ha2 : ∀ v, assign (.Subscript (.Name x p2) i2 sp2) X.env v = (do
      let ov ← holding [v] (eval (.Name x p2) X.env)
      let iv ← holding [v, ov] (eval i2 X.env)
      standAt sp2
      holding [v, ov, iv] (setItem ov iv v)
      release [v, ov, iv] []) := by intro _; rfl)
    (hs : swapsWithSole [.Tuple [.Subscript (.Name x p1) i1 sp1, .Subscript (.Name x p2) i2 sp2] kt tp] (.Tuple [e1, e2] kt2 tp2) pos.line X.env = pure false := by rfl) (hw : swappedStores [.Tuple [.Subscript (.Name x p1) i1 sp1, .Subscript (.Name x p2) i2 sp2] kt tp] (.Tuple [e1, e2] kt2 tp2) X.env = pure none := by rfl)
    (hl : (assignEach [.Tuple [.Subscript (.Name x p1) i1 sp1, .Subscript (.Name x p2) i2 sp2] kt tp] X.env).map (·.2) = [assign (.Tuple [.Subscript (.Name x p1) i1 sp1, .Subscript (.Name x p2) i2 sp2] kt tp) X.env] := by rfl)
    (hq1 : (assignEach [.Subscript (.Name x p1) i1 sp1, .Subscript (.Name x p2) i2 sp2] X.env).map (·.2) = assign (.Subscript (.Name x p1) i1 sp1) X.env :: (assignEach [.Subscript (.Name x p2) i2 sp2] X.env).map (·.2) := by rfl)
    (hq2 : (assignEach [.Subscript (.Name x p2) i2 sp2] X.env).map (·.2) = assign (.Subscript (.Name x p2) i2 sp2) X.env :: (assignEach [] X.env).map (·.2) := by rfl)
    (hn : (assignEach [.Subscript (.Name x p1) i1 sp1, .Subscript (.Name x p2) i2 sp2] X.env).length = 2 := by rfl) (hst : (assignEach [.Subscript (.Name x p1) i1 sp1, .Subscript (.Name x p2) i2 sp2] X.env).findIdx? (·.1) = none := by rfl) :
    DB X W ρ I (.Assign [.Tuple [.Subscript (.Name x p1) i1 sp1, .Subscript (.Name x p2) i2 sp2] kt tp] (.Tuple [e1, e2] kt2 tp2) pos :: rest) (args [c1, c2] >>= ap2 fun d1 d2 => ci1 >>= fun j => setC ds j d1 >>= fun ds1 => ci2 >>= fun j2 => setC ds1 j2 d2 >>= k) := by
  have h2 : PE X i2 (fun σ H Q => ∃ ds', tD X.K W (ρ.set i (.own a ds')) false ci2 σ H Q) := ⟨fun pins s σ H Q I ⟨l, q⟩ => (h2' l).run pins s σ H Q I q⟩
  refine pss_imp (pss_cons (ps_asg (pe_tup he) (pg_tup hc (pgs_cons (pg_sub hN1 h1 set_list ha1) (pgs_cons (pg_sub hN2 h2 set_list ha2) pgs_nil hq2) hq1) hn hst) hs hw hl) (pss_any hr)) fun E σ H ⟨ι, M, sr, f⟩ => ?_
  refine (seqAlS sr f).imp fun vs H1 ⟨dd, ι1, M1, hdl, e1, r1, q1, f1⟩ => ?_
  obtain ⟨d1, d2, rfl⟩ : ∃ d1 d2, dd = [d1, d2] := by
    revert hdl
    exact len2 (P := fun dd => ∃ d1 d2, dd = [d1, d2]) (fun a b => ⟨a, b, rfl⟩) dd
  obtain ⟨v1, v2, rfl, p1, p2⟩ := q1.str.twoE
  refine ⟨(show 2 ≤ sizeLine by decide), fun p hp => ?_⟩
  have e2 : Ext ρ ι1 H1 ι1 (upd H1 p (.tup [v1, v2])) := Ex.same (same_new hp)
  have r2 := r1.same (same_new (o := .tup [v1, v2]) hp)
  refine ⟨p, [v1, v2], rfl, .inl (.inl upd_same), rfl, v1, [v2], rfl, ?_⟩
  obtain ⟨h1, _, xs, h3, h4⟩ := r2.ownE hρ
  have hi : i < ρ.length := (List.getElem?_eq_some_iff.mp hρ).1
  have f2 : FitS X.K W ρ ι1 (upd H1 p (.tup [v1, v2])) I ((ci1 >>= fun j => setC ds j d1 >>= fun ds1 => ci2 >>= fun j2 => setC ds1 j2 d2 >>= k) M1) E := FitS.later e2 f1
  refine ⟨.ref a, h1, (seqDS r2 f2).imp fun y H2 ⟨j, ι2, M2, e3, r3, q2, f3⟩ => ?_⟩
  obtain ⟨_, _, ys, g3, g4⟩ := r3.ownE hρ
  obtain ⟨ds', hd, f4⟩ := FitS.someL f3
  obtain ⟨k', j', rfl, hj, rfl⟩ := setL_eq hd
  rw [q2.str.intE]
  refine ⟨a, ys, k', j', rfl, rfl, g3, by rw [← g4.length]; exact hj, ?_⟩
  obtain ⟨r4, e4⟩ := r3.wown hρ (RpL.set (r2.rp e3 (r1.rp e2 p1)) j' g4)
  have f5 := FitS.later e4 f4
  have hρ2 : (ρ.set i (.own a (ds.set j' d1)))[i]? = some (.own a (ds.set j' d1)) := List.getElem?_set_self hi
  refine ⟨v2, [], rfl, ?_⟩
  obtain ⟨h5, _, _⟩ := r4.ownE hρ2
  refine ⟨.ref a, h5, ds.set j' d1, (seqDS r4 f5).imp fun y2 H4 ⟨j2, ι4, M4, e5, r5, q5, f6⟩ => ?_⟩
  obtain ⟨_, _, zs, g5, g6⟩ := r5.ownE hρ2
  obtain ⟨ds2, hd2, f7⟩ := FitS.someL f6
  obtain ⟨k2, j2', rfl, hj2, rfl⟩ := setL_eq hd2
  rw [q5.str.intE]
  refine ⟨a, zs, k2, j2', rfl, rfl, g5, by rw [← g6.length]; exact hj2, rfl, (ds.set j' d1).set j2' d2, ι4, M4, ?_⟩
  have pd2 := r4.rp e5 (Rp.ex e4 r3.mutK _ _ (r2.rp e3 (r1.rp e2 p2)))
  obtain ⟨r6, e6⟩ := r5.wown hρ2 (RpL.set pd2 j2' g6)
  rw [List.set_set] at r6 e6
  exact ⟨r6, FitS.later e6 f7⟩
end
end Fw
set_option Elab.async false
set_option linter.all false
set_option maxRecDepth 100000
set_option maxHeartbeats 2000000
namespace Fw
open PySem PySem.Spec PySem.W L2

/-! ### the head's facts -/
/-- what the module's names and the model's own table reach in n steps -/
def asF (g : Addr → Option Obj) : Nat → List Addr
  | 0 => [mainGlobals, cStatics]
  | n + 1 => He.growD g (asF g n)
/-- a def with a closure, its cells by name -/
abbrev IniV : Type := Option (Str × Str × Arguments × FuncBody × Scope × Addr × List Str × Addr)
def iniV (K : Frag) (p : Str × Option Str) : IniV := match K.lookup (He.fAd K p) with
  | some ⟨_, _, .func fd, _⟩ => some (fd.name, fd.qualname, fd.params, fd.body, fd.scope, fd.globals, fd.closure.map (·.1), fd.builtins)
  | _ => none
abbrev AlF : Type := (He.AlD × Bool) × List IniV
def obsF (n : Nat) (fa : List He.Fa) (fn : List He.DefD) (tf : List He.Defn) (ex : Frag → Bool) (ps : List (Str × Option Str)) (g : Addr → Option Obj) : AlF :=
  ((He.obsD fa fn (He.frT g (asF g n)), ex (He.frT g (asF g n)) && He.tabsB g tf (He.frT g (asF g n))), ps.map (iniV (He.frT g (asF g n))))
def valF (fn : List He.DefD) (is : List IniV) : AlF := ((He.valD fn, true), is)
structure SaysF (fa : List He.Fa) (fn : List He.DefD) (tf : List He.Defn) (ex : Frag → Bool) (ps : List (Str × Option Str)) (is : List IniV) (h : Heap) (K : Frag) : Prop where
  d : He.SaysD fa fn K
  more : ex K = true
  hd : ∀ p ∈ tf, codeHdIn K (He.cT K p).1 (He.cT K p).2 = true
  out : ∀ p ∈ tf, K.lookup (He.cT K p).2 = none
  empty : ∀ p ∈ tf, h.get? (He.cT K p).2 = some { cls := .none, data := .fields #[] }
  ini : ps.map (iniV K) = is
theorem saysF_of {n : Nat} {fa : List He.Fa} {fn : List He.DefD} {tf : List He.Defn} {ex : Frag → Bool} {ps : List (Str × Option Str)} {is : List IniV} {h : Heap} (e : obsF n fa fn tf ex ps h.get? = valF fn is) : SaysF fa fn tf ex ps is h (He.frT h.get? (asF h.get? n)) := by
  have e0 : (He.obsD fa fn (He.frT h.get? (asF h.get? n)), ex (He.frT h.get? (asF h.get? n)) && He.tabsB h.get? tf (He.frT h.get? (asF h.get? n))) = (He.valD fn, true) := congrArg Prod.fst e
  have e3 : ps.map (iniV (He.frT h.get? (asF h.get? n))) = is := congrArg Prod.snd e
  have e1 := congrArg Prod.fst e0
  have e2 := congrArg Prod.snd e0
  generalize hK : He.frT h.get? (asF h.get? n) = K at e1 e2 e3
  obtain ⟨h1, h2⟩ := He.ba e2
  have key : ∀ p ∈ tf, codeHdIn K (He.cT K p).1 (He.cT K p).2 = true ∧ ∃ o, h.get? (He.cT K p).2 = some o ∧ He.emptyTab o = true := fun p hp => by
    obtain ⟨h3, h4⟩ := He.ba (List.all_eq_true.mp h2 p hp)
    refine ⟨h3, ?_⟩
    cases q : h.get? (He.cT K p).2 with
    | none => rw [q] at h4; cases h4
    | some o => rw [q] at h4; exact ⟨o, rfl, h4⟩
  refine ⟨e1, h1, fun p hp => (key p hp).1, fun p hp => ?_, fun p hp => ?_, e3⟩
  · obtain ⟨_, o, q, z⟩ := key p hp
    have := He.frT_none (as := asF h.get? n) q z
    rw [hK] at this; exact this
  · obtain ⟨_, o, q, z⟩ := key p hp
    rw [q, He.emptyTab_eq z]
def hookF (n : Nat) (fa : List He.Fa) (fn : List He.DefD) (tf : List He.Defn) (ex : Frag → Bool) (ps : List (Str × Option Str)) (is : List IniV) : Hook where
  α := AlF
  obs := fun s => obsF n fa fn tf ex ps s.heap.get?
  val := fun _ => valF fn is
  says := fun _ h => ∃ K : Frag, K.In h ∧ SaysF fa fn tf ex ps is h K
  of := fun _ _ e => ⟨_, He.frT_in, saysF_of e⟩
  keeps := fun _ _ _ ⟨K, hK, c⟩ k => ⟨K, Frag.In.keeps hK k, ⟨c.d, c.more, c.hd, c.out, fun p hp => k _ _ (c.empty p hp), c.ini⟩⟩
theorem obsF_eq {n : Nat} {fa : List He.Fa} {fn : List He.DefD} {tf : List He.Defn} {ex : Frag → Bool} {ps : List (Str × Option Str)} {is : List IniV} {g : Addr → Option Obj} {s : Shared} (h : ∀ a, g a = s.heap.get? a) : obsF n fa fn tf ex ps g = (hookF n fa fn tf ex ps is).obs s := by
  have e : g = s.heap.get? := funext h
  rw [e] <;> rfl

/-! ### exceptions' facts -/
def ini2B (K : Frag) (D fI : Addr) (q fileS : Str) : Bool := match K.lookup fI with
  | some ⟨_, _, .func fd, _⟩ => (match fd.defaults, fd.kwdefaults, fd.closure, fd.code with
    | .none, .none, [(_, cc)], .ref cda => codeIn K (.ref cda) q && ((match K.lookup cc with
        | some ⟨_, _, .cell (some (.ref D')), _⟩ => decide (D' = D)
        | _ => false) && (match K.lookup cda with
        | some ⟨_, _, .fields vs, _⟩ => (match (vs[2]? : Option Value) with
          | some (.str f _) => decide (f = fileS)
          | _ => false)
        | _ => false))
    | _, _, _, _ => false)
  | _ => false
theorem ini2_ok {K : Frag} {p : Str × Option Str} {q qual fileS name : Str} {D : Addr} {params : Arguments} {body : List Stmt} {scope : Scope} (e : iniV K p = (some (name, qual, params, FuncBody.stmts body, scope, mainGlobals, ["__class__"], builtinsNs) : IniV)) (c : ini2B K D (He.fAd K p) q fileS = true) :
    ∃ (oc : Value) (od : Option Addr) (doc pm ct : Value) (an : Option Addr) (osl : Array (Option Value)) (cc cda : Addr) (cl : Value) (cld : Option Addr) (csl : Array (Option Value)) (ccl : Value) (cdd : Option Addr) (vs : Array Value) (ccs : Array (Option Value)) (tk : Tok),
      K.lookup (He.fAd K p) = some ⟨oc, od, .func (ksFn name qual params body scope .none .none doc pm an (.ref cda) ct cc), osl⟩ ∧ codeIn K (.ref cda) q = true ∧
      K.lookup cc = some ⟨cl, cld, .cell (some (.ref D)), csl⟩ ∧ K.lookup cda = some ⟨ccl, cdd, .fields vs, ccs⟩ ∧ vs[2]? = some (.str fileS tk) := by
  unfold iniV at e
  unfold ini2B at c
  cases hk : K.lookup (He.fAd K p) with
  | none => rw [hk] at c; cases c
  | some o =>
    obtain ⟨oc, od, dt, osl⟩ := o
    rw [hk] at c e
    cases dt with
    | func fd =>
      obtain ⟨n1, n2, n3, n4, n5, n6, n7, n8, n9, n10, n11, n12, n13, n14, n15⟩ := fd
      simp only [Option.some.injEq, Prod.mk.injEq] at e
      obtain ⟨rfl, rfl, rfl, rfl, rfl, rfl, h7, rfl⟩ := e
      dsimp only at c
      split at c
      · rename_i x cc cda
        obtain ⟨c1, c2⟩ := He.ba c
        obtain ⟨c3, c4⟩ := He.ba c2
        have hx : x = ("__class__" : Str) := by
          have := congrArg List.head? h7
          exact Option.some.inj this
        subst hx
        split at c3
        · rename_i D' csl hc
          cases of_decide_eq_true c3
          split at c4
          · rename_i vs ccs hd
            split at c4
            · rename_i f tk hv
              cases of_decide_eq_true c4
              exact ⟨oc, od, _, _, _, _, osl, cc, cda, _, _, _, _, _, vs, _, tk, rfl, c1, hc, hd, hv⟩
            · cases c4
          · cases c4
        · cases c3
      · cases c
    | _ => cases c
def clsVE (K : Frag) (C : Addr) : Bool := match K.lookup C with
  | some ⟨.type t, _, .cls cd, sl⟩ => (match cd.mro, sl.toList with
    | .ref C' :: bm, [_, _, _, _, some (.builtin nw), _] => decide (t = "type") && (decide (C' = C) && (decide (nw = "ValueError.__new__") && (!cd.hasDel && (cd.hasDict && PySem.HandSPX.refsVE bm))))
    | _, _ => false)
  | _ => false
theorem clsVE_ok {K : Frag} {C : Addr} (c : clsVE K C = true) : ∃ nm q N bs bm sn sub ab col dd k0 k1 k2 k3 k5, K.lookup C = some (excClassObj nm q C N bs bm true sn sub ab col dd k0 k1 k2 k3 k5 "ValueError.__new__") ∧ PySem.HandSPX.refsVE bm = true := by
  unfold clsVE at c
  split at c
  · rename_i t dd cd sl hk
    split at c
    · rename_i C' bm k0 k1 k2 k3 nw k5 hm hs
      obtain ⟨c1, c⟩ := He.ba c
      obtain ⟨c2, c⟩ := He.ba c
      obtain ⟨c3, c⟩ := He.ba c
      obtain ⟨c4, c⟩ := He.ba c
      obtain ⟨c5, c6⟩ := He.ba c
      obtain ⟨a1, a2, a3, a4, a5, a6, a7, a8, a9, a10, a11⟩ := cd
      obtain ⟨l⟩ := sl
      have hs' : l = [k0, k1, k2, k3, some (.builtin nw), k5] := hs
      have hm' : a3 = .ref C' :: bm := hm
      have h6 : a6 = true := c5
      have h11 : a11 = false := by
        cases a11 with
        | false => rfl
        | true => cases c4
      cases of_decide_eq_true c1; cases of_decide_eq_true c2; cases of_decide_eq_true c3
      subst hs' hm' h6 h11
      exact ⟨a1, a5, a4, a2, bm, a7, a8, a9, a10, dd, k0, k1, k2, k3, k5, hk, c6⟩
    · cases c
  · cases c
theorem init_call {q1 q2 q3 q4 q5 : Pos} (hl : (q3.endLine == q5.line) = true) : ∃ pl : Env → Sem Bool, ∀ env, eval (.Call (.Attribute (.Call (.Name "super" q1) [] [] q2) "__init__" q3) [.Name "value" q4] [] q5) env = (do
      let ov ← attributeBase (.Call (.Name "super" q1) [] [] q2) "__init__" env (eval (.Call (.Name "super" q1) [] [] q2) env)
      standAt q3.atName
      let (f, first) ← holding [ov] (getMethod ov "__init__" (pl env))
      callWith q5 f first (backTo q5 (starEach [.Name "value" q4] env)) []) := by
  refine ⟨plainOf (.Call (.Name "super" q1) [] [] q2), fun env => ?_⟩
  have e : ∀ ov : Value, methodCall (.Call (.Name "super" q1) [] [] q2) "__init__" q3 q5 env ov 1 (backTo q5 (starEach [.Name "value" q4] env)) [] = (do
      let (f, first) ← holding [ov] (getMethod ov "__init__" (plainOf (.Call (.Name "super" q1) [] [] q2) env))
      callWith q5 f first (backTo q5 (starEach [.Name "value" q4] env)) []) := fun ov => mcall_line rfl hl
  simp only [← e]
  rfl
/-- ErrC -/
def errCB (K : Frag) (C D f : Addr) : Bool := clsVE K C && (He.eqO (findIn K (.ref C) "__setattr__") (some (some (.builtin "object.__setattr__"))) && (He.eqO (findIn K (.ref C) "__getattribute__") (some (some (.builtin "BaseException.__getattribute__"))) &&
  (He.eqO (findIn K (.ref C) "__getattr__") (some none) && (He.eqO (findIn K (.ref C) "value") (some none) && (He.eqO (findIn K (.ref C) "__init__") (some (some (.ref f))) && (keepIn K (.ref C) && (decide (subIn K (.ref C) (.type "BaseException") = some true) &&
  (decide (subIn K (.ref C) (.type "ValueError") = some true) && (decide (typeIn K (.ref C) = some (.type "type")) && (hasDictIn K C && (decide (mroIn K C (.ref D) = some true) && He.eqO (ks_superIn K C D "__init__") (some (some (.builtin "ValueError.__init__"))))))))))))))
theorem errC_ok {K : Frag} {C D f : Addr} (c : errCB K C D f = true) : ErrC K C D f := by
  obtain ⟨c1, c⟩ := He.ba c
  obtain ⟨c2, c⟩ := He.ba c
  obtain ⟨c3, c⟩ := He.ba c
  obtain ⟨c4, c⟩ := He.ba c
  obtain ⟨c5, c⟩ := He.ba c
  obtain ⟨c6, c⟩ := He.ba c
  obtain ⟨c7, c⟩ := He.ba c
  obtain ⟨c8, c⟩ := He.ba c
  obtain ⟨c9, c⟩ := He.ba c
  obtain ⟨c10, c⟩ := He.ba c
  obtain ⟨c11, c⟩ := He.ba c
  obtain ⟨c12, c13⟩ := He.ba c
  exact ⟨clsVE_ok c1, He.eqO_ok c2, He.eqO_ok c3, He.eqO_ok c4, He.eqO_ok c5, He.eqO_ok c6, c7, of_decide_eq_true c8, of_decide_eq_true c9, of_decide_eq_true c10, c11, of_decide_eq_true c12, He.eqO_ok c13⟩
/-- ErrV -/
def errVB (K : Frag) (C : Addr) : Bool := (clsIn K C).isSome && (He.eqO (findIn K (.ref C) "__getattribute__") (some (some (.builtin "BaseException.__getattribute__"))) && (He.eqO (findIn K (.ref C) "__getattr__") (some none) && (decide (subIn K (.ref C) (.type "BaseException") = some true) &&
  (hasDictIn K C && (He.eqO (findIn K (.ref C) "value") (some none) && (He.eqO (findIn K (.ref C) "__class__") (some (some (.builtin "object.__class__"))) && (He.eqO (specialIn K (.builtin "object.__class__") "__get__") (some (some (.builtin "getset_descriptor.__get__"))) &&
  (decide (takesIn K (.builtin "object.__class__") = some true) && decide (mroIn K C (.type "object") = some true)))))))))
theorem errV_ok {K : Frag} {C : Addr} (c : errVB K C = true) : ErrV K C := by
  obtain ⟨c1, c⟩ := He.ba c
  obtain ⟨c2, c⟩ := He.ba c
  obtain ⟨c3, c⟩ := He.ba c
  obtain ⟨c4, c⟩ := He.ba c
  obtain ⟨c5, c⟩ := He.ba c
  obtain ⟨c6, c⟩ := He.ba c
  obtain ⟨c7, c⟩ := He.ba c
  obtain ⟨c8, c⟩ := He.ba c
  obtain ⟨c9, c10⟩ := He.ba c
  exact ⟨c1, He.eqO_ok c2, He.eqO_ok c3, of_decide_eq_true c4, c5, He.eqO_ok c6, He.eqO_ok c7, He.eqO_ok c8, of_decide_eq_true c9, of_decide_eq_true c10⟩
/-- ErrD but for the text -/
def errDB (K : Frag) (D f : Addr) : Bool := (clsIn K D).isSome && (He.eqO (nsIn K cStatics "thirdparty.any") (some none) && (He.eqO (nsIn K mainGlobals "super") (some none) && decide (typeIn K (.ref f) = some (.type "function"))))
def tabDB (K : Frag) : Bool := (TB K).all fun p => (TB K).all fun q => !decide (p.1 = q.1) || decide (p.2 = q.2)
theorem tabD_ok {K : Frag} (c : tabDB K = true) : ∀ p ∈ TB K, ∀ q ∈ TB K, p.1 = q.1 → p.2 = q.2 := fun p hp q hq e => by
  have h := List.all_eq_true.mp (List.all_eq_true.mp c p hp) q hq
  rw [decide_eq_true e] at h
  exact of_decide_eq_true h

/-! ### the end -/
theorem walk_law {l : OpenLaw} {n k : Nat} {q : Program} {loose : List Str} {XP : (Str → Option Value) → Heap → Prop} {YP : World → Heap → Prop} {d : DefRec} {x : Str} {m : List D → C D}
    (hn : l.most = some n) (hn2 : n ≤ sizeLine) (hdf : d.params.defaults = []) (hr : Rm true k callerA)
    (hlaw : ∀ ns : List Int, ns.length ≤ n → (∀ i ∈ ns, Builtin.Int.intBits i ≤ 1048576) → ∃ M', m [.lst (ns.map D.int)] [] = .ok (.bl true) M')
    (F : ∀ (w : World) (mg : Str → Option Value) (fa : Addr) (h : Heap), YP w h → h.Ns mainGlobals mg → mg d.name = some (.ref fa) → ∃ (K : Frag) (fd : FuncData) (cs : List (Addr × Addr)), K.In h ∧
      (∀ p ∈ cs, h.get? p.2 = some { cls := .none, data := .fields #[] }) ∧ (∀ p ∈ cs, K.lookup p.2 = none) ∧ (∀ p ∈ cs, CodeHd h p.1 p.2) ∧ (∀ p ∈ TB K, ∃ c, (c, p.1) ∈ cs) ∧
      (∀ (s : Shared) (u : Value), BindsTo s fd ⟨[u], []⟩ [(x, u)]) ∧
      ∀ base : Heap, K.In base → base.Ns mainGlobals mg → (∀ p ∈ cs, LamX.TabB base mg p.1 p.2) → FnC l.prog w K mg base true k fa fd [x] (spM K 1 m)) :
    WalkO q loose XP YP l.row.toRowW d [] (fun f vs => PySem.call f vs) := by
  refine Att.attach_callB hn hdf fun w s₀ s₁ mg mb fa o pm cd doc a vs ns G Y ho hd hcd hmg hobj hints hlen hbits hg => ?_
  obtain ⟨K, fd, cs, KX, hT, nT, C, htab, hb, hF⟩ := F w mg fa _ Y G.T.g hmg
  exact law_end KX G.T.g G.T.b G.T.builtins G.T.nolimit hg hT nT C G.T.bmain hobj hints (Nat.le_trans hlen hn2) hr hF hb htab (hlaw ns hlen hbits)
end Fw
set_option Elab.async false
set_option linter.all false
set_option maxRecDepth 100000
set_option maxHeartbeats 1000000
namespace Fw
open PySem PySem.Spec L2
/-! ### mirrors of known parts -/
section
variable {α β : Type} {a b d : D} {c ca cb cc : C D} {cs : List (C D)} {ds : List D} {t tb : C Bool}
theorem ev_bin {g : D → D → Option D} : bin g (pure a) (pure b) = lift (g a b) := rfl
theorem ev_cmp {g : D → D → Option Bool} : cmp g (pure a) (pure b) = lift (g a b) := rfl
theorem ev_un {g : D → Option D} : un g (pure a) = lift (g a) := rfl
theorem ev_valB {k : Bool} : valB (pure k) = pure (.bl k) := rfl
theorem ev_asB {k : Bool} : asB (pure (.bl k)) = pure k := rfl
theorem ev_andVt : andV (pure (.bl true)) c = c := rfl
theorem ev_andVf : andV (pure (.bl false)) c = pure (.bl false) := rfl
theorem ev_orVt : orV (pure (.bl true)) c = pure (.bl true) := rfl
theorem ev_orVf : orV (pure (.bl false)) c = c := rfl
theorem ev_notV {k : Bool} : notV (pure (.bl k)) = pure (.bl (!k)) := rfl
theorem ev_andTt : andT (pure true) t = t := rfl
theorem ev_andTf : andT (pure false) t = pure false := rfl
theorem ev_orTt : orT (pure true) t = pure true := rfl
theorem ev_orTf : orT (pure false) t = t := rfl
theorem ev_notT {k : Bool} : notT (pure k) = pure (!k) := rfl
theorem ev_ifEt {x y : C α} : ifE (pure true) x y = x := rfl
theorem ev_ifEf {x y : C α} : ifE (pure false) x y = y := rfl
theorem ev_args0 : args [] = pure [] := rfl
theorem ev_args1 : args (pure a :: cs) = (args cs >>= fun as => pure (a :: as)) := rfl
theorem ev_tupC : tupC cs = (args cs >>= fun ds => pure (.tup ds)) := rfl
theorem ev_lstC : lstC cs = (args cs >>= fun ds => pure (.lst ds)) := rfl
theorem ev_dicC {ks : List Str} : dicC ks cs = (args cs >>= fun ds => pure (.dic (ks.map Sum.inr) ds)) := rfl
theorem ev_callM {m : List D → C D} : callM m cs = (args cs >>= m) := rfl
theorem ev_callK {m : List D → C D} {is : List Nat} : callK m is cs = (args cs >>= fun ds => m (pick is ds)) := rfl
theorem ev_callO {g : List D → Option D} : callO g cs = (args cs >>= fun ds => lift (g ds)) := rfl
theorem ev_asL {co : C (List D)} : asL co = (co >>= fun ds => pure (.lst ds)) := rfl
theorem ev_lift {x : α} : lift (some x) = pure x := rfl
theorem ev_ap1 {f : D → C α} : ap1 f [a] = f a := rfl
theorem ev_ap2 {f : D → D → C α} : ap2 f [a, b] = f a b := rfl
theorem ev_ap3 {f : D → D → D → C α} : ap3 f [a, b, d] = f a b d := rfl
theorem ev_isi {T : Ty} : isiC T (pure a) = lift (T.isi a) := rfl
theorem ev_add {i j : Int} : D.add (.int i) (.int j) = some (.int (i + j)) := rfl
theorem ev_sub {i j : Int} : D.sub (.int i) (.int j) = some (.int (i - j)) := rfl
theorem ev_neg {i : Int} : D.neg (.int i) = some (.int (-i)) := rfl
theorem ev_mul {i j : Int} (h : i.natAbs.log2 + j.natAbs.log2 < 1000000) : D.mul (.int i) (.int j) = some (.int (i * j)) := by
  show (gMul i j).map D.int = _
  unfold gMul; rw [if_pos h]; rfl
theorem ev_div {i j : Int} (h : j ≠ 0) (h2 : j.natAbs.log2 < 9000) : D.div (.int i) (.int j) = some (.int (i.fdiv j)) := by
  show (gDiv i j).map D.int = _
  unfold gDiv; rw [if_pos ⟨h, h2⟩]; rfl
theorem ev_mod {i j : Int} (h : j ≠ 0) : D.mod (.int i) (.int j) = some (.int (i.fmod j)) := by
  show (gMod i j).map D.int = _
  unfold gMod; rw [if_pos h]; rfl
theorem ev_lt {i j : Int} : D.lt (.int i) (.int j) = some (decide (i < j)) := rfl
theorem ev_le {i j : Int} : D.le (.int i) (.int j) = some (decide (i ≤ j)) := rfl
theorem ev_gt {i j : Int} : D.gt (.int i) (.int j) = some (decide (j < i)) := rfl
theorem ev_ge {i j : Int} : D.ge (.int i) (.int j) = some (decide (j ≤ i)) := rfl
theorem ev_isNon : D.is_ a .non = some a.isNon := rfl
theorem ev_isntNon : D.isnt a .non = some (!a.isNon) := rfl
theorem ev_t0 {x : D} {xs : List D} : D.ix (.tup (x :: xs)) (.int 0) = some x := by
  show atI (x :: xs) 0 = _
  unfold atI ixN
  rw [if_pos (Int.le_refl 0), if_pos (by simp)]; rfl
theorem ev_t1 {x y : D} {xs : List D} : D.ix (.tup (x :: y :: xs)) (.int 1) = some y := by
  show atI (x :: y :: xs) 1 = _
  unfold atI ixN
  rw [if_pos (by decide), if_pos (by simp; omega)]; rfl
theorem ev_l0 {x : D} {xs : List D} : D.ix (.lst (x :: xs)) (.int 0) = some x := by
  show atI (x :: xs) 0 = _
  unfold atI ixN
  rw [if_pos (Int.le_refl 0), if_pos (by simp)]; rfl
theorem ev_l1 {x y : D} {xs : List D} : D.ix (.lst (x :: y :: xs)) (.int 1) = some y := by
  show atI (x :: y :: xs) 1 = _
  unfold atI ixN
  rw [if_pos (by decide), if_pos (by simp; omega)]; rfl
theorem ev_abs {i : Int} : bAbs [.int i] = some (.int i.natAbs) := by
  show some (D.int _) = _
  congr 2; split <;> omega
theorem ev_int {i : Int} : bInt [.int i] = some (.int i) := rfl
theorem ev_intB {k : Bool} : bInt [.bl k] = some (.int (if k then 1 else 0)) := rfl
theorem ev_lenL {xs : List D} : bLen [.lst xs] = some (.int xs.length) := rfl
theorem ev_lenT {xs : List D} : bLen [.tup xs] = some (.int xs.length) := rfl
theorem ev_tupL {xs : List D} : bTup [.lst xs] = some (.tup xs) := rfl
theorem ev_eqI {i j : Int} : D.eq (.int i) (.int j) = some (decide (i = j)) := rfl
theorem ev_neI {i j : Int} : D.ne (.int i) (.int j) = some (!decide (i = j)) := rfl
end

/-! ### Euclid -/
theorem gcd_while {c : D × D → C Bool} {b : D × D → C (D × D)} (hc : ∀ x (y : Int), c (x, .int y) = pure (decide (0 < y))) (hb : ∀ x y : Int, y ≠ 0 → b (.int x, .int y) = pure (.int y, .int (x.fmod y))) :
    ∀ n a m : Nat, m < n → whileC c b n (.int a, .int m) = pure (.int (Nat.gcd a m), .int 0)
  | 0, a, m, h => absurd h (Nat.not_lt_zero _)
  | n + 1, a, m, h => by
    unfold whileC
    rw [hc, C.pure_bind]
    by_cases h0 : m = 0
    · subst h0
      rw [if_neg (by simp)]
      simp
    · have hp : (0 : Int) < m := by omega
      rw [if_pos (decide_eq_true hp), hb _ _ (by omega), C.pure_bind]
      have e : (a : Int).fmod m = ((a % m : Nat) : Int) := by
        rw [Int.fmod_eq_emod_of_nonneg _ (Int.le_of_lt hp)]; rfl
      rw [e, gcd_while hc hb n m (a % m) (by have := Nat.mod_lt a (Nat.pos_of_ne_zero h0); omega)]
      congr 3
      rw [Nat.gcd_comm a m, Nat.gcd_rec m a, Nat.gcd_comm]
/-- a fraction as data -/
def F (r : Rat) : D := .tup [.int r.num, .int r.den]
theorem fdiv_dvd {a g : Int} (hg : 0 < g) (h : g ∣ a) : a.fdiv g = a / g ∧ a.fdiv (-g) = (-a) / g := by
  obtain ⟨k, rfl⟩ := h
  refine ⟨Int.fdiv_eq_ediv_of_nonneg _ (Int.le_of_lt hg), ?_⟩
  have e1 : (g * k).fdiv (-g) = -k := by
    rw [show g * k = (-g) * (-k) by simp [Int.neg_mul_neg]]
    exact Int.mul_fdiv_cancel_left _ (by omega)
  have e2 : -(g * k) / g = -k := by
    rw [← Int.mul_neg]
    exact Int.mul_ediv_cancel_left _ (by omega)
  rw [e1, e2]
theorem F_divInt {a b : Int} (hb : b ≠ 0) : F (Rat.divInt a b) = if 0 < b then .tup [.int (a.fdiv (Nat.gcd a.natAbs b.natAbs)), .int (b.fdiv (Nat.gcd a.natAbs b.natAbs))] else .tup [.int (a.fdiv (-(Nat.gcd a.natAbs b.natAbs : Nat))), .int (b.fdiv (-(Nat.gcd a.natAbs b.natAbs : Nat)))] := by
  have hg : (0 : Int) < (Nat.gcd a.natAbs b.natAbs : Nat) := by
    have : 0 < Nat.gcd a.natAbs b.natAbs := Nat.gcd_pos_of_pos_right _ (by omega)
    omega
  have da : ((Nat.gcd a.natAbs b.natAbs : Nat) : Int) ∣ a := Int.ofNat_dvd_left.mpr (Nat.gcd_dvd_left _ _)
  have db : ((Nat.gcd a.natAbs b.natAbs : Nat) : Int) ∣ b := Int.ofNat_dvd_left.mpr (Nat.gcd_dvd_right _ _)
  have eg : b.gcd a = Nat.gcd a.natAbs b.natAbs := by rw [Int.gcd, Nat.gcd_comm]
  obtain ⟨a1, a2⟩ := fdiv_dvd hg da
  obtain ⟨b1, b2⟩ := fdiv_dvd hg db
  unfold F
  rw [Rat.num_divInt, Rat.den_divInt, if_neg hb, eg, a1, a2, b1, b2]
  by_cases h : 0 < b
  · rw [if_pos h, Int.sign_eq_one_of_pos h, Int.one_mul]
    congr 4
    rw [Int.natCast_ediv]
    congr 1
    omega
  · have h' : b < 0 := by omega
    rw [if_neg h, Int.sign_eq_neg_one_of_neg h', Int.neg_mul, Int.one_mul]
    congr 4
    rw [Int.natCast_ediv]
    congr 1
    omega

/-! ### sizes -/
theorem log2_le {x n : Nat} (h : x ≤ 2 ^ n) : x.log2 ≤ n := by
  by_cases h0 : x = 0
  · subst h0; simp [Nat.log2_zero]
  · have : x.log2 < n + 1 := (Nat.log2_lt h0).mpr (Nat.lt_of_le_of_lt h (Nat.pow_lt_pow_right (by decide) (Nat.lt_succ_self n)))
    omega
/-- a fraction of at most so many bits -/
structure Bd (n : Nat) (r : Rat) : Prop where
  num : r.num.natAbs ≤ 2 ^ n
  den : r.den ≤ 2 ^ n
theorem Bd.mono {m n : Nat} {r : Rat} (h : Bd m r) (l : m ≤ n) : Bd n r := ⟨Nat.le_trans h.num (Nat.pow_le_pow_right (by decide) l), Nat.le_trans h.den (Nat.pow_le_pow_right (by decide) l)⟩
theorem bd_divInt {n : Nat} {a b : Int} (hb : b ≠ 0) (h1 : a.natAbs ≤ 2 ^ n) (h2 : b.natAbs ≤ 2 ^ n) : Bd n (Rat.divInt a b) := by
  refine ⟨?_, ?_⟩
  · rw [Rat.num_divInt]
    refine Nat.le_trans (Int.natAbs_ediv_le_natAbs _ _) ?_
    rw [Int.natAbs_mul]
    have : b.sign.natAbs ≤ 1 := by
      rcases Int.lt_trichotomy b 0 with h | h | h
      · rw [Int.sign_eq_neg_one_of_neg h]; decide
      · exact absurd h hb
      · rw [Int.sign_eq_one_of_pos h]; decide
    exact Nat.le_trans (Nat.mul_le_mul_right _ this) (by rw [Nat.one_mul]; exact h1)
  · rw [Rat.den_divInt, if_neg hb]
    exact Nat.le_trans (Nat.div_le_self _ _) h2
theorem pow_le2 {a b m n : Nat} (h1 : a ≤ 2 ^ m) (h2 : b ≤ 2 ^ n) : a * b ≤ 2 ^ (m + n) := by
  rw [Nat.pow_add]; exact Nat.mul_le_mul h1 h2
theorem mul_le2 {a b : Int} {m n : Nat} (h1 : a.natAbs ≤ 2 ^ m) (h2 : b.natAbs ≤ 2 ^ n) : (a * b).natAbs ≤ 2 ^ (m + n) := by
  rw [Int.natAbs_mul]; exact pow_le2 h1 h2
theorem sub_le2 {a b : Int} {n : Nat} (h1 : a.natAbs ≤ 2 ^ n) (h2 : b.natAbs ≤ 2 ^ n) : (a - b).natAbs ≤ 2 ^ (n + 1) := by
  have : (a - b).natAbs ≤ a.natAbs + b.natAbs := by omega
  rw [Nat.pow_succ]; omega
theorem add_le2 {a b : Int} {n : Nat} (h1 : a.natAbs ≤ 2 ^ n) (h2 : b.natAbs ≤ 2 ^ n) : (a + b).natAbs ≤ 2 ^ (n + 1) := by
  have : (a + b).natAbs ≤ a.natAbs + b.natAbs := by omega
  rw [Nat.pow_succ]; omega
theorem le_up {a n : Nat} (h : a ≤ 2 ^ n) : a ≤ 2 ^ (n + 1) := Nat.le_trans h (Nat.pow_le_pow_right (by decide) (Nat.le_succ n))
section
variable {x y : Rat}
theorem den0 : (x.den : Int) ≠ 0 := by have := x.den_nz; omega
theorem dens0 : (x.den : Int) * y.den ≠ 0 := Int.mul_ne_zero den0 den0
theorem sub_divInt : x - y = Rat.divInt (x.num * y.den - y.num * x.den) (x.den * y.den) := by
  rw [Rat.sub_def', ← Rat.divInt_ofNat]; rfl
theorem add_divInt : x + y = Rat.divInt (x.num * y.den + y.num * x.den) (x.den * y.den) := by
  rw [Rat.add_def', ← Rat.divInt_ofNat]; rfl
theorem mul_divInt : x * y = Rat.divInt (x.num * y.num) (x.den * y.den) := by
  rw [Rat.mul_def', ← Rat.divInt_ofNat]; rfl
theorem div_divInt : x / y = Rat.divInt (x.num * y.den) (x.den * y.num) := by
  rw [Rat.div_def, Rat.inv_def]
  have := Rat.divInt_mul_divInt x.num (y.den : Int) (d₁ := (x.den : Int)) (d₂ := y.num)
  rw [Rat.num_divInt_den] at this
  exact this
theorem num0 (h : y ≠ 0) : y.num ≠ 0 := fun z => h (Rat.num_eq_zero.mp z)
variable {m n : Nat}
theorem Bd.sub (h1 : Bd m x) (h2 : Bd n y) : Bd (m + n + 1) (x - y) := by
  rw [sub_divInt]
  refine bd_divInt dens0 (sub_le2 (mul_le2 h1.num (by simpa using h2.den)) ?_) (le_up (mul_le2 (by simpa using h1.den) (by simpa using h2.den)))
  rw [Nat.add_comm m n]; exact mul_le2 h2.num (by simpa using h1.den)
theorem Bd.add (h1 : Bd m x) (h2 : Bd n y) : Bd (m + n + 1) (x + y) := by
  rw [add_divInt]
  refine bd_divInt dens0 (add_le2 (mul_le2 h1.num (by simpa using h2.den)) ?_) (le_up (mul_le2 (by simpa using h1.den) (by simpa using h2.den)))
  rw [Nat.add_comm m n]; exact mul_le2 h2.num (by simpa using h1.den)
theorem Bd.mul (h1 : Bd m x) (h2 : Bd n y) : Bd (m + n) (x * y) := by
  rw [mul_divInt]
  exact bd_divInt dens0 (mul_le2 h1.num h2.num) (mul_le2 (by simpa using h1.den) (by simpa using h2.den))
theorem Bd.div (h1 : Bd m x) (h2 : Bd n y) (h0 : y ≠ 0) : Bd (m + n) (x / y) := by
  rw [div_divInt]
  exact bd_divInt (Int.mul_ne_zero den0 (num0 h0)) (mul_le2 h1.num (by simpa using h2.den)) (mul_le2 (by simpa using h1.den) h2.num)
end
end Fw
set_option Elab.async false
set_option linter.all false
set_option maxRecDepth 100000
set_option maxHeartbeats 1000000
namespace Fw
open PySem PySem.Spec L2
/-! ### repr of small data -/
theorem strOk_app {a b : Str} (ha : PyData.strOk a = true) (hb : PyData.strOk b = true) : PyData.strOk (a ++ b) = true := by
  show (a.cps ++ b.cps).all _ = true
  rw [Array.all_append, Bool.and_eq_true]
  exact ⟨ha, hb⟩
theorem strOk_lit (s : String) : PyData.strOk (Str.ofString s) = true := by
  rw [Str.ofString_eq_toList]
  show (s.toList.map Char.toNat).toArray.all _ = true
  rw [List.all_toArray, List.all_map]
  refine List.all_eq_true.mpr fun c _ => decide_eq_true ?_
  have := c.valid
  show c.toNat < 0x110000
  unfold UInt32.isValidChar Nat.isValidChar at this
  unfold Char.toNat
  omega
theorem strOk_join {sep : Str} (hs : PyData.strOk sep = true) : ∀ ts : List Str, (∀ t ∈ ts, PyData.strOk t = true) → PyData.strOk (Str.join sep ts) = true
  | [], _ => by show (#[] : Array Nat).all _ = true; simp
  | [t], h => h t List.mem_cons_self
  | t :: u :: r, h => by
    have ih := strOk_join hs (u :: r) fun x hx => h x (List.mem_cons_of_mem _ hx)
    exact strOk_app (strOk_app (h t List.mem_cons_self) hs) ih
theorem strOk_tuple {ts : List Str} (h : ∀ t ∈ ts, PyData.strOk t = true) : PyData.strOk (tupleText ts) = true := by
  unfold tupleText
  refine strOk_app (strOk_app (strOk_lit _) (strOk_join (strOk_lit _) ts h)) ?_
  split <;> exact strOk_lit _
/-- data that repr shows, and that == looks at -/
def Sh (w k : Nat) (d : D) : Prop := ∃ p, D.py d = some p ∧ p.canLay0 = true ∧ p.showable = true ∧ p.leavesShort 303 = true ∧ PyData.strOk p.shown = true ∧ p.weight ≤ w ∧ p.depth ≤ k
theorem Sh.int {i : Int} (h : i.natAbs ≤ 2 ^ 1000) : Sh 1001 1 (.int i) := by
  have hl := log2_le h
  refine ⟨.int i, rfl, rfl, decide_eq_true (by omega), ?_, strOk_lit _, ?_, Nat.zero_le 1⟩
  · refine decide_eq_true ?_
    have e := int_text_length_le10 (a := i) (k := 302) (by decide) (Nat.lt_of_le_of_lt h (by decide +kernel))
    show (Str.ofString (toString i)).length ≤ 303
    rw [ofString_length]; exact e
  · show (if i == 0 then 0 else i.natAbs.log2 + 1) ≤ 1001
    split <;> omega
theorem Sh.tup {w k : Nat} {a b : D} (ha : Sh w k a) (hb : Sh w k b) : Sh (2 * w + 2) (k + 1) (.tup [a, b]) := by
  obtain ⟨p, a1, a2, a3, a4, a5, a6, a7⟩ := ha
  obtain ⟨q, b1, b2, b3, b4, b5, b6, b7⟩ := hb
  refine ⟨.tuple [p, q], ?_, ?_, ?_, ?_, ?_, ?_, ?_⟩
  · show (D.pyL [a, b]).map _ = _
    simp only [D.pyL, a1, b1]; rfl
  · show (p.canLay0 && (q.canLay0 && true)) = true
    rw [a2, b2]; rfl
  · show (p.showable && (q.showable && true)) = true
    rw [a3, b3]; rfl
  · show (p.leavesShort 303 && (q.leavesShort 303 && true)) = true
    rw [a4, b4]; rfl
  · show PyData.strOk (tupleText [p.shown, q.shown]) = true
    refine strOk_tuple fun t ht => ?_
    simp only [List.mem_cons, List.not_mem_nil, or_false] at ht
    rcases ht with rfl | rfl
    · exact a5
    · exact b5
  · show p.weight + 1 + (q.weight + 1 + 0) ≤ _
    omega
  · simp only [PyData.depth, PyData.depthAll]
    omega
theorem Sh.repr {w k : Nat} {a b : D} (h : Sh w k (.tup [a, b])) (hw : w ≤ 50000) (hk : k ≤ 64) : ∃ s, bRepr [.tup [a, b]] = some (.str s) ∧ D.eq (.str s) (.str s) = some true := by
  obtain ⟨p, a1, a2, a3, a4, a5, a6, a7⟩ := h
  refine ⟨p.shown, ?_, ?_⟩
  · show (D.py (.tup [a, b])).bind _ = _
    rw [a1]
    show (if (p.canLay0 && decide (p.depth ≤ 64)) && p.showable && decide (p.shown.length ≤ sizeLine) then _ else _) = _
    have hl := PyData.shown_le 303 (by decide) p a4
    have hz : p.shown.length ≤ sizeLine := by rw [sizeLine_eq]; omega
    rw [a2, a3, decide_eq_true (Nat.le_trans a7 hk), decide_eq_true hz]; rfl
  · have e : D.eq (.str p.shown) (.str p.shown) = if (PyData.strOk p.shown && decide ((PyData.str p.shown).depth ≤ 64)) && (PyData.strOk p.shown && decide ((PyData.str p.shown).depth ≤ 64)) then some (PyData.eqv (.str p.shown) (.str p.shown)) else none := rfl
    rw [e, a5, decide_eq_true (show (PyData.str p.shown).depth ≤ 64 from Nat.zero_le 64)]
    show some (p.shown == p.shown) = _
    rw [beq_self_eq_true]
end Fw
set_option Elab.async false
set_option linter.all false
set_option maxRecDepth 100000
set_option maxHeartbeats 1000000
namespace Fw
open PySem PySem.Spec L2
/-! ### readings that change nothing -/
def R {α : Type} (c : C α) (a : α) (M : Mem) : Prop := c M = .ok a M
section
variable {α β : Type} {M : Mem} {x y : C D} {a b d : D} {n : Nat}
theorem R.pure {a : α} : R (pure a) a M := rfl
theorem R.bin {g : D → D → Option D} (hx : R x a M) (hy : R y b M) (h : g a b = some d) : R (bin g x y) d M := by
  unfold R Fw.bin at *
  rw [C.bind_ok hx, C.bind_ok hy, h]; rfl
theorem R.cmp {g : D → D → Option Bool} {k : Bool} (hx : R x a M) (hy : R y b M) (h : g a b = some k) : R (cmp g x y) k M := by
  unfold R Fw.cmp at *
  rw [C.bind_ok hx, C.bind_ok hy, h]; rfl
theorem R.call1 {g : List D → Option D} (hx : R x a M) (h : g [a] = some d) : R (callO g [x]) d M := by
  unfold R at *
  show ((x >>= fun a => args [] >>= fun as => Pure.pure (a :: as)) >>= fun ds => lift (g ds)) M = _
  rw [C.bind_assoc, C.bind_ok hx]
  show lift (g [a]) M = _
  rw [h]; rfl
theorem R.rd {ds : List D} {i : Int} (h : M[n]? = some (.lst ds)) (hi : atI ds i = some d) : R (cellIx (Pure.pure (.cell n)) (Pure.pure (.int i))) d M := by
  show rdC (.cell n) (.int i) M = _
  unfold rdC
  simp only [h, hi]
theorem wr_run {ds : List D} {i : Int} {j : Nat} (h : M[n]? = some (.lst ds)) (hi : ixN ds.length i = some j) : wrC (.cell n) (.int i) d M = .ok () (M.set n (.lst (ds.set j d))) := by
  unfold wrC
  simp only [h, hi]
theorem if_run {t : C Bool} {x y : C α} {k : Bool} (h : R t k M) : ifE t x y M = (if k then x else y) M := by
  unfold ifE
  rw [C.bind_ok h]
end
theorem args0_run {M : Mem} : args [] M = .ok [] M := rfl
theorem args_run {M M1 M2 : Mem} {x : C D} {cs : List (C D)} {a : D} {as : List D} (h1 : x M = .ok a M1) (h2 : args cs M1 = .ok as M2) : args (x :: cs) M = .ok (a :: as) M2 := by
  show (x >>= fun a => args cs >>= fun as => pure (a :: as)) M = _
  rw [C.bind_ok h1, C.bind_ok h2]; rfl
theorem callM_run {M M1 : Mem} {m : List D → C D} {cs : List (C D)} {ds : List D} (h : args cs M = .ok ds M1) : callM m cs M = m ds M1 := C.bind_ok h
theorem lc_list2 {f : D → C D} {a b x y : D} (h1 : f a = pure x) (h2 : f b = pure y) : lcC (pure [a, b]) .nm yesC (ap1 f) = pure [x, y] := by
  have e1 : calm (f a) = pure x := by rw [h1]; rfl
  have e2 : calm (f b) = pure y := by rw [h2]; rfl
  show (if 2 < 2 ^ 24 then lcGo .nm yesC (ap1 f) [a, b] else C.no) = _
  rw [if_pos (by decide)]
  show (calm (f a) >>= fun y => (calm (f b) >>= fun y => pure [] >>= fun ys => pure (y :: ys)) >>= fun ys => pure (y :: ys)) = _
  rw [e1, e2]; rfl
/-- a pot of draws: so many at most were drawn -/
def Pot (k n : Nat) (M : Mem) : Prop := ∃ own s c : Int, M[n]? = some (.lst [.int own, .int s, .int c]) ∧ 0 ≤ own ∧ 0 ≤ s ∧ s < 2 ^ 62 ∧ 0 ≤ c ∧ c ≤ k
theorem at0 {a b c : D} : atI [a, b, c] 0 = some a := rfl
theorem at1 {a b c : D} : atI [a, b, c] 1 = some b := rfl
theorem at2 {a b c : D} : atI [a, b, c] 2 = some c := rfl
theorem log2_small {x : Int} {n : Nat} (h : x.natAbs ≤ 2 ^ n) : x.natAbs.log2 ≤ n := log2_le h
theorem intBits_le {i : Int} {n : Nat} (h : i.natAbs ≤ 2 ^ n) : Builtin.Int.intBits i ≤ n + 1 := by
  unfold Builtin.Int.intBits
  have := log2_le h
  split <;> omega
theorem ev_pow {i j : Int} {n : Nat} (hj : 0 ≤ j) (h : i.natAbs ≤ 2 ^ n) (h2 : ((n + 1 : Nat) : Int) * j ≤ 2 ^ 27) : D.pow (.int i) (.int j) = some (.int (i ^ j.toNat)) := by
  show (gPow i j).map D.int = _
  unfold gPow
  have hb := intBits_le h
  rw [if_pos ⟨hj, Int.le_trans (Int.mul_le_mul_of_nonneg_right (Int.ofNat_le.mpr hb) hj) h2⟩]; rfl
theorem fmod_rng {a b : Int} (h : 0 < b) : 0 ≤ a.fmod b ∧ a.fmod b < b := ⟨Int.fmod_nonneg_of_pos a h, Int.fmod_lt_of_pos a h⟩
theorem Pot.mono {j k n : Nat} {M : Mem} (h : Pot j n M) (l : j ≤ k) : Pot k n M := by
  obtain ⟨own, s, c, h1, h2, h3, h4, h5, h6⟩ := h
  exact ⟨own, s, c, h1, h2, h3, h4, h5, by omega⟩
end Fw
set_option Elab.async false
set_option linter.all false
set_option maxRecDepth 100000
namespace K35
open PySem PySem.Spec L2 Fw
/-! what the defs compute (printed by gen.py) -/
/-- steps enough for Euclid -/
def fuelD : D × D → Nat
  | (_, .int n) => n.natAbs + 1
  | _ => 0
/-- what may be caught -/
def known (k : Str) : Bool := k == "NoClack" 
def b_is_whole (value1 : D) : C D := andV (valB (isiC .int (pure value1))) (notV (valB (isiC .bool (pure value1))))
def m_is_whole : List D → C D := ap1 b_is_whole
def b_common (one1 other2 : D) : C D := args [callO bAbs [pure one1], callO bAbs [pure other2]] >>= ap2 fun one3 other4 => whileC (S := D × D) (fun | (one5, other6) => cmp D.gt (pure other6) (pure (.int 0))) (fun | (one5, other6) => args [pure other6, bin D.mod (pure one5) (pure other6)] >>= ap2 fun one7 other8 => pure (one7, other8)) (fuelD (one3, other4)) (one3, other4) >>= (fun | (one9, other10) => pure one9)
def m_common : List D → C D := ap2 b_common
def b_ratio (top1 bottom2 : D) : C D := (callM m_common [pure top1, pure bottom2]) >>= fun by3 => (ifE (cmp D.gt (pure bottom2) (pure (.int 0))) (pure by3) (bin D.sub (pure (.int 0)) (pure by3))) >>= fun by4 => tupC [bin D.div (pure top1) (pure by4), bin D.div (pure bottom2) (pure by4)]
def m_ratio : List D → C D := ap2 b_ratio
def b_less (one1 other2 : D) : C D := callM m_ratio [bin D.sub (bin D.mul (bin D.ix (pure one1) (pure (.int 0))) (bin D.ix (pure other2) (pure (.int 1)))) (bin D.mul (bin D.ix (pure other2) (pure (.int 0))) (bin D.ix (pure one1) (pure (.int 1)))), bin D.mul (bin D.ix (pure one1) (pure (.int 1))) (bin D.ix (pure other2) (pure (.int 1)))]
def m_less : List D → C D := ap2 b_less
def b_times (one1 other2 : D) : C D := callM m_ratio [bin D.mul (bin D.ix (pure one1) (pure (.int 0))) (bin D.ix (pure other2) (pure (.int 0))), bin D.mul (bin D.ix (pure one1) (pure (.int 1))) (bin D.ix (pure other2) (pure (.int 1)))]
def m_times : List D → C D := ap2 b_times
def b_over (one1 other2 : D) : C D := callM m_ratio [bin D.mul (bin D.ix (pure one1) (pure (.int 0))) (bin D.ix (pure other2) (pure (.int 1))), bin D.mul (bin D.ix (pure one1) (pure (.int 1))) (bin D.ix (pure other2) (pure (.int 0)))]
def m_over : List D → C D := ap2 b_over
def b_is_below (one1 other2 : D) : C D := valB (cmp D.lt (bin D.mul (bin D.ix (pure one1) (pure (.int 0))) (bin D.ix (pure other2) (pure (.int 1)))) (bin D.mul (bin D.ix (pure other2) (pure (.int 0))) (bin D.ix (pure one1) (pure (.int 1)))))
def m_is_below : List D → C D := ap2 b_is_below
def b_is_ratio (value1 : D) : C D := ifE (orT (notT (asB (valB (isiC .tup (pure value1))))) (orT (cmp D.ne (callO bLen [pure value1]) (pure (.int 2))) (notT (asB (callO bAll [asL (lcC (iterT (pure value1)) .nm yesC (ap1 fun one2 => callM m_is_whole [pure one2]))]))))) (pure (.bl false)) (andV (valB (cmp D.ge (bin D.ix (pure value1) (pure (.int 1))) (pure (.int 1)))) (valB (cmp D.eq (callM m_common [bin D.ix (pure value1) (pure (.int 0)), bin D.ix (pure value1) (pure (.int 1))]) (pure (.int 1)))))
def m_is_ratio : List D → C D := ap1 b_is_ratio
def b_is_size (value1 : D) : C D := andV (callM m_is_ratio [pure value1]) (valB (cmp D.gt (bin D.ix (pure value1) (pure (.int 0))) (pure (.int 0))))
def m_is_size : List D → C D := ap1 b_is_size
def b_is_tuple (value1 low2 high3 : D) : C D := andV (valB (isiC .tup (pure value1))) (valB (chain D.le D.le (pure low2) (callO bLen [pure value1]) (pure high3)))
def m_is_tuple : List D → C D := ap3 b_is_tuple
def b_is_pair_of_ratios (value1 : D) : C D := andV (callM m_is_tuple [pure value1, pure (.int 2), pure (.int 2)]) (callO bAll [asL (lcC (iterT (pure value1)) .nm yesC (ap1 fun one2 => callM m_is_ratio [pure one2]))])
def m_is_pair_of_ratios : List D → C D := ap1 b_is_pair_of_ratios
def b_check_mass (mass1 : D) : C D := ifE (notT (asB (callM m_is_size [pure mass1]))) ((pure mass1) >>= fun d => C.raise "BadMass" d) (pure .non)
def m_check_mass : List D → C D := ap1 b_check_mass
def b_other_mass (mass1 ahead2 behind3 : D) : C D := (pure ahead2) >>= fun d => lift (Tg.app (.tp [.nm, .nm]) d) >>= ap2 fun left4 right5 => ifE (andT (asB (callM m_is_below [pure right5, pure left4])) (andT (cmp D.eq (callM m_less [bin D.ix (pure behind3) (pure (.int 1)), bin D.ix (pure behind3) (pure (.int 0))]) (callM m_less [pure left4, pure right5])) (asB (callM m_is_below [pure right5, bin D.ix (pure behind3) (pure (.int 1))])))) ((callM m_over [callM m_times [pure mass1, callM m_less [pure left4, bin D.ix (pure behind3) (pure (.int 0))]], callM m_less [bin D.ix (pure behind3) (pure (.int 1)), pure right5]]) >>= fun found6 => ifE (asB (callM m_is_size [pure found6])) ((pure found6) >>= fun d => pure (.inl d)) (pure (.inr ()))) (pure (.inr ())) >>= thenR (S := Unit) (fun d => d) (fun _ => (tupC [pure ahead2, pure behind3]) >>= fun d => C.raise "NoClack" d)
def m_other_mass : List D → C D := ap3 b_other_mass
def b_mass_told (mass1 ahead2 behind3 : D) : C D := (callM m_check_mass [pure mass1]) >>= fun _ => (iterT (tupC [pure ahead2, pure behind3])) >>= fun l => forR (S := Unit) .nm (fun _ => ap1 fun pair4 => ifE (notT (asB (callM m_is_pair_of_ratios [pure pair4]))) (((pure pair4) >>= fun d => C.raise "BadPair" d) >>= fun d => pure (.inl d)) (pure (.inr ()))) l () >>= thenR (fun d => d) (fun _ => callM m_other_mass [pure mass1, pure ahead2, pure behind3])
def m_mass_told : List D → C D := ap3 b_mass_told
def b_is_seen (value1 : D) : C D := andV (callM m_is_tuple [pure value1, pure (.int 2), pure (.int 2)]) (callO bAll [asL (lcC (iterT (pure value1)) .nm yesC (ap1 fun pair2 => callM m_is_pair_of_ratios [pure pair2]))])
def m_is_seen : List D → C D := ap1 b_is_seen
def b_masses_told (mass1 seen2 : D) : C D := (callM m_check_mass [pure mass1]) >>= fun _ => ifE (orT (notT (asB (callM m_is_tuple [pure seen2, pure (.int 0), pure (.int 5)]))) (notT (asB (callO bAll [asL (lcC (iterT (pure seen2)) .nm yesC (ap1 fun one3 => callM m_is_seen [pure one3]))])))) ((pure seen2) >>= fun d => C.raise "BadSeen" d) (args [pure mass1] >>= fun found5 => (iterT (pure seen2)) >>= fun l => forC (S := List D) (.tp [.nm, .nm]) (fun found6 => ap2 fun ahead7 behind8 => (callM m_other_mass [bin D.ix (pure (.lst found6)) (un D.neg (pure (.int 1))), pure ahead7, pure behind8]) >>= fun d => appC found6 d >>= fun found9 => pure found9) l found5 >>= (fun found10 => callO bTup [pure (.lst found10)]))
def m_masses_told : List D → C D := ap2 b_masses_told
def b__law_pot (script1 place2 : D) : C D := (ifE (cmp D.lt (pure place2) (callO bLen [pure script1])) (bin D.ix (pure script1) (pure place2)) (bin D.add (bin D.add (bin D.mod (callO bSum [slC (pure script1) none (some (pure (.int 1)))]) (pure (.int 1000003))) (bin D.mul (pure (.int 4278)) (pure place2))) (pure (.int 2848)))) >>= fun cell3 => (bin D.mul (bin D.mod (callO bInt [callO bAbs [pure cell3]]) (bin D.pow (bin D.pow (pure (.int 10)) (pure (.int 60))) (pure (.int 5)))) (callO bInt [valB (cmp D.ge (callO bAbs [pure cell3]) (bin D.pow (pure (.int 10)) (pure (.int 18))))])) >>= fun own4 => (bin D.mod (callO bInt [pure cell3]) (pure (.int 2305843009213693951))) >>= fun small5 => (args [pure own4, bin D.mod (callO bInt [bin D.add (bin D.add (bin D.mul (pure small5) (pure (.int 95316))) (bin D.mul (bin D.mul (pure (.int 16608)) (pure place2)) (pure place2))) (pure (.int 3154))]) (pure (.int 2305843009213693921)), pure (.int 0)]) >>= newC
def m__law_pot : List D → C D := ap2 b__law_pot
def b__law_take (pot1 upto2 : D) : C D := ifE (cmp D.gt (cellIx (pure pot1) (pure (.int 0))) (pure (.int 0))) ((bin D.mod (callO bInt [cellIx (pure pot1) (pure (.int 0))]) (pure upto2)) >>= fun digit3 => (bin D.div (cellIx (pure pot1) (pure (.int 0))) (pure upto2)) >>= fun d => (pure (.int 0)) >>= fun j => wrC pot1 j d >>= fun _ => pure digit3) ((bin D.add (cellIx (pure pot1) (pure (.int 2))) (pure (.int 1))) >>= fun d => (pure (.int 2)) >>= fun j => wrC pot1 j d >>= fun _ => (bin D.ix (lstC [pure (.int 2147483647), pure (.int 2147483629), pure (.int 2147483587), pure (.int 2147483579), pure (.int 2147483563)]) (bin D.mod (callO bInt [cellIx (pure pot1) (pure (.int 2))]) (pure (.int 5)))) >>= fun prime4 => (bin D.mod (callO bInt [bin D.pow (callO bInt [bin D.add (bin D.add (cellIx (pure pot1) (pure (.int 1))) (bin D.mul (bin D.mul (pure (.int 114906)) (cellIx (pure pot1) (pure (.int 2)))) (cellIx (pure pot1) (pure (.int 2))))) (pure (.int 4128))]) (pure (.int 3))]) (pure prime4)) >>= fun blend5 => (bin D.mod (callO bInt [bin D.mul (pure blend5) (bin D.add (bin D.mod (callO bInt [pure blend5]) (pure (.int 15444))) (bin D.mul (pure (.int 2012)) (cellIx (pure pot1) (pure (.int 2)))))]) (pure (.int 2305843009213693907))) >>= fun blend6 => bin D.mod (callO bInt [bin D.div (pure blend6) (pure (.int 167))]) (pure upto2))
def m__law_take : List D → C D := ap2 b__law_take
def b__law_of (pot1 some2 : D) : C D := bin D.ix (pure some2) (callM m__law_take [pure pot1, callO bLen [pure some2]])
def m__law_of : List D → C D := ap2 b__law_of
def b__law_cells (script1 most2 : D) : C D := asL (listR (callO bMax [pure (.int 1), callO bMin [pure most2, callO bLen [pure script1]]]))
def m__law_cells : List D → C D := ap2 b__law_cells
def b__law_frac_common (one1 other2 : D) : C D := args [callO bAbs [pure one1], callO bAbs [pure other2]] >>= ap2 fun one3 other4 => whileC (S := D × D) (fun | (one5, other6) => cmp D.gt (pure other6) (pure (.int 0))) (fun | (one5, other6) => args [pure other6, bin D.mod (callO bInt [pure one5]) (pure other6)] >>= ap2 fun one7 other8 => pure (one7, other8)) (fuelD (one3, other4)) (one3, other4) >>= (fun | (one9, other10) => pure one9)
def m__law_frac_common : List D → C D := ap2 b__law_frac_common
def b__law_frac (top1 bottom2 : D) : C D := (callM m__law_frac_common [pure top1, pure bottom2]) >>= fun by3 => (ifE (cmp D.gt (pure bottom2) (pure (.int 0))) (pure by3) (un D.neg (pure by3))) >>= fun by4 => tupC [bin D.div (pure top1) (pure by4), bin D.div (pure bottom2) (pure by4)]
def m__law_frac : List D → C D := ap2 b__law_frac
def b__law_frac_plus (one1 other2 : D) : C D := callM m__law_frac [bin D.add (bin D.mul (bin D.ix (pure one1) (pure (.int 0))) (bin D.ix (pure other2) (pure (.int 1)))) (bin D.mul (bin D.ix (pure other2) (pure (.int 0))) (bin D.ix (pure one1) (pure (.int 1)))), bin D.mul (bin D.ix (pure one1) (pure (.int 1))) (bin D.ix (pure other2) (pure (.int 1)))]
def m__law_frac_plus : List D → C D := ap2 b__law_frac_plus
def b__law_frac_less (one1 other2 : D) : C D := callM m__law_frac [bin D.sub (bin D.mul (bin D.ix (pure one1) (pure (.int 0))) (bin D.ix (pure other2) (pure (.int 1)))) (bin D.mul (bin D.ix (pure other2) (pure (.int 0))) (bin D.ix (pure one1) (pure (.int 1)))), bin D.mul (bin D.ix (pure one1) (pure (.int 1))) (bin D.ix (pure other2) (pure (.int 1)))]
def m__law_frac_less : List D → C D := ap2 b__law_frac_less
def b__law_frac_times (one1 other2 : D) : C D := callM m__law_frac [bin D.mul (bin D.ix (pure one1) (pure (.int 0))) (bin D.ix (pure other2) (pure (.int 0))), bin D.mul (bin D.ix (pure one1) (pure (.int 1))) (bin D.ix (pure other2) (pure (.int 1)))]
def m__law_frac_times : List D → C D := ap2 b__law_frac_times
def b__law_frac_over (one1 other2 : D) : C D := callM m__law_frac [bin D.mul (bin D.ix (pure one1) (pure (.int 0))) (bin D.ix (pure other2) (pure (.int 1))), bin D.mul (bin D.ix (pure one1) (pure (.int 1))) (bin D.ix (pure other2) (pure (.int 0)))]
def m__law_frac_over : List D → C D := ap2 b__law_frac_over
def b__law_frac_is_less (one1 other2 : D) : C D := valB (cmp D.lt (bin D.mul (bin D.ix (pure one1) (pure (.int 0))) (bin D.ix (pure other2) (pure (.int 1)))) (bin D.mul (bin D.ix (pure other2) (pure (.int 0))) (bin D.ix (pure one1) (pure (.int 1)))))
def m__law_frac_is_less : List D → C D := ap2 b__law_frac_is_less
def b__law_frac_drawn (pot1 low2 high3 : D) : C D := (callM m__law_of [pure pot1, lstC [pure (.int 1), pure (.int 1), pure (.int 1), pure (.int 2), pure (.int 3), pure (.int 5)]]) >>= fun bottom4 => callM m__law_frac [bin D.add (bin D.mul (pure low2) (pure bottom4)) (callM m__law_take [pure pot1, bin D.add (bin D.mul (bin D.sub (pure high3) (pure low2)) (pure bottom4)) (pure (.int 1))]), pure bottom4]
def m__law_frac_drawn : List D → C D := ap3 b__law_frac_drawn
def b__law_track_joints (own1 : D) : C D := (callO bLen [bin D.dget (pure own1) (pure (.str "masses"))]) >>= fun many2 => lcC (iterR1 (bin D.sub (pure many2) (pure (.int 1)))) .nm yesC (ap1 fun cart3 => tupC [pure cart3, bin D.add (pure cart3) (pure (.int 1))]) >>= fun rows5 => (bin D.add (ifE (cmp D.isnt (bin D.dget (pure own1) (pure (.str "left"))) (pure .non)) (lstC [tupC [pure .non, pure (.int 0)]]) (lstC [])) (pure (.lst rows5))) >>= fun rows6 => bin D.add (pure rows6) (ifE (cmp D.isnt (bin D.dget (pure own1) (pure (.str "right"))) (pure .non)) (lstC [tupC [bin D.sub (pure many2) (pure (.int 1)), pure .non]]) (lstC []))
def m__law_track_joints : List D → C D := ap1 b__law_track_joints
def b__law_track_clacked (own1 speeds2 joint3 : D) : C D := (bin D.ix (callM m__law_track_joints [pure own1]) (pure joint3)) >>= fun d => lift (Tg.app (.tp [.nm, .nm]) d) >>= ap2 fun left4 right5 => listC (pure speeds2) >>= fun found7 => ifE (orT (cmp D.is_ (pure left4) (pure .non)) (cmp D.is_ (pure right5) (pure .non))) ((ifE (cmp D.is_ (pure left4) (pure .non)) (pure right5) (pure left4)) >>= fun cart8 => (tupC [un D.neg (bin D.ix (bin D.ix (pure speeds2) (pure cart8)) (pure (.int 0))), bin D.ix (bin D.ix (pure speeds2) (pure cart8)) (pure (.int 1))]) >>= fun d => (pure cart8) >>= fun j => setC found7 j d >>= fun found9 => callO bTup [pure (.lst found9)]) (args [bin D.ix (bin D.dget (pure own1) (pure (.str "masses"))) (pure left4), bin D.ix (bin D.dget (pure own1) (pure (.str "masses"))) (pure right5)] >>= ap2 fun one10 other11 => (callM m__law_frac_plus [callM m__law_frac_times [pure one10, bin D.ix (pure speeds2) (pure left4)], callM m__law_frac_times [pure other11, bin D.ix (pure speeds2) (pure right5)]]) >>= fun pushed12 => (callM m__law_frac_times [tupC [pure (.int 2), pure (.int 1)], callM m__law_frac_over [pure pushed12, callM m__law_frac_plus [pure one10, pure other11]]]) >>= fun middle13 => args [callM m__law_frac_less [pure middle13, bin D.ix (pure speeds2) (pure left4)], callM m__law_frac_less [pure middle13, bin D.ix (pure speeds2) (pure right5)]] >>= ap2 fun d1 d2 => (pure left4) >>= fun j1 => setC found7 j1 d1 >>= fun found15 => (pure right5) >>= fun j2 => setC found15 j2 d2 >>= fun found14 => callO bTup [pure (.lst found14)])
def m__law_track_clacked : List D → C D := ap3 b__law_track_clacked
def b__law_is (mm : List D → C D) (told1 due2 : D) : C D := ifE (asB (valB (isiC .tup (pure due2)))) ((andV (valB (isiC .tup (pure told1))) (valB (cmp D.eq (callO bLen [pure told1]) (callO bLen [pure due2])))) >>= fun is_fit3 => andV (pure is_fit3) (callO bAll [asL (lcC (iterZ [pure told1, pure due2]) (.tp [.nm, .nm]) yesC (ap2 fun one4 other5 => callM mm [pure one4, pure other5]))])) (ifE (asB (valB (isiC .int (pure due2)))) (andV (valB (isiC .int (pure told1))) (andV (notV (valB (isiC .bool (pure told1)))) (valB (cmp D.eq (pure told1) (pure due2))))) (ifE (asB (valB (isiC .str (pure due2)))) (andV (valB (isiC .str (pure told1))) (valB (cmp D.eq (pure told1) (pure due2)))) (valB (cmp D.is_ (pure told1) (pure .non)))))
def mr__law_is : Nat → List D → C D
  | 0 => fun _ => C.no
  | n + 1 => ap2 (b__law_is (mr__law_is n))
def m__law_is : List D → C D := mr__law_is 4
def b__law_mass_drawn (pot1 : D) : C D := callM m__law_of [pure pot1, lstC [tupC [pure (.int 1), pure (.int 1)], tupC [pure (.int 2), pure (.int 1)], tupC [pure (.int 3), pure (.int 1)], tupC [pure (.int 1), pure (.int 2)], tupC [pure (.int 3), pure (.int 2)], tupC [pure (.int 6), pure (.int 1)], tupC [pure (.int 7), pure (.int 5)], tupC [pure (.int 1000), pure (.int 1)], tupC [pure (.int 1), pure (.int 1000)]]]
def m__law_mass_drawn : List D → C D := ap1 b__law_mass_drawn
def b__law_clack_drawn (pot1 one2 other3 : D) : C D := (callM m__law_frac_drawn [pure pot1, un D.neg (pure (.int 4)), pure (.int 4)]) >>= fun left4 => (callM m__law_frac_less [pure left4, callM m__law_of [pure pot1, lstC [tupC [pure (.int 1), pure (.int 1)], tupC [pure (.int 2), pure (.int 1)], tupC [pure (.int 1), pure (.int 3)], tupC [pure (.int 5), pure (.int 2)]]]]) >>= fun right5 => (dicC ["left", "masses", "right"] [pure .non, lstC [pure one2, pure other3], pure .non]) >>= fun own6 => tupC [tupC [pure left4, pure right5], callM m__law_track_clacked [pure own6, tupC [pure left4, pure right5], pure (.int 0)]]
def m__law_clack_drawn : List D → C D := ap3 b__law_clack_drawn
def b__law_due (one1 ahead2 behind3 : D) : C D := ifE (orT (notT (asB (callM m__law_frac_is_less [bin D.ix (pure ahead2) (pure (.int 1)), bin D.ix (pure ahead2) (pure (.int 0))]))) (cmp D.eq (bin D.ix (pure behind3) (pure (.int 1))) (bin D.ix (pure ahead2) (pure (.int 1))))) (pure .non) ((callM m__law_frac_times [pure one1, callM m__law_frac_less [bin D.ix (pure ahead2) (pure (.int 0)), bin D.ix (pure behind3) (pure (.int 0))]]) >>= fun given4 => (callM m__law_frac_over [pure given4, callM m__law_frac_less [bin D.ix (pure behind3) (pure (.int 1)), bin D.ix (pure ahead2) (pure (.int 1))]]) >>= fun other5 => ifE (cmp D.le (bin D.ix (pure other5) (pure (.int 0))) (pure (.int 0))) (pure .non) ((dicC ["left", "masses", "right"] [pure .non, lstC [pure one1, pure other5], pure .non]) >>= fun own6 => ifE (cmp D.eq (callM m__law_track_clacked [pure own6, pure ahead2, pure (.int 0)]) (pure behind3)) (pure other5) (pure .non)))
def m__law_due : List D → C D := ap3 b__law_due
def b__law_is_told (one1 ahead2 behind3 : D) : C D := (callM m__law_due [pure one1, pure ahead2, pure behind3]) >>= fun due4 => (heardC known (callK m_mass_told [2, 1, 0] [pure behind3, pure ahead2, pure one1])) >>= fun d => lift (Tg.app (.tp [.nm, .nm]) d) >>= ap2 fun caught5 told6 => ifE (cmp D.is_ (pure due4) (pure .non)) (andV (valB (isExcC known "NoClack" (pure caught5))) (valB (cmp D.eq (callO bRepr [un (excVal known) (pure caught5)]) (callO bRepr [tupC [pure ahead2, pure behind3]])))) (andV (valB (cmp D.is_ (pure caught5) (pure .non))) (callM m__law_is [pure told6, pure due4]))
def m__law_is_told : List D → C D := ap3 b__law_is_told
def b__law_near (pot1 ahead2 behind3 : D) : C D := (callM m__law_of [pure pot1, lstC [tupC [pure (.int 1), pure (.int 1)], tupC [un D.neg (pure (.int 1)), pure (.int 2)], tupC [pure (.int 3), pure (.int 1)]]]) >>= fun more4 => args [tupC [pure ahead2, tupC [callM m__law_frac_plus [bin D.ix (pure behind3) (pure (.int 0)), pure more4], bin D.ix (pure behind3) (pure (.int 1))]]] >>= fun some6 => (tupC [pure ahead2, tupC [bin D.ix (pure behind3) (pure (.int 0)), callM m__law_frac_plus [bin D.ix (pure behind3) (pure (.int 1)), pure more4]]]) >>= fun d => appC some6 d >>= fun some7 => catC (pure (.lst some7)) (lstC [tupC [pure behind3, pure ahead2], tupC [pure ahead2, pure ahead2], tupC [pure ahead2, revC (pure behind3)], tupC [pure ahead2, revC (pure ahead2)]]) >>= fun some9 => (tupC [revC (pure ahead2), pure behind3]) >>= fun d => appC some9 d >>= fun some10 => (tupC [pure ahead2, callO bTup [asL (lcC (iterT (pure behind3)) .nm yesC (ap1 fun speed11 => callM m__law_frac_plus [pure speed11, pure more4]))]]) >>= fun d => appC some10 d >>= fun some12 => (callM m__law_frac_less [bin D.ix (pure ahead2) (pure (.int 0)), bin D.ix (pure ahead2) (pure (.int 1))]) >>= fun wide13 => (tupC [pure ahead2, tupC [bin D.ix (pure ahead2) (pure (.int 0)), callM m__law_frac_plus [bin D.ix (pure ahead2) (pure (.int 0)), pure wide13]]]) >>= fun d => appC some12 d >>= fun some14 => (tupC [pure ahead2, tupC [callM m__law_frac_less [bin D.ix (pure ahead2) (pure (.int 1)), pure wide13], bin D.ix (pure ahead2) (pure (.int 1))]]) >>= fun d => appC some14 d >>= fun some15 => callM m__law_of [pure pot1, pure (.lst some15)]
def m__law_near : List D → C D := ap3 b__law_near
def b__law_row_due (mass1 seen2 : D) : C D := args [pure mass1] >>= fun found4 => (iterL (pure seen2)) >>= fun l => forR (S := List D) (.tp [.nm, .nm]) (fun found5 => ap2 fun ahead6 behind7 => (callM m__law_due [bin D.ix (pure (.lst found5)) (un D.neg (pure (.int 1))), pure ahead6, pure behind7]) >>= fun other8 => ifE (cmp D.is_ (pure other8) (pure .non)) ((tupC [pure .non, tupC [pure ahead6, pure behind7]]) >>= fun d => pure (.inl d)) ((pure other8) >>= fun d => appC found5 d >>= fun found9 => pure (.inr found9))) l found4 >>= thenR (fun d => d) (fun found10 => tupC [callO bTup [pure (.lst found10)], pure .non])
def m__law_row_due : List D → C D := ap2 b__law_row_due
def b__law_right (pot1 : D) : C D := (asL (lcC (iterR1 (bin D.add (pure (.int 1)) (callM m__law_take [pure pot1, pure (.int 6)]))) .nm yesC (ap1 fun lap2 => callM m__law_mass_drawn [pure pot1]))) >>= fun masses3 => lcC (iterZ [pure masses3, slC (pure masses3) (some (pure (.int 1))) none]) (.tp [.nm, .nm]) yesC (ap2 fun one4 other5 => callM m__law_clack_drawn [pure pot1, pure one4, pure other5]) >>= fun seen7 => ifE (notT (asB (callM m__law_is [callK m_masses_told [1, 0] [callO bTup [pure (.lst seen7)], bin D.ix (pure masses3) (pure (.int 0))], callO bTup [pure masses3]]))) (pure (.bl false)) ((iterZ [pure masses3, pure (.lst seen7)]) >>= fun l => forR (S := Unit) (.tp [.nm, (.tp [.nm, .nm])]) (fun _ => ap3 fun one8 ahead9 behind10 => ifE (notT (asB (callM m__law_is_told [pure one8, pure ahead9, pure behind10]))) ((pure (.bl false)) >>= fun d => pure (.inl d)) ((callM m__law_near [pure pot1, pure ahead9, pure behind10]) >>= fun near11 => ifE (notT (asB (callM m__law_is_told [pure one8, bin D.ix (pure near11) (pure (.int 0)), bin D.ix (pure near11) (pure (.int 1))]))) ((pure (.bl false)) >>= fun d => pure (.inl d)) (pure (.inr ())))) l () >>= thenR (fun d => d) (fun _ => ifE (cmp D.eq (pure (.lst seen7)) (lstC [])) (pure (.bl true)) ((iterR1 (pure (.int 2))) >>= fun l => forC (S := List D) .nm (fun seen12 => ap1 fun lap13 => (callM m__law_take [pure pot1, callO bLen [pure (.lst seen12)]]) >>= fun at14 => (callM m__law_near [pure pot1, bin D.ix (bin D.ix (pure (.lst seen12)) (pure at14)) (pure (.int 0)), bin D.ix (bin D.ix (pure (.lst seen12)) (pure at14)) (pure (.int 1))]) >>= fun d => (pure at14) >>= fun j => setC seen12 j d >>= fun seen15 => pure seen15) l seen7 >>= (fun seen16 => (callM m__law_row_due [bin D.ix (pure masses3) (pure (.int 0)), pure (.lst seen16)]) >>= fun d => lift (Tg.app (.tp [.nm, .nm]) d) >>= ap2 fun due17 lost18 => (heardC known (callM m_masses_told [bin D.ix (pure masses3) (pure (.int 0)), callO bTup [pure (.lst seen16)]])) >>= fun d => lift (Tg.app (.tp [.nm, .nm]) d) >>= ap2 fun caught19 told20 => ifE (cmp D.is_ (pure due17) (pure .non)) (andV (valB (isExcC known "NoClack" (pure caught19))) (valB (cmp D.eq (callO bRepr [un (excVal known) (pure caught19)]) (callO bRepr [pure lost18])))) (andV (valB (cmp D.is_ (pure caught19) (pure .non))) (callM m__law_is [pure told20, pure due17]))))))
def m__law_right : List D → C D := ap1 b__law_right
def b_law (script1 : D) : C D := callO bAll [asL (lcC (iterL (callM m__law_cells [pure script1, pure (.int 2)])) .nm yesC (ap1 fun place2 => callM m__law_right [callM m__law_pot [pure script1, pure place2]]))]
def m_law : List D → C D := ap1 b_law
end K35
set_option Elab.async false
set_option linter.all false
set_option maxRecDepth 100000
set_option maxHeartbeats 1000000
namespace K35
open PySem PySem.Spec L2 Fw
theorem common_eq (a b : Int) : m_common [.int a, .int b] = pure (.int (Nat.gcd a.natAbs b.natAbs)) := by
  show b_common _ _ = _
  unfold b_common
  simp only [ev_bin, ev_cmp, ev_un, ev_valB, ev_asB, ev_andVt, ev_andVf, ev_orVt, ev_orVf, ev_notV, ev_andTt, ev_andTf, ev_orTt, ev_orTf, ev_notT, ev_ifEt, ev_ifEf, ev_args0, ev_args1, ev_tupC, ev_lstC, ev_dicC, ev_callM, ev_callK, ev_callO, ev_asL, ev_lift, ev_ap1, ev_ap2, ev_ap3, ev_isi, ev_add, ev_sub, ev_neg, ev_lt, ev_le, ev_gt, ev_ge, ev_isNon, ev_isntNon, ev_t0, ev_t1, ev_l0, ev_l1, ev_abs, ev_int, ev_intB, ev_lenL, ev_lenT, ev_tupL, ev_eqI, ev_neI, C.pure_bind, C.raise_bind, C.no_bind]
  rw [gcd_while (fun x y => by simp only [ev_bin, ev_cmp, ev_un, ev_valB, ev_asB, ev_andVt, ev_andVf, ev_orVt, ev_orVf, ev_notV, ev_andTt, ev_andTf, ev_orTt, ev_orTf, ev_notT, ev_ifEt, ev_ifEf, ev_args0, ev_args1, ev_tupC, ev_lstC, ev_dicC, ev_callM, ev_callK, ev_callO, ev_asL, ev_lift, ev_ap1, ev_ap2, ev_ap3, ev_isi, ev_add, ev_sub, ev_neg, ev_lt, ev_le, ev_gt, ev_ge, ev_isNon, ev_isntNon, ev_t0, ev_t1, ev_l0, ev_l1, ev_abs, ev_int, ev_intB, ev_lenL, ev_lenT, ev_tupL, ev_eqI, ev_neI, C.pure_bind, C.raise_bind, C.no_bind]) (fun x y hy => by simp only [ev_bin, ev_cmp, ev_un, ev_valB, ev_asB, ev_andVt, ev_andVf, ev_orVt, ev_orVf, ev_notV, ev_andTt, ev_andTf, ev_orTt, ev_orTf, ev_notT, ev_ifEt, ev_ifEf, ev_args0, ev_args1, ev_tupC, ev_lstC, ev_dicC, ev_callM, ev_callK, ev_callO, ev_asL, ev_lift, ev_ap1, ev_ap2, ev_ap3, ev_isi, ev_add, ev_sub, ev_neg, ev_lt, ev_le, ev_gt, ev_ge, ev_isNon, ev_isntNon, ev_t0, ev_t1, ev_l0, ev_l1, ev_abs, ev_int, ev_intB, ev_lenL, ev_lenT, ev_tupL, ev_eqI, ev_neI, C.pure_bind, C.raise_bind, C.no_bind]; rw [ev_mod hy]; simp only [ev_bin, ev_cmp, ev_un, ev_valB, ev_asB, ev_andVt, ev_andVf, ev_orVt, ev_orVf, ev_notV, ev_andTt, ev_andTf, ev_orTt, ev_orTf, ev_notT, ev_ifEt, ev_ifEf, ev_args0, ev_args1, ev_tupC, ev_lstC, ev_dicC, ev_callM, ev_callK, ev_callO, ev_asL, ev_lift, ev_ap1, ev_ap2, ev_ap3, ev_isi, ev_add, ev_sub, ev_neg, ev_lt, ev_le, ev_gt, ev_ge, ev_isNon, ev_isntNon, ev_t0, ev_t1, ev_l0, ev_l1, ev_abs, ev_int, ev_intB, ev_lenL, ev_lenT, ev_tupL, ev_eqI, ev_neI, C.pure_bind, C.raise_bind, C.no_bind]) _ _ _ (by show _ < (b.natAbs : Int).natAbs + 1; omega)]
  rfl
theorem lcommon_eq (a b : Int) : m__law_frac_common [.int a, .int b] = pure (.int (Nat.gcd a.natAbs b.natAbs)) := by
  show b__law_frac_common _ _ = _
  unfold b__law_frac_common
  simp only [ev_bin, ev_cmp, ev_un, ev_valB, ev_asB, ev_andVt, ev_andVf, ev_orVt, ev_orVf, ev_notV, ev_andTt, ev_andTf, ev_orTt, ev_orTf, ev_notT, ev_ifEt, ev_ifEf, ev_args0, ev_args1, ev_tupC, ev_lstC, ev_dicC, ev_callM, ev_callK, ev_callO, ev_asL, ev_lift, ev_ap1, ev_ap2, ev_ap3, ev_isi, ev_add, ev_sub, ev_neg, ev_lt, ev_le, ev_gt, ev_ge, ev_isNon, ev_isntNon, ev_t0, ev_t1, ev_l0, ev_l1, ev_abs, ev_int, ev_intB, ev_lenL, ev_lenT, ev_tupL, ev_eqI, ev_neI, C.pure_bind, C.raise_bind, C.no_bind]
  rw [gcd_while (fun x y => by simp only [ev_bin, ev_cmp, ev_un, ev_valB, ev_asB, ev_andVt, ev_andVf, ev_orVt, ev_orVf, ev_notV, ev_andTt, ev_andTf, ev_orTt, ev_orTf, ev_notT, ev_ifEt, ev_ifEf, ev_args0, ev_args1, ev_tupC, ev_lstC, ev_dicC, ev_callM, ev_callK, ev_callO, ev_asL, ev_lift, ev_ap1, ev_ap2, ev_ap3, ev_isi, ev_add, ev_sub, ev_neg, ev_lt, ev_le, ev_gt, ev_ge, ev_isNon, ev_isntNon, ev_t0, ev_t1, ev_l0, ev_l1, ev_abs, ev_int, ev_intB, ev_lenL, ev_lenT, ev_tupL, ev_eqI, ev_neI, C.pure_bind, C.raise_bind, C.no_bind]) (fun x y hy => by simp only [ev_bin, ev_cmp, ev_un, ev_valB, ev_asB, ev_andVt, ev_andVf, ev_orVt, ev_orVf, ev_notV, ev_andTt, ev_andTf, ev_orTt, ev_orTf, ev_notT, ev_ifEt, ev_ifEf, ev_args0, ev_args1, ev_tupC, ev_lstC, ev_dicC, ev_callM, ev_callK, ev_callO, ev_asL, ev_lift, ev_ap1, ev_ap2, ev_ap3, ev_isi, ev_add, ev_sub, ev_neg, ev_lt, ev_le, ev_gt, ev_ge, ev_isNon, ev_isntNon, ev_t0, ev_t1, ev_l0, ev_l1, ev_abs, ev_int, ev_intB, ev_lenL, ev_lenT, ev_tupL, ev_eqI, ev_neI, C.pure_bind, C.raise_bind, C.no_bind]; rw [ev_mod hy]; simp only [ev_bin, ev_cmp, ev_un, ev_valB, ev_asB, ev_andVt, ev_andVf, ev_orVt, ev_orVf, ev_notV, ev_andTt, ev_andTf, ev_orTt, ev_orTf, ev_notT, ev_ifEt, ev_ifEf, ev_args0, ev_args1, ev_tupC, ev_lstC, ev_dicC, ev_callM, ev_callK, ev_callO, ev_asL, ev_lift, ev_ap1, ev_ap2, ev_ap3, ev_isi, ev_add, ev_sub, ev_neg, ev_lt, ev_le, ev_gt, ev_ge, ev_isNon, ev_isntNon, ev_t0, ev_t1, ev_l0, ev_l1, ev_abs, ev_int, ev_intB, ev_lenL, ev_lenT, ev_tupL, ev_eqI, ev_neI, C.pure_bind, C.raise_bind, C.no_bind]) _ _ _ (by show _ < (b.natAbs : Int).natAbs + 1; omega)]
  rfl
theorem gcd_small {a b : Int} {n : Nat} (hb : b ≠ 0) (h : b.natAbs ≤ 2 ^ n) : Nat.gcd a.natAbs b.natAbs ≠ 0 ∧ (Nat.gcd a.natAbs b.natAbs).log2 ≤ n := by
  have h0 : 0 < b.natAbs := by omega
  have : 0 < Nat.gcd a.natAbs b.natAbs := Nat.gcd_pos_of_pos_right _ h0
  exact ⟨by omega, log2_le (Nat.le_trans (Nat.le_of_dvd h0 (Nat.gcd_dvd_right _ _)) h)⟩
theorem ratio_eq {a b : Int} {n : Nat} (hb : b ≠ 0) (h : b.natAbs ≤ 2 ^ n) (hn : n ≤ 8999) : m_ratio [.int a, .int b] = pure (F (Rat.divInt a b)) := by
  obtain ⟨g1, g2⟩ := gcd_small (a := a) hb h
  rw [F_divInt hb]
  show b_ratio _ _ = _
  unfold b_ratio
  simp only [ev_bin, ev_cmp, ev_un, ev_valB, ev_asB, ev_andVt, ev_andVf, ev_orVt, ev_orVf, ev_notV, ev_andTt, ev_andTf, ev_orTt, ev_orTf, ev_notT, ev_ifEt, ev_ifEf, ev_args0, ev_args1, ev_tupC, ev_lstC, ev_dicC, ev_callM, ev_callK, ev_callO, ev_asL, ev_lift, ev_ap1, ev_ap2, ev_ap3, ev_isi, ev_add, ev_sub, ev_neg, ev_lt, ev_le, ev_gt, ev_ge, ev_isNon, ev_isntNon, ev_t0, ev_t1, ev_l0, ev_l1, ev_abs, ev_int, ev_intB, ev_lenL, ev_lenT, ev_tupL, ev_eqI, ev_neI, C.pure_bind, C.raise_bind, C.no_bind]
  rw [common_eq]
  simp only [ev_bin, ev_cmp, ev_un, ev_valB, ev_asB, ev_andVt, ev_andVf, ev_orVt, ev_orVf, ev_notV, ev_andTt, ev_andTf, ev_orTt, ev_orTf, ev_notT, ev_ifEt, ev_ifEf, ev_args0, ev_args1, ev_tupC, ev_lstC, ev_dicC, ev_callM, ev_callK, ev_callO, ev_asL, ev_lift, ev_ap1, ev_ap2, ev_ap3, ev_isi, ev_add, ev_sub, ev_neg, ev_lt, ev_le, ev_gt, ev_ge, ev_isNon, ev_isntNon, ev_t0, ev_t1, ev_l0, ev_l1, ev_abs, ev_int, ev_intB, ev_lenL, ev_lenT, ev_tupL, ev_eqI, ev_neI, C.pure_bind, C.raise_bind, C.no_bind]
  by_cases hp : 0 < b
  · rw [decide_eq_true hp, if_pos hp]
    simp only [ev_bin, ev_cmp, ev_un, ev_valB, ev_asB, ev_andVt, ev_andVf, ev_orVt, ev_orVf, ev_notV, ev_andTt, ev_andTf, ev_orTt, ev_orTf, ev_notT, ev_ifEt, ev_ifEf, ev_args0, ev_args1, ev_tupC, ev_lstC, ev_dicC, ev_callM, ev_callK, ev_callO, ev_asL, ev_lift, ev_ap1, ev_ap2, ev_ap3, ev_isi, ev_add, ev_sub, ev_neg, ev_lt, ev_le, ev_gt, ev_ge, ev_isNon, ev_isntNon, ev_t0, ev_t1, ev_l0, ev_l1, ev_abs, ev_int, ev_intB, ev_lenL, ev_lenT, ev_tupL, ev_eqI, ev_neI, C.pure_bind, C.raise_bind, C.no_bind]
    rw [ev_div (by omega) (by rw [Int.natAbs_natCast]; omega), ev_div (by omega) (by rw [Int.natAbs_natCast]; omega)]
    simp only [ev_bin, ev_cmp, ev_un, ev_valB, ev_asB, ev_andVt, ev_andVf, ev_orVt, ev_orVf, ev_notV, ev_andTt, ev_andTf, ev_orTt, ev_orTf, ev_notT, ev_ifEt, ev_ifEf, ev_args0, ev_args1, ev_tupC, ev_lstC, ev_dicC, ev_callM, ev_callK, ev_callO, ev_asL, ev_lift, ev_ap1, ev_ap2, ev_ap3, ev_isi, ev_add, ev_sub, ev_neg, ev_lt, ev_le, ev_gt, ev_ge, ev_isNon, ev_isntNon, ev_t0, ev_t1, ev_l0, ev_l1, ev_abs, ev_int, ev_intB, ev_lenL, ev_lenT, ev_tupL, ev_eqI, ev_neI, C.pure_bind, C.raise_bind, C.no_bind]
  · rw [decide_eq_false hp, if_neg hp]
    simp only [ev_bin, ev_cmp, ev_un, ev_valB, ev_asB, ev_andVt, ev_andVf, ev_orVt, ev_orVf, ev_notV, ev_andTt, ev_andTf, ev_orTt, ev_orTf, ev_notT, ev_ifEt, ev_ifEf, ev_args0, ev_args1, ev_tupC, ev_lstC, ev_dicC, ev_callM, ev_callK, ev_callO, ev_asL, ev_lift, ev_ap1, ev_ap2, ev_ap3, ev_isi, ev_add, ev_sub, ev_neg, ev_lt, ev_le, ev_gt, ev_ge, ev_isNon, ev_isntNon, ev_t0, ev_t1, ev_l0, ev_l1, ev_abs, ev_int, ev_intB, ev_lenL, ev_lenT, ev_tupL, ev_eqI, ev_neI, C.pure_bind, C.raise_bind, C.no_bind]
    rw [Int.zero_sub, ev_div (by omega) (by rw [Int.natAbs_neg, Int.natAbs_natCast]; omega), ev_div (by omega) (by rw [Int.natAbs_neg, Int.natAbs_natCast]; omega)]
    simp only [ev_bin, ev_cmp, ev_un, ev_valB, ev_asB, ev_andVt, ev_andVf, ev_orVt, ev_orVf, ev_notV, ev_andTt, ev_andTf, ev_orTt, ev_orTf, ev_notT, ev_ifEt, ev_ifEf, ev_args0, ev_args1, ev_tupC, ev_lstC, ev_dicC, ev_callM, ev_callK, ev_callO, ev_asL, ev_lift, ev_ap1, ev_ap2, ev_ap3, ev_isi, ev_add, ev_sub, ev_neg, ev_lt, ev_le, ev_gt, ev_ge, ev_isNon, ev_isntNon, ev_t0, ev_t1, ev_l0, ev_l1, ev_abs, ev_int, ev_intB, ev_lenL, ev_lenT, ev_tupL, ev_eqI, ev_neI, C.pure_bind, C.raise_bind, C.no_bind]
theorem frac_eq {a b : Int} {n : Nat} (hb : b ≠ 0) (h : b.natAbs ≤ 2 ^ n) (hn : n ≤ 8999) : m__law_frac [.int a, .int b] = pure (F (Rat.divInt a b)) := by
  obtain ⟨g1, g2⟩ := gcd_small (a := a) hb h
  rw [F_divInt hb]
  show b__law_frac _ _ = _
  unfold b__law_frac
  simp only [ev_bin, ev_cmp, ev_un, ev_valB, ev_asB, ev_andVt, ev_andVf, ev_orVt, ev_orVf, ev_notV, ev_andTt, ev_andTf, ev_orTt, ev_orTf, ev_notT, ev_ifEt, ev_ifEf, ev_args0, ev_args1, ev_tupC, ev_lstC, ev_dicC, ev_callM, ev_callK, ev_callO, ev_asL, ev_lift, ev_ap1, ev_ap2, ev_ap3, ev_isi, ev_add, ev_sub, ev_neg, ev_lt, ev_le, ev_gt, ev_ge, ev_isNon, ev_isntNon, ev_t0, ev_t1, ev_l0, ev_l1, ev_abs, ev_int, ev_intB, ev_lenL, ev_lenT, ev_tupL, ev_eqI, ev_neI, C.pure_bind, C.raise_bind, C.no_bind]
  rw [lcommon_eq]
  simp only [ev_bin, ev_cmp, ev_un, ev_valB, ev_asB, ev_andVt, ev_andVf, ev_orVt, ev_orVf, ev_notV, ev_andTt, ev_andTf, ev_orTt, ev_orTf, ev_notT, ev_ifEt, ev_ifEf, ev_args0, ev_args1, ev_tupC, ev_lstC, ev_dicC, ev_callM, ev_callK, ev_callO, ev_asL, ev_lift, ev_ap1, ev_ap2, ev_ap3, ev_isi, ev_add, ev_sub, ev_neg, ev_lt, ev_le, ev_gt, ev_ge, ev_isNon, ev_isntNon, ev_t0, ev_t1, ev_l0, ev_l1, ev_abs, ev_int, ev_intB, ev_lenL, ev_lenT, ev_tupL, ev_eqI, ev_neI, C.pure_bind, C.raise_bind, C.no_bind]
  by_cases hp : 0 < b
  · rw [decide_eq_true hp, if_pos hp]
    simp only [ev_bin, ev_cmp, ev_un, ev_valB, ev_asB, ev_andVt, ev_andVf, ev_orVt, ev_orVf, ev_notV, ev_andTt, ev_andTf, ev_orTt, ev_orTf, ev_notT, ev_ifEt, ev_ifEf, ev_args0, ev_args1, ev_tupC, ev_lstC, ev_dicC, ev_callM, ev_callK, ev_callO, ev_asL, ev_lift, ev_ap1, ev_ap2, ev_ap3, ev_isi, ev_add, ev_sub, ev_neg, ev_lt, ev_le, ev_gt, ev_ge, ev_isNon, ev_isntNon, ev_t0, ev_t1, ev_l0, ev_l1, ev_abs, ev_int, ev_intB, ev_lenL, ev_lenT, ev_tupL, ev_eqI, ev_neI, C.pure_bind, C.raise_bind, C.no_bind]
    rw [ev_div (by omega) (by rw [Int.natAbs_natCast]; omega), ev_div (by omega) (by rw [Int.natAbs_natCast]; omega)]
    simp only [ev_bin, ev_cmp, ev_un, ev_valB, ev_asB, ev_andVt, ev_andVf, ev_orVt, ev_orVf, ev_notV, ev_andTt, ev_andTf, ev_orTt, ev_orTf, ev_notT, ev_ifEt, ev_ifEf, ev_args0, ev_args1, ev_tupC, ev_lstC, ev_dicC, ev_callM, ev_callK, ev_callO, ev_asL, ev_lift, ev_ap1, ev_ap2, ev_ap3, ev_isi, ev_add, ev_sub, ev_neg, ev_lt, ev_le, ev_gt, ev_ge, ev_isNon, ev_isntNon, ev_t0, ev_t1, ev_l0, ev_l1, ev_abs, ev_int, ev_intB, ev_lenL, ev_lenT, ev_tupL, ev_eqI, ev_neI, C.pure_bind, C.raise_bind, C.no_bind]
  · rw [decide_eq_false hp, if_neg hp]
    simp only [ev_bin, ev_cmp, ev_un, ev_valB, ev_asB, ev_andVt, ev_andVf, ev_orVt, ev_orVf, ev_notV, ev_andTt, ev_andTf, ev_orTt, ev_orTf, ev_notT, ev_ifEt, ev_ifEf, ev_args0, ev_args1, ev_tupC, ev_lstC, ev_dicC, ev_callM, ev_callK, ev_callO, ev_asL, ev_lift, ev_ap1, ev_ap2, ev_ap3, ev_isi, ev_add, ev_sub, ev_neg, ev_lt, ev_le, ev_gt, ev_ge, ev_isNon, ev_isntNon, ev_t0, ev_t1, ev_l0, ev_l1, ev_abs, ev_int, ev_intB, ev_lenL, ev_lenT, ev_tupL, ev_eqI, ev_neI, C.pure_bind, C.raise_bind, C.no_bind]
    rw [ev_div (by omega) (by rw [Int.natAbs_neg, Int.natAbs_natCast]; omega), ev_div (by omega) (by rw [Int.natAbs_neg, Int.natAbs_natCast]; omega)]
    simp only [ev_bin, ev_cmp, ev_un, ev_valB, ev_asB, ev_andVt, ev_andVf, ev_orVt, ev_orVf, ev_notV, ev_andTt, ev_andTf, ev_orTt, ev_orTf, ev_notT, ev_ifEt, ev_ifEf, ev_args0, ev_args1, ev_tupC, ev_lstC, ev_dicC, ev_callM, ev_callK, ev_callO, ev_asL, ev_lift, ev_ap1, ev_ap2, ev_ap3, ev_isi, ev_add, ev_sub, ev_neg, ev_lt, ev_le, ev_gt, ev_ge, ev_isNon, ev_isntNon, ev_t0, ev_t1, ev_l0, ev_l1, ev_abs, ev_int, ev_intB, ev_lenL, ev_lenT, ev_tupL, ev_eqI, ev_neI, C.pure_bind, C.raise_bind, C.no_bind]
section
variable {x y : Rat} {m n : Nat}
/-- products of a fraction's parts stay small -/
theorem mulN {a b : Int} {m n : Nat} (h1 : a.natAbs ≤ 2 ^ m) (h2 : b.natAbs ≤ 2 ^ n) (h : m + n ≤ 8000) : D.mul (.int a) (.int b) = some (.int (a * b)) := ev_mul (by have := log2_le h1; have := log2_le h2; omega)
theorem less_eq (h1 : Bd m x) (h2 : Bd n y) (h : m + n ≤ 8000) : m_less [F x, F y] = pure (F (x - y)) := by
  have a1 := h1.num; have a2 : (x.den : Int).natAbs ≤ 2 ^ m := by simpa using h1.den
  have b1 := h2.num; have b2 : (y.den : Int).natAbs ≤ 2 ^ n := by simpa using h2.den
  show b_less _ _ = _
  unfold b_less F
  simp only [ev_bin, ev_cmp, ev_un, ev_valB, ev_asB, ev_andVt, ev_andVf, ev_orVt, ev_orVf, ev_notV, ev_andTt, ev_andTf, ev_orTt, ev_orTf, ev_notT, ev_ifEt, ev_ifEf, ev_args0, ev_args1, ev_tupC, ev_lstC, ev_dicC, ev_callM, ev_callK, ev_callO, ev_asL, ev_lift, ev_ap1, ev_ap2, ev_ap3, ev_isi, ev_add, ev_sub, ev_neg, ev_lt, ev_le, ev_gt, ev_ge, ev_isNon, ev_isntNon, ev_t0, ev_t1, ev_l0, ev_l1, ev_abs, ev_int, ev_intB, ev_lenL, ev_lenT, ev_tupL, ev_eqI, ev_neI, C.pure_bind, C.raise_bind, C.no_bind]
  rw [mulN a1 b2 h, mulN b1 a2 (by omega), mulN a2 b2 h]
  simp only [ev_bin, ev_cmp, ev_un, ev_valB, ev_asB, ev_andVt, ev_andVf, ev_orVt, ev_orVf, ev_notV, ev_andTt, ev_andTf, ev_orTt, ev_orTf, ev_notT, ev_ifEt, ev_ifEf, ev_args0, ev_args1, ev_tupC, ev_lstC, ev_dicC, ev_callM, ev_callK, ev_callO, ev_asL, ev_lift, ev_ap1, ev_ap2, ev_ap3, ev_isi, ev_add, ev_sub, ev_neg, ev_lt, ev_le, ev_gt, ev_ge, ev_isNon, ev_isntNon, ev_t0, ev_t1, ev_l0, ev_l1, ev_abs, ev_int, ev_intB, ev_lenL, ev_lenT, ev_tupL, ev_eqI, ev_neI, C.pure_bind, C.raise_bind, C.no_bind]
  rw [ratio_eq dens0 (mul_le2 a2 b2) (by omega), ← sub_divInt]; rfl
theorem lless_eq (h1 : Bd m x) (h2 : Bd n y) (h : m + n ≤ 8000) : m__law_frac_less [F x, F y] = pure (F (x - y)) := by
  have a1 := h1.num; have a2 : (x.den : Int).natAbs ≤ 2 ^ m := by simpa using h1.den
  have b1 := h2.num; have b2 : (y.den : Int).natAbs ≤ 2 ^ n := by simpa using h2.den
  show b__law_frac_less _ _ = _
  unfold b__law_frac_less F
  simp only [ev_bin, ev_cmp, ev_un, ev_valB, ev_asB, ev_andVt, ev_andVf, ev_orVt, ev_orVf, ev_notV, ev_andTt, ev_andTf, ev_orTt, ev_orTf, ev_notT, ev_ifEt, ev_ifEf, ev_args0, ev_args1, ev_tupC, ev_lstC, ev_dicC, ev_callM, ev_callK, ev_callO, ev_asL, ev_lift, ev_ap1, ev_ap2, ev_ap3, ev_isi, ev_add, ev_sub, ev_neg, ev_lt, ev_le, ev_gt, ev_ge, ev_isNon, ev_isntNon, ev_t0, ev_t1, ev_l0, ev_l1, ev_abs, ev_int, ev_intB, ev_lenL, ev_lenT, ev_tupL, ev_eqI, ev_neI, C.pure_bind, C.raise_bind, C.no_bind]
  rw [mulN a1 b2 h, mulN b1 a2 (by omega), mulN a2 b2 h]
  simp only [ev_bin, ev_cmp, ev_un, ev_valB, ev_asB, ev_andVt, ev_andVf, ev_orVt, ev_orVf, ev_notV, ev_andTt, ev_andTf, ev_orTt, ev_orTf, ev_notT, ev_ifEt, ev_ifEf, ev_args0, ev_args1, ev_tupC, ev_lstC, ev_dicC, ev_callM, ev_callK, ev_callO, ev_asL, ev_lift, ev_ap1, ev_ap2, ev_ap3, ev_isi, ev_add, ev_sub, ev_neg, ev_lt, ev_le, ev_gt, ev_ge, ev_isNon, ev_isntNon, ev_t0, ev_t1, ev_l0, ev_l1, ev_abs, ev_int, ev_intB, ev_lenL, ev_lenT, ev_tupL, ev_eqI, ev_neI, C.pure_bind, C.raise_bind, C.no_bind]
  rw [frac_eq dens0 (mul_le2 a2 b2) (by omega), ← sub_divInt]; rfl
theorem lplus_eq (h1 : Bd m x) (h2 : Bd n y) (h : m + n ≤ 8000) : m__law_frac_plus [F x, F y] = pure (F (x + y)) := by
  have a1 := h1.num; have a2 : (x.den : Int).natAbs ≤ 2 ^ m := by simpa using h1.den
  have b1 := h2.num; have b2 : (y.den : Int).natAbs ≤ 2 ^ n := by simpa using h2.den
  show b__law_frac_plus _ _ = _
  unfold b__law_frac_plus F
  simp only [ev_bin, ev_cmp, ev_un, ev_valB, ev_asB, ev_andVt, ev_andVf, ev_orVt, ev_orVf, ev_notV, ev_andTt, ev_andTf, ev_orTt, ev_orTf, ev_notT, ev_ifEt, ev_ifEf, ev_args0, ev_args1, ev_tupC, ev_lstC, ev_dicC, ev_callM, ev_callK, ev_callO, ev_asL, ev_lift, ev_ap1, ev_ap2, ev_ap3, ev_isi, ev_add, ev_sub, ev_neg, ev_lt, ev_le, ev_gt, ev_ge, ev_isNon, ev_isntNon, ev_t0, ev_t1, ev_l0, ev_l1, ev_abs, ev_int, ev_intB, ev_lenL, ev_lenT, ev_tupL, ev_eqI, ev_neI, C.pure_bind, C.raise_bind, C.no_bind]
  rw [mulN a1 b2 h, mulN b1 a2 (by omega), mulN a2 b2 h]
  simp only [ev_bin, ev_cmp, ev_un, ev_valB, ev_asB, ev_andVt, ev_andVf, ev_orVt, ev_orVf, ev_notV, ev_andTt, ev_andTf, ev_orTt, ev_orTf, ev_notT, ev_ifEt, ev_ifEf, ev_args0, ev_args1, ev_tupC, ev_lstC, ev_dicC, ev_callM, ev_callK, ev_callO, ev_asL, ev_lift, ev_ap1, ev_ap2, ev_ap3, ev_isi, ev_add, ev_sub, ev_neg, ev_lt, ev_le, ev_gt, ev_ge, ev_isNon, ev_isntNon, ev_t0, ev_t1, ev_l0, ev_l1, ev_abs, ev_int, ev_intB, ev_lenL, ev_lenT, ev_tupL, ev_eqI, ev_neI, C.pure_bind, C.raise_bind, C.no_bind]
  rw [frac_eq dens0 (mul_le2 a2 b2) (by omega), ← add_divInt]; rfl
theorem times_eq (h1 : Bd m x) (h2 : Bd n y) (h : m + n ≤ 8000) : m_times [F x, F y] = pure (F (x * y)) := by
  have a1 := h1.num; have a2 : (x.den : Int).natAbs ≤ 2 ^ m := by simpa using h1.den
  have b1 := h2.num; have b2 : (y.den : Int).natAbs ≤ 2 ^ n := by simpa using h2.den
  show b_times _ _ = _
  unfold b_times F
  simp only [ev_bin, ev_cmp, ev_un, ev_valB, ev_asB, ev_andVt, ev_andVf, ev_orVt, ev_orVf, ev_notV, ev_andTt, ev_andTf, ev_orTt, ev_orTf, ev_notT, ev_ifEt, ev_ifEf, ev_args0, ev_args1, ev_tupC, ev_lstC, ev_dicC, ev_callM, ev_callK, ev_callO, ev_asL, ev_lift, ev_ap1, ev_ap2, ev_ap3, ev_isi, ev_add, ev_sub, ev_neg, ev_lt, ev_le, ev_gt, ev_ge, ev_isNon, ev_isntNon, ev_t0, ev_t1, ev_l0, ev_l1, ev_abs, ev_int, ev_intB, ev_lenL, ev_lenT, ev_tupL, ev_eqI, ev_neI, C.pure_bind, C.raise_bind, C.no_bind]
  rw [mulN a1 b1 h, mulN a2 b2 h]
  simp only [ev_bin, ev_cmp, ev_un, ev_valB, ev_asB, ev_andVt, ev_andVf, ev_orVt, ev_orVf, ev_notV, ev_andTt, ev_andTf, ev_orTt, ev_orTf, ev_notT, ev_ifEt, ev_ifEf, ev_args0, ev_args1, ev_tupC, ev_lstC, ev_dicC, ev_callM, ev_callK, ev_callO, ev_asL, ev_lift, ev_ap1, ev_ap2, ev_ap3, ev_isi, ev_add, ev_sub, ev_neg, ev_lt, ev_le, ev_gt, ev_ge, ev_isNon, ev_isntNon, ev_t0, ev_t1, ev_l0, ev_l1, ev_abs, ev_int, ev_intB, ev_lenL, ev_lenT, ev_tupL, ev_eqI, ev_neI, C.pure_bind, C.raise_bind, C.no_bind]
  rw [ratio_eq dens0 (mul_le2 a2 b2) (by omega), ← mul_divInt]; rfl
theorem ltimes_eq (h1 : Bd m x) (h2 : Bd n y) (h : m + n ≤ 8000) : m__law_frac_times [F x, F y] = pure (F (x * y)) := by
  have a1 := h1.num; have a2 : (x.den : Int).natAbs ≤ 2 ^ m := by simpa using h1.den
  have b1 := h2.num; have b2 : (y.den : Int).natAbs ≤ 2 ^ n := by simpa using h2.den
  show b__law_frac_times _ _ = _
  unfold b__law_frac_times F
  simp only [ev_bin, ev_cmp, ev_un, ev_valB, ev_asB, ev_andVt, ev_andVf, ev_orVt, ev_orVf, ev_notV, ev_andTt, ev_andTf, ev_orTt, ev_orTf, ev_notT, ev_ifEt, ev_ifEf, ev_args0, ev_args1, ev_tupC, ev_lstC, ev_dicC, ev_callM, ev_callK, ev_callO, ev_asL, ev_lift, ev_ap1, ev_ap2, ev_ap3, ev_isi, ev_add, ev_sub, ev_neg, ev_lt, ev_le, ev_gt, ev_ge, ev_isNon, ev_isntNon, ev_t0, ev_t1, ev_l0, ev_l1, ev_abs, ev_int, ev_intB, ev_lenL, ev_lenT, ev_tupL, ev_eqI, ev_neI, C.pure_bind, C.raise_bind, C.no_bind]
  rw [mulN a1 b1 h, mulN a2 b2 h]
  simp only [ev_bin, ev_cmp, ev_un, ev_valB, ev_asB, ev_andVt, ev_andVf, ev_orVt, ev_orVf, ev_notV, ev_andTt, ev_andTf, ev_orTt, ev_orTf, ev_notT, ev_ifEt, ev_ifEf, ev_args0, ev_args1, ev_tupC, ev_lstC, ev_dicC, ev_callM, ev_callK, ev_callO, ev_asL, ev_lift, ev_ap1, ev_ap2, ev_ap3, ev_isi, ev_add, ev_sub, ev_neg, ev_lt, ev_le, ev_gt, ev_ge, ev_isNon, ev_isntNon, ev_t0, ev_t1, ev_l0, ev_l1, ev_abs, ev_int, ev_intB, ev_lenL, ev_lenT, ev_tupL, ev_eqI, ev_neI, C.pure_bind, C.raise_bind, C.no_bind]
  rw [frac_eq dens0 (mul_le2 a2 b2) (by omega), ← mul_divInt]; rfl
theorem over_eq (h1 : Bd m x) (h2 : Bd n y) (h : m + n ≤ 8000) (h0 : y ≠ 0) : m_over [F x, F y] = pure (F (x / y)) := by
  have a1 := h1.num; have a2 : (x.den : Int).natAbs ≤ 2 ^ m := by simpa using h1.den
  have b1 := h2.num; have b2 : (y.den : Int).natAbs ≤ 2 ^ n := by simpa using h2.den
  show b_over _ _ = _
  unfold b_over F
  simp only [ev_bin, ev_cmp, ev_un, ev_valB, ev_asB, ev_andVt, ev_andVf, ev_orVt, ev_orVf, ev_notV, ev_andTt, ev_andTf, ev_orTt, ev_orTf, ev_notT, ev_ifEt, ev_ifEf, ev_args0, ev_args1, ev_tupC, ev_lstC, ev_dicC, ev_callM, ev_callK, ev_callO, ev_asL, ev_lift, ev_ap1, ev_ap2, ev_ap3, ev_isi, ev_add, ev_sub, ev_neg, ev_lt, ev_le, ev_gt, ev_ge, ev_isNon, ev_isntNon, ev_t0, ev_t1, ev_l0, ev_l1, ev_abs, ev_int, ev_intB, ev_lenL, ev_lenT, ev_tupL, ev_eqI, ev_neI, C.pure_bind, C.raise_bind, C.no_bind]
  rw [mulN a1 b2 h, mulN a2 b1 h]
  simp only [ev_bin, ev_cmp, ev_un, ev_valB, ev_asB, ev_andVt, ev_andVf, ev_orVt, ev_orVf, ev_notV, ev_andTt, ev_andTf, ev_orTt, ev_orTf, ev_notT, ev_ifEt, ev_ifEf, ev_args0, ev_args1, ev_tupC, ev_lstC, ev_dicC, ev_callM, ev_callK, ev_callO, ev_asL, ev_lift, ev_ap1, ev_ap2, ev_ap3, ev_isi, ev_add, ev_sub, ev_neg, ev_lt, ev_le, ev_gt, ev_ge, ev_isNon, ev_isntNon, ev_t0, ev_t1, ev_l0, ev_l1, ev_abs, ev_int, ev_intB, ev_lenL, ev_lenT, ev_tupL, ev_eqI, ev_neI, C.pure_bind, C.raise_bind, C.no_bind]
  rw [ratio_eq (Int.mul_ne_zero den0 (num0 h0)) (mul_le2 a2 b1) (by omega), ← div_divInt]; rfl
theorem lover_eq (h1 : Bd m x) (h2 : Bd n y) (h : m + n ≤ 8000) (h0 : y ≠ 0) : m__law_frac_over [F x, F y] = pure (F (x / y)) := by
  have a1 := h1.num; have a2 : (x.den : Int).natAbs ≤ 2 ^ m := by simpa using h1.den
  have b1 := h2.num; have b2 : (y.den : Int).natAbs ≤ 2 ^ n := by simpa using h2.den
  show b__law_frac_over _ _ = _
  unfold b__law_frac_over F
  simp only [ev_bin, ev_cmp, ev_un, ev_valB, ev_asB, ev_andVt, ev_andVf, ev_orVt, ev_orVf, ev_notV, ev_andTt, ev_andTf, ev_orTt, ev_orTf, ev_notT, ev_ifEt, ev_ifEf, ev_args0, ev_args1, ev_tupC, ev_lstC, ev_dicC, ev_callM, ev_callK, ev_callO, ev_asL, ev_lift, ev_ap1, ev_ap2, ev_ap3, ev_isi, ev_add, ev_sub, ev_neg, ev_lt, ev_le, ev_gt, ev_ge, ev_isNon, ev_isntNon, ev_t0, ev_t1, ev_l0, ev_l1, ev_abs, ev_int, ev_intB, ev_lenL, ev_lenT, ev_tupL, ev_eqI, ev_neI, C.pure_bind, C.raise_bind, C.no_bind]
  rw [mulN a1 b2 h, mulN a2 b1 h]
  simp only [ev_bin, ev_cmp, ev_un, ev_valB, ev_asB, ev_andVt, ev_andVf, ev_orVt, ev_orVf, ev_notV, ev_andTt, ev_andTf, ev_orTt, ev_orTf, ev_notT, ev_ifEt, ev_ifEf, ev_args0, ev_args1, ev_tupC, ev_lstC, ev_dicC, ev_callM, ev_callK, ev_callO, ev_asL, ev_lift, ev_ap1, ev_ap2, ev_ap3, ev_isi, ev_add, ev_sub, ev_neg, ev_lt, ev_le, ev_gt, ev_ge, ev_isNon, ev_isntNon, ev_t0, ev_t1, ev_l0, ev_l1, ev_abs, ev_int, ev_intB, ev_lenL, ev_lenT, ev_tupL, ev_eqI, ev_neI, C.pure_bind, C.raise_bind, C.no_bind]
  rw [frac_eq (Int.mul_ne_zero den0 (num0 h0)) (mul_le2 a2 b1) (by omega), ← div_divInt]; rfl
theorem below_eq (h1 : Bd m x) (h2 : Bd n y) (h : m + n ≤ 8000) : m_is_below [F x, F y] = pure (.bl (decide (x < y))) := by
  have a1 := h1.num; have a2 : (x.den : Int).natAbs ≤ 2 ^ m := by simpa using h1.den
  have b1 := h2.num; have b2 : (y.den : Int).natAbs ≤ 2 ^ n := by simpa using h2.den
  show b_is_below _ _ = _
  unfold b_is_below F
  simp only [ev_bin, ev_cmp, ev_un, ev_valB, ev_asB, ev_andVt, ev_andVf, ev_orVt, ev_orVf, ev_notV, ev_andTt, ev_andTf, ev_orTt, ev_orTf, ev_notT, ev_ifEt, ev_ifEf, ev_args0, ev_args1, ev_tupC, ev_lstC, ev_dicC, ev_callM, ev_callK, ev_callO, ev_asL, ev_lift, ev_ap1, ev_ap2, ev_ap3, ev_isi, ev_add, ev_sub, ev_neg, ev_lt, ev_le, ev_gt, ev_ge, ev_isNon, ev_isntNon, ev_t0, ev_t1, ev_l0, ev_l1, ev_abs, ev_int, ev_intB, ev_lenL, ev_lenT, ev_tupL, ev_eqI, ev_neI, C.pure_bind, C.raise_bind, C.no_bind]
  rw [mulN a1 b2 h, mulN b1 a2 (by omega)]
  simp only [ev_bin, ev_cmp, ev_un, ev_valB, ev_asB, ev_andVt, ev_andVf, ev_orVt, ev_orVf, ev_notV, ev_andTt, ev_andTf, ev_orTt, ev_orTf, ev_notT, ev_ifEt, ev_ifEf, ev_args0, ev_args1, ev_tupC, ev_lstC, ev_dicC, ev_callM, ev_callK, ev_callO, ev_asL, ev_lift, ev_ap1, ev_ap2, ev_ap3, ev_isi, ev_add, ev_sub, ev_neg, ev_lt, ev_le, ev_gt, ev_ge, ev_isNon, ev_isntNon, ev_t0, ev_t1, ev_l0, ev_l1, ev_abs, ev_int, ev_intB, ev_lenL, ev_lenT, ev_tupL, ev_eqI, ev_neI, C.pure_bind, C.raise_bind, C.no_bind]
  congr 2
  rw [decide_eq_decide, Rat.lt_iff]
theorem lbelow_eq (h1 : Bd m x) (h2 : Bd n y) (h : m + n ≤ 8000) : m__law_frac_is_less [F x, F y] = pure (.bl (decide (x < y))) := by
  have a1 := h1.num; have a2 : (x.den : Int).natAbs ≤ 2 ^ m := by simpa using h1.den
  have b1 := h2.num; have b2 : (y.den : Int).natAbs ≤ 2 ^ n := by simpa using h2.den
  show b__law_frac_is_less _ _ = _
  unfold b__law_frac_is_less F
  simp only [ev_bin, ev_cmp, ev_un, ev_valB, ev_asB, ev_andVt, ev_andVf, ev_orVt, ev_orVf, ev_notV, ev_andTt, ev_andTf, ev_orTt, ev_orTf, ev_notT, ev_ifEt, ev_ifEf, ev_args0, ev_args1, ev_tupC, ev_lstC, ev_dicC, ev_callM, ev_callK, ev_callO, ev_asL, ev_lift, ev_ap1, ev_ap2, ev_ap3, ev_isi, ev_add, ev_sub, ev_neg, ev_lt, ev_le, ev_gt, ev_ge, ev_isNon, ev_isntNon, ev_t0, ev_t1, ev_l0, ev_l1, ev_abs, ev_int, ev_intB, ev_lenL, ev_lenT, ev_tupL, ev_eqI, ev_neI, C.pure_bind, C.raise_bind, C.no_bind]
  rw [mulN a1 b2 h, mulN b1 a2 (by omega)]
  simp only [ev_bin, ev_cmp, ev_un, ev_valB, ev_asB, ev_andVt, ev_andVf, ev_orVt, ev_orVf, ev_notV, ev_andTt, ev_andTf, ev_orTt, ev_orTf, ev_notT, ev_ifEt, ev_ifEf, ev_args0, ev_args1, ev_tupC, ev_lstC, ev_dicC, ev_callM, ev_callK, ev_callO, ev_asL, ev_lift, ev_ap1, ev_ap2, ev_ap3, ev_isi, ev_add, ev_sub, ev_neg, ev_lt, ev_le, ev_gt, ev_ge, ev_isNon, ev_isntNon, ev_t0, ev_t1, ev_l0, ev_l1, ev_abs, ev_int, ev_intB, ev_lenL, ev_lenT, ev_tupL, ev_eqI, ev_neI, C.pure_bind, C.raise_bind, C.no_bind]
  congr 2
  rw [decide_eq_decide, Rat.lt_iff]
end
end K35
set_option Elab.async false
set_option linter.all false
set_option maxRecDepth 100000
set_option maxHeartbeats 1000000
namespace K35
open PySem PySem.Spec L2 Fw
theorem ev_chain {g g' : D → D → Option Bool} {a b c : D} : chain g g' (pure a) (pure b) (pure c) = (lift (g a b) >>= fun t => if t then lift (g' b c) else pure false) := rfl
theorem lc_go {f : D → C D} {g : D → D} : ∀ ds : List D, (∀ d ∈ ds, f d = pure (g d)) → lcGo .nm yesC (ap1 f) ds = pure (ds.map g)
  | [], _ => rfl
  | d :: ds, h => by
    have e := h d List.mem_cons_self
    have ih := lc_go ds fun x hx => h x (List.mem_cons_of_mem _ hx)
    have e2 : calm (f d) = pure (g d) := by rw [e]; rfl
    show (calm (f d) >>= fun y => lcGo .nm yesC (ap1 f) ds >>= fun ys => pure (y :: ys)) = _
    rw [e2, C.pure_bind, ih]; rfl
theorem lc_map {f : D → C D} {g : D → D} {ds : List D} (hl : ds.length < 2 ^ 24) (h : ∀ d ∈ ds, f d = pure (g d)) : lcC (pure ds) .nm yesC (ap1 f) = pure (ds.map g) := by
  show (if ds.length < 2 ^ 24 then _ else _) = _
  rw [if_pos hl]; exact lc_go ds h
theorem bools_trues {g : D → D} {ds : List D} (h : ∀ d ∈ ds, g d = .bl true) : bAll [.lst (ds.map g)] = some (.bl true) := by
  have e : ds.map g = ds.map fun _ => D.bl true := List.map_congr_left h
  show (D.bools (ds.map g)).map _ = _
  rw [e]
  clear e h
  induction ds with
  | nil => rfl
  | cons d ds ih =>
    have : ∃ bs, D.bools (ds.map fun _ => D.bl true) = some bs ∧ bs.all id = true := by
      cases q : D.bools (ds.map fun _ => D.bl true) with
      | none => rw [q] at ih; cases ih
      | some bs => rw [q] at ih; exact ⟨bs, rfl, by simpa using ih⟩
    obtain ⟨bs, q, hb⟩ := this
    show ((D.bools (ds.map fun _ => D.bl true)).map fun bs => true :: bs).map _ = _
    rw [q]
    show some (D.bl ((true :: bs).all id)) = _
    rw [List.all_cons, hb]; rfl
/-- all([f(x) for x in ds]), where each is true -/
theorem all_true {f : D → C D} {ds : List D} (hl : ds.length < 2 ^ 24) (h : ∀ d ∈ ds, f d = pure (.bl true)) : callO bAll [asL (lcC (pure ds) .nm yesC (ap1 f))] = pure (.bl true) := by
  rw [lc_map (g := fun _ => .bl true) hl h]
  simp only [ev_bin, ev_cmp, ev_un, ev_valB, ev_asB, ev_andVt, ev_andVf, ev_orVt, ev_orVf, ev_notV, ev_andTt, ev_andTf, ev_orTt, ev_orTf, ev_notT, ev_ifEt, ev_ifEf, ev_args0, ev_args1, ev_tupC, ev_lstC, ev_dicC, ev_callM, ev_callK, ev_callO, ev_asL, ev_lift, ev_ap1, ev_ap2, ev_ap3, ev_isi, ev_add, ev_sub, ev_neg, ev_lt, ev_le, ev_gt, ev_ge, ev_isNon, ev_isntNon, ev_t0, ev_t1, ev_l0, ev_l1, ev_abs, ev_int, ev_intB, ev_lenL, ev_lenT, ev_tupL, ev_eqI, ev_neI, C.pure_bind, C.raise_bind, C.no_bind]
  rw [bools_trues fun _ _ => rfl]; rfl
theorem iterT_tup {ds : List D} : iterT (pure (.tup ds)) = pure ds := rfl
theorem iterL_lst {ds : List D} : iterL (pure (.lst ds)) = pure ds := rfl
theorem whole_eq (i : Int) : m_is_whole [.int i] = pure (.bl true) := rfl
theorem isratio_eq (x : Rat) : m_is_ratio [F x] = pure (.bl true) := by
  show b_is_ratio _ = _
  unfold b_is_ratio F
  rw [iterT_tup, all_true (ds := [_, _]) (show 2 < 2 ^ 24 by decide) (fun d hd => ?_)]
  · simp only [ev_bin, ev_cmp, ev_un, ev_valB, ev_asB, ev_andVt, ev_andVf, ev_orVt, ev_orVf, ev_notV, ev_andTt, ev_andTf, ev_orTt, ev_orTf, ev_notT, ev_ifEt, ev_ifEf, ev_args0, ev_args1, ev_tupC, ev_lstC, ev_dicC, ev_callM, ev_callK, ev_callO, ev_asL, ev_lift, ev_ap1, ev_ap2, ev_ap3, ev_isi, ev_add, ev_sub, ev_neg, ev_lt, ev_le, ev_gt, ev_ge, ev_isNon, ev_isntNon, ev_t0, ev_t1, ev_l0, ev_l1, ev_abs, ev_int, ev_intB, ev_lenL, ev_lenT, ev_tupL, ev_eqI, ev_neI, C.pure_bind, C.raise_bind, C.no_bind]
    rw [show (Ty.tup.isi (.tup [.int x.num, .int x.den])) = some true from rfl]
    simp only [ev_bin, ev_cmp, ev_un, ev_valB, ev_asB, ev_andVt, ev_andVf, ev_orVt, ev_orVf, ev_notV, ev_andTt, ev_andTf, ev_orTt, ev_orTf, ev_notT, ev_ifEt, ev_ifEf, ev_args0, ev_args1, ev_tupC, ev_lstC, ev_dicC, ev_callM, ev_callK, ev_callO, ev_asL, ev_lift, ev_ap1, ev_ap2, ev_ap3, ev_isi, ev_add, ev_sub, ev_neg, ev_lt, ev_le, ev_gt, ev_ge, ev_isNon, ev_isntNon, ev_t0, ev_t1, ev_l0, ev_l1, ev_abs, ev_int, ev_intB, ev_lenL, ev_lenT, ev_tupL, ev_eqI, ev_neI, C.pure_bind, C.raise_bind, C.no_bind]
    have hd := x.den_nz
    rw [common_eq]
    simp only [ev_bin, ev_cmp, ev_un, ev_valB, ev_asB, ev_andVt, ev_andVf, ev_orVt, ev_orVf, ev_notV, ev_andTt, ev_andTf, ev_orTt, ev_orTf, ev_notT, ev_ifEt, ev_ifEf, ev_args0, ev_args1, ev_tupC, ev_lstC, ev_dicC, ev_callM, ev_callK, ev_callO, ev_asL, ev_lift, ev_ap1, ev_ap2, ev_ap3, ev_isi, ev_add, ev_sub, ev_neg, ev_lt, ev_le, ev_gt, ev_ge, ev_isNon, ev_isntNon, ev_t0, ev_t1, ev_l0, ev_l1, ev_abs, ev_int, ev_intB, ev_lenL, ev_lenT, ev_tupL, ev_eqI, ev_neI, C.pure_bind, C.raise_bind, C.no_bind]
    have e1 : decide ((1 : Int) ≤ x.den) = true := decide_eq_true (by omega)
    have e2 : decide (((Nat.gcd x.num.natAbs (x.den : Int).natAbs : Nat) : Int) = 1) = true := decide_eq_true (by
      have := x.reduced
      rw [Int.natAbs_natCast]
      exact congrArg Int.ofNat this)
    rw [e1, e2]
    rfl
  · simp only [List.mem_cons, List.not_mem_nil, or_false] at hd
    rcases hd with rfl | rfl <;> (simp only [ev_bin, ev_cmp, ev_un, ev_valB, ev_asB, ev_andVt, ev_andVf, ev_orVt, ev_orVf, ev_notV, ev_andTt, ev_andTf, ev_orTt, ev_orTf, ev_notT, ev_ifEt, ev_ifEf, ev_args0, ev_args1, ev_tupC, ev_lstC, ev_dicC, ev_callM, ev_callK, ev_callO, ev_asL, ev_lift, ev_ap1, ev_ap2, ev_ap3, ev_isi, ev_add, ev_sub, ev_neg, ev_lt, ev_le, ev_gt, ev_ge, ev_isNon, ev_isntNon, ev_t0, ev_t1, ev_l0, ev_l1, ev_abs, ev_int, ev_intB, ev_lenL, ev_lenT, ev_tupL, ev_eqI, ev_neI, C.pure_bind, C.raise_bind, C.no_bind]; exact whole_eq _)
theorem pos_num {x : Rat} : 0 < x ↔ 0 < x.num := by
  rw [Rat.lt_iff]; simp
theorem issize_eq (x : Rat) : m_is_size [F x] = pure (.bl (decide (0 < x))) := by
  show b_is_size _ = _
  unfold b_is_size
  simp only [ev_bin, ev_cmp, ev_un, ev_valB, ev_asB, ev_andVt, ev_andVf, ev_orVt, ev_orVf, ev_notV, ev_andTt, ev_andTf, ev_orTt, ev_orTf, ev_notT, ev_ifEt, ev_ifEf, ev_args0, ev_args1, ev_tupC, ev_lstC, ev_dicC, ev_callM, ev_callK, ev_callO, ev_asL, ev_lift, ev_ap1, ev_ap2, ev_ap3, ev_isi, ev_add, ev_sub, ev_neg, ev_lt, ev_le, ev_gt, ev_ge, ev_isNon, ev_isntNon, ev_t0, ev_t1, ev_l0, ev_l1, ev_abs, ev_int, ev_intB, ev_lenL, ev_lenT, ev_tupL, ev_eqI, ev_neI, C.pure_bind, C.raise_bind, C.no_bind]
  rw [isratio_eq]
  unfold F
  simp only [ev_bin, ev_cmp, ev_un, ev_valB, ev_asB, ev_andVt, ev_andVf, ev_orVt, ev_orVf, ev_notV, ev_andTt, ev_andTf, ev_orTt, ev_orTf, ev_notT, ev_ifEt, ev_ifEf, ev_args0, ev_args1, ev_tupC, ev_lstC, ev_dicC, ev_callM, ev_callK, ev_callO, ev_asL, ev_lift, ev_ap1, ev_ap2, ev_ap3, ev_isi, ev_add, ev_sub, ev_neg, ev_lt, ev_le, ev_gt, ev_ge, ev_isNon, ev_isntNon, ev_t0, ev_t1, ev_l0, ev_l1, ev_abs, ev_int, ev_intB, ev_lenL, ev_lenT, ev_tupL, ev_eqI, ev_neI, C.pure_bind, C.raise_bind, C.no_bind]
  congr 2
  rw [decide_eq_decide, pos_num]
theorem istuple_eq (xs : List D) (lo hi : Int) : m_is_tuple [.tup xs, .int lo, .int hi] = pure (.bl (decide (lo ≤ xs.length) && decide ((xs.length : Int) ≤ hi))) := by
  show b_is_tuple _ _ _ = _
  unfold b_is_tuple
  simp only [ev_bin, ev_cmp, ev_un, ev_valB, ev_asB, ev_andVt, ev_andVf, ev_orVt, ev_orVf, ev_notV, ev_andTt, ev_andTf, ev_orTt, ev_orTf, ev_notT, ev_ifEt, ev_ifEf, ev_args0, ev_args1, ev_tupC, ev_lstC, ev_dicC, ev_callM, ev_callK, ev_callO, ev_asL, ev_lift, ev_ap1, ev_ap2, ev_ap3, ev_isi, ev_add, ev_sub, ev_neg, ev_lt, ev_le, ev_gt, ev_ge, ev_isNon, ev_isntNon, ev_t0, ev_t1, ev_l0, ev_l1, ev_abs, ev_int, ev_intB, ev_lenL, ev_lenT, ev_tupL, ev_eqI, ev_neI, C.pure_bind, C.raise_bind, C.no_bind]
  rw [show (Ty.tup.isi (.tup xs)) = some true from rfl, ev_chain]
  simp only [ev_bin, ev_cmp, ev_un, ev_valB, ev_asB, ev_andVt, ev_andVf, ev_orVt, ev_orVf, ev_notV, ev_andTt, ev_andTf, ev_orTt, ev_orTf, ev_notT, ev_ifEt, ev_ifEf, ev_args0, ev_args1, ev_tupC, ev_lstC, ev_dicC, ev_callM, ev_callK, ev_callO, ev_asL, ev_lift, ev_ap1, ev_ap2, ev_ap3, ev_isi, ev_add, ev_sub, ev_neg, ev_lt, ev_le, ev_gt, ev_ge, ev_isNon, ev_isntNon, ev_t0, ev_t1, ev_l0, ev_l1, ev_abs, ev_int, ev_intB, ev_lenL, ev_lenT, ev_tupL, ev_eqI, ev_neI, C.pure_bind, C.raise_bind, C.no_bind]
  by_cases h : lo ≤ xs.length
  · rw [decide_eq_true h]; rfl
  · rw [decide_eq_false h]; rfl
/-- two fractions -/
abbrev RR := Rat × Rat
def P2 (u : RR) : D := .tup [F u.1, F u.2]
theorem ispair_eq (u : RR) : m_is_pair_of_ratios [P2 u] = pure (.bl true) := by
  show b_is_pair_of_ratios _ = _
  unfold b_is_pair_of_ratios P2
  rw [iterT_tup, all_true (ds := [_, _]) (show 2 < 2 ^ 24 by decide) (fun d hd => ?_)]
  · simp only [ev_bin, ev_cmp, ev_un, ev_valB, ev_asB, ev_andVt, ev_andVf, ev_orVt, ev_orVf, ev_notV, ev_andTt, ev_andTf, ev_orTt, ev_orTf, ev_notT, ev_ifEt, ev_ifEf, ev_args0, ev_args1, ev_tupC, ev_lstC, ev_dicC, ev_callM, ev_callK, ev_callO, ev_asL, ev_lift, ev_ap1, ev_ap2, ev_ap3, ev_isi, ev_add, ev_sub, ev_neg, ev_lt, ev_le, ev_gt, ev_ge, ev_isNon, ev_isntNon, ev_t0, ev_t1, ev_l0, ev_l1, ev_abs, ev_int, ev_intB, ev_lenL, ev_lenT, ev_tupL, ev_eqI, ev_neI, C.pure_bind, C.raise_bind, C.no_bind]
    rw [istuple_eq]; rfl
  · simp only [List.mem_cons, List.not_mem_nil, or_false] at hd
    rcases hd with rfl | rfl <;> (simp only [ev_bin, ev_cmp, ev_un, ev_valB, ev_asB, ev_andVt, ev_andVf, ev_orVt, ev_orVf, ev_notV, ev_andTt, ev_andTf, ev_orTt, ev_orTf, ev_notT, ev_ifEt, ev_ifEf, ev_args0, ev_args1, ev_tupC, ev_lstC, ev_dicC, ev_callM, ev_callK, ev_callO, ev_asL, ev_lift, ev_ap1, ev_ap2, ev_ap3, ev_isi, ev_add, ev_sub, ev_neg, ev_lt, ev_le, ev_gt, ev_ge, ev_isNon, ev_isntNon, ev_t0, ev_t1, ev_l0, ev_l1, ev_abs, ev_int, ev_intB, ev_lenL, ev_lenT, ev_tupL, ev_eqI, ev_neI, C.pure_bind, C.raise_bind, C.no_bind]; exact isratio_eq _)
theorem check_eq {m : Rat} (h : 0 < m) : m_check_mass [F m] = pure .non := by
  show b_check_mass _ = _
  unfold b_check_mass
  simp only [ev_bin, ev_cmp, ev_un, ev_valB, ev_asB, ev_andVt, ev_andVf, ev_orVt, ev_orVf, ev_notV, ev_andTt, ev_andTf, ev_orTt, ev_orTf, ev_notT, ev_ifEt, ev_ifEf, ev_args0, ev_args1, ev_tupC, ev_lstC, ev_dicC, ev_callM, ev_callK, ev_callO, ev_asL, ev_lift, ev_ap1, ev_ap2, ev_ap3, ev_isi, ev_add, ev_sub, ev_neg, ev_lt, ev_le, ev_gt, ev_ge, ev_isNon, ev_isntNon, ev_t0, ev_t1, ev_l0, ev_l1, ev_abs, ev_int, ev_intB, ev_lenL, ev_lenT, ev_tupL, ev_eqI, ev_neI, C.pure_bind, C.raise_bind, C.no_bind]
  rw [issize_eq, decide_eq_true h]; rfl
theorem eqF (x y : Rat) : D.eq (F x) (F y) = some (decide (x = y)) := by
  have e : D.eq (F x) (F y) = some (x.num == y.num && ((x.den : Int) == y.den && true)) := rfl
  rw [e]
  congr 1
  rw [Bool.and_true]
  by_cases h : x = y
  · subst h; simp
  · rw [decide_eq_false h]
    cases q : (x.num == y.num && ((x.den : Int) == y.den)) with
    | false => rfl
    | true =>
      rw [Bool.and_eq_true, beq_iff_eq, beq_iff_eq] at q
      exact absurd (Rat.ext q.1 (by omega)) h
theorem eqP (u v : RR) : D.eq (P2 u) (P2 v) = some (decide (u = v)) := by
  have e : D.eq (P2 u) (P2 v) = some ((u.1.num == v.1.num && ((u.1.den : Int) == v.1.den && true)) && ((u.2.num == v.2.num && ((u.2.den : Int) == v.2.den && true)) && true)) := rfl
  have e1 : D.eq (F u.1) (F v.1) = some (u.1.num == v.1.num && ((u.1.den : Int) == v.1.den && true)) := rfl
  have e2 : D.eq (F u.2) (F v.2) = some (u.2.num == v.2.num && ((u.2.den : Int) == v.2.den && true)) := rfl
  rw [eqF] at e1 e2
  rw [e, ← Option.some.inj e1, ← Option.some.inj e2, Bool.and_true, ← Bool.decide_and]
  congr 1
  rw [decide_eq_decide]
  obtain ⟨a, b⟩ := u; obtain ⟨c, d⟩ := v
  simp
/-- the mass told of a clack, as both sides have it -/
def dueM (m : Rat) (u v : RR) : Rat := m * (u.1 - v.1) / (v.2 - u.2)
def Told (m : Rat) (u v : RR) : Prop := u.2 < u.1 ∧ v.2 - v.1 = u.1 - u.2 ∧ u.2 < v.2 ∧ 0 < dueM m u v
instance (m : Rat) (u v : RR) : Decidable (Told m u v) := by unfold Told; infer_instance
def dueR (m : Rat) (u v : RR) : Option Rat := if Told m u v then some (dueM m u v) else none
/-- both speeds of so many bits -/
def BdP (n : Nat) (u : RR) : Prop := Bd n u.1 ∧ Bd n u.2
theorem ne_of_lt_sub {a b : Rat} (h : a < b) : b - a ≠ 0 := by grind
theorem dueR_some {m : Rat} {u v : RR} (h : Told m u v) : dueR m u v = some (dueM m u v) := if_pos h
theorem dueR_none {m : Rat} {u v : RR} (h : ¬ Told m u v) : dueR m u v = none := if_neg h
def toldC (u v : RR) : Option Rat → C D
  | some M => pure (F M)
  | none => C.raise "NoClack" (.tup [P2 u, P2 v])
theorem tg2 {a b : D} : Tg.app (.tp [.nm, .nm]) (.tup [a, b]) = some [a, b] := rfl
theorem other_eq {m : Rat} {u v : RR} {j n n2 : Nat} (hm : Bd j m) (hu : BdP n u) (hv : BdP n2 v) (h : j + 2 * (n + n2 + 1) ≤ 8000) : m_other_mass [F m, P2 u, P2 v] = toldC u v (dueR m u v) := by
  obtain ⟨u1, u2⟩ := u; obtain ⟨v1, v2⟩ := v
  obtain ⟨hu1, hu2⟩ := hu; obtain ⟨hv1, hv2⟩ := hv
  dsimp only at hu1 hu2 hv1 hv2
  show b_other_mass _ _ _ = _
  unfold b_other_mass P2
  dsimp only
  simp only [ev_bin, ev_cmp, ev_un, ev_valB, ev_asB, ev_andVt, ev_andVf, ev_orVt, ev_orVf, ev_notV, ev_andTt, ev_andTf, ev_orTt, ev_orTf, ev_notT, ev_ifEt, ev_ifEf, ev_args0, ev_args1, ev_tupC, ev_lstC, ev_dicC, ev_callM, ev_callK, ev_callO, ev_asL, ev_lift, ev_ap1, ev_ap2, ev_ap3, ev_isi, ev_add, ev_sub, ev_neg, ev_lt, ev_le, ev_gt, ev_ge, ev_isNon, ev_isntNon, ev_t0, ev_t1, ev_l0, ev_l1, ev_abs, ev_int, ev_intB, ev_lenL, ev_lenT, ev_tupL, ev_eqI, ev_neI, C.pure_bind, C.raise_bind, C.no_bind]
  rw [tg2]
  simp only [ev_bin, ev_cmp, ev_un, ev_valB, ev_asB, ev_andVt, ev_andVf, ev_orVt, ev_orVf, ev_notV, ev_andTt, ev_andTf, ev_orTt, ev_orTf, ev_notT, ev_ifEt, ev_ifEf, ev_args0, ev_args1, ev_tupC, ev_lstC, ev_dicC, ev_callM, ev_callK, ev_callO, ev_asL, ev_lift, ev_ap1, ev_ap2, ev_ap3, ev_isi, ev_add, ev_sub, ev_neg, ev_lt, ev_le, ev_gt, ev_ge, ev_isNon, ev_isntNon, ev_t0, ev_t1, ev_l0, ev_l1, ev_abs, ev_int, ev_intB, ev_lenL, ev_lenT, ev_tupL, ev_eqI, ev_neI, C.pure_bind, C.raise_bind, C.no_bind]
  rw [below_eq hu2 hu1 (by omega)]
  simp only [ev_bin, ev_cmp, ev_un, ev_valB, ev_asB, ev_andVt, ev_andVf, ev_orVt, ev_orVf, ev_notV, ev_andTt, ev_andTf, ev_orTt, ev_orTf, ev_notT, ev_ifEt, ev_ifEf, ev_args0, ev_args1, ev_tupC, ev_lstC, ev_dicC, ev_callM, ev_callK, ev_callO, ev_asL, ev_lift, ev_ap1, ev_ap2, ev_ap3, ev_isi, ev_add, ev_sub, ev_neg, ev_lt, ev_le, ev_gt, ev_ge, ev_isNon, ev_isntNon, ev_t0, ev_t1, ev_l0, ev_l1, ev_abs, ev_int, ev_intB, ev_lenL, ev_lenT, ev_tupL, ev_eqI, ev_neI, C.pure_bind, C.raise_bind, C.no_bind]
  by_cases h1 : u2 < u1
  · rw [decide_eq_true h1]
    simp only [ev_bin, ev_cmp, ev_un, ev_valB, ev_asB, ev_andVt, ev_andVf, ev_orVt, ev_orVf, ev_notV, ev_andTt, ev_andTf, ev_orTt, ev_orTf, ev_notT, ev_ifEt, ev_ifEf, ev_args0, ev_args1, ev_tupC, ev_lstC, ev_dicC, ev_callM, ev_callK, ev_callO, ev_asL, ev_lift, ev_ap1, ev_ap2, ev_ap3, ev_isi, ev_add, ev_sub, ev_neg, ev_lt, ev_le, ev_gt, ev_ge, ev_isNon, ev_isntNon, ev_t0, ev_t1, ev_l0, ev_l1, ev_abs, ev_int, ev_intB, ev_lenL, ev_lenT, ev_tupL, ev_eqI, ev_neI, C.pure_bind, C.raise_bind, C.no_bind]
    rw [less_eq hv2 hv1 (by omega), less_eq hu1 hu2 (by omega)]
    simp only [ev_bin, ev_cmp, ev_un, ev_valB, ev_asB, ev_andVt, ev_andVf, ev_orVt, ev_orVf, ev_notV, ev_andTt, ev_andTf, ev_orTt, ev_orTf, ev_notT, ev_ifEt, ev_ifEf, ev_args0, ev_args1, ev_tupC, ev_lstC, ev_dicC, ev_callM, ev_callK, ev_callO, ev_asL, ev_lift, ev_ap1, ev_ap2, ev_ap3, ev_isi, ev_add, ev_sub, ev_neg, ev_lt, ev_le, ev_gt, ev_ge, ev_isNon, ev_isntNon, ev_t0, ev_t1, ev_l0, ev_l1, ev_abs, ev_int, ev_intB, ev_lenL, ev_lenT, ev_tupL, ev_eqI, ev_neI, C.pure_bind, C.raise_bind, C.no_bind]
    rw [eqF]
    simp only [ev_bin, ev_cmp, ev_un, ev_valB, ev_asB, ev_andVt, ev_andVf, ev_orVt, ev_orVf, ev_notV, ev_andTt, ev_andTf, ev_orTt, ev_orTf, ev_notT, ev_ifEt, ev_ifEf, ev_args0, ev_args1, ev_tupC, ev_lstC, ev_dicC, ev_callM, ev_callK, ev_callO, ev_asL, ev_lift, ev_ap1, ev_ap2, ev_ap3, ev_isi, ev_add, ev_sub, ev_neg, ev_lt, ev_le, ev_gt, ev_ge, ev_isNon, ev_isntNon, ev_t0, ev_t1, ev_l0, ev_l1, ev_abs, ev_int, ev_intB, ev_lenL, ev_lenT, ev_tupL, ev_eqI, ev_neI, C.pure_bind, C.raise_bind, C.no_bind]
    by_cases h2 : v2 - v1 = u1 - u2
    · rw [decide_eq_true h2]
      simp only [ev_bin, ev_cmp, ev_un, ev_valB, ev_asB, ev_andVt, ev_andVf, ev_orVt, ev_orVf, ev_notV, ev_andTt, ev_andTf, ev_orTt, ev_orTf, ev_notT, ev_ifEt, ev_ifEf, ev_args0, ev_args1, ev_tupC, ev_lstC, ev_dicC, ev_callM, ev_callK, ev_callO, ev_asL, ev_lift, ev_ap1, ev_ap2, ev_ap3, ev_isi, ev_add, ev_sub, ev_neg, ev_lt, ev_le, ev_gt, ev_ge, ev_isNon, ev_isntNon, ev_t0, ev_t1, ev_l0, ev_l1, ev_abs, ev_int, ev_intB, ev_lenL, ev_lenT, ev_tupL, ev_eqI, ev_neI, C.pure_bind, C.raise_bind, C.no_bind]
      rw [below_eq hu2 hv2 (by omega)]
      simp only [ev_bin, ev_cmp, ev_un, ev_valB, ev_asB, ev_andVt, ev_andVf, ev_orVt, ev_orVf, ev_notV, ev_andTt, ev_andTf, ev_orTt, ev_orTf, ev_notT, ev_ifEt, ev_ifEf, ev_args0, ev_args1, ev_tupC, ev_lstC, ev_dicC, ev_callM, ev_callK, ev_callO, ev_asL, ev_lift, ev_ap1, ev_ap2, ev_ap3, ev_isi, ev_add, ev_sub, ev_neg, ev_lt, ev_le, ev_gt, ev_ge, ev_isNon, ev_isntNon, ev_t0, ev_t1, ev_l0, ev_l1, ev_abs, ev_int, ev_intB, ev_lenL, ev_lenT, ev_tupL, ev_eqI, ev_neI, C.pure_bind, C.raise_bind, C.no_bind]
      by_cases h3 : u2 < v2
      · rw [decide_eq_true h3]
        simp only [ev_bin, ev_cmp, ev_un, ev_valB, ev_asB, ev_andVt, ev_andVf, ev_orVt, ev_orVf, ev_notV, ev_andTt, ev_andTf, ev_orTt, ev_orTf, ev_notT, ev_ifEt, ev_ifEf, ev_args0, ev_args1, ev_tupC, ev_lstC, ev_dicC, ev_callM, ev_callK, ev_callO, ev_asL, ev_lift, ev_ap1, ev_ap2, ev_ap3, ev_isi, ev_add, ev_sub, ev_neg, ev_lt, ev_le, ev_gt, ev_ge, ev_isNon, ev_isntNon, ev_t0, ev_t1, ev_l0, ev_l1, ev_abs, ev_int, ev_intB, ev_lenL, ev_lenT, ev_tupL, ev_eqI, ev_neI, C.pure_bind, C.raise_bind, C.no_bind]
        rw [less_eq hu1 hv1 (by omega)]
        simp only [ev_bin, ev_cmp, ev_un, ev_valB, ev_asB, ev_andVt, ev_andVf, ev_orVt, ev_orVf, ev_notV, ev_andTt, ev_andTf, ev_orTt, ev_orTf, ev_notT, ev_ifEt, ev_ifEf, ev_args0, ev_args1, ev_tupC, ev_lstC, ev_dicC, ev_callM, ev_callK, ev_callO, ev_asL, ev_lift, ev_ap1, ev_ap2, ev_ap3, ev_isi, ev_add, ev_sub, ev_neg, ev_lt, ev_le, ev_gt, ev_ge, ev_isNon, ev_isntNon, ev_t0, ev_t1, ev_l0, ev_l1, ev_abs, ev_int, ev_intB, ev_lenL, ev_lenT, ev_tupL, ev_eqI, ev_neI, C.pure_bind, C.raise_bind, C.no_bind]
        rw [times_eq hm (hu1.sub hv1) (by omega), less_eq hv2 hu2 (by omega)]
        simp only [ev_bin, ev_cmp, ev_un, ev_valB, ev_asB, ev_andVt, ev_andVf, ev_orVt, ev_orVf, ev_notV, ev_andTt, ev_andTf, ev_orTt, ev_orTf, ev_notT, ev_ifEt, ev_ifEf, ev_args0, ev_args1, ev_tupC, ev_lstC, ev_dicC, ev_callM, ev_callK, ev_callO, ev_asL, ev_lift, ev_ap1, ev_ap2, ev_ap3, ev_isi, ev_add, ev_sub, ev_neg, ev_lt, ev_le, ev_gt, ev_ge, ev_isNon, ev_isntNon, ev_t0, ev_t1, ev_l0, ev_l1, ev_abs, ev_int, ev_intB, ev_lenL, ev_lenT, ev_tupL, ev_eqI, ev_neI, C.pure_bind, C.raise_bind, C.no_bind]
        rw [over_eq (hm.mul (hu1.sub hv1)) (hv2.sub hu2) (by omega) (ne_of_lt_sub h3)]
        simp only [ev_bin, ev_cmp, ev_un, ev_valB, ev_asB, ev_andVt, ev_andVf, ev_orVt, ev_orVf, ev_notV, ev_andTt, ev_andTf, ev_orTt, ev_orTf, ev_notT, ev_ifEt, ev_ifEf, ev_args0, ev_args1, ev_tupC, ev_lstC, ev_dicC, ev_callM, ev_callK, ev_callO, ev_asL, ev_lift, ev_ap1, ev_ap2, ev_ap3, ev_isi, ev_add, ev_sub, ev_neg, ev_lt, ev_le, ev_gt, ev_ge, ev_isNon, ev_isntNon, ev_t0, ev_t1, ev_l0, ev_l1, ev_abs, ev_int, ev_intB, ev_lenL, ev_lenT, ev_tupL, ev_eqI, ev_neI, C.pure_bind, C.raise_bind, C.no_bind]
        rw [issize_eq]
        simp only [ev_bin, ev_cmp, ev_un, ev_valB, ev_asB, ev_andVt, ev_andVf, ev_orVt, ev_orVf, ev_notV, ev_andTt, ev_andTf, ev_orTt, ev_orTf, ev_notT, ev_ifEt, ev_ifEf, ev_args0, ev_args1, ev_tupC, ev_lstC, ev_dicC, ev_callM, ev_callK, ev_callO, ev_asL, ev_lift, ev_ap1, ev_ap2, ev_ap3, ev_isi, ev_add, ev_sub, ev_neg, ev_lt, ev_le, ev_gt, ev_ge, ev_isNon, ev_isntNon, ev_t0, ev_t1, ev_l0, ev_l1, ev_abs, ev_int, ev_intB, ev_lenL, ev_lenT, ev_tupL, ev_eqI, ev_neI, C.pure_bind, C.raise_bind, C.no_bind]
        by_cases h4 : 0 < m * (u1 - v1) / (v2 - u2)
        · rw [decide_eq_true h4, dueR_some (u := (u1, u2)) (v := (v1, v2)) ⟨h1, h2, h3, h4⟩]; rfl
        · rw [decide_eq_false h4, dueR_none (u := (u1, u2)) (v := (v1, v2)) (fun z => h4 z.2.2.2)]; rfl
      · rw [decide_eq_false h3, dueR_none (u := (u1, u2)) (v := (v1, v2)) (fun z => h3 z.2.2.1)]; rfl
    · rw [decide_eq_false h2, dueR_none (u := (u1, u2)) (v := (v1, v2)) (fun z => h2 z.2.1)]; rfl
  · rw [decide_eq_false h1, dueR_none (u := (u1, u2)) (v := (v1, v2)) (fun z => h1 z.1)]; rfl
theorem told_eq {m : Rat} {u v : RR} {j n n2 : Nat} (h0 : 0 < m) (hm : Bd j m) (hu : BdP n u) (hv : BdP n2 v) (h : j + 2 * (n + n2 + 1) ≤ 8000) : m_mass_told [F m, P2 u, P2 v] = toldC u v (dueR m u v) := by
  show b_mass_told _ _ _ = _
  unfold b_mass_told
  simp only [ev_bin, ev_cmp, ev_un, ev_valB, ev_asB, ev_andVt, ev_andVf, ev_orVt, ev_orVf, ev_notV, ev_andTt, ev_andTf, ev_orTt, ev_orTf, ev_notT, ev_ifEt, ev_ifEf, ev_args0, ev_args1, ev_tupC, ev_lstC, ev_dicC, ev_callM, ev_callK, ev_callO, ev_asL, ev_lift, ev_ap1, ev_ap2, ev_ap3, ev_isi, ev_add, ev_sub, ev_neg, ev_lt, ev_le, ev_gt, ev_ge, ev_isNon, ev_isntNon, ev_t0, ev_t1, ev_l0, ev_l1, ev_abs, ev_int, ev_intB, ev_lenL, ev_lenT, ev_tupL, ev_eqI, ev_neI, C.pure_bind, C.raise_bind, C.no_bind]
  rw [check_eq h0]
  simp only [ev_bin, ev_cmp, ev_un, ev_valB, ev_asB, ev_andVt, ev_andVf, ev_orVt, ev_orVf, ev_notV, ev_andTt, ev_andTf, ev_orTt, ev_orTf, ev_notT, ev_ifEt, ev_ifEf, ev_args0, ev_args1, ev_tupC, ev_lstC, ev_dicC, ev_callM, ev_callK, ev_callO, ev_asL, ev_lift, ev_ap1, ev_ap2, ev_ap3, ev_isi, ev_add, ev_sub, ev_neg, ev_lt, ev_le, ev_gt, ev_ge, ev_isNon, ev_isntNon, ev_t0, ev_t1, ev_l0, ev_l1, ev_abs, ev_int, ev_intB, ev_lenL, ev_lenT, ev_tupL, ev_eqI, ev_neI, C.pure_bind, C.raise_bind, C.no_bind]
  rw [iterT_tup]
  simp only [ev_bin, ev_cmp, ev_un, ev_valB, ev_asB, ev_andVt, ev_andVf, ev_orVt, ev_orVf, ev_notV, ev_andTt, ev_andTf, ev_orTt, ev_orTf, ev_notT, ev_ifEt, ev_ifEf, ev_args0, ev_args1, ev_tupC, ev_lstC, ev_dicC, ev_callM, ev_callK, ev_callO, ev_asL, ev_lift, ev_ap1, ev_ap2, ev_ap3, ev_isi, ev_add, ev_sub, ev_neg, ev_lt, ev_le, ev_gt, ev_ge, ev_isNon, ev_isntNon, ev_t0, ev_t1, ev_l0, ev_l1, ev_abs, ev_int, ev_intB, ev_lenL, ev_lenT, ev_tupL, ev_eqI, ev_neI, C.pure_bind, C.raise_bind, C.no_bind]
  have st : ∀ w : RR, (ap1 fun pair4 => ifE (notT (asB (callM m_is_pair_of_ratios [pure pair4]))) ((pure pair4 >>= fun d => (C.raise "BadPair" d : C D)) >>= fun d => pure (Sum.inl d)) (pure (Sum.inr () : D ⊕ Unit))) [P2 w] = pure (.inr ()) := fun w => by
    simp only [ev_bin, ev_cmp, ev_un, ev_valB, ev_asB, ev_andVt, ev_andVf, ev_orVt, ev_orVf, ev_notV, ev_andTt, ev_andTf, ev_orTt, ev_orTf, ev_notT, ev_ifEt, ev_ifEf, ev_args0, ev_args1, ev_tupC, ev_lstC, ev_dicC, ev_callM, ev_callK, ev_callO, ev_asL, ev_lift, ev_ap1, ev_ap2, ev_ap3, ev_isi, ev_add, ev_sub, ev_neg, ev_lt, ev_le, ev_gt, ev_ge, ev_isNon, ev_isntNon, ev_t0, ev_t1, ev_l0, ev_l1, ev_abs, ev_int, ev_intB, ev_lenL, ev_lenT, ev_tupL, ev_eqI, ev_neI, C.pure_bind, C.raise_bind, C.no_bind]
    rw [ispair_eq]; rfl
  have fr : forR (S := Unit) .nm (fun _ => ap1 fun pair4 => ifE (notT (asB (callM m_is_pair_of_ratios [pure pair4]))) ((pure pair4 >>= fun d => (C.raise "BadPair" d : C D)) >>= fun d => pure (Sum.inl d)) (pure (Sum.inr ()))) [P2 u, P2 v] () = pure (.inr ()) := by
    show ((ap1 fun pair4 => ifE (notT (asB (callM m_is_pair_of_ratios [pure pair4]))) ((pure pair4 >>= fun d => (C.raise "BadPair" d : C D)) >>= fun d => pure (Sum.inl d)) (pure (Sum.inr () : D ⊕ Unit))) [P2 u] >>= _) = _
    rw [st u, C.pure_bind]
    show ((ap1 fun pair4 => ifE (notT (asB (callM m_is_pair_of_ratios [pure pair4]))) ((pure pair4 >>= fun d => (C.raise "BadPair" d : C D)) >>= fun d => pure (Sum.inl d)) (pure (Sum.inr () : D ⊕ Unit))) [P2 v] >>= _) = _
    rw [st v, C.pure_bind]; rfl
  simp only [ev_bin, ev_cmp, ev_un, ev_valB, ev_asB, ev_andVt, ev_andVf, ev_orVt, ev_orVf, ev_notV, ev_andTt, ev_andTf, ev_orTt, ev_orTf, ev_notT, ev_ifEt, ev_ifEf, ev_args0, ev_args1, ev_tupC, ev_lstC, ev_dicC, ev_callM, ev_callK, ev_callO, ev_asL, ev_lift, ev_ap1, ev_ap2, ev_ap3, ev_isi, ev_add, ev_sub, ev_neg, ev_lt, ev_le, ev_gt, ev_ge, ev_isNon, ev_isntNon, ev_t0, ev_t1, ev_l0, ev_l1, ev_abs, ev_int, ev_intB, ev_lenL, ev_lenT, ev_tupL, ev_eqI, ev_neI, C.pure_bind, C.raise_bind, C.no_bind] at fr
  rw [fr]
  rw [C.pure_bind]
  exact other_eq hm hu hv h
end K35
set_option Elab.async false
set_option linter.all false
set_option maxRecDepth 100000
set_option maxHeartbeats 1000000
namespace K35
open PySem PySem.Spec L2 Fw
def ownD (m M : Rat) : D := .dic [.inr "left", .inr "masses", .inr "right"] [.non, .lst [F m, F M], .non]
theorem dget_masses (m M : Rat) : D.dget (ownD m M) (.str "masses") = some (.lst [F m, F M]) := by
  show dicGet [.inr "left", .inr "masses", .inr "right"] [.non, .lst [F m, F M], .non] (.inr "masses") = _
  unfold dicGet
  rw [if_neg (by decide +kernel)]
  unfold dicGet
  rw [if_pos (by decide +kernel)]
theorem dget_left (m M : Rat) : D.dget (ownD m M) (.str "left") = some .non := by
  show dicGet [.inr "left", .inr "masses", .inr "right"] [.non, .lst [F m, F M], .non] (.inr "left") = _
  unfold dicGet
  rw [if_pos (by decide +kernel)]
theorem dget_right (m M : Rat) : D.dget (ownD m M) (.str "right") = some .non := by
  show dicGet [.inr "left", .inr "masses", .inr "right"] [.non, .lst [F m, F M], .non] (.inr "right") = _
  unfold dicGet
  rw [if_neg (by decide +kernel)]
  unfold dicGet
  rw [if_neg (by decide +kernel)]
  unfold dicGet
  rw [if_pos (by decide +kernel)]
theorem rng1_ev {b : Int} (h : inR b = true) : iterR1 (pure (.int b)) = pure (rng 0 b) := by
  show lift (D.rng1? [.int b]) = _
  have e : D.rng1? [.int b] = if inR b then some (rng 0 b) else none := rfl
  rw [e, if_pos h]; rfl
theorem ev_cat {a b : List D} (h : a.length + b.length ≤ 2 ^ 24) : D.add (.lst a) (.lst b) = some (.lst (a ++ b)) := by
  show (if a.length + b.length ≤ 2 ^ 24 then _ else _) = _
  rw [if_pos h]
theorem joints_eq (m M : Rat) : m__law_track_joints [ownD m M] = pure (.lst [.tup [.int 0, .int 1]]) := by
  show b__law_track_joints _ = _
  unfold b__law_track_joints
  simp only [ev_bin, ev_cmp, ev_un, ev_valB, ev_asB, ev_andVt, ev_andVf, ev_orVt, ev_orVf, ev_notV, ev_andTt, ev_andTf, ev_orTt, ev_orTf, ev_notT, ev_ifEt, ev_ifEf, ev_args0, ev_args1, ev_tupC, ev_lstC, ev_dicC, ev_callM, ev_callK, ev_callO, ev_asL, ev_lift, ev_ap1, ev_ap2, ev_ap3, ev_isi, ev_add, ev_sub, ev_neg, ev_lt, ev_le, ev_gt, ev_ge, ev_isNon, ev_isntNon, ev_t0, ev_t1, ev_l0, ev_l1, ev_abs, ev_int, ev_intB, ev_lenL, ev_lenT, ev_tupL, ev_eqI, ev_neI, C.pure_bind, C.raise_bind, C.no_bind]
  rw [dget_masses, dget_left, dget_right]
  simp only [ev_bin, ev_cmp, ev_un, ev_valB, ev_asB, ev_andVt, ev_andVf, ev_orVt, ev_orVf, ev_notV, ev_andTt, ev_andTf, ev_orTt, ev_orTf, ev_notT, ev_ifEt, ev_ifEf, ev_args0, ev_args1, ev_tupC, ev_lstC, ev_dicC, ev_callM, ev_callK, ev_callO, ev_asL, ev_lift, ev_ap1, ev_ap2, ev_ap3, ev_isi, ev_add, ev_sub, ev_neg, ev_lt, ev_le, ev_gt, ev_ge, ev_isNon, ev_isntNon, ev_t0, ev_t1, ev_l0, ev_l1, ev_abs, ev_int, ev_intB, ev_lenL, ev_lenT, ev_tupL, ev_eqI, ev_neI, C.pure_bind, C.raise_bind, C.no_bind]
  rw [show ((List.length [F m, F M] : Nat) : Int) - 1 = 1 from rfl, rng1_ev (by decide +kernel), show rng 0 1 = [.int 0] from rfl,
    lc_map (g := fun _ => .tup [.int 0, .int 1]) (ds := [.int 0]) (show 1 < 2 ^ 24 by decide) (fun d hd => by
      rw [List.mem_singleton.mp hd]; simp only [ev_bin, ev_cmp, ev_un, ev_valB, ev_asB, ev_andVt, ev_andVf, ev_orVt, ev_orVf, ev_notV, ev_andTt, ev_andTf, ev_orTt, ev_orTf, ev_notT, ev_ifEt, ev_ifEf, ev_args0, ev_args1, ev_tupC, ev_lstC, ev_dicC, ev_callM, ev_callK, ev_callO, ev_asL, ev_lift, ev_ap1, ev_ap2, ev_ap3, ev_isi, ev_add, ev_sub, ev_neg, ev_lt, ev_le, ev_gt, ev_ge, ev_isNon, ev_isntNon, ev_t0, ev_t1, ev_l0, ev_l1, ev_abs, ev_int, ev_intB, ev_lenL, ev_lenT, ev_tupL, ev_eqI, ev_neI, C.pure_bind, C.raise_bind, C.no_bind]; rfl)]
  rw [C.pure_bind]
  rw [show (D.isNon .non) = true from rfl, show (!true) = false from rfl]
  simp only [ev_bin, ev_cmp, ev_un, ev_valB, ev_asB, ev_andVt, ev_andVf, ev_orVt, ev_orVf, ev_notV, ev_andTt, ev_andTf, ev_orTt, ev_orTf, ev_notT, ev_ifEt, ev_ifEf, ev_args0, ev_args1, ev_tupC, ev_lstC, ev_dicC, ev_callM, ev_callK, ev_callO, ev_asL, ev_lift, ev_ap1, ev_ap2, ev_ap3, ev_isi, ev_add, ev_sub, ev_neg, ev_lt, ev_le, ev_gt, ev_ge, ev_isNon, ev_isntNon, ev_t0, ev_t1, ev_l0, ev_l1, ev_abs, ev_int, ev_intB, ev_lenL, ev_lenT, ev_tupL, ev_eqI, ev_neI, C.pure_bind, C.raise_bind, C.no_bind]
  rw [ev_cat (a := []) (b := List.map (fun _ => D.tup [D.int 0, D.int 1]) [D.int 0]) (show 0 + 1 ≤ 2 ^ 24 by decide)]
  simp only [ev_bin, ev_cmp, ev_un, ev_valB, ev_asB, ev_andVt, ev_andVf, ev_orVt, ev_orVf, ev_notV, ev_andTt, ev_andTf, ev_orTt, ev_orTf, ev_notT, ev_ifEt, ev_ifEf, ev_args0, ev_args1, ev_tupC, ev_lstC, ev_dicC, ev_callM, ev_callK, ev_callO, ev_asL, ev_lift, ev_ap1, ev_ap2, ev_ap3, ev_isi, ev_add, ev_sub, ev_neg, ev_lt, ev_le, ev_gt, ev_ge, ev_isNon, ev_isntNon, ev_t0, ev_t1, ev_l0, ev_l1, ev_abs, ev_int, ev_intB, ev_lenL, ev_lenT, ev_tupL, ev_eqI, ev_neI, C.pure_bind, C.raise_bind, C.no_bind]
  show lift (D.add (.lst [.tup [.int 0, .int 1]]) (.lst [])) = _
  rw [ev_cat (by simp)]
  rfl
/-- speeds behind a clack -/
def mid (m M : Rat) (u : RR) : Rat := 2 * ((m * u.1 + M * u.2) / (m + M))
def clk (m M : Rat) (u : RR) : RR := (mid m M u - u.1, mid m M u - u.2)
theorem F2 : (D.tup [.int 2, .int 1]) = F 2 := rfl
theorem bd2 : Bd 1 (2 : Rat) := ⟨by decide, by decide⟩
theorem setL0 {a b d : D} : setL [a, b] (.int 0) d = some [d, b] := rfl
theorem setL1 {a b d : D} : setL [a, b] (.int 1) d = some [a, d] := rfl
theorem bd_mid {m M : Rat} {u : RR} {j k n : Nat} (hm : Bd j m) (hM : Bd k M) (hu : BdP n u) (h0 : m + M ≠ 0) : Bd (1 + (j + n + (k + n) + 1 + (j + k + 1))) (mid m M u) :=
  bd2.mul (((hm.mul hu.1).add (hM.mul hu.2)).div (hm.add hM) h0)
theorem clk_eq {m M : Rat} {u : RR} {j k n : Nat} (hm : Bd j m) (hM : Bd k M) (hu : BdP n u) (h0 : m + M ≠ 0) (h : 2 * j + 2 * k + 3 * n + 3 ≤ 8000) : m__law_track_clacked [ownD m M, P2 u, .int 0] = pure (P2 (clk m M u)) := by
  have bm : Bd _ (2 * ((m * u.1 + M * u.2) / (m + M))) := bd_mid hm hM hu h0
  obtain ⟨u1, u2⟩ := u
  obtain ⟨hu1, hu2⟩ := hu
  dsimp only at hu1 hu2 bm
  show b__law_track_clacked _ _ _ = _
  unfold b__law_track_clacked
  simp only [ev_bin, ev_cmp, ev_un, ev_valB, ev_asB, ev_andVt, ev_andVf, ev_orVt, ev_orVf, ev_notV, ev_andTt, ev_andTf, ev_orTt, ev_orTf, ev_notT, ev_ifEt, ev_ifEf, ev_args0, ev_args1, ev_tupC, ev_lstC, ev_dicC, ev_callM, ev_callK, ev_callO, ev_asL, ev_lift, ev_ap1, ev_ap2, ev_ap3, ev_isi, ev_add, ev_sub, ev_neg, ev_lt, ev_le, ev_gt, ev_ge, ev_isNon, ev_isntNon, ev_t0, ev_t1, ev_l0, ev_l1, ev_abs, ev_int, ev_intB, ev_lenL, ev_lenT, ev_tupL, ev_eqI, ev_neI, C.pure_bind, C.raise_bind, C.no_bind]
  rw [joints_eq]
  simp only [ev_bin, ev_cmp, ev_un, ev_valB, ev_asB, ev_andVt, ev_andVf, ev_orVt, ev_orVf, ev_notV, ev_andTt, ev_andTf, ev_orTt, ev_orTf, ev_notT, ev_ifEt, ev_ifEf, ev_args0, ev_args1, ev_tupC, ev_lstC, ev_dicC, ev_callM, ev_callK, ev_callO, ev_asL, ev_lift, ev_ap1, ev_ap2, ev_ap3, ev_isi, ev_add, ev_sub, ev_neg, ev_lt, ev_le, ev_gt, ev_ge, ev_isNon, ev_isntNon, ev_t0, ev_t1, ev_l0, ev_l1, ev_abs, ev_int, ev_intB, ev_lenL, ev_lenT, ev_tupL, ev_eqI, ev_neI, C.pure_bind, C.raise_bind, C.no_bind]
  rw [tg2]
  simp only [ev_bin, ev_cmp, ev_un, ev_valB, ev_asB, ev_andVt, ev_andVf, ev_orVt, ev_orVf, ev_notV, ev_andTt, ev_andTf, ev_orTt, ev_orTf, ev_notT, ev_ifEt, ev_ifEf, ev_args0, ev_args1, ev_tupC, ev_lstC, ev_dicC, ev_callM, ev_callK, ev_callO, ev_asL, ev_lift, ev_ap1, ev_ap2, ev_ap3, ev_isi, ev_add, ev_sub, ev_neg, ev_lt, ev_le, ev_gt, ev_ge, ev_isNon, ev_isntNon, ev_t0, ev_t1, ev_l0, ev_l1, ev_abs, ev_int, ev_intB, ev_lenL, ev_lenT, ev_tupL, ev_eqI, ev_neI, C.pure_bind, C.raise_bind, C.no_bind]
  rw [show listC (pure (P2 (u1, u2))) = pure [F u1, F u2] from rfl]
  simp only [ev_bin, ev_cmp, ev_un, ev_valB, ev_asB, ev_andVt, ev_andVf, ev_orVt, ev_orVf, ev_notV, ev_andTt, ev_andTf, ev_orTt, ev_orTf, ev_notT, ev_ifEt, ev_ifEf, ev_args0, ev_args1, ev_tupC, ev_lstC, ev_dicC, ev_callM, ev_callK, ev_callO, ev_asL, ev_lift, ev_ap1, ev_ap2, ev_ap3, ev_isi, ev_add, ev_sub, ev_neg, ev_lt, ev_le, ev_gt, ev_ge, ev_isNon, ev_isntNon, ev_t0, ev_t1, ev_l0, ev_l1, ev_abs, ev_int, ev_intB, ev_lenL, ev_lenT, ev_tupL, ev_eqI, ev_neI, C.pure_bind, C.raise_bind, C.no_bind]
  rw [show (D.int 0).isNon = false from rfl, show (D.int 1).isNon = false from rfl]
  simp only [ev_bin, ev_cmp, ev_un, ev_valB, ev_asB, ev_andVt, ev_andVf, ev_orVt, ev_orVf, ev_notV, ev_andTt, ev_andTf, ev_orTt, ev_orTf, ev_notT, ev_ifEt, ev_ifEf, ev_args0, ev_args1, ev_tupC, ev_lstC, ev_dicC, ev_callM, ev_callK, ev_callO, ev_asL, ev_lift, ev_ap1, ev_ap2, ev_ap3, ev_isi, ev_add, ev_sub, ev_neg, ev_lt, ev_le, ev_gt, ev_ge, ev_isNon, ev_isntNon, ev_t0, ev_t1, ev_l0, ev_l1, ev_abs, ev_int, ev_intB, ev_lenL, ev_lenT, ev_tupL, ev_eqI, ev_neI, C.pure_bind, C.raise_bind, C.no_bind]
  rw [dget_masses]
  simp only [ev_bin, ev_cmp, ev_un, ev_valB, ev_asB, ev_andVt, ev_andVf, ev_orVt, ev_orVf, ev_notV, ev_andTt, ev_andTf, ev_orTt, ev_orTf, ev_notT, ev_ifEt, ev_ifEf, ev_args0, ev_args1, ev_tupC, ev_lstC, ev_dicC, ev_callM, ev_callK, ev_callO, ev_asL, ev_lift, ev_ap1, ev_ap2, ev_ap3, ev_isi, ev_add, ev_sub, ev_neg, ev_lt, ev_le, ev_gt, ev_ge, ev_isNon, ev_isntNon, ev_t0, ev_t1, ev_l0, ev_l1, ev_abs, ev_int, ev_intB, ev_lenL, ev_lenT, ev_tupL, ev_eqI, ev_neI, C.pure_bind, C.raise_bind, C.no_bind]
  unfold P2
  dsimp only
  simp only [ev_bin, ev_cmp, ev_un, ev_valB, ev_asB, ev_andVt, ev_andVf, ev_orVt, ev_orVf, ev_notV, ev_andTt, ev_andTf, ev_orTt, ev_orTf, ev_notT, ev_ifEt, ev_ifEf, ev_args0, ev_args1, ev_tupC, ev_lstC, ev_dicC, ev_callM, ev_callK, ev_callO, ev_asL, ev_lift, ev_ap1, ev_ap2, ev_ap3, ev_isi, ev_add, ev_sub, ev_neg, ev_lt, ev_le, ev_gt, ev_ge, ev_isNon, ev_isntNon, ev_t0, ev_t1, ev_l0, ev_l1, ev_abs, ev_int, ev_intB, ev_lenL, ev_lenT, ev_tupL, ev_eqI, ev_neI, C.pure_bind, C.raise_bind, C.no_bind]
  rw [ltimes_eq hm hu1 (by omega), ltimes_eq hM hu2 (by omega)]
  simp only [ev_bin, ev_cmp, ev_un, ev_valB, ev_asB, ev_andVt, ev_andVf, ev_orVt, ev_orVf, ev_notV, ev_andTt, ev_andTf, ev_orTt, ev_orTf, ev_notT, ev_ifEt, ev_ifEf, ev_args0, ev_args1, ev_tupC, ev_lstC, ev_dicC, ev_callM, ev_callK, ev_callO, ev_asL, ev_lift, ev_ap1, ev_ap2, ev_ap3, ev_isi, ev_add, ev_sub, ev_neg, ev_lt, ev_le, ev_gt, ev_ge, ev_isNon, ev_isntNon, ev_t0, ev_t1, ev_l0, ev_l1, ev_abs, ev_int, ev_intB, ev_lenL, ev_lenT, ev_tupL, ev_eqI, ev_neI, C.pure_bind, C.raise_bind, C.no_bind]
  rw [lplus_eq (hm.mul hu1) (hM.mul hu2) (by omega), lplus_eq hm hM (by omega)]
  simp only [ev_bin, ev_cmp, ev_un, ev_valB, ev_asB, ev_andVt, ev_andVf, ev_orVt, ev_orVf, ev_notV, ev_andTt, ev_andTf, ev_orTt, ev_orTf, ev_notT, ev_ifEt, ev_ifEf, ev_args0, ev_args1, ev_tupC, ev_lstC, ev_dicC, ev_callM, ev_callK, ev_callO, ev_asL, ev_lift, ev_ap1, ev_ap2, ev_ap3, ev_isi, ev_add, ev_sub, ev_neg, ev_lt, ev_le, ev_gt, ev_ge, ev_isNon, ev_isntNon, ev_t0, ev_t1, ev_l0, ev_l1, ev_abs, ev_int, ev_intB, ev_lenL, ev_lenT, ev_tupL, ev_eqI, ev_neI, C.pure_bind, C.raise_bind, C.no_bind]
  rw [lover_eq ((hm.mul hu1).add (hM.mul hu2)) (hm.add hM) (by omega) h0, F2]
  simp only [ev_bin, ev_cmp, ev_un, ev_valB, ev_asB, ev_andVt, ev_andVf, ev_orVt, ev_orVf, ev_notV, ev_andTt, ev_andTf, ev_orTt, ev_orTf, ev_notT, ev_ifEt, ev_ifEf, ev_args0, ev_args1, ev_tupC, ev_lstC, ev_dicC, ev_callM, ev_callK, ev_callO, ev_asL, ev_lift, ev_ap1, ev_ap2, ev_ap3, ev_isi, ev_add, ev_sub, ev_neg, ev_lt, ev_le, ev_gt, ev_ge, ev_isNon, ev_isntNon, ev_t0, ev_t1, ev_l0, ev_l1, ev_abs, ev_int, ev_intB, ev_lenL, ev_lenT, ev_tupL, ev_eqI, ev_neI, C.pure_bind, C.raise_bind, C.no_bind]
  rw [ltimes_eq bd2 (((hm.mul hu1).add (hM.mul hu2)).div (hm.add hM) h0) (by omega)]
  simp only [ev_bin, ev_cmp, ev_un, ev_valB, ev_asB, ev_andVt, ev_andVf, ev_orVt, ev_orVf, ev_notV, ev_andTt, ev_andTf, ev_orTt, ev_orTf, ev_notT, ev_ifEt, ev_ifEf, ev_args0, ev_args1, ev_tupC, ev_lstC, ev_dicC, ev_callM, ev_callK, ev_callO, ev_asL, ev_lift, ev_ap1, ev_ap2, ev_ap3, ev_isi, ev_add, ev_sub, ev_neg, ev_lt, ev_le, ev_gt, ev_ge, ev_isNon, ev_isntNon, ev_t0, ev_t1, ev_l0, ev_l1, ev_abs, ev_int, ev_intB, ev_lenL, ev_lenT, ev_tupL, ev_eqI, ev_neI, C.pure_bind, C.raise_bind, C.no_bind]
  rw [lless_eq bm hu1 (by omega), lless_eq bm hu2 (by omega)]
  simp only [ev_bin, ev_cmp, ev_un, ev_valB, ev_asB, ev_andVt, ev_andVf, ev_orVt, ev_orVf, ev_notV, ev_andTt, ev_andTf, ev_orTt, ev_orTf, ev_notT, ev_ifEt, ev_ifEf, ev_args0, ev_args1, ev_tupC, ev_lstC, ev_dicC, ev_callM, ev_callK, ev_callO, ev_asL, ev_lift, ev_ap1, ev_ap2, ev_ap3, ev_isi, ev_add, ev_sub, ev_neg, ev_lt, ev_le, ev_gt, ev_ge, ev_isNon, ev_isntNon, ev_t0, ev_t1, ev_l0, ev_l1, ev_abs, ev_int, ev_intB, ev_lenL, ev_lenT, ev_tupL, ev_eqI, ev_neI, C.pure_bind, C.raise_bind, C.no_bind]
  unfold setC
  rw [setL0]
  simp only [ev_bin, ev_cmp, ev_un, ev_valB, ev_asB, ev_andVt, ev_andVf, ev_orVt, ev_orVf, ev_notV, ev_andTt, ev_andTf, ev_orTt, ev_orTf, ev_notT, ev_ifEt, ev_ifEf, ev_args0, ev_args1, ev_tupC, ev_lstC, ev_dicC, ev_callM, ev_callK, ev_callO, ev_asL, ev_lift, ev_ap1, ev_ap2, ev_ap3, ev_isi, ev_add, ev_sub, ev_neg, ev_lt, ev_le, ev_gt, ev_ge, ev_isNon, ev_isntNon, ev_t0, ev_t1, ev_l0, ev_l1, ev_abs, ev_int, ev_intB, ev_lenL, ev_lenT, ev_tupL, ev_eqI, ev_neI, C.pure_bind, C.raise_bind, C.no_bind]
  rw [setL1]
  simp only [ev_bin, ev_cmp, ev_un, ev_valB, ev_asB, ev_andVt, ev_andVf, ev_orVt, ev_orVf, ev_notV, ev_andTt, ev_andTf, ev_orTt, ev_orTf, ev_notT, ev_ifEt, ev_ifEf, ev_args0, ev_args1, ev_tupC, ev_lstC, ev_dicC, ev_callM, ev_callK, ev_callO, ev_asL, ev_lift, ev_ap1, ev_ap2, ev_ap3, ev_isi, ev_add, ev_sub, ev_neg, ev_lt, ev_le, ev_gt, ev_ge, ev_isNon, ev_isntNon, ev_t0, ev_t1, ev_l0, ev_l1, ev_abs, ev_int, ev_intB, ev_lenL, ev_lenT, ev_tupL, ev_eqI, ev_neI, C.pure_bind, C.raise_bind, C.no_bind]
  rfl
def dueC : Option Rat → D
  | some M => F M
  | none => .non
theorem clk_told {m : Rat} {u v : RR} (h0 : 0 < m) (h1 : u.2 < u.1) (h2 : v.2 ≠ u.2) (h3 : 0 < dueM m u v) : clk m (dueM m u v) u = v ↔ Told m u v := by
  obtain ⟨u1, u2⟩ := u; obtain ⟨v1, v2⟩ := v
  unfold Told clk mid
  unfold dueM at h3 ⊢
  dsimp only at h1 h2 h3 ⊢
  have hd : v2 - u2 ≠ 0 := by grind
  generalize hM : m * (u1 - v1) / (v2 - u2) = M at h3 ⊢
  have hs : m + M ≠ 0 := by grind
  have hMe : M * (v2 - u2) = m * (u1 - v1) := by rw [← hM]; exact Rat.div_mul_cancel hd
  have hc : ((m * u1 + M * u2) / (m + M)) * (m + M) = m * u1 + M * u2 := Rat.div_mul_cancel hs
  generalize (m * u1 + M * u2) / (m + M) = c at hc ⊢
  constructor
  · intro e
    obtain ⟨e1, e2⟩ := Prod.mk.inj e
    have a : v2 - v1 = u1 - u2 := by grind
    refine ⟨h1, a, ?_, h3⟩
    refine Classical.byContradiction fun q => ?_
    have q1 : 0 < u2 - v2 := by grind
    have q2 : 0 < u1 - v1 := by grind
    have q3 := Rat.mul_pos h3 q1
    have q4 := Rat.mul_pos h0 q2
    grind
  · rintro ⟨_, a, b, _⟩
    have e : (2 * c - (v1 + u1)) * (m + M) = 0 := by grind
    have e' : 2 * c - (v1 + u1) = 0 := by
      rcases Rat.mul_eq_zero.mp e with z | z
      · exact z
      · exact absurd z hs
    have e1 : 2 * c - u1 = v1 := by grind
    have e2 : 2 * c - u2 = v2 := by grind
    rw [e1, e2]
theorem P2_0 {u : RR} : D.ix (P2 u) (.int 0) = some (F u.1) := ev_t0
theorem P2_1 {u : RR} : D.ix (P2 u) (.int 1) = some (F u.2) := ev_t1
theorem F_0 {x : Rat} : D.ix (F x) (.int 0) = some (.int x.num) := ev_t0
theorem due_eq {m : Rat} {u v : RR} {j n n2 : Nat} (h0 : 0 < m) (hm : Bd j m) (hu : BdP n u) (hv : BdP n2 v) (h : 4 * j + 4 * (n + n2 + 1) + 3 * n + 4 ≤ 8000) : m__law_due [F m, P2 u, P2 v] = pure (dueC (dueR m u v)) := by
  show b__law_due _ _ _ = _
  unfold b__law_due
  simp only [ev_bin, ev_cmp, ev_un, ev_valB, ev_asB, ev_andVt, ev_andVf, ev_orVt, ev_orVf, ev_notV, ev_andTt, ev_andTf, ev_orTt, ev_orTf, ev_notT, ev_ifEt, ev_ifEf, ev_args0, ev_args1, ev_tupC, ev_lstC, ev_dicC, ev_callM, ev_callK, ev_callO, ev_asL, ev_lift, ev_ap1, ev_ap2, ev_ap3, ev_isi, ev_add, ev_sub, ev_neg, ev_lt, ev_le, ev_gt, ev_ge, ev_isNon, ev_isntNon, ev_t0, ev_t1, ev_l0, ev_l1, ev_abs, ev_int, ev_intB, ev_lenL, ev_lenT, ev_tupL, ev_eqI, ev_neI, C.pure_bind, C.raise_bind, C.no_bind]
  rw [P2_0, P2_1, P2_1, P2_0]
  simp only [ev_bin, ev_cmp, ev_un, ev_valB, ev_asB, ev_andVt, ev_andVf, ev_orVt, ev_orVf, ev_notV, ev_andTt, ev_andTf, ev_orTt, ev_orTf, ev_notT, ev_ifEt, ev_ifEf, ev_args0, ev_args1, ev_tupC, ev_lstC, ev_dicC, ev_callM, ev_callK, ev_callO, ev_asL, ev_lift, ev_ap1, ev_ap2, ev_ap3, ev_isi, ev_add, ev_sub, ev_neg, ev_lt, ev_le, ev_gt, ev_ge, ev_isNon, ev_isntNon, ev_t0, ev_t1, ev_l0, ev_l1, ev_abs, ev_int, ev_intB, ev_lenL, ev_lenT, ev_tupL, ev_eqI, ev_neI, C.pure_bind, C.raise_bind, C.no_bind]
  rw [lbelow_eq hu.2 hu.1 (by omega)]
  simp only [ev_bin, ev_cmp, ev_un, ev_valB, ev_asB, ev_andVt, ev_andVf, ev_orVt, ev_orVf, ev_notV, ev_andTt, ev_andTf, ev_orTt, ev_orTf, ev_notT, ev_ifEt, ev_ifEf, ev_args0, ev_args1, ev_tupC, ev_lstC, ev_dicC, ev_callM, ev_callK, ev_callO, ev_asL, ev_lift, ev_ap1, ev_ap2, ev_ap3, ev_isi, ev_add, ev_sub, ev_neg, ev_lt, ev_le, ev_gt, ev_ge, ev_isNon, ev_isntNon, ev_t0, ev_t1, ev_l0, ev_l1, ev_abs, ev_int, ev_intB, ev_lenL, ev_lenT, ev_tupL, ev_eqI, ev_neI, C.pure_bind, C.raise_bind, C.no_bind]
  by_cases h1 : u.2 < u.1
  · rw [decide_eq_true h1, show (!true) = false from rfl]
    simp only [ev_bin, ev_cmp, ev_un, ev_valB, ev_asB, ev_andVt, ev_andVf, ev_orVt, ev_orVf, ev_notV, ev_andTt, ev_andTf, ev_orTt, ev_orTf, ev_notT, ev_ifEt, ev_ifEf, ev_args0, ev_args1, ev_tupC, ev_lstC, ev_dicC, ev_callM, ev_callK, ev_callO, ev_asL, ev_lift, ev_ap1, ev_ap2, ev_ap3, ev_isi, ev_add, ev_sub, ev_neg, ev_lt, ev_le, ev_gt, ev_ge, ev_isNon, ev_isntNon, ev_t0, ev_t1, ev_l0, ev_l1, ev_abs, ev_int, ev_intB, ev_lenL, ev_lenT, ev_tupL, ev_eqI, ev_neI, C.pure_bind, C.raise_bind, C.no_bind]
    rw [eqF]
    simp only [ev_bin, ev_cmp, ev_un, ev_valB, ev_asB, ev_andVt, ev_andVf, ev_orVt, ev_orVf, ev_notV, ev_andTt, ev_andTf, ev_orTt, ev_orTf, ev_notT, ev_ifEt, ev_ifEf, ev_args0, ev_args1, ev_tupC, ev_lstC, ev_dicC, ev_callM, ev_callK, ev_callO, ev_asL, ev_lift, ev_ap1, ev_ap2, ev_ap3, ev_isi, ev_add, ev_sub, ev_neg, ev_lt, ev_le, ev_gt, ev_ge, ev_isNon, ev_isntNon, ev_t0, ev_t1, ev_l0, ev_l1, ev_abs, ev_int, ev_intB, ev_lenL, ev_lenT, ev_tupL, ev_eqI, ev_neI, C.pure_bind, C.raise_bind, C.no_bind]
    by_cases h2 : v.2 = u.2
    · rw [decide_eq_true h2, dueR_none (fun z => by have := z.2.2.1; grind)]; rfl
    · rw [decide_eq_false h2]
      have hd : v.2 - u.2 ≠ 0 := by grind
      simp only [ev_bin, ev_cmp, ev_un, ev_valB, ev_asB, ev_andVt, ev_andVf, ev_orVt, ev_orVf, ev_notV, ev_andTt, ev_andTf, ev_orTt, ev_orTf, ev_notT, ev_ifEt, ev_ifEf, ev_args0, ev_args1, ev_tupC, ev_lstC, ev_dicC, ev_callM, ev_callK, ev_callO, ev_asL, ev_lift, ev_ap1, ev_ap2, ev_ap3, ev_isi, ev_add, ev_sub, ev_neg, ev_lt, ev_le, ev_gt, ev_ge, ev_isNon, ev_isntNon, ev_t0, ev_t1, ev_l0, ev_l1, ev_abs, ev_int, ev_intB, ev_lenL, ev_lenT, ev_tupL, ev_eqI, ev_neI, C.pure_bind, C.raise_bind, C.no_bind]
      rw [lless_eq hu.1 hv.1 (by omega)]
      simp only [ev_bin, ev_cmp, ev_un, ev_valB, ev_asB, ev_andVt, ev_andVf, ev_orVt, ev_orVf, ev_notV, ev_andTt, ev_andTf, ev_orTt, ev_orTf, ev_notT, ev_ifEt, ev_ifEf, ev_args0, ev_args1, ev_tupC, ev_lstC, ev_dicC, ev_callM, ev_callK, ev_callO, ev_asL, ev_lift, ev_ap1, ev_ap2, ev_ap3, ev_isi, ev_add, ev_sub, ev_neg, ev_lt, ev_le, ev_gt, ev_ge, ev_isNon, ev_isntNon, ev_t0, ev_t1, ev_l0, ev_l1, ev_abs, ev_int, ev_intB, ev_lenL, ev_lenT, ev_tupL, ev_eqI, ev_neI, C.pure_bind, C.raise_bind, C.no_bind]
      rw [ltimes_eq hm (hu.1.sub hv.1) (by omega), lless_eq hv.2 hu.2 (by omega)]
      simp only [ev_bin, ev_cmp, ev_un, ev_valB, ev_asB, ev_andVt, ev_andVf, ev_orVt, ev_orVf, ev_notV, ev_andTt, ev_andTf, ev_orTt, ev_orTf, ev_notT, ev_ifEt, ev_ifEf, ev_args0, ev_args1, ev_tupC, ev_lstC, ev_dicC, ev_callM, ev_callK, ev_callO, ev_asL, ev_lift, ev_ap1, ev_ap2, ev_ap3, ev_isi, ev_add, ev_sub, ev_neg, ev_lt, ev_le, ev_gt, ev_ge, ev_isNon, ev_isntNon, ev_t0, ev_t1, ev_l0, ev_l1, ev_abs, ev_int, ev_intB, ev_lenL, ev_lenT, ev_tupL, ev_eqI, ev_neI, C.pure_bind, C.raise_bind, C.no_bind]
      rw [lover_eq (hm.mul (hu.1.sub hv.1)) (hv.2.sub hu.2) (by omega) hd]
      have bM : Bd _ (dueM m u v) := (hm.mul (hu.1.sub hv.1)).div (hv.2.sub hu.2) hd
      show (pure (F (dueM m u v)) >>= fun other5 => _) = _
      rw [C.pure_bind, F_0]
      simp only [ev_bin, ev_cmp, ev_un, ev_valB, ev_asB, ev_andVt, ev_andVf, ev_orVt, ev_orVf, ev_notV, ev_andTt, ev_andTf, ev_orTt, ev_orTf, ev_notT, ev_ifEt, ev_ifEf, ev_args0, ev_args1, ev_tupC, ev_lstC, ev_dicC, ev_callM, ev_callK, ev_callO, ev_asL, ev_lift, ev_ap1, ev_ap2, ev_ap3, ev_isi, ev_add, ev_sub, ev_neg, ev_lt, ev_le, ev_gt, ev_ge, ev_isNon, ev_isntNon, ev_t0, ev_t1, ev_l0, ev_l1, ev_abs, ev_int, ev_intB, ev_lenL, ev_lenT, ev_tupL, ev_eqI, ev_neI, C.pure_bind, C.raise_bind, C.no_bind]
      by_cases h3 : 0 < dueM m u v
      · rw [decide_eq_false (fun z => by have := pos_num.mp h3; omega)]
        simp only [ev_bin, ev_cmp, ev_un, ev_valB, ev_asB, ev_andVt, ev_andVf, ev_orVt, ev_orVf, ev_notV, ev_andTt, ev_andTf, ev_orTt, ev_orTf, ev_notT, ev_ifEt, ev_ifEf, ev_args0, ev_args1, ev_tupC, ev_lstC, ev_dicC, ev_callM, ev_callK, ev_callO, ev_asL, ev_lift, ev_ap1, ev_ap2, ev_ap3, ev_isi, ev_add, ev_sub, ev_neg, ev_lt, ev_le, ev_gt, ev_ge, ev_isNon, ev_isntNon, ev_t0, ev_t1, ev_l0, ev_l1, ev_abs, ev_int, ev_intB, ev_lenL, ev_lenT, ev_tupL, ev_eqI, ev_neI, C.pure_bind, C.raise_bind, C.no_bind]
        show ifE (cmp D.eq (m__law_track_clacked [ownD m (dueM m u v), P2 u, .int 0]) _) _ _ = _
        rw [clk_eq hm bM hu (by grind) (by omega)]
        simp only [ev_bin, ev_cmp, ev_un, ev_valB, ev_asB, ev_andVt, ev_andVf, ev_orVt, ev_orVf, ev_notV, ev_andTt, ev_andTf, ev_orTt, ev_orTf, ev_notT, ev_ifEt, ev_ifEf, ev_args0, ev_args1, ev_tupC, ev_lstC, ev_dicC, ev_callM, ev_callK, ev_callO, ev_asL, ev_lift, ev_ap1, ev_ap2, ev_ap3, ev_isi, ev_add, ev_sub, ev_neg, ev_lt, ev_le, ev_gt, ev_ge, ev_isNon, ev_isntNon, ev_t0, ev_t1, ev_l0, ev_l1, ev_abs, ev_int, ev_intB, ev_lenL, ev_lenT, ev_tupL, ev_eqI, ev_neI, C.pure_bind, C.raise_bind, C.no_bind]
        rw [eqP]
        simp only [ev_bin, ev_cmp, ev_un, ev_valB, ev_asB, ev_andVt, ev_andVf, ev_orVt, ev_orVf, ev_notV, ev_andTt, ev_andTf, ev_orTt, ev_orTf, ev_notT, ev_ifEt, ev_ifEf, ev_args0, ev_args1, ev_tupC, ev_lstC, ev_dicC, ev_callM, ev_callK, ev_callO, ev_asL, ev_lift, ev_ap1, ev_ap2, ev_ap3, ev_isi, ev_add, ev_sub, ev_neg, ev_lt, ev_le, ev_gt, ev_ge, ev_isNon, ev_isntNon, ev_t0, ev_t1, ev_l0, ev_l1, ev_abs, ev_int, ev_intB, ev_lenL, ev_lenT, ev_tupL, ev_eqI, ev_neI, C.pure_bind, C.raise_bind, C.no_bind]
        by_cases h4 : Told m u v
        · rw [decide_eq_true ((clk_told h0 h1 h2 h3).mpr h4), dueR_some h4]; rfl
        · rw [decide_eq_false (fun z => h4 ((clk_told h0 h1 h2 h3).mp z)), dueR_none h4]; rfl
      · rw [decide_eq_true (by have : ¬ 0 < (dueM m u v).num := fun z => h3 (pos_num.mpr z); omega), dueR_none (fun z => h3 z.2.2.2)]; rfl
  · rw [decide_eq_false h1, dueR_none (fun z => h1 z.1)]; rfl
end K35
set_option Elab.async false
set_option linter.all false
set_option maxRecDepth 100000
set_option maxHeartbeats 1000000
namespace K35
open PySem PySem.Spec L2 Fw
/-! ### told is due -/
theorem lc_go2 {f : D → D → C D} {g : D → D} : ∀ ds : List D, (∀ d ∈ ds, f d d = pure (g d)) → lcGo (.tp [.nm, .nm]) yesC (ap2 f) (ds.map fun d => .tup [d, d]) = pure (ds.map g)
  | [], _ => rfl
  | d :: ds, h => by
    have e := h d List.mem_cons_self
    have ih := lc_go2 ds fun x hx => h x (List.mem_cons_of_mem _ hx)
    have e2 : calm (f d d) = pure (g d) := by rw [e]; rfl
    show (calm (f d d) >>= fun y => lcGo (.tp [.nm, .nm]) yesC (ap2 f) (ds.map fun d => .tup [d, d]) >>= fun ys => pure (y :: ys)) = _
    rw [e2, C.pure_bind, ih]; rfl
theorem zip2_self (ds : List D) : zip2 ds ds = ds.map fun d => .tup [d, d] := by
  unfold zip2
  induction ds with
  | nil => rfl
  | cons d ds ih => simp only [List.zip_cons_cons, List.map_cons, ih]
theorem is_int (n : Nat) (i : Int) : mr__law_is (n + 1) [.int i, .int i] = pure (.bl true) := by
  show b__law_is _ _ _ = _
  unfold b__law_is
  simp only [ev_bin, ev_cmp, ev_un, ev_valB, ev_asB, ev_andVt, ev_andVf, ev_orVt, ev_orVf, ev_notV, ev_andTt, ev_andTf, ev_orTt, ev_orTf, ev_notT, ev_ifEt, ev_ifEf, ev_args0, ev_args1, ev_tupC, ev_lstC, ev_dicC, ev_callM, ev_callK, ev_callO, ev_asL, ev_lift, ev_ap1, ev_ap2, ev_ap3, ev_isi, ev_add, ev_sub, ev_neg, ev_lt, ev_le, ev_gt, ev_ge, ev_isNon, ev_isntNon, ev_t0, ev_t1, ev_l0, ev_l1, ev_abs, ev_int, ev_intB, ev_lenL, ev_lenT, ev_tupL, ev_eqI, ev_neI, C.pure_bind, C.raise_bind, C.no_bind]
  rw [show (Ty.tup.isi (.int i)) = some false from rfl, show (Ty.int.isi (.int i)) = some true from rfl, show (Ty.bool.isi (.int i)) = some false from rfl]
  simp only [ev_bin, ev_cmp, ev_un, ev_valB, ev_asB, ev_andVt, ev_andVf, ev_orVt, ev_orVf, ev_notV, ev_andTt, ev_andTf, ev_orTt, ev_orTf, ev_notT, ev_ifEt, ev_ifEf, ev_args0, ev_args1, ev_tupC, ev_lstC, ev_dicC, ev_callM, ev_callK, ev_callO, ev_asL, ev_lift, ev_ap1, ev_ap2, ev_ap3, ev_isi, ev_add, ev_sub, ev_neg, ev_lt, ev_le, ev_gt, ev_ge, ev_isNon, ev_isntNon, ev_t0, ev_t1, ev_l0, ev_l1, ev_abs, ev_int, ev_intB, ev_lenL, ev_lenT, ev_tupL, ev_eqI, ev_neI, C.pure_bind, C.raise_bind, C.no_bind]
  simp only [decide_true]; rfl
theorem is_tup {n : Nat} {ds : List D} (hl : ds.length < 2 ^ 24) (h : ∀ d ∈ ds, mr__law_is n [d, d] = pure (.bl true)) : mr__law_is (n + 1) [.tup ds, .tup ds] = pure (.bl true) := by
  show b__law_is _ _ _ = _
  unfold b__law_is
  have z : iterZ [pure (.tup ds), pure (.tup ds)] = pure (ds.map fun d => .tup [d, d]) := by
    show lift (D.zip? [.tup ds, .tup ds]) = _
    show (pure (zip2 ds ds) : C (List D)) = _
    rw [zip2_self]
  have lc : lcC (pure (ds.map fun d => D.tup [d, d])) (.tp [.nm, .nm]) yesC (ap2 fun one4 other5 => callM (mr__law_is n) [pure one4, pure other5]) = pure (ds.map fun _ => .bl true) := by
    show (if (ds.map fun d => D.tup [d, d]).length < 2 ^ 24 then _ else _) = _
    rw [if_pos (by rw [List.length_map]; exact hl)]
    exact lc_go2 ds fun d hd => h d hd
  rw [z, lc]
  simp only [ev_bin, ev_cmp, ev_un, ev_valB, ev_asB, ev_andVt, ev_andVf, ev_orVt, ev_orVf, ev_notV, ev_andTt, ev_andTf, ev_orTt, ev_orTf, ev_notT, ev_ifEt, ev_ifEf, ev_args0, ev_args1, ev_tupC, ev_lstC, ev_dicC, ev_callM, ev_callK, ev_callO, ev_asL, ev_lift, ev_ap1, ev_ap2, ev_ap3, ev_isi, ev_add, ev_sub, ev_neg, ev_lt, ev_le, ev_gt, ev_ge, ev_isNon, ev_isntNon, ev_t0, ev_t1, ev_l0, ev_l1, ev_abs, ev_int, ev_intB, ev_lenL, ev_lenT, ev_tupL, ev_eqI, ev_neI, C.pure_bind, C.raise_bind, C.no_bind]
  rw [show (Ty.tup.isi (.tup ds)) = some true from rfl]
  simp only [ev_bin, ev_cmp, ev_un, ev_valB, ev_asB, ev_andVt, ev_andVf, ev_orVt, ev_orVf, ev_notV, ev_andTt, ev_andTf, ev_orTt, ev_orTf, ev_notT, ev_ifEt, ev_ifEf, ev_args0, ev_args1, ev_tupC, ev_lstC, ev_dicC, ev_callM, ev_callK, ev_callO, ev_asL, ev_lift, ev_ap1, ev_ap2, ev_ap3, ev_isi, ev_add, ev_sub, ev_neg, ev_lt, ev_le, ev_gt, ev_ge, ev_isNon, ev_isntNon, ev_t0, ev_t1, ev_l0, ev_l1, ev_abs, ev_int, ev_intB, ev_lenL, ev_lenT, ev_tupL, ev_eqI, ev_neI, C.pure_bind, C.raise_bind, C.no_bind]
  simp only [decide_true]
  rw [bools_trues fun _ _ => rfl]; rfl
theorem is_F (n : Nat) (x : Rat) : mr__law_is (n + 2) [F x, F x] = pure (.bl true) :=
  is_tup (show 2 < 2 ^ 24 by decide) fun d hd => by
    simp only [List.mem_cons, List.not_mem_nil, or_false] at hd
    rcases hd with rfl | rfl <;> exact is_int n _
theorem is_Fs (n : Nat) (xs : List Rat) (hl : xs.length < 2 ^ 24) : mr__law_is (n + 3) [.tup (xs.map F), .tup (xs.map F)] = pure (.bl true) :=
  is_tup (by rw [List.length_map]; exact hl) fun d hd => by
    obtain ⟨x, _, rfl⟩ := List.mem_map.mp hd
    exact is_F n x
theorem sh_F {x : Rat} {n : Nat} (h : Bd n x) (hn : n ≤ 1000) : Sh 2004 2 (F x) :=
  Sh.tup (Sh.int (h.mono hn).num) (Sh.int (by rw [Int.natAbs_natCast]; exact (h.mono hn).den))
theorem sh_P {u : RR} {n : Nat} (h : BdP n u) (hn : n ≤ 1000) : Sh 4010 3 (P2 u) := (sh_F h.1 hn).tup (sh_F h.2 hn)
theorem heard_ok {d : D} : heardC known (pure d) = pure (.tup [.non, d]) := rfl
theorem heard_exc {v : D} : heardC known (C.raise "NoClack" v) = pure (.tup [.exc "NoClack" v, .non]) := by
  funext M
  show (if known "NoClack" = true then Out.ok (D.tup [.exc "NoClack" v, .non]) M else Out.no) = _
  rw [if_pos (by decide +kernel)]; rfl
theorem excv {v : D} : excVal known (.exc "NoClack" v) = some v := by
  show (if known "NoClack" = true then some v else none) = _
  rw [if_pos (by decide +kernel)]
theorem isexc {v : D} : isExcC known "NoClack" (pure (.exc "NoClack" v)) = pure true := by
  show lift (if known "NoClack" = true then some (("NoClack" : Str) == "NoClack") else none) = _
  rw [if_pos (by decide +kernel)]
  rw [show (("NoClack" : Str) == "NoClack") = true by decide +kernel]; rfl
/-- repr of a pair of pairs is itself -/
theorem repr_self {u v : RR} {n n2 : Nat} (hu : BdP n u) (hv : BdP n2 v) (hn : n ≤ 1000) (hn2 : n2 ≤ 1000) : valB (cmp D.eq (lift (bRepr [.tup [P2 u, P2 v]])) (lift (bRepr [.tup [P2 u, P2 v]]))) = pure (.bl true) := by
  obtain ⟨s, h1, h2⟩ := Sh.repr ((sh_P hu hn).tup (sh_P hv hn2)) (by decide) (by decide)
  rw [h1]
  simp only [ev_bin, ev_cmp, ev_un, ev_valB, ev_asB, ev_andVt, ev_andVf, ev_orVt, ev_orVf, ev_notV, ev_andTt, ev_andTf, ev_orTt, ev_orTf, ev_notT, ev_ifEt, ev_ifEf, ev_args0, ev_args1, ev_tupC, ev_lstC, ev_dicC, ev_callM, ev_callK, ev_callO, ev_asL, ev_lift, ev_ap1, ev_ap2, ev_ap3, ev_isi, ev_add, ev_sub, ev_neg, ev_lt, ev_le, ev_gt, ev_ge, ev_isNon, ev_isntNon, ev_t0, ev_t1, ev_l0, ev_l1, ev_abs, ev_int, ev_intB, ev_lenL, ev_lenT, ev_tupL, ev_eqI, ev_neI, C.pure_bind, C.raise_bind, C.no_bind]
  rw [h2]; rfl
theorem isTold_eq {m : Rat} {u v : RR} {j n n2 : Nat} (h0 : 0 < m) (hm : Bd j m) (hu : BdP n u) (hv : BdP n2 v) (h : 4 * j + 4 * (n + n2 + 1) + 3 * n + 4 ≤ 8000) (hn : n ≤ 1000) (hn2 : n2 ≤ 1000) : m__law_is_told [F m, P2 u, P2 v] = pure (.bl true) := by
  show b__law_is_told _ _ _ = _
  unfold b__law_is_told
  simp only [ev_bin, ev_cmp, ev_un, ev_valB, ev_asB, ev_andVt, ev_andVf, ev_orVt, ev_orVf, ev_notV, ev_andTt, ev_andTf, ev_orTt, ev_orTf, ev_notT, ev_ifEt, ev_ifEf, ev_args0, ev_args1, ev_tupC, ev_lstC, ev_dicC, ev_callM, ev_callK, ev_callO, ev_asL, ev_lift, ev_ap1, ev_ap2, ev_ap3, ev_isi, ev_add, ev_sub, ev_neg, ev_lt, ev_le, ev_gt, ev_ge, ev_isNon, ev_isntNon, ev_t0, ev_t1, ev_l0, ev_l1, ev_abs, ev_int, ev_intB, ev_lenL, ev_lenT, ev_tupL, ev_eqI, ev_neI, C.pure_bind, C.raise_bind, C.no_bind]
  rw [due_eq h0 hm hu hv h]
  simp only [ev_bin, ev_cmp, ev_un, ev_valB, ev_asB, ev_andVt, ev_andVf, ev_orVt, ev_orVf, ev_notV, ev_andTt, ev_andTf, ev_orTt, ev_orTf, ev_notT, ev_ifEt, ev_ifEf, ev_args0, ev_args1, ev_tupC, ev_lstC, ev_dicC, ev_callM, ev_callK, ev_callO, ev_asL, ev_lift, ev_ap1, ev_ap2, ev_ap3, ev_isi, ev_add, ev_sub, ev_neg, ev_lt, ev_le, ev_gt, ev_ge, ev_isNon, ev_isntNon, ev_t0, ev_t1, ev_l0, ev_l1, ev_abs, ev_int, ev_intB, ev_lenL, ev_lenT, ev_tupL, ev_eqI, ev_neI, C.pure_bind, C.raise_bind, C.no_bind]
  rw [show pick [2, 1, 0] [P2 v, P2 u, F m] = [F m, P2 u, P2 v] from rfl, told_eq h0 hm hu hv (by omega)]
  cases dueR m u v with
  | some M =>
    show (heardC known (pure (F M)) >>= _) = _
    rw [heard_ok]
    simp only [ev_bin, ev_cmp, ev_un, ev_valB, ev_asB, ev_andVt, ev_andVf, ev_orVt, ev_orVf, ev_notV, ev_andTt, ev_andTf, ev_orTt, ev_orTf, ev_notT, ev_ifEt, ev_ifEf, ev_args0, ev_args1, ev_tupC, ev_lstC, ev_dicC, ev_callM, ev_callK, ev_callO, ev_asL, ev_lift, ev_ap1, ev_ap2, ev_ap3, ev_isi, ev_add, ev_sub, ev_neg, ev_lt, ev_le, ev_gt, ev_ge, ev_isNon, ev_isntNon, ev_t0, ev_t1, ev_l0, ev_l1, ev_abs, ev_int, ev_intB, ev_lenL, ev_lenT, ev_tupL, ev_eqI, ev_neI, C.pure_bind, C.raise_bind, C.no_bind]
    rw [tg2]
    simp only [ev_bin, ev_cmp, ev_un, ev_valB, ev_asB, ev_andVt, ev_andVf, ev_orVt, ev_orVf, ev_notV, ev_andTt, ev_andTf, ev_orTt, ev_orTf, ev_notT, ev_ifEt, ev_ifEf, ev_args0, ev_args1, ev_tupC, ev_lstC, ev_dicC, ev_callM, ev_callK, ev_callO, ev_asL, ev_lift, ev_ap1, ev_ap2, ev_ap3, ev_isi, ev_add, ev_sub, ev_neg, ev_lt, ev_le, ev_gt, ev_ge, ev_isNon, ev_isntNon, ev_t0, ev_t1, ev_l0, ev_l1, ev_abs, ev_int, ev_intB, ev_lenL, ev_lenT, ev_tupL, ev_eqI, ev_neI, C.pure_bind, C.raise_bind, C.no_bind]
    rw [show (dueC (some M)).isNon = false from rfl]
    simp only [ev_bin, ev_cmp, ev_un, ev_valB, ev_asB, ev_andVt, ev_andVf, ev_orVt, ev_orVf, ev_notV, ev_andTt, ev_andTf, ev_orTt, ev_orTf, ev_notT, ev_ifEt, ev_ifEf, ev_args0, ev_args1, ev_tupC, ev_lstC, ev_dicC, ev_callM, ev_callK, ev_callO, ev_asL, ev_lift, ev_ap1, ev_ap2, ev_ap3, ev_isi, ev_add, ev_sub, ev_neg, ev_lt, ev_le, ev_gt, ev_ge, ev_isNon, ev_isntNon, ev_t0, ev_t1, ev_l0, ev_l1, ev_abs, ev_int, ev_intB, ev_lenL, ev_lenT, ev_tupL, ev_eqI, ev_neI, C.pure_bind, C.raise_bind, C.no_bind]
    rw [show (D.isNon .non) = true from rfl]
    simp only [ev_bin, ev_cmp, ev_un, ev_valB, ev_asB, ev_andVt, ev_andVf, ev_orVt, ev_orVf, ev_notV, ev_andTt, ev_andTf, ev_orTt, ev_orTf, ev_notT, ev_ifEt, ev_ifEf, ev_args0, ev_args1, ev_tupC, ev_lstC, ev_dicC, ev_callM, ev_callK, ev_callO, ev_asL, ev_lift, ev_ap1, ev_ap2, ev_ap3, ev_isi, ev_add, ev_sub, ev_neg, ev_lt, ev_le, ev_gt, ev_ge, ev_isNon, ev_isntNon, ev_t0, ev_t1, ev_l0, ev_l1, ev_abs, ev_int, ev_intB, ev_lenL, ev_lenT, ev_tupL, ev_eqI, ev_neI, C.pure_bind, C.raise_bind, C.no_bind]
    exact is_F 2 M
  | none =>
    show (heardC known (C.raise "NoClack" _) >>= _) = _
    rw [heard_exc]
    simp only [ev_bin, ev_cmp, ev_un, ev_valB, ev_asB, ev_andVt, ev_andVf, ev_orVt, ev_orVf, ev_notV, ev_andTt, ev_andTf, ev_orTt, ev_orTf, ev_notT, ev_ifEt, ev_ifEf, ev_args0, ev_args1, ev_tupC, ev_lstC, ev_dicC, ev_callM, ev_callK, ev_callO, ev_asL, ev_lift, ev_ap1, ev_ap2, ev_ap3, ev_isi, ev_add, ev_sub, ev_neg, ev_lt, ev_le, ev_gt, ev_ge, ev_isNon, ev_isntNon, ev_t0, ev_t1, ev_l0, ev_l1, ev_abs, ev_int, ev_intB, ev_lenL, ev_lenT, ev_tupL, ev_eqI, ev_neI, C.pure_bind, C.raise_bind, C.no_bind]
    rw [tg2]
    simp only [ev_bin, ev_cmp, ev_un, ev_valB, ev_asB, ev_andVt, ev_andVf, ev_orVt, ev_orVf, ev_notV, ev_andTt, ev_andTf, ev_orTt, ev_orTf, ev_notT, ev_ifEt, ev_ifEf, ev_args0, ev_args1, ev_tupC, ev_lstC, ev_dicC, ev_callM, ev_callK, ev_callO, ev_asL, ev_lift, ev_ap1, ev_ap2, ev_ap3, ev_isi, ev_add, ev_sub, ev_neg, ev_lt, ev_le, ev_gt, ev_ge, ev_isNon, ev_isntNon, ev_t0, ev_t1, ev_l0, ev_l1, ev_abs, ev_int, ev_intB, ev_lenL, ev_lenT, ev_tupL, ev_eqI, ev_neI, C.pure_bind, C.raise_bind, C.no_bind]
    rw [show (dueC none).isNon = true from rfl]
    simp only [ev_bin, ev_cmp, ev_un, ev_valB, ev_asB, ev_andVt, ev_andVf, ev_orVt, ev_orVf, ev_notV, ev_andTt, ev_andTf, ev_orTt, ev_orTf, ev_notT, ev_ifEt, ev_ifEf, ev_args0, ev_args1, ev_tupC, ev_lstC, ev_dicC, ev_callM, ev_callK, ev_callO, ev_asL, ev_lift, ev_ap1, ev_ap2, ev_ap3, ev_isi, ev_add, ev_sub, ev_neg, ev_lt, ev_le, ev_gt, ev_ge, ev_isNon, ev_isntNon, ev_t0, ev_t1, ev_l0, ev_l1, ev_abs, ev_int, ev_intB, ev_lenL, ev_lenT, ev_tupL, ev_eqI, ev_neI, C.pure_bind, C.raise_bind, C.no_bind]
    rw [isexc, excv]
    simp only [ev_bin, ev_cmp, ev_un, ev_valB, ev_asB, ev_andVt, ev_andVf, ev_orVt, ev_orVf, ev_notV, ev_andTt, ev_andTf, ev_orTt, ev_orTf, ev_notT, ev_ifEt, ev_ifEf, ev_args0, ev_args1, ev_tupC, ev_lstC, ev_dicC, ev_callM, ev_callK, ev_callO, ev_asL, ev_lift, ev_ap1, ev_ap2, ev_ap3, ev_isi, ev_add, ev_sub, ev_neg, ev_lt, ev_le, ev_gt, ev_ge, ev_isNon, ev_isntNon, ev_t0, ev_t1, ev_l0, ev_l1, ev_abs, ev_int, ev_intB, ev_lenL, ev_lenT, ev_tupL, ev_eqI, ev_neI, C.pure_bind, C.raise_bind, C.no_bind]
    exact repr_self hu hv hn hn2
end K35
set_option Elab.async false
set_option linter.all false
set_option maxRecDepth 100000
set_option maxHeartbeats 1000000
namespace K35
open PySem PySem.Spec L2 Fw
/-! ### rows -/
abbrev QQ := RR × RR
def Q (q : QQ) : D := .tup [P2 q.1, P2 q.2]
def rowR : Rat → List QQ → Except QQ (List Rat)
  | _, [] => .ok []
  | m, q :: qs => match dueR m q.1 q.2 with
    | none => .error q
    | some M => match rowR M qs with
      | .ok ms => .ok (M :: ms)
      | .error e => .error e
def Fits : Nat → List QQ → Prop
  | _, [] => True
  | j, q :: qs => ∃ n n2, BdP n q.1 ∧ BdP n2 q.2 ∧ n ≤ 1000 ∧ n2 ≤ 1000 ∧ 4 * j + 4 * (n + n2 + 1) + 3 * n + 4 ≤ 8000 ∧ Fits (j + 2 * (n + n2 + 1)) qs
theorem dueR_eq {m M : Rat} {u v : RR} (h : dueR m u v = some M) : Told m u v ∧ M = dueM m u v := by
  unfold dueR at h
  by_cases t : Told m u v
  · rw [if_pos t] at h; exact ⟨t, (Option.some.inj h).symm⟩
  · rw [if_neg t] at h; cases h
theorem dueR_pos {m M : Rat} {u v : RR} (h : dueR m u v = some M) : 0 < M := by
  obtain ⟨t, rfl⟩ := dueR_eq h
  exact t.2.2.2
theorem dueR_bd {m M : Rat} {u v : RR} {j n n2 : Nat} (h : dueR m u v = some M) (hm : Bd j m) (hu : BdP n u) (hv : BdP n2 v) : Bd (j + 2 * (n + n2 + 1)) M := by
  obtain ⟨t, rfl⟩ := dueR_eq h
  exact ((hm.mul (hu.1.sub hv.1)).div (hv.2.sub hu.2) (ne_of_lt_sub t.2.2.1)).mono (by omega)
theorem ix_last {pre : List D} {x : D} : D.ix (.lst (pre ++ [x])) (.int (-1)) = some x := by
  show atI (pre ++ [x]) (-1) = _
  unfold atI ixN
  rw [if_neg (by decide), if_pos (by rw [List.length_append, List.length_singleton]; omega)]
  show (pre ++ [x])[((-1 : Int) + ((pre ++ [x]).length : Nat)).toNat]? = _
  have e : ((-1 : Int) + ((pre ++ [x]).length : Nat)).toNat = pre.length := by rw [List.length_append, List.length_singleton]; omega
  rw [e]; simp
theorem app_eq {ds : List D} {d : D} (h : ds.length < 2 ^ 24) : appC ds d = pure (ds ++ [d]) := if_pos h
def toldR (f : List Rat → List D) : Except QQ (List Rat) → C (List D)
  | .ok ms => pure (f ms)
  | .error q => C.raise "NoClack" (Q q)
theorem told_loop : ∀ (qs : List QQ) (j : Nat) (m : Rat) (pre : List D), 0 < m → Bd j m → Fits j qs → pre.length + qs.length < 1000 →
    forC (S := List D) (.tp [.nm, .nm]) (fun found6 => ap2 fun ahead7 behind8 => (callM m_other_mass [bin D.ix (pure (.lst found6)) (un D.neg (pure (.int 1))), pure ahead7, pure behind8]) >>= fun d => appC found6 d >>= fun found9 => pure found9) (qs.map Q) (pre ++ [F m]) =
      toldR (fun ms => pre ++ F m :: ms.map F) (rowR m qs)
  | [], j, m, pre, _, _, _, _ => rfl
  | q :: qs, j, m, pre, h0, hm, hf, hl => by
    obtain ⟨n, n2, hu, hv, _, _, hb, hf'⟩ := hf
    rw [List.map_cons]
    unfold forC Q
    rw [tg2]
    simp only [ev_bin, ev_cmp, ev_un, ev_valB, ev_asB, ev_andVt, ev_andVf, ev_orVt, ev_orVf, ev_notV, ev_andTt, ev_andTf, ev_orTt, ev_orTf, ev_notT, ev_ifEt, ev_ifEf, ev_args0, ev_args1, ev_tupC, ev_lstC, ev_dicC, ev_callM, ev_callK, ev_callO, ev_asL, ev_lift, ev_ap1, ev_ap2, ev_ap3, ev_isi, ev_add, ev_sub, ev_neg, ev_lt, ev_le, ev_gt, ev_ge, ev_isNon, ev_isntNon, ev_t0, ev_t1, ev_l0, ev_l1, ev_abs, ev_int, ev_intB, ev_lenL, ev_lenT, ev_tupL, ev_eqI, ev_neI, C.pure_bind, C.raise_bind, C.no_bind]
    rw [ix_last]
    simp only [ev_bin, ev_cmp, ev_un, ev_valB, ev_asB, ev_andVt, ev_andVf, ev_orVt, ev_orVf, ev_notV, ev_andTt, ev_andTf, ev_orTt, ev_orTf, ev_notT, ev_ifEt, ev_ifEf, ev_args0, ev_args1, ev_tupC, ev_lstC, ev_dicC, ev_callM, ev_callK, ev_callO, ev_asL, ev_lift, ev_ap1, ev_ap2, ev_ap3, ev_isi, ev_add, ev_sub, ev_neg, ev_lt, ev_le, ev_gt, ev_ge, ev_isNon, ev_isntNon, ev_t0, ev_t1, ev_l0, ev_l1, ev_abs, ev_int, ev_intB, ev_lenL, ev_lenT, ev_tupL, ev_eqI, ev_neI, C.pure_bind, C.raise_bind, C.no_bind]
    rw [other_eq hm hu hv (by omega)]
    unfold rowR
    cases e : dueR m q.1 q.2 with
    | none => rfl
    | some M =>
      show ((pure (F M) >>= fun d => _) >>= _) = _
      rw [C.pure_bind, app_eq (by rw [List.length_append, List.length_singleton]; simp only [List.length_cons] at hl; omega), C.pure_bind, C.pure_bind]
      have ih := told_loop qs _ M (pre ++ [F m]) (dueR_pos e) (dueR_bd e hm hu hv) hf' (by rw [List.length_append, List.length_singleton]; simp only [List.length_cons] at hl; omega)
      have ih' := ih
      unfold Q at ih'
      simp only [ev_bin, ev_cmp, ev_un, ev_valB, ev_asB, ev_andVt, ev_andVf, ev_orVt, ev_orVf, ev_notV, ev_andTt, ev_andTf, ev_orTt, ev_orTf, ev_notT, ev_ifEt, ev_ifEf, ev_args0, ev_args1, ev_tupC, ev_lstC, ev_dicC, ev_callM, ev_callK, ev_callO, ev_asL, ev_lift, ev_ap1, ev_ap2, ev_ap3, ev_isi, ev_add, ev_sub, ev_neg, ev_lt, ev_le, ev_gt, ev_ge, ev_isNon, ev_isntNon, ev_t0, ev_t1, ev_l0, ev_l1, ev_abs, ev_int, ev_intB, ev_lenL, ev_lenT, ev_tupL, ev_eqI, ev_neI, C.pure_bind, C.raise_bind, C.no_bind] at ih'
      rw [ih']
      show _ = toldR (fun ms => pre ++ F m :: ms.map F) (match rowR M qs with
        | .ok ms => .ok (M :: ms)
        | .error e => .error e)
      cases rowR M qs with
      | ok ms =>
        show (pure (pre ++ [F m] ++ F M :: ms.map F) : C (List D)) = pure (pre ++ F m :: (M :: ms).map F)
        simp
      | error e => rfl
theorem isseen_eq (q : QQ) : m_is_seen [Q q] = pure (.bl true) := by
  show b_is_seen _ = _
  unfold b_is_seen Q
  rw [iterT_tup, all_true (ds := [_, _]) (show 2 < 2 ^ 24 by decide) (fun d hd => ?_)]
  · simp only [ev_bin, ev_cmp, ev_un, ev_valB, ev_asB, ev_andVt, ev_andVf, ev_orVt, ev_orVf, ev_notV, ev_andTt, ev_andTf, ev_orTt, ev_orTf, ev_notT, ev_ifEt, ev_ifEf, ev_args0, ev_args1, ev_tupC, ev_lstC, ev_dicC, ev_callM, ev_callK, ev_callO, ev_asL, ev_lift, ev_ap1, ev_ap2, ev_ap3, ev_isi, ev_add, ev_sub, ev_neg, ev_lt, ev_le, ev_gt, ev_ge, ev_isNon, ev_isntNon, ev_t0, ev_t1, ev_l0, ev_l1, ev_abs, ev_int, ev_intB, ev_lenL, ev_lenT, ev_tupL, ev_eqI, ev_neI, C.pure_bind, C.raise_bind, C.no_bind]
    rw [istuple_eq]; rfl
  · simp only [List.mem_cons, List.not_mem_nil, or_false] at hd
    rcases hd with rfl | rfl <;> (simp only [ev_bin, ev_cmp, ev_un, ev_valB, ev_asB, ev_andVt, ev_andVf, ev_orVt, ev_orVf, ev_notV, ev_andTt, ev_andTf, ev_orTt, ev_orTf, ev_notT, ev_ifEt, ev_ifEf, ev_args0, ev_args1, ev_tupC, ev_lstC, ev_dicC, ev_callM, ev_callK, ev_callO, ev_asL, ev_lift, ev_ap1, ev_ap2, ev_ap3, ev_isi, ev_add, ev_sub, ev_neg, ev_lt, ev_le, ev_gt, ev_ge, ev_isNon, ev_isntNon, ev_t0, ev_t1, ev_l0, ev_l1, ev_abs, ev_int, ev_intB, ev_lenL, ev_lenT, ev_tupL, ev_eqI, ev_neI, C.pure_bind, C.raise_bind, C.no_bind]; exact ispair_eq _)
def toldT (m : Rat) : Except QQ (List Rat) → C D
  | .ok ms => pure (.tup (F m :: ms.map F))
  | .error q => C.raise "NoClack" (Q q)
theorem masses_eq {qs : List QQ} {j : Nat} {m : Rat} (h0 : 0 < m) (hm : Bd j m) (hf : Fits j qs) (hl : qs.length ≤ 5) : m_masses_told [F m, .tup (qs.map Q)] = toldT m (rowR m qs) := by
  show b_masses_told _ _ = _
  unfold b_masses_told
  have L := told_loop qs j m [] h0 hm hf (by simp; omega)
  rw [iterT_tup, all_true (by rw [List.length_map]; omega) (fun d hd => by
    obtain ⟨q, _, rfl⟩ := List.mem_map.mp hd
    simp only [ev_bin, ev_cmp, ev_un, ev_valB, ev_asB, ev_andVt, ev_andVf, ev_orVt, ev_orVf, ev_notV, ev_andTt, ev_andTf, ev_orTt, ev_orTf, ev_notT, ev_ifEt, ev_ifEf, ev_args0, ev_args1, ev_tupC, ev_lstC, ev_dicC, ev_callM, ev_callK, ev_callO, ev_asL, ev_lift, ev_ap1, ev_ap2, ev_ap3, ev_isi, ev_add, ev_sub, ev_neg, ev_lt, ev_le, ev_gt, ev_ge, ev_isNon, ev_isntNon, ev_t0, ev_t1, ev_l0, ev_l1, ev_abs, ev_int, ev_intB, ev_lenL, ev_lenT, ev_tupL, ev_eqI, ev_neI, C.pure_bind, C.raise_bind, C.no_bind]
    exact isseen_eq q)]
  simp only [ev_bin, ev_cmp, ev_un, ev_valB, ev_asB, ev_andVt, ev_andVf, ev_orVt, ev_orVf, ev_notV, ev_andTt, ev_andTf, ev_orTt, ev_orTf, ev_notT, ev_ifEt, ev_ifEf, ev_args0, ev_args1, ev_tupC, ev_lstC, ev_dicC, ev_callM, ev_callK, ev_callO, ev_asL, ev_lift, ev_ap1, ev_ap2, ev_ap3, ev_isi, ev_add, ev_sub, ev_neg, ev_lt, ev_le, ev_gt, ev_ge, ev_isNon, ev_isntNon, ev_t0, ev_t1, ev_l0, ev_l1, ev_abs, ev_int, ev_intB, ev_lenL, ev_lenT, ev_tupL, ev_eqI, ev_neI, C.pure_bind, C.raise_bind, C.no_bind]
  rw [check_eq h0]
  simp only [ev_bin, ev_cmp, ev_un, ev_valB, ev_asB, ev_andVt, ev_andVf, ev_orVt, ev_orVf, ev_notV, ev_andTt, ev_andTf, ev_orTt, ev_orTf, ev_notT, ev_ifEt, ev_ifEf, ev_args0, ev_args1, ev_tupC, ev_lstC, ev_dicC, ev_callM, ev_callK, ev_callO, ev_asL, ev_lift, ev_ap1, ev_ap2, ev_ap3, ev_isi, ev_add, ev_sub, ev_neg, ev_lt, ev_le, ev_gt, ev_ge, ev_isNon, ev_isntNon, ev_t0, ev_t1, ev_l0, ev_l1, ev_abs, ev_int, ev_intB, ev_lenL, ev_lenT, ev_tupL, ev_eqI, ev_neI, C.pure_bind, C.raise_bind, C.no_bind]
  rw [istuple_eq, List.length_map, decide_eq_true (show (0 : Int) ≤ qs.length by omega), decide_eq_true (show (qs.length : Int) ≤ 5 by omega)]
  simp only [ev_bin, ev_cmp, ev_un, ev_valB, ev_asB, ev_andVt, ev_andVf, ev_orVt, ev_orVf, ev_notV, ev_andTt, ev_andTf, ev_orTt, ev_orTf, ev_notT, ev_ifEt, ev_ifEf, ev_args0, ev_args1, ev_tupC, ev_lstC, ev_dicC, ev_callM, ev_callK, ev_callO, ev_asL, ev_lift, ev_ap1, ev_ap2, ev_ap3, ev_isi, ev_add, ev_sub, ev_neg, ev_lt, ev_le, ev_gt, ev_ge, ev_isNon, ev_isntNon, ev_t0, ev_t1, ev_l0, ev_l1, ev_abs, ev_int, ev_intB, ev_lenL, ev_lenT, ev_tupL, ev_eqI, ev_neI, C.pure_bind, C.raise_bind, C.no_bind]
  rw [show (!(true && true)) = false from rfl, show (!true) = false from rfl]
  simp only [ev_bin, ev_cmp, ev_un, ev_valB, ev_asB, ev_andVt, ev_andVf, ev_orVt, ev_orVf, ev_notV, ev_andTt, ev_andTf, ev_orTt, ev_orTf, ev_notT, ev_ifEt, ev_ifEf, ev_args0, ev_args1, ev_tupC, ev_lstC, ev_dicC, ev_callM, ev_callK, ev_callO, ev_asL, ev_lift, ev_ap1, ev_ap2, ev_ap3, ev_isi, ev_add, ev_sub, ev_neg, ev_lt, ev_le, ev_gt, ev_ge, ev_isNon, ev_isntNon, ev_t0, ev_t1, ev_l0, ev_l1, ev_abs, ev_int, ev_intB, ev_lenL, ev_lenT, ev_tupL, ev_eqI, ev_neI, C.pure_bind, C.raise_bind, C.no_bind]
  simp only [ev_bin, ev_cmp, ev_un, ev_valB, ev_asB, ev_andVt, ev_andVf, ev_orVt, ev_orVf, ev_notV, ev_andTt, ev_andTf, ev_orTt, ev_orTf, ev_notT, ev_ifEt, ev_ifEf, ev_args0, ev_args1, ev_tupC, ev_lstC, ev_dicC, ev_callM, ev_callK, ev_callO, ev_asL, ev_lift, ev_ap1, ev_ap2, ev_ap3, ev_isi, ev_add, ev_sub, ev_neg, ev_lt, ev_le, ev_gt, ev_ge, ev_isNon, ev_isntNon, ev_t0, ev_t1, ev_l0, ev_l1, ev_abs, ev_int, ev_intB, ev_lenL, ev_lenT, ev_tupL, ev_eqI, ev_neI, C.pure_bind, C.raise_bind, C.no_bind] at L
  rw [List.nil_append] at L
  rw [L]
  cases rowR m qs with
  | ok ms => rfl
  | error q => rfl
def dueL (f : List Rat → List D) : Except QQ (List Rat) → D ⊕ List D
  | .ok ms => .inr (f ms)
  | .error q => .inl (.tup [.non, Q q])
theorem due_loop : ∀ (qs : List QQ) (j : Nat) (m : Rat) (pre : List D), 0 < m → Bd j m → Fits j qs → pre.length + qs.length < 1000 →
    forR (S := List D) (.tp [.nm, .nm]) (fun found5 => ap2 fun ahead6 behind7 => (callM m__law_due [bin D.ix (pure (.lst found5)) (un D.neg (pure (.int 1))), pure ahead6, pure behind7]) >>= fun other8 => ifE (cmp D.is_ (pure other8) (pure .non)) ((tupC [pure .non, tupC [pure ahead6, pure behind7]]) >>= fun d => pure (.inl d)) ((pure other8) >>= fun d => appC found5 d >>= fun found9 => pure (.inr found9))) (qs.map Q) (pre ++ [F m]) =
      pure (dueL (fun ms => pre ++ F m :: ms.map F) (rowR m qs))
  | [], j, m, pre, _, _, _, _ => rfl
  | q :: qs, j, m, pre, h0, hm, hf, hl => by
    obtain ⟨n, n2, hu, hv, _, _, hb, hf'⟩ := hf
    rw [List.map_cons]
    unfold forR Q
    rw [tg2]
    simp only [ev_bin, ev_cmp, ev_un, ev_valB, ev_asB, ev_andVt, ev_andVf, ev_orVt, ev_orVf, ev_notV, ev_andTt, ev_andTf, ev_orTt, ev_orTf, ev_notT, ev_ifEt, ev_ifEf, ev_args0, ev_args1, ev_tupC, ev_lstC, ev_dicC, ev_callM, ev_callK, ev_callO, ev_asL, ev_lift, ev_ap1, ev_ap2, ev_ap3, ev_isi, ev_add, ev_sub, ev_neg, ev_lt, ev_le, ev_gt, ev_ge, ev_isNon, ev_isntNon, ev_t0, ev_t1, ev_l0, ev_l1, ev_abs, ev_int, ev_intB, ev_lenL, ev_lenT, ev_tupL, ev_eqI, ev_neI, C.pure_bind, C.raise_bind, C.no_bind]
    rw [ix_last]
    simp only [ev_bin, ev_cmp, ev_un, ev_valB, ev_asB, ev_andVt, ev_andVf, ev_orVt, ev_orVf, ev_notV, ev_andTt, ev_andTf, ev_orTt, ev_orTf, ev_notT, ev_ifEt, ev_ifEf, ev_args0, ev_args1, ev_tupC, ev_lstC, ev_dicC, ev_callM, ev_callK, ev_callO, ev_asL, ev_lift, ev_ap1, ev_ap2, ev_ap3, ev_isi, ev_add, ev_sub, ev_neg, ev_lt, ev_le, ev_gt, ev_ge, ev_isNon, ev_isntNon, ev_t0, ev_t1, ev_l0, ev_l1, ev_abs, ev_int, ev_intB, ev_lenL, ev_lenT, ev_tupL, ev_eqI, ev_neI, C.pure_bind, C.raise_bind, C.no_bind]
    rw [due_eq h0 hm hu hv hb]
    unfold rowR
    cases e : dueR m q.1 q.2 with
    | none =>
      simp only [ev_bin, ev_cmp, ev_un, ev_valB, ev_asB, ev_andVt, ev_andVf, ev_orVt, ev_orVf, ev_notV, ev_andTt, ev_andTf, ev_orTt, ev_orTf, ev_notT, ev_ifEt, ev_ifEf, ev_args0, ev_args1, ev_tupC, ev_lstC, ev_dicC, ev_callM, ev_callK, ev_callO, ev_asL, ev_lift, ev_ap1, ev_ap2, ev_ap3, ev_isi, ev_add, ev_sub, ev_neg, ev_lt, ev_le, ev_gt, ev_ge, ev_isNon, ev_isntNon, ev_t0, ev_t1, ev_l0, ev_l1, ev_abs, ev_int, ev_intB, ev_lenL, ev_lenT, ev_tupL, ev_eqI, ev_neI, C.pure_bind, C.raise_bind, C.no_bind]
      rw [show (dueC none).isNon = true from rfl]
      rfl
    | some M =>
      simp only [ev_bin, ev_cmp, ev_un, ev_valB, ev_asB, ev_andVt, ev_andVf, ev_orVt, ev_orVf, ev_notV, ev_andTt, ev_andTf, ev_orTt, ev_orTf, ev_notT, ev_ifEt, ev_ifEf, ev_args0, ev_args1, ev_tupC, ev_lstC, ev_dicC, ev_callM, ev_callK, ev_callO, ev_asL, ev_lift, ev_ap1, ev_ap2, ev_ap3, ev_isi, ev_add, ev_sub, ev_neg, ev_lt, ev_le, ev_gt, ev_ge, ev_isNon, ev_isntNon, ev_t0, ev_t1, ev_l0, ev_l1, ev_abs, ev_int, ev_intB, ev_lenL, ev_lenT, ev_tupL, ev_eqI, ev_neI, C.pure_bind, C.raise_bind, C.no_bind]
      rw [show (dueC (some M)).isNon = false from rfl]
      simp only [ev_bin, ev_cmp, ev_un, ev_valB, ev_asB, ev_andVt, ev_andVf, ev_orVt, ev_orVf, ev_notV, ev_andTt, ev_andTf, ev_orTt, ev_orTf, ev_notT, ev_ifEt, ev_ifEf, ev_args0, ev_args1, ev_tupC, ev_lstC, ev_dicC, ev_callM, ev_callK, ev_callO, ev_asL, ev_lift, ev_ap1, ev_ap2, ev_ap3, ev_isi, ev_add, ev_sub, ev_neg, ev_lt, ev_le, ev_gt, ev_ge, ev_isNon, ev_isntNon, ev_t0, ev_t1, ev_l0, ev_l1, ev_abs, ev_int, ev_intB, ev_lenL, ev_lenT, ev_tupL, ev_eqI, ev_neI, C.pure_bind, C.raise_bind, C.no_bind]
      rw [app_eq (by rw [List.length_append, List.length_singleton]; simp only [List.length_cons] at hl; omega), C.pure_bind, C.pure_bind]
      have ih := due_loop qs _ M (pre ++ [F m]) (dueR_pos e) (dueR_bd e hm hu hv) hf' (by rw [List.length_append, List.length_singleton]; simp only [List.length_cons] at hl; omega)
      have ih' := ih
      unfold Q at ih'
      simp only [ev_bin, ev_cmp, ev_un, ev_valB, ev_asB, ev_andVt, ev_andVf, ev_orVt, ev_orVf, ev_notV, ev_andTt, ev_andTf, ev_orTt, ev_orTf, ev_notT, ev_ifEt, ev_ifEf, ev_args0, ev_args1, ev_tupC, ev_lstC, ev_dicC, ev_callM, ev_callK, ev_callO, ev_asL, ev_lift, ev_ap1, ev_ap2, ev_ap3, ev_isi, ev_add, ev_sub, ev_neg, ev_lt, ev_le, ev_gt, ev_ge, ev_isNon, ev_isntNon, ev_t0, ev_t1, ev_l0, ev_l1, ev_abs, ev_int, ev_intB, ev_lenL, ev_lenT, ev_tupL, ev_eqI, ev_neI, C.pure_bind, C.raise_bind, C.no_bind] at ih'
      show forR _ _ _ (pre ++ [F m] ++ [F M]) = _
      rw [ih']
      show _ = pure (dueL (fun ms => pre ++ F m :: ms.map F) (match rowR M qs with
        | .ok ms => .ok (M :: ms)
        | .error e => .error e))
      cases rowR M qs with
      | ok ms =>
        show (pure (.inr (pre ++ [F m] ++ F M :: ms.map F)) : C (D ⊕ List D)) = pure (.inr (pre ++ F m :: (M :: ms).map F))
        simp
      | error e => rfl
def dueT (m : Rat) : Except QQ (List Rat) → D
  | .ok ms => .tup [.tup (F m :: ms.map F), .non]
  | .error q => .tup [.non, Q q]
theorem rowdue_eq {qs : List QQ} {j : Nat} {m : Rat} (h0 : 0 < m) (hm : Bd j m) (hf : Fits j qs) (hl : qs.length ≤ 5) : m__law_row_due [F m, .lst (qs.map Q)] = pure (dueT m (rowR m qs)) := by
  show b__law_row_due _ _ = _
  unfold b__law_row_due
  have L := due_loop qs j m [] h0 hm hf (by simp; omega)
  rw [iterL_lst]
  simp only [ev_bin, ev_cmp, ev_un, ev_valB, ev_asB, ev_andVt, ev_andVf, ev_orVt, ev_orVf, ev_notV, ev_andTt, ev_andTf, ev_orTt, ev_orTf, ev_notT, ev_ifEt, ev_ifEf, ev_args0, ev_args1, ev_tupC, ev_lstC, ev_dicC, ev_callM, ev_callK, ev_callO, ev_asL, ev_lift, ev_ap1, ev_ap2, ev_ap3, ev_isi, ev_add, ev_sub, ev_neg, ev_lt, ev_le, ev_gt, ev_ge, ev_isNon, ev_isntNon, ev_t0, ev_t1, ev_l0, ev_l1, ev_abs, ev_int, ev_intB, ev_lenL, ev_lenT, ev_tupL, ev_eqI, ev_neI, C.pure_bind, C.raise_bind, C.no_bind]
  simp only [ev_bin, ev_cmp, ev_un, ev_valB, ev_asB, ev_andVt, ev_andVf, ev_orVt, ev_orVf, ev_notV, ev_andTt, ev_andTf, ev_orTt, ev_orTf, ev_notT, ev_ifEt, ev_ifEf, ev_args0, ev_args1, ev_tupC, ev_lstC, ev_dicC, ev_callM, ev_callK, ev_callO, ev_asL, ev_lift, ev_ap1, ev_ap2, ev_ap3, ev_isi, ev_add, ev_sub, ev_neg, ev_lt, ev_le, ev_gt, ev_ge, ev_isNon, ev_isntNon, ev_t0, ev_t1, ev_l0, ev_l1, ev_abs, ev_int, ev_intB, ev_lenL, ev_lenT, ev_tupL, ev_eqI, ev_neI, C.pure_bind, C.raise_bind, C.no_bind] at L
  rw [List.nil_append] at L
  rw [L]
  cases rowR m qs with
  | ok ms => rfl
  | error q => rfl
end K35
set_option Elab.async false
set_option linter.all false
set_option maxRecDepth 100000
set_option maxHeartbeats 1000000
namespace K35
open PySem PySem.Spec L2 Fw
/-! ### draws -/
theorem prime_ix {i : Int} (h0 : 0 ≤ i) (h1 : i < 5) : ∃ p : Int, D.ix (.lst [.int 2147483647, .int 2147483629, .int 2147483587, .int 2147483579, .int 2147483563]) (.int i) = some (.int p) ∧ 0 < p ∧ p ≤ 2147483647 := by
  have : i = 0 ∨ i = 1 ∨ i = 2 ∨ i = 3 ∨ i = 4 := by omega
  rcases this with rfl | rfl | rfl | rfl | rfl
  · exact ⟨2147483647, rfl, by decide, by decide⟩
  · exact ⟨2147483629, rfl, by decide, by decide⟩
  · exact ⟨2147483587, rfl, by decide, by decide⟩
  · exact ⟨2147483579, rfl, by decide, by decide⟩
  · exact ⟨2147483563, rfl, by decide, by decide⟩
theorem take_run {k n : Nat} {M : Mem} {up : Int} (hp : Pot k n M) (h0 : 0 < up) (h1 : up ≤ 1000000) (hk : k ≤ 1000) : ∃ (r : Int) (M' : Mem), m__law_take [.cell n, .int up] M = .ok (.int r) M' ∧ 0 ≤ r ∧ r < up ∧ Pot (k + 1) n M' := by
  obtain ⟨own, s, c, hM, p1, p2, p3, p4, p5⟩ := hp
  have hn : n < M.length := (List.getElem?_eq_some_iff.mp hM).1
  show ∃ r M', b__law_take _ _ M = .ok (.int r) M' ∧ _
  unfold b__law_take
  have hup0 : up ≠ 0 := by omega
  have hupl : up.natAbs.log2 < 9000 := by have := log2_le (x := up.natAbs) (n := 20) (by omega); omega
  have t : R (cmp D.gt (cellIx (pure (.cell n)) (pure (.int 0))) (pure (.int 0))) (decide (0 < own)) M := R.cmp (R.rd hM at0) R.pure ev_gt
  rw [if_run t]
  by_cases ho : 0 < own
  · rw [decide_eq_true ho, if_pos rfl]
    have r1 : R (Fw.bin D.mod (callO bInt [cellIx (pure (.cell n)) (pure (.int 0))]) (pure (.int up))) (.int (own.fmod up)) M := R.bin (R.call1 (R.rd hM at0) rfl) R.pure (ev_mod hup0)
    have r2 : R (Fw.bin D.div (cellIx (pure (.cell n)) (pure (.int 0))) (pure (.int up))) (.int (own.fdiv up)) M := R.bin (R.rd hM at0) R.pure (ev_div hup0 hupl)
    rw [C.bind_ok r1, C.bind_ok r2, C.pure_bind, C.bind_ok (wr_run (j := 0) hM rfl)]
    obtain ⟨f1, f2⟩ := fmod_rng (a := own) h0
    refine ⟨_, _, rfl, f1, f2, own.fdiv up, s, c, ?_, Int.fdiv_nonneg p1 (Int.le_of_lt h0), p2, p3, p4, by omega⟩
    rw [List.getElem?_set_self hn]; rfl
  · rw [decide_eq_false ho, if_neg (by decide)]
    have r1 : R (Fw.bin D.add (cellIx (pure (.cell n)) (pure (.int 2))) (pure (.int 1))) (.int (c + 1)) M := R.bin (R.rd hM at2) R.pure rfl
    have w1 : wrC (.cell n) (.int 2) (.int (c + 1)) M = .ok () (M.set n (.lst [.int own, .int s, .int (c + 1)])) := wr_run (j := 2) hM rfl
    rw [C.bind_ok r1, C.pure_bind, C.bind_ok w1]
    have hM' : (M.set n (.lst [.int own, .int s, .int (c + 1)]))[n]? = some (.lst [.int own, .int s, .int (c + 1)]) := List.getElem?_set_self hn
    generalize M.set n (.lst [.int own, .int s, .int (c + 1)]) = M1 at hM' ⊢
    obtain ⟨f1, f2⟩ := fmod_rng (a := c + 1) (b := 5) (by decide)
    obtain ⟨p, hpr, q1, q2⟩ := prime_ix f1 f2
    have r2 : R (Fw.bin D.ix (lstC [pure (.int 2147483647), pure (.int 2147483629), pure (.int 2147483587), pure (.int 2147483579), pure (.int 2147483563)]) (Fw.bin D.mod (callO bInt [cellIx (pure (.cell n)) (pure (.int 2))]) (pure (.int 5)))) (.int p) M1 :=
      R.bin R.pure (R.bin (R.call1 (R.rd hM' at2) rfl) R.pure (ev_mod (by decide))) hpr
    rw [C.bind_ok r2]
    have hc1 : (c + 1).natAbs ≤ 2 ^ 10 := by omega
    have a1 : R (Fw.bin D.mul (Fw.bin D.mul (pure (.int 114906)) (cellIx (pure (.cell n)) (pure (.int 2)))) (cellIx (pure (.cell n)) (pure (.int 2)))) (.int (114906 * (c + 1) * (c + 1))) M1 :=
      R.bin (R.bin R.pure (R.rd hM' at2) (ev_mul (by have := log2_le hc1; have := log2_le (x := (114906 : Int).natAbs) (n := 17) (by decide); omega))) (R.rd hM' at2)
        (ev_mul (by
          have e := log2_le (mul_le2 (a := 114906) (m := 17) (by decide) hc1)
          have := log2_le hc1; omega))
    have b1 : 0 ≤ 114906 * (c + 1) * (c + 1) := Int.mul_nonneg (Int.mul_nonneg (by decide) (by omega)) (by omega)
    have b2 : (114906 * (c + 1) * (c + 1)).natAbs ≤ 2 ^ 37 := mul_le2 (m := 27) (n := 10) (mul_le2 (m := 17) (n := 10) (by decide) hc1) hc1
    generalize 114906 * (c + 1) * (c + 1) = z at a1 b1 b2
    have hi : (s + z + 4128).natAbs ≤ 2 ^ 63 := by omega
    have a2 : R (callO bInt [Fw.bin D.pow (callO bInt [Fw.bin D.add (Fw.bin D.add (cellIx (pure (.cell n)) (pure (.int 1))) (Fw.bin D.mul (Fw.bin D.mul (pure (.int 114906)) (cellIx (pure (.cell n)) (pure (.int 2)))) (cellIx (pure (.cell n)) (pure (.int 2))))) (pure (.int 4128))]) (pure (.int 3))]) (.int ((s + z + 4128) ^ 3)) M1 :=
      R.call1 (R.bin (R.call1 (R.bin (R.bin (R.rd hM' at1) a1 rfl) R.pure rfl) rfl) R.pure (ev_pow (by decide) hi (by decide))) rfl
    rw [C.bind_ok (R.bin a2 R.pure (ev_mod (by omega)))]
    obtain ⟨g1, g2⟩ := fmod_rng (a := (s + z + 4128) ^ 3) q1
    generalize ((s + z + 4128) ^ 3).fmod p = bl at g1 g2
    obtain ⟨k1, k2⟩ := fmod_rng (a := bl) (b := 15444) (by decide)
    have hb : bl.natAbs ≤ 2 ^ 31 := by omega
    have a3 : R (Fw.bin D.mul (pure (.int 2012)) (cellIx (pure (.cell n)) (pure (.int 2)))) (.int (2012 * (c + 1))) M1 := R.bin R.pure (R.rd hM' at2) (ev_mul (by have := log2_le hc1; have := log2_le (x := (2012 : Int).natAbs) (n := 11) (by decide); omega))
    have a4 : R (callO bInt [Fw.bin D.mul (pure (.int bl)) (Fw.bin D.add (Fw.bin D.mod (callO bInt [pure (.int bl)]) (pure (.int 15444))) (Fw.bin D.mul (pure (.int 2012)) (cellIx (pure (.cell n)) (pure (.int 2)))))]) (.int (bl * (bl.fmod 15444 + 2012 * (c + 1)))) M1 :=
      R.call1 (R.bin R.pure (R.bin (R.bin R.pure R.pure (ev_mod (by decide))) a3 rfl) (ev_mul (by
        have := log2_le hb
        have := log2_le (x := (bl.fmod 15444 + 2012 * (c + 1)).natAbs) (n := 22) (by omega)
        omega))) rfl
    rw [C.bind_ok (R.bin a4 R.pure (ev_mod (by decide)))]
    generalize (bl * (bl.fmod 15444 + 2012 * (c + 1))).fmod 2305843009213693907 = b6
    have a5 : R (Fw.bin D.mod (callO bInt [Fw.bin D.div (pure (.int b6)) (pure (.int 167))]) (pure (.int up))) (.int ((b6.fdiv 167).fmod up)) M1 :=
      R.bin (R.call1 (R.bin R.pure R.pure (ev_div (by decide) (by have := log2_le (x := (167 : Int).natAbs) (n := 8) (by decide); omega))) rfl) R.pure (ev_mod hup0)
    obtain ⟨e1, e2⟩ := fmod_rng (a := b6.fdiv 167) h0
    exact ⟨_, _, a5, e1, e2, own, s, c + 1, hM', p1, p2, p3, by omega, by omega⟩
end K35
set_option Elab.async false
set_option linter.all false
set_option maxRecDepth 100000
set_option maxHeartbeats 1000000
namespace K35
open PySem PySem.Spec L2 Fw
theorem of_run {k n : Nat} {M : Mem} {xs : List D} (hp : Pot k n M) (h0 : xs ≠ []) (h1 : xs.length ≤ 1000) (hk : k ≤ 1000) : ∃ (x : D) (M' : Mem), m__law_of [.cell n, .lst xs] M = .ok x M' ∧ x ∈ xs ∧ Pot (k + 1) n M' := by
  have hl : 0 < xs.length := List.length_pos_iff.mpr h0
  obtain ⟨r, M', e, p1, p2, p3⟩ := take_run (up := xs.length) hp (by omega) (by omega) hk
  have hr : r.toNat < xs.length := by omega
  refine ⟨xs[r.toNat], M', ?_, List.getElem_mem hr, p3⟩
  show b__law_of _ _ M = _
  unfold b__law_of
  show ((m__law_take [.cell n, .int xs.length]) >>= fun b => lift (D.ix (.lst xs) b)) M = _
  rw [C.bind_ok e]
  have z : D.ix (.lst xs) (.int r) = some xs[r.toNat] := by
    show atI xs r = _
    unfold atI ixN
    rw [if_pos p1, if_pos p2]
    show xs[r.toNat]? = _
    rw [List.getElem?_eq_getElem hr]
  rw [z]; rfl
theorem Fl {x : Rat} {p q : Int} (h1 : x.num = p) (h2 : (x.den : Int) = q) : D.tup [.int p, .int q] = F x := by
  subst h1 h2; rfl
theorem mass_run {k n : Nat} {M : Mem} (hp : Pot k n M) (hk : k ≤ 1000) : ∃ (m : Rat) (M' : Mem), m__law_mass_drawn [.cell n] M = .ok (F m) M' ∧ 0 < m ∧ Bd 10 m ∧ Pot (k + 1) n M' := by
  obtain ⟨x, M', e, hx, hp'⟩ := of_run (xs := [.tup [.int 1, .int 1], .tup [.int 2, .int 1], .tup [.int 3, .int 1], .tup [.int 1, .int 2], .tup [.int 3, .int 2], .tup [.int 6, .int 1], .tup [.int 7, .int 5], .tup [.int 1000, .int 1], .tup [.int 1, .int 1000]]) hp (by simp) (by simp) hk
  have key : ∃ m : Rat, x = F m ∧ 0 < m ∧ Bd 10 m := by
    simp only [List.mem_cons, List.not_mem_nil, or_false] at hx
    rcases hx with rfl | rfl | rfl | rfl | rfl | rfl | rfl | rfl | rfl
    · exact ⟨1, Fl (by decide +kernel) (by decide +kernel), by decide +kernel, by decide +kernel, by decide +kernel⟩
    · exact ⟨2, Fl (by decide +kernel) (by decide +kernel), by decide +kernel, by decide +kernel, by decide +kernel⟩
    · exact ⟨3, Fl (by decide +kernel) (by decide +kernel), by decide +kernel, by decide +kernel, by decide +kernel⟩
    · exact ⟨1 / 2, Fl (by decide +kernel) (by decide +kernel), by decide +kernel, by decide +kernel, by decide +kernel⟩
    · exact ⟨3 / 2, Fl (by decide +kernel) (by decide +kernel), by decide +kernel, by decide +kernel, by decide +kernel⟩
    · exact ⟨6, Fl (by decide +kernel) (by decide +kernel), by decide +kernel, by decide +kernel, by decide +kernel⟩
    · exact ⟨7 / 5, Fl (by decide +kernel) (by decide +kernel), by decide +kernel, by decide +kernel, by decide +kernel⟩
    · exact ⟨1000, Fl (by decide +kernel) (by decide +kernel), by decide +kernel, by decide +kernel, by decide +kernel⟩
    · exact ⟨1 / 1000, Fl (by decide +kernel) (by decide +kernel), by decide +kernel, by decide +kernel, by decide +kernel⟩
  obtain ⟨m, rfl, h1, h2⟩ := key
  exact ⟨m, M', e, h1, h2, hp'⟩
theorem frac_run {k n : Nat} {M : Mem} (hp : Pot k n M) (hk : k ≤ 900) : ∃ (x : Rat) (M' : Mem), m__law_frac_drawn [.cell n, .int (-4), .int 4] M = .ok (F x) M' ∧ Bd 5 x ∧ Pot (k + 2) n M' := by
  obtain ⟨x, M1, e, hx, hp1⟩ := of_run (xs := [.int 1, .int 1, .int 1, .int 2, .int 3, .int 5]) hp (by simp) (by simp) (by omega)
  have key : ∃ b : Int, x = .int b ∧ 0 < b ∧ b ≤ 5 := by
    simp only [List.mem_cons, List.not_mem_nil, or_false] at hx
    rcases hx with rfl | rfl | rfl | rfl | rfl | rfl <;> exact ⟨_, rfl, by decide, by decide⟩
  obtain ⟨b, rfl, b1, b2⟩ := key
  obtain ⟨r, M2, e2, r1, r2, hp2⟩ := take_run (up := 8 * b + 1) hp1 (by omega) (by omega) (by omega)
  have hs : (-4 * b + r).natAbs ≤ 2 ^ 5 := by omega
  have hb : b.natAbs ≤ 2 ^ 5 := by omega
  refine ⟨Rat.divInt (-4 * b + r) b, M2, ?_, bd_divInt (by omega) hs hb, hp2.mono (by omega)⟩
  show b__law_frac_drawn _ _ _ M = _
  unfold b__law_frac_drawn
  have e' : callM m__law_of [pure (.cell n), lstC [pure (.int 1), pure (.int 1), pure (.int 1), pure (.int 2), pure (.int 3), pure (.int 5)]] M = .ok (.int b) M1 := e
  rw [C.bind_ok e']
  have a1 : Fw.bin D.mul (pure (.int (-4))) (pure (.int b)) = pure (.int (-4 * b)) := by simp only [ev_bin, ev_cmp, ev_un, ev_valB, ev_asB, ev_andVt, ev_andVf, ev_orVt, ev_orVf, ev_notV, ev_andTt, ev_andTf, ev_orTt, ev_orTf, ev_notT, ev_ifEt, ev_ifEf, ev_args0, ev_args1, ev_tupC, ev_lstC, ev_dicC, ev_callM, ev_callK, ev_callO, ev_asL, ev_lift, ev_ap1, ev_ap2, ev_ap3, ev_isi, ev_add, ev_sub, ev_neg, ev_lt, ev_le, ev_gt, ev_ge, ev_isNon, ev_isntNon, ev_t0, ev_t1, ev_l0, ev_l1, ev_abs, ev_int, ev_intB, ev_lenL, ev_lenT, ev_tupL, ev_eqI, ev_neI, C.pure_bind, C.raise_bind, C.no_bind]; rw [mulN (m := 5) (n := 5) (by decide) hb (by decide)]; rfl
  have a2 : Fw.bin D.mul (Fw.bin D.sub (pure (.int 4)) (pure (.int (-4)))) (pure (.int b)) = pure (.int (8 * b)) := by simp only [ev_bin, ev_cmp, ev_un, ev_valB, ev_asB, ev_andVt, ev_andVf, ev_orVt, ev_orVf, ev_notV, ev_andTt, ev_andTf, ev_orTt, ev_orTf, ev_notT, ev_ifEt, ev_ifEf, ev_args0, ev_args1, ev_tupC, ev_lstC, ev_dicC, ev_callM, ev_callK, ev_callO, ev_asL, ev_lift, ev_ap1, ev_ap2, ev_ap3, ev_isi, ev_add, ev_sub, ev_neg, ev_lt, ev_le, ev_gt, ev_ge, ev_isNon, ev_isntNon, ev_t0, ev_t1, ev_l0, ev_l1, ev_abs, ev_int, ev_intB, ev_lenL, ev_lenT, ev_tupL, ev_eqI, ev_neI, C.pure_bind, C.raise_bind, C.no_bind]; rw [mulN (m := 5) (n := 5) (by decide) hb (by decide)]; rfl
  rw [a1, a2]
  have e3 : callM m__law_take [pure (.cell n), Fw.bin D.add (pure (.int (8 * b))) (pure (.int 1))] M1 = .ok (.int r) M2 := e2
  have e4 : Fw.bin D.add (pure (.int (-4 * b))) (callM m__law_take [pure (.cell n), Fw.bin D.add (pure (.int (8 * b))) (pure (.int 1))]) M1 = .ok (.int (-4 * b + r)) M2 := by
    show (callM m__law_take [pure (.cell n), Fw.bin D.add (pure (.int (8 * b))) (pure (.int 1))] >>= fun y => lift (D.add (.int (-4 * b)) y)) M1 = _
    rw [C.bind_ok e3]; rfl
  show ((Fw.bin D.add (pure (.int (-4 * b))) (callM m__law_take [pure (.cell n), Fw.bin D.add (pure (.int (8 * b))) (pure (.int 1))]) >>= fun a => args [pure (.int b)] >>= fun as => pure (a :: as)) >>= m__law_frac) M1 = _
  rw [C.bind_assoc, C.bind_ok e4]
  show m__law_frac [.int (-4 * b + r), .int b] M2 = _
  rw [frac_eq (by omega) hb (by decide)]; rfl
end K35
set_option Elab.async false
set_option linter.all false
set_option maxRecDepth 100000
set_option maxHeartbeats 1000000
namespace K35
open PySem PySem.Spec L2 Fw
def Lv : Nat → QQ → Prop
  | 0, q => BdP 9 q.1 ∧ BdP 71 q.2
  | 1, q => (BdP 9 q.1 ∧ BdP 74 q.2) ∨ (BdP 71 q.1 ∧ BdP 9 q.2)
  | 2, q => BdP 74 q.1 ∧ BdP 215 q.2
  | _, _ => False
theorem BdP.mono {m n : Nat} {u : RR} (h : BdP m u) (l : m ≤ n) : BdP n u := ⟨h.1.mono l, h.2.mono l⟩
theorem clack_run {k n : Nat} {M : Mem} {a b : Rat} (hp : Pot k n M) (hk : k ≤ 900) (ha : 0 < a) (hb : 0 < b) (h1 : Bd 10 a) (h2 : Bd 10 b) :
    ∃ (u : RR) (M' : Mem), m__law_clack_drawn [.cell n, F a, F b] M = .ok (Q (u, clk a b u)) M' ∧ u.2 < u.1 ∧ Lv 0 (u, clk a b u) ∧ Pot (k + 3) n M' := by
  obtain ⟨x, M1, e1, b1, p1⟩ := frac_run hp hk
  obtain ⟨y, M2, e2, hy, p2⟩ := of_run (xs := [.tup [.int 1, .int 1], .tup [.int 2, .int 1], .tup [.int 1, .int 3], .tup [.int 5, .int 2]]) p1 (by simp) (by simp) (by omega)
  have key : ∃ c : Rat, y = F c ∧ 0 < c ∧ Bd 3 c := by
    simp only [List.mem_cons, List.not_mem_nil, or_false] at hy
    rcases hy with rfl | rfl | rfl | rfl
    · exact ⟨1, Fl (by decide +kernel) (by decide +kernel), by decide +kernel, by decide +kernel, by decide +kernel⟩
    · exact ⟨2, Fl (by decide +kernel) (by decide +kernel), by decide +kernel, by decide +kernel, by decide +kernel⟩
    · exact ⟨1 / 3, Fl (by decide +kernel) (by decide +kernel), by decide +kernel, by decide +kernel, by decide +kernel⟩
    · exact ⟨5 / 2, Fl (by decide +kernel) (by decide +kernel), by decide +kernel, by decide +kernel, by decide +kernel⟩
  obtain ⟨c, rfl, c0, bc⟩ := key
  have bu : BdP 9 (x, x - c) := ⟨b1.mono (by decide), b1.sub bc⟩
  have h0 : a + b ≠ 0 := by grind
  have bm := (bd_mid h1 h2 bu h0)
  refine ⟨(x, x - c), M2, ?_, by dsimp only; grind, ⟨bu, ⟨(bm.sub bu.1).mono (by decide), (bm.sub bu.2).mono (by decide)⟩⟩, p2.mono (by omega)⟩
  show b__law_clack_drawn _ _ _ M = _
  unfold b__law_clack_drawn
  have e1' : callM m__law_frac_drawn [pure (.cell n), un D.neg (pure (.int 4)), pure (.int 4)] M = .ok (F x) M1 := e1
  rw [C.bind_ok e1']
  have e2' : callM m__law_of [pure (.cell n), lstC [tupC [pure (.int 1), pure (.int 1)], tupC [pure (.int 2), pure (.int 1)], tupC [pure (.int 1), pure (.int 3)], tupC [pure (.int 5), pure (.int 2)]]] M1 = .ok (F c) M2 := e2
  have e3 : callM m__law_frac_less [pure (F x), callM m__law_of [pure (.cell n), lstC [tupC [pure (.int 1), pure (.int 1)], tupC [pure (.int 2), pure (.int 1)], tupC [pure (.int 1), pure (.int 3)], tupC [pure (.int 5), pure (.int 2)]]]] M1 = .ok (F (x - c)) M2 := by
    rw [callM_run (args_run (x := pure (F x)) (a := F x) rfl (args_run e2' args0_run)), lless_eq b1 bc (by decide)]; rfl
  rw [C.bind_ok e3]
  have e5 := clk_eq h1 h2 bu h0 (by decide)
  unfold ownD P2 at e5
  dsimp only at e5
  refine congrFun (?_ : _ = pure (Q ((x, x - c), clk a b (x, x - c)))) M2
  simp only [ev_bin, ev_cmp, ev_un, ev_valB, ev_asB, ev_andVt, ev_andVf, ev_orVt, ev_orVf, ev_notV, ev_andTt, ev_andTf, ev_orTt, ev_orTf, ev_notT, ev_ifEt, ev_ifEf, ev_args0, ev_args1, ev_tupC, ev_lstC, ev_dicC, ev_callM, ev_callK, ev_callO, ev_asL, ev_lift, ev_ap1, ev_ap2, ev_ap3, ev_isi, ev_add, ev_sub, ev_neg, ev_lt, ev_le, ev_gt, ev_ge, ev_isNon, ev_isntNon, ev_t0, ev_t1, ev_l0, ev_l1, ev_abs, ev_int, ev_intB, ev_lenL, ev_lenT, ev_tupL, ev_eqI, ev_neI, C.pure_bind, C.raise_bind, C.no_bind]
  simp only [List.map_cons, List.map_nil]
  rw [e5]; rfl
def rv (u : RR) : RR := (u.2, u.1)
def nearL (c : Rat) (u v : RR) : List QQ := [(u, (v.1 + c, v.2)), (u, (v.1, v.2 + c)), (v, u), (u, u), (u, rv v), (u, rv u), (rv u, v), (u, (v.1 + c, v.2 + c)), (u, (u.1, u.1 + (u.1 - u.2))), (u, (u.2 - (u.1 - u.2), u.2))]
theorem rev_eq (u : RR) : revC (pure (P2 u)) = pure (P2 (rv u)) := rfl
theorem cat_eq {a b : List D} (h : a.length + b.length ≤ 2 ^ 24) : catC (pure (.lst a)) (pure (.lst b)) = pure (a ++ b) := by
  show lift (if a.length + b.length ≤ 2 ^ 24 then some (a ++ b) else none) = _
  rw [if_pos h]; rfl
theorem near_run {k n n1 n2 : Nat} {M : Mem} {u v : RR} (hp : Pot k n M) (hk : k ≤ 900) (hu : BdP n1 u) (hv : BdP n2 v) (b1 : n1 ≤ 1000) (b2 : n2 ≤ 1000) :
    ∃ (c : Rat) (q : QQ) (M' : Mem), m__law_near [.cell n, P2 u, P2 v] M = .ok (Q q) M' ∧ Bd 2 c ∧ q ∈ nearL c u v ∧ Pot (k + 2) n M' := by
  obtain ⟨y, M1, e1, hy, p1⟩ := of_run (xs := [.tup [.int 1, .int 1], .tup [.int (-1), .int 2], .tup [.int 3, .int 1]]) hp (by simp) (by simp) (by omega)
  have key : ∃ c : Rat, y = F c ∧ Bd 2 c := by
    simp only [List.mem_cons, List.not_mem_nil, or_false] at hy
    rcases hy with rfl | rfl | rfl
    · exact ⟨1, Fl (by decide +kernel) (by decide +kernel), by decide +kernel, by decide +kernel⟩
    · exact ⟨-1 / 2, Fl (by decide +kernel) (by decide +kernel), by decide +kernel, by decide +kernel⟩
    · exact ⟨3, Fl (by decide +kernel) (by decide +kernel), by decide +kernel, by decide +kernel⟩
  obtain ⟨c, rfl, bc⟩ := key
  obtain ⟨z, M2, e2, hz, p2⟩ := of_run (xs := (nearL c u v).map Q) p1 (by simp [nearL]) (by simp [nearL]) (by omega)
  obtain ⟨q, hq, rfl⟩ := List.mem_map.mp hz
  refine ⟨c, q, M2, ?_, bc, hq, p2⟩
  show b__law_near _ _ _ M = _
  unfold b__law_near
  have e1' : callM m__law_of [pure (.cell n), lstC [tupC [pure (.int 1), pure (.int 1)], tupC [un D.neg (pure (.int 1)), pure (.int 2)], tupC [pure (.int 3), pure (.int 1)]]] M = .ok (F c) M1 := e1
  rw [C.bind_ok e1', ← e2]
  refine congrFun (?_ : _ = m__law_of [.cell n, .lst ((nearL c u v).map Q)]) M1
  have w1 := hu.1.sub hu.2
  have lc : lcC (iterT (pure (P2 v))) .nm yesC (ap1 fun speed11 => callM m__law_frac_plus [pure speed11, pure (F c)]) = pure [F (v.1 + c), F (v.2 + c)] := by
    exact lc_list2 (by simp only [ev_bin, ev_cmp, ev_un, ev_valB, ev_asB, ev_andVt, ev_andVf, ev_orVt, ev_orVf, ev_notV, ev_andTt, ev_andTf, ev_orTt, ev_orTf, ev_notT, ev_ifEt, ev_ifEf, ev_args0, ev_args1, ev_tupC, ev_lstC, ev_dicC, ev_callM, ev_callK, ev_callO, ev_asL, ev_lift, ev_ap1, ev_ap2, ev_ap3, ev_isi, ev_add, ev_sub, ev_neg, ev_lt, ev_le, ev_gt, ev_ge, ev_isNon, ev_isntNon, ev_t0, ev_t1, ev_l0, ev_l1, ev_abs, ev_int, ev_intB, ev_lenL, ev_lenT, ev_tupL, ev_eqI, ev_neI, C.pure_bind, C.raise_bind, C.no_bind]; exact lplus_eq hv.1 bc (by omega)) (by simp only [ev_bin, ev_cmp, ev_un, ev_valB, ev_asB, ev_andVt, ev_andVf, ev_orVt, ev_orVf, ev_notV, ev_andTt, ev_andTf, ev_orTt, ev_orTf, ev_notT, ev_ifEt, ev_ifEf, ev_args0, ev_args1, ev_tupC, ev_lstC, ev_dicC, ev_callM, ev_callK, ev_callO, ev_asL, ev_lift, ev_ap1, ev_ap2, ev_ap3, ev_isi, ev_add, ev_sub, ev_neg, ev_lt, ev_le, ev_gt, ev_ge, ev_isNon, ev_isntNon, ev_t0, ev_t1, ev_l0, ev_l1, ev_abs, ev_int, ev_intB, ev_lenL, ev_lenT, ev_tupL, ev_eqI, ev_neI, C.pure_bind, C.raise_bind, C.no_bind]; exact lplus_eq hv.2 bc (by omega))
  rw [lc]
  simp only [ev_bin, ev_cmp, ev_un, ev_valB, ev_asB, ev_andVt, ev_andVf, ev_orVt, ev_orVf, ev_notV, ev_andTt, ev_andTf, ev_orTt, ev_orTf, ev_notT, ev_ifEt, ev_ifEf, ev_args0, ev_args1, ev_tupC, ev_lstC, ev_dicC, ev_callM, ev_callK, ev_callO, ev_asL, ev_lift, ev_ap1, ev_ap2, ev_ap3, ev_isi, ev_add, ev_sub, ev_neg, ev_lt, ev_le, ev_gt, ev_ge, ev_isNon, ev_isntNon, ev_t0, ev_t1, ev_l0, ev_l1, ev_abs, ev_int, ev_intB, ev_lenL, ev_lenT, ev_tupL, ev_eqI, ev_neI, C.pure_bind, C.raise_bind, C.no_bind]
  rw [P2_0, P2_1, P2_0, P2_1]
  simp only [ev_bin, ev_cmp, ev_un, ev_valB, ev_asB, ev_andVt, ev_andVf, ev_orVt, ev_orVf, ev_notV, ev_andTt, ev_andTf, ev_orTt, ev_orTf, ev_notT, ev_ifEt, ev_ifEf, ev_args0, ev_args1, ev_tupC, ev_lstC, ev_dicC, ev_callM, ev_callK, ev_callO, ev_asL, ev_lift, ev_ap1, ev_ap2, ev_ap3, ev_isi, ev_add, ev_sub, ev_neg, ev_lt, ev_le, ev_gt, ev_ge, ev_isNon, ev_isntNon, ev_t0, ev_t1, ev_l0, ev_l1, ev_abs, ev_int, ev_intB, ev_lenL, ev_lenT, ev_tupL, ev_eqI, ev_neI, C.pure_bind, C.raise_bind, C.no_bind]
  rw [lplus_eq hv.1 bc (by omega), lplus_eq hv.2 bc (by omega), lless_eq hu.1 hu.2 (by omega), rev_eq, rev_eq]
  simp only [ev_bin, ev_cmp, ev_un, ev_valB, ev_asB, ev_andVt, ev_andVf, ev_orVt, ev_orVf, ev_notV, ev_andTt, ev_andTf, ev_orTt, ev_orTf, ev_notT, ev_ifEt, ev_ifEf, ev_args0, ev_args1, ev_tupC, ev_lstC, ev_dicC, ev_callM, ev_callK, ev_callO, ev_asL, ev_lift, ev_ap1, ev_ap2, ev_ap3, ev_isi, ev_add, ev_sub, ev_neg, ev_lt, ev_le, ev_gt, ev_ge, ev_isNon, ev_isntNon, ev_t0, ev_t1, ev_l0, ev_l1, ev_abs, ev_int, ev_intB, ev_lenL, ev_lenT, ev_tupL, ev_eqI, ev_neI, C.pure_bind, C.raise_bind, C.no_bind]
  rw [app_eq (by simp), C.pure_bind, cat_eq (by simp), C.pure_bind, app_eq (by simp), C.pure_bind, app_eq (by simp), C.pure_bind]

  try simp only [ev_bin, ev_cmp, ev_un, ev_valB, ev_asB, ev_andVt, ev_andVf, ev_orVt, ev_orVf, ev_notV, ev_andTt, ev_andTf, ev_orTt, ev_orTf, ev_notT, ev_ifEt, ev_ifEf, ev_args0, ev_args1, ev_tupC, ev_lstC, ev_dicC, ev_callM, ev_callK, ev_callO, ev_asL, ev_lift, ev_ap1, ev_ap2, ev_ap3, ev_isi, ev_add, ev_sub, ev_neg, ev_lt, ev_le, ev_gt, ev_ge, ev_isNon, ev_isntNon, ev_t0, ev_t1, ev_l0, ev_l1, ev_abs, ev_int, ev_intB, ev_lenL, ev_lenT, ev_tupL, ev_eqI, ev_neI, C.pure_bind, C.raise_bind, C.no_bind]
  rw [lplus_eq hu.1 w1 (by omega), lless_eq hu.2 w1 (by omega)]
  simp only [ev_bin, ev_cmp, ev_un, ev_valB, ev_asB, ev_andVt, ev_andVf, ev_orVt, ev_orVf, ev_notV, ev_andTt, ev_andTf, ev_orTt, ev_orTf, ev_notT, ev_ifEt, ev_ifEf, ev_args0, ev_args1, ev_tupC, ev_lstC, ev_dicC, ev_callM, ev_callK, ev_callO, ev_asL, ev_lift, ev_ap1, ev_ap2, ev_ap3, ev_isi, ev_add, ev_sub, ev_neg, ev_lt, ev_le, ev_gt, ev_ge, ev_isNon, ev_isntNon, ev_t0, ev_t1, ev_l0, ev_l1, ev_abs, ev_int, ev_intB, ev_lenL, ev_lenT, ev_tupL, ev_eqI, ev_neI, C.pure_bind, C.raise_bind, C.no_bind]
  rw [app_eq (by simp), C.pure_bind, app_eq (by simp), C.pure_bind]
  rfl
end K35
set_option Elab.async false
set_option linter.all false
set_option maxRecDepth 100000
set_option maxHeartbeats 1000000
namespace K35
open PySem PySem.Spec L2 Fw
/-! ### levels -/
def LvL : List Nat → List QQ → Prop
  | [], [] => True
  | l :: ls, q :: qs => Lv l q ∧ LvL ls qs
  | _, _ => False
theorem lv_cost {l : Nat} {q : QQ} (h : Lv l q) : ∃ n n2, BdP n q.1 ∧ BdP n2 q.2 ∧ n ≤ 74 ∧ n2 ≤ 215 ∧ 2 * (n + n2 + 1) ≤ 162 + 209 * l := by
  match l, h with
  | 0, ⟨h1, h2⟩ => exact ⟨9, 71, h1, h2, by decide, by decide, by decide⟩
  | 1, .inl ⟨h1, h2⟩ => exact ⟨9, 74, h1, h2, by decide, by decide, by decide⟩
  | 1, .inr ⟨h1, h2⟩ => exact ⟨71, 9, h1, h2, by decide, by decide, by decide⟩
  | 2, ⟨h1, h2⟩ => exact ⟨74, 215, h1, h2, by decide, by decide, by decide⟩
theorem fits_of : ∀ (ls : List Nat) (qs : List QQ) (j : Nat), LvL ls qs → j + 162 * qs.length + 209 * ls.sum ≤ 1900 → Fits j qs
  | [], [], _, _, _ => trivial
  | l :: ls, q :: qs, j, ⟨h, hs⟩, hb => by
    obtain ⟨n, n2, h1, h2, b1, b2, hc⟩ := lv_cost h
    rw [List.length_cons, List.sum_cons] at hb
    exact ⟨n, n2, h1, h2, by omega, by omega, by omega, fits_of ls qs _ hs (by omega)⟩
  | [], _ :: _, _, h, _ => h.elim
  | _ :: _, [], _, h, _ => h.elim
theorem rv_bd {n : Nat} {u : RR} (h : BdP n u) : BdP n (rv u) := ⟨h.2, h.1⟩
theorem near_bd {c : Rat} {n n2 : Nat} {u v : RR} {q : QQ} (hc : Bd 2 c) (hu : BdP n u) (hv : BdP n2 v) (hq : q ∈ nearL c u v) : (BdP n q.1 ∧ BdP (max (n2 + 3) (3 * n + 2)) q.2) ∨ (BdP n2 q.1 ∧ BdP n q.2) := by
  have w := hu.1.sub hu.2
  unfold nearL at hq
  simp only [List.mem_cons, List.not_mem_nil, or_false] at hq
  rcases hq with rfl | rfl | rfl | rfl | rfl | rfl | rfl | rfl | rfl | rfl
  · exact .inl ⟨hu, (hv.1.add hc).mono (by omega), hv.2.mono (by omega)⟩
  · exact .inl ⟨hu, hv.1.mono (by omega), (hv.2.add hc).mono (by omega)⟩
  · exact .inr ⟨hv, hu⟩
  · exact .inl ⟨hu, hu.mono (by omega)⟩
  · exact .inl ⟨hu, (rv_bd hv).mono (by omega)⟩
  · exact .inl ⟨hu, (rv_bd hu).mono (by omega)⟩
  · exact .inl ⟨rv_bd hu, hv.mono (by omega)⟩
  · exact .inl ⟨hu, (hv.1.add hc).mono (by omega), (hv.2.add hc).mono (by omega)⟩
  · exact .inl ⟨hu, hu.1.mono (by omega), (hu.1.add w).mono (by omega)⟩
  · exact .inl ⟨hu, (hu.2.sub w).mono (by omega), hu.2.mono (by omega)⟩
theorem near_lv {c : Rat} {l : Nat} {q q' : QQ} (hc : Bd 2 c) (h : Lv l q) (hl : l ≤ 1) (hq : q' ∈ nearL c q.1 q.2) : Lv (l + 1) q' := by
  match l, h, hl with
  | 0, ⟨h1, h2⟩, _ =>
    rcases near_bd hc h1 h2 hq with ⟨a, b⟩ | ⟨a, b⟩
    · exact .inl ⟨a, b⟩
    · exact .inr ⟨a, b⟩
  | 1, .inl ⟨h1, h2⟩, _ =>
    rcases near_bd hc h1 h2 hq with ⟨a, b⟩ | ⟨a, b⟩
    · exact ⟨a.mono (by decide), b.mono (by decide)⟩
    · exact ⟨a, b.mono (by decide)⟩
  | 1, .inr ⟨h1, h2⟩, _ =>
    rcases near_bd hc h1 h2 hq with ⟨a, b⟩ | ⟨a, b⟩
    · exact ⟨a.mono (by decide), b.mono (by decide)⟩
    · exact ⟨a.mono (by decide), b.mono (by decide)⟩
/-! ### clacks told back -/
theorem clk_due {a b : Rat} {u : RR} (ha : 0 < a) (hb : 0 < b) (hu : u.2 < u.1) : dueR a u (clk a b u) = some b := by
  obtain ⟨u1, u2⟩ := u
  dsimp only at hu
  have hs : a + b ≠ 0 := by grind
  have hc : ((a * u1 + b * u2) / (a + b)) * (a + b) = a * u1 + b * u2 := Rat.div_mul_cancel hs
  have e : dueM a (u1, u2) (clk a b (u1, u2)) = b ∧ u2 < (clk a b (u1, u2)).2 := by
    unfold dueM clk mid
    dsimp only
    generalize (a * u1 + b * u2) / (a + b) = c at hc ⊢
    have k1 : a * (u1 - (2 * c - u1)) = b * (2 * c - u2 - u2) := by grind
    have k2 : (c - u2) * (a + b) = a * (u1 - u2) := by grind
    have k3 : 0 < a * (u1 - u2) := Rat.mul_pos ha (by grind)
    have k4 : 0 < c - u2 := by
      refine Classical.byContradiction fun z => ?_
      have : (c - u2) ≤ 0 := by grind
      have := Rat.mul_le_mul_of_nonneg_right this (show (0 : Rat) ≤ a + b by grind)
      grind
    have k5 : 2 * c - u2 - u2 ≠ 0 := by grind
    refine ⟨?_, by grind⟩
    rw [k1]
    exact Rat.mul_div_cancel k5
  rw [dueR_some (u := (u1, u2)) ⟨hu, by unfold clk; dsimp only; grind, e.2, by rw [e.1]; exact hb⟩, e.1]
/-- a chain of masses and their clacks -/
def Chain : List Rat → List QQ → Prop
  | [_], [] => True
  | a :: b :: ms, q :: qs => (0 < a ∧ 0 < b ∧ q.1.2 < q.1.1 ∧ q.2 = clk a b q.1) ∧ Chain (b :: ms) qs
  | _, _ => False
theorem chain_row : ∀ (ms : List Rat) (qs : List QQ) (m : Rat), Chain (m :: ms) qs → rowR m qs = .ok ms
  | [], [], m, _ => rfl
  | b :: ms, q :: qs, m, ⟨⟨h1, h2, h3, h4⟩, hr⟩ => by
    unfold rowR
    rw [h4, clk_due h1 h2 h3]
    show (match rowR b qs with
      | .ok ms => Except.ok (b :: ms)
      | .error e => .error e) = _
    rw [chain_row ms qs b hr]
  | [], _ :: _, _, h => h.elim
  | _ :: _, [], _, h => h.elim
theorem chain_len : ∀ (ms : List Rat) (qs : List QQ), Chain ms qs → ms.length = qs.length + 1
  | [_], [], _ => rfl
  | a :: b :: ms, q :: qs, ⟨_, h⟩ => by
    have := chain_len (b :: ms) qs h
    simp only [List.length_cons] at this ⊢; omega
  | [], _, h => h.elim
  | [_], _ :: _, h => h.elim
  | _ :: _ :: _, [], h => h.elim
end K35
set_option Elab.async false
set_option linter.all false
set_option maxRecDepth 100000
set_option maxHeartbeats 1000000
namespace K35
open PySem PySem.Spec L2 Fw
theorem calm_run {α : Type} {x : C α} {a : α} {M M' : Mem} (h : x M = .ok a M') : calm x M = .ok a M' := by
  unfold calm; rw [h]
def Good (ms : List Rat) : Prop := ∀ m ∈ ms, 0 < m ∧ Bd 10 m
theorem masses_run {n : Nat} : ∀ (ds : List D) (k : Nat) (M : Mem), Pot k n M → k + ds.length ≤ 900 → ∃ (ms : List Rat) (M' : Mem), lcGo .nm yesC (ap1 fun lap2 => callM m__law_mass_drawn [pure (.cell n)]) ds M = .ok (ms.map F) M' ∧ ms.length = ds.length ∧ Good ms ∧ Pot (k + ds.length) n M'
  | [], k, M, h, _ => ⟨[], M, rfl, rfl, fun _ z => (by cases z), h⟩
  | d :: ds, k, M, h, hk => by
    rw [List.length_cons] at hk
    obtain ⟨m, M1, e1, m0, mb, p1⟩ := mass_run h (by omega)
    obtain ⟨ms, M2, e2, hl, hg, p2⟩ := masses_run ds (k + 1) M1 p1 (by omega)
    refine ⟨m :: ms, M2, ?_, by simp [hl], ?_, by rw [List.length_cons]; rw [show k + (ds.length + 1) = k + 1 + ds.length by omega]; exact p2⟩
    · have e1' : calm (callM m__law_mass_drawn [pure (.cell n)]) M = .ok (F m) M1 := by
        exact calm_run (x := callM m__law_mass_drawn [pure (.cell n)]) e1
      show (calm (callM m__law_mass_drawn [pure (.cell n)]) >>= fun y => lcGo .nm yesC (ap1 fun lap2 => callM m__law_mass_drawn [pure (.cell n)]) ds >>= fun ys => pure (y :: ys)) M = _
      rw [C.bind_ok e1', C.bind_ok e2]; rfl
    · intro x hx
      rcases List.mem_cons.mp hx with rfl | hx
      · exact ⟨m0, mb⟩
      · exact hg x hx
def zeros (n : Nat) : List Nat := List.replicate n 0
theorem clacks_run {n : Nat} : ∀ (ms : List Rat) (m : Rat) (k : Nat) (M : Mem), Pot k n M → Good (m :: ms) → k + 3 * ms.length ≤ 800 →
    ∃ (qs : List QQ) (M' : Mem), lcGo (.tp [.nm, .nm]) yesC (ap2 fun one4 other5 => callM m__law_clack_drawn [pure (.cell n), pure one4, pure other5]) (zip2 ((m :: ms).map F) (ms.map F)) M = .ok (qs.map Q) M' ∧ Chain (m :: ms) qs ∧ LvL (zeros qs.length) qs ∧ Pot (k + 3 * ms.length) n M'
  | [], m, k, M, h, _, _ => ⟨[], M, rfl, trivial, trivial, h⟩
  | b :: ms, a, k, M, h, hg, hk => by
    rw [List.length_cons] at hk
    obtain ⟨a0, ab⟩ := hg a List.mem_cons_self
    obtain ⟨b0, bb⟩ := hg b (List.mem_cons_of_mem _ List.mem_cons_self)
    obtain ⟨u, M1, e1, hu, lv, p1⟩ := clack_run h (by omega) a0 b0 ab bb
    obtain ⟨qs, M2, e2, hc, hl, p2⟩ := clacks_run ms b (k + 3) M1 p1 (fun x hx => hg x (List.mem_cons_of_mem _ hx)) (by omega)
    refine ⟨(u, clk a b u) :: qs, M2, ?_, ⟨⟨a0, b0, hu, rfl⟩, hc⟩, ⟨lv, hl⟩, by rw [List.length_cons, show k + 3 * (ms.length + 1) = k + 3 + 3 * ms.length by omega]; exact p2⟩
    have e1' : calm (callM m__law_clack_drawn [pure (.cell n), pure (F a), pure (F b)]) M = .ok (Q (u, clk a b u)) M1 := by
      exact calm_run (x := callM m__law_clack_drawn [pure (.cell n), pure (F a), pure (F b)]) e1
    show (calm (callM m__law_clack_drawn [pure (.cell n), pure (F a), pure (F b)]) >>= fun y => lcGo (.tp [.nm, .nm]) yesC (ap2 fun one4 other5 => callM m__law_clack_drawn [pure (.cell n), pure one4, pure other5]) (zip2 ((b :: ms).map F) (ms.map F)) >>= fun ys => pure (y :: ys)) M = _
    rw [C.bind_ok e1', C.bind_ok e2]; rfl
/-- each clack told, and one near it -/
theorem loop_run {n : Nat} : ∀ (ms : List Rat) (qs : List QQ) (k : Nat) (M : Mem), Pot k n M → Good ms → LvL (zeros qs.length) qs → k + 2 * qs.length ≤ 800 →
    ∃ M' : Mem, forR (S := Unit) (.tp [.nm, (.tp [.nm, .nm])]) (fun _ => ap3 fun one8 ahead9 behind10 => ifE (notT (asB (callM m__law_is_told [pure one8, pure ahead9, pure behind10]))) ((pure (.bl false)) >>= fun d => pure (.inl d)) ((callM m__law_near [pure (.cell n), pure ahead9, pure behind10]) >>= fun near11 => ifE (notT (asB (callM m__law_is_told [pure one8, Fw.bin D.ix (pure near11) (pure (.int 0)), Fw.bin D.ix (pure near11) (pure (.int 1))]))) ((pure (.bl false)) >>= fun d => pure (.inl d)) (pure (.inr ())))) (zip2 (ms.map F) (qs.map Q)) () M = .ok (.inr ()) M' ∧ Pot (k + 2 * qs.length) n M'
  | [], qs, k, M, h, _, _, _ => ⟨M, by rfl, h.mono (by omega)⟩
  | m :: ms, [], k, M, h, _, _, _ => ⟨M, by rfl, h⟩
  | m :: ms, q :: qs, k, M, h, hg, hl, hk => by
    rw [List.length_cons] at hk
    obtain ⟨m0, mb⟩ := hg m List.mem_cons_self
    obtain ⟨lv, ls⟩ := hl
    have lv0 : BdP 9 q.1 ∧ BdP 71 q.2 := lv
    obtain ⟨c, q', M1, e1, bc, hq, p1⟩ := near_run h (by omega) lv0.1 lv0.2 (by decide) (by decide)
    have l1 : Lv 1 q' := near_lv bc lv (by decide) hq
    obtain ⟨i1, i2, c1, c2, c3, c4, c5⟩ := lv_cost l1
    obtain ⟨M2, e2, p2⟩ := loop_run ms qs (k + 2) M1 p1 (fun x hx => hg x (List.mem_cons_of_mem _ hx)) ls (by omega)
    refine ⟨M2, ?_, by rw [List.length_cons, show k + 2 * (qs.length + 1) = k + 2 + 2 * qs.length by omega]; exact p2⟩
    rw [show zip2 ((m :: ms).map F) ((q :: qs).map Q) = .tup [F m, Q q] :: zip2 (ms.map F) (qs.map Q) from rfl]
    unfold forR
    rw [show Tg.app (.tp [.nm, (.tp [.nm, .nm])]) (.tup [F m, Q q]) = some [F m, P2 q.1, P2 q.2] from rfl]
    simp only [ev_bin, ev_cmp, ev_un, ev_valB, ev_asB, ev_andVt, ev_andVf, ev_orVt, ev_orVf, ev_notV, ev_andTt, ev_andTf, ev_orTt, ev_orTf, ev_notT, ev_ifEt, ev_ifEf, ev_args0, ev_args1, ev_tupC, ev_lstC, ev_dicC, ev_callM, ev_callK, ev_callO, ev_asL, ev_lift, ev_ap1, ev_ap2, ev_ap3, ev_isi, ev_add, ev_sub, ev_neg, ev_lt, ev_le, ev_gt, ev_ge, ev_isNon, ev_isntNon, ev_t0, ev_t1, ev_l0, ev_l1, ev_abs, ev_int, ev_intB, ev_lenL, ev_lenT, ev_tupL, ev_eqI, ev_neI, C.pure_bind, C.raise_bind, C.no_bind]
    rw [isTold_eq m0 mb lv0.1 lv0.2 (by decide) (by decide) (by decide)]
    simp only [ev_bin, ev_cmp, ev_un, ev_valB, ev_asB, ev_andVt, ev_andVf, ev_orVt, ev_orVf, ev_notV, ev_andTt, ev_andTf, ev_orTt, ev_orTf, ev_notT, ev_ifEt, ev_ifEf, ev_args0, ev_args1, ev_tupC, ev_lstC, ev_dicC, ev_callM, ev_callK, ev_callO, ev_asL, ev_lift, ev_ap1, ev_ap2, ev_ap3, ev_isi, ev_add, ev_sub, ev_neg, ev_lt, ev_le, ev_gt, ev_ge, ev_isNon, ev_isntNon, ev_t0, ev_t1, ev_l0, ev_l1, ev_abs, ev_int, ev_intB, ev_lenL, ev_lenT, ev_tupL, ev_eqI, ev_neI, C.pure_bind, C.raise_bind, C.no_bind]
    rw [show (!true) = false from rfl]
    simp only [ev_bin, ev_cmp, ev_un, ev_valB, ev_asB, ev_andVt, ev_andVf, ev_orVt, ev_orVf, ev_notV, ev_andTt, ev_andTf, ev_orTt, ev_orTf, ev_notT, ev_ifEt, ev_ifEf, ev_args0, ev_args1, ev_tupC, ev_lstC, ev_dicC, ev_callM, ev_callK, ev_callO, ev_asL, ev_lift, ev_ap1, ev_ap2, ev_ap3, ev_isi, ev_add, ev_sub, ev_neg, ev_lt, ev_le, ev_gt, ev_ge, ev_isNon, ev_isntNon, ev_t0, ev_t1, ev_l0, ev_l1, ev_abs, ev_int, ev_intB, ev_lenL, ev_lenT, ev_tupL, ev_eqI, ev_neI, C.pure_bind, C.raise_bind, C.no_bind]
    rw [C.bind_assoc, C.bind_ok e1]
    unfold Q
    simp only [ev_bin, ev_cmp, ev_un, ev_valB, ev_asB, ev_andVt, ev_andVf, ev_orVt, ev_orVf, ev_notV, ev_andTt, ev_andTf, ev_orTt, ev_orTf, ev_notT, ev_ifEt, ev_ifEf, ev_args0, ev_args1, ev_tupC, ev_lstC, ev_dicC, ev_callM, ev_callK, ev_callO, ev_asL, ev_lift, ev_ap1, ev_ap2, ev_ap3, ev_isi, ev_add, ev_sub, ev_neg, ev_lt, ev_le, ev_gt, ev_ge, ev_isNon, ev_isntNon, ev_t0, ev_t1, ev_l0, ev_l1, ev_abs, ev_int, ev_intB, ev_lenL, ev_lenT, ev_tupL, ev_eqI, ev_neI, C.pure_bind, C.raise_bind, C.no_bind]
    rw [isTold_eq m0 mb c1 c2 (by omega) (by omega) (by omega)]
    simp only [ev_bin, ev_cmp, ev_un, ev_valB, ev_asB, ev_andVt, ev_andVf, ev_orVt, ev_orVf, ev_notV, ev_andTt, ev_andTf, ev_orTt, ev_orTf, ev_notT, ev_ifEt, ev_ifEf, ev_args0, ev_args1, ev_tupC, ev_lstC, ev_dicC, ev_callM, ev_callK, ev_callO, ev_asL, ev_lift, ev_ap1, ev_ap2, ev_ap3, ev_isi, ev_add, ev_sub, ev_neg, ev_lt, ev_le, ev_gt, ev_ge, ev_isNon, ev_isntNon, ev_t0, ev_t1, ev_l0, ev_l1, ev_abs, ev_int, ev_intB, ev_lenL, ev_lenT, ev_tupL, ev_eqI, ev_neI, C.pure_bind, C.raise_bind, C.no_bind]
    rw [show (!true) = false from rfl]
    simp only [ev_bin, ev_cmp, ev_un, ev_valB, ev_asB, ev_andVt, ev_andVf, ev_orVt, ev_orVf, ev_notV, ev_andTt, ev_andTf, ev_orTt, ev_orTf, ev_notT, ev_ifEt, ev_ifEf, ev_args0, ev_args1, ev_tupC, ev_lstC, ev_dicC, ev_callM, ev_callK, ev_callO, ev_asL, ev_lift, ev_ap1, ev_ap2, ev_ap3, ev_isi, ev_add, ev_sub, ev_neg, ev_lt, ev_le, ev_gt, ev_ge, ev_isNon, ev_isntNon, ev_t0, ev_t1, ev_l0, ev_l1, ev_abs, ev_int, ev_intB, ev_lenL, ev_lenT, ev_tupL, ev_eqI, ev_neI, C.pure_bind, C.raise_bind, C.no_bind]
    exact e2
end K35
set_option Elab.async false
set_option linter.all false
set_option maxRecDepth 100000
set_option maxHeartbeats 1000000
namespace K35
open PySem PySem.Spec L2 Fw
theorem lvl_set : ∀ (ls : List Nat) (qs : List QQ) (i : Nat) (q : QQ), LvL ls qs → qs[i]? = some q → ∃ l, Lv l q ∧ l ≤ ls.sum ∧ ∀ q', Lv (l + 1) q' → ∃ ls', LvL ls' (qs.set i q') ∧ ls'.sum = ls.sum + 1
  | [], [], i, q, _, h => by simp at h
  | l :: ls, p :: qs, 0, q, ⟨h1, h2⟩, h => by
    simp at h; subst h
    refine ⟨l, h1, by rw [List.sum_cons]; omega, fun q' hq => ⟨(l + 1) :: ls, ⟨hq, h2⟩, by rw [List.sum_cons, List.sum_cons]; omega⟩⟩
  | l :: ls, p :: qs, i + 1, q, ⟨h1, h2⟩, h => by
    obtain ⟨l', a, b, c⟩ := lvl_set ls qs i q h2 (by simpa using h)
    refine ⟨l', a, by rw [List.sum_cons]; omega, fun q' hq => ?_⟩
    obtain ⟨ls', d, e⟩ := c q' hq
    exact ⟨l :: ls', ⟨h1, d⟩, by rw [List.sum_cons, List.sum_cons]; omega⟩
  | [], _ :: _, _, _, h, _ => h.elim
  | _ :: _, [], _, _, h, _ => h.elim
abbrev alterS (n : Nat) : List D → List D → C (List D) := fun seen12 => ap1 fun lap13 => (callM m__law_take [pure (.cell n), callO bLen [pure (.lst seen12)]]) >>= fun at14 => (callM m__law_near [pure (.cell n), Fw.bin D.ix (Fw.bin D.ix (pure (.lst seen12)) (pure at14)) (pure (.int 0)), Fw.bin D.ix (Fw.bin D.ix (pure (.lst seen12)) (pure at14)) (pure (.int 1))]) >>= fun d => (pure at14) >>= fun j => setC seen12 j d >>= fun seen15 => pure seen15
theorem alter_run {k n : Nat} {M : Mem} {ls : List Nat} {qs : List QQ} {lap : D} (hp : Pot k n M) (hk : k ≤ 800) (h0 : qs ≠ []) (h5 : qs.length ≤ 5) (hl : LvL ls qs) (hs : ls.sum ≤ 1) :
    ∃ (qs' : List QQ) (ls' : List Nat) (M' : Mem), alterS n (qs.map Q) [lap] M = .ok (qs'.map Q) M' ∧ qs'.length = qs.length ∧ LvL ls' qs' ∧ ls'.sum = ls.sum + 1 ∧ Pot (k + 3) n M' := by
  have hlen : 0 < qs.length := List.length_pos_iff.mpr h0
  obtain ⟨r, M1, e1, r0, r1, p1⟩ := take_run (up := qs.length) hp (by omega) (by omega) (by omega)
  have hr : r.toNat < qs.length := by omega
  have hq : qs[r.toNat]? = some qs[r.toNat] := List.getElem?_eq_getElem hr
  generalize qs[r.toNat] = q at hq
  obtain ⟨l, lv, hle, hset⟩ := lvl_set ls qs r.toNat q hl hq
  obtain ⟨i1, i2, c1, c2, c3, c4, c5⟩ := lv_cost lv
  obtain ⟨c, q', M2, e2, bc, hin, p2⟩ := near_run p1 (by omega) c1 c2 (by omega) (by omega)
  obtain ⟨ls', h1, h2⟩ := hset q' (near_lv bc lv (by omega) hin)
  refine ⟨qs.set r.toNat q', ls', M2, ?_, by rw [List.length_set], h1, h2, p2⟩
  show ((callM m__law_take [pure (.cell n), callO bLen [pure (.lst (qs.map Q))]]) >>= _) M = _
  have e1' : callM m__law_take [pure (.cell n), callO bLen [pure (.lst (qs.map Q))]] M = .ok (.int r) M1 := by
    simp only [ev_bin, ev_cmp, ev_un, ev_valB, ev_asB, ev_andVt, ev_andVf, ev_orVt, ev_orVf, ev_notV, ev_andTt, ev_andTf, ev_orTt, ev_orTf, ev_notT, ev_ifEt, ev_ifEf, ev_args0, ev_args1, ev_tupC, ev_lstC, ev_dicC, ev_callM, ev_callK, ev_callO, ev_asL, ev_lift, ev_ap1, ev_ap2, ev_ap3, ev_isi, ev_add, ev_sub, ev_neg, ev_lt, ev_le, ev_gt, ev_ge, ev_isNon, ev_isntNon, ev_t0, ev_t1, ev_l0, ev_l1, ev_abs, ev_int, ev_intB, ev_lenL, ev_lenT, ev_tupL, ev_eqI, ev_neI, C.pure_bind, C.raise_bind, C.no_bind]
    rw [List.length_map]; exact e1
  rw [C.bind_ok e1']
  have zq : D.ix (.lst (qs.map Q)) (.int r) = some (Q q) := by
    show atI (qs.map Q) r = _
    unfold atI ixN
    rw [if_pos r0, if_pos (by rw [List.length_map]; omega)]
    show (qs.map Q)[r.toNat]? = _
    rw [List.getElem?_map, hq]; rfl
  have e2' : callM m__law_near [pure (.cell n), Fw.bin D.ix (Fw.bin D.ix (pure (.lst (qs.map Q))) (pure (.int r))) (pure (.int 0)), Fw.bin D.ix (Fw.bin D.ix (pure (.lst (qs.map Q))) (pure (.int r))) (pure (.int 1))] M1 = .ok (Q q') M2 := by
    simp only [ev_bin, ev_cmp, ev_un, ev_valB, ev_asB, ev_andVt, ev_andVf, ev_orVt, ev_orVf, ev_notV, ev_andTt, ev_andTf, ev_orTt, ev_orTf, ev_notT, ev_ifEt, ev_ifEf, ev_args0, ev_args1, ev_tupC, ev_lstC, ev_dicC, ev_callM, ev_callK, ev_callO, ev_asL, ev_lift, ev_ap1, ev_ap2, ev_ap3, ev_isi, ev_add, ev_sub, ev_neg, ev_lt, ev_le, ev_gt, ev_ge, ev_isNon, ev_isntNon, ev_t0, ev_t1, ev_l0, ev_l1, ev_abs, ev_int, ev_intB, ev_lenL, ev_lenT, ev_tupL, ev_eqI, ev_neI, C.pure_bind, C.raise_bind, C.no_bind]
    rw [zq]
    unfold Q
    simp only [ev_bin, ev_cmp, ev_un, ev_valB, ev_asB, ev_andVt, ev_andVf, ev_orVt, ev_orVf, ev_notV, ev_andTt, ev_andTf, ev_orTt, ev_orTf, ev_notT, ev_ifEt, ev_ifEf, ev_args0, ev_args1, ev_tupC, ev_lstC, ev_dicC, ev_callM, ev_callK, ev_callO, ev_asL, ev_lift, ev_ap1, ev_ap2, ev_ap3, ev_isi, ev_add, ev_sub, ev_neg, ev_lt, ev_le, ev_gt, ev_ge, ev_isNon, ev_isntNon, ev_t0, ev_t1, ev_l0, ev_l1, ev_abs, ev_int, ev_intB, ev_lenL, ev_lenT, ev_tupL, ev_eqI, ev_neI, C.pure_bind, C.raise_bind, C.no_bind]
    exact e2
  rw [C.bind_ok e2', C.pure_bind]
  have zs : setL (qs.map Q) (.int r) (Q q') = some ((qs.set r.toNat q').map Q) := by
    show (ixN (qs.map Q).length r).map _ = _
    unfold ixN
    rw [if_pos r0, if_pos (by rw [List.length_map]; omega)]
    show some ((qs.map Q).set r.toNat (Q q')) = _
    rw [List.map_set]
  show (lift (setL (qs.map Q) (.int r) (Q q')) >>= _) M2 = _
  rw [zs]; rfl
/-- a list of pairs of pairs against the empty list -/
theorem sh_Q {q : QQ} {l : Nat} (h : Lv l q) : Sh 8022 4 (Q q) := by
  obtain ⟨i1, i2, c1, c2, c3, c4, c5⟩ := lv_cost h
  exact (sh_P c1 (by omega)).tup (sh_P c2 (by omega))
theorem py_Qs : ∀ (ls : List Nat) (qs : List QQ), LvL ls qs → ∃ ps, D.pyL (qs.map Q) = some ps ∧ PyData.canLayAll0 ps = true ∧ PyData.depthAll ps ≤ 4 ∧ ps.length = qs.length
  | [], [], _ => ⟨[], rfl, rfl, Nat.zero_le _, rfl⟩
  | l :: ls, q :: qs, ⟨h1, h2⟩ => by
    obtain ⟨p, a1, a2, _, _, _, _, a7⟩ := sh_Q h1
    obtain ⟨ps, b1, b2, b3, b4⟩ := py_Qs ls qs h2
    refine ⟨p :: ps, ?_, ?_, ?_, by simp [b4]⟩
    · show (D.py (Q q)).bind (fun p => (D.pyL (qs.map Q)).map fun ps => p :: ps) = _
      rw [a1, b1]; rfl
    · show (p.canLay0 && PyData.canLayAll0 ps) = true
      rw [a2, b2]; rfl
    · show max p.depth (PyData.depthAll ps) ≤ 4
      omega
  | [], _ :: _, h => h.elim
  | _ :: _, [], h => h.elim
theorem eq_nil {ls : List Nat} {qs : List QQ} (h : LvL ls qs) : D.eq (.lst (qs.map Q)) (.lst []) = some (decide (qs = [])) := by
  obtain ⟨ps, h1, h2, h3, h4⟩ := py_Qs ls qs h
  have e : D.py (.lst (qs.map Q)) = some (.list ps) := by
    show (D.pyL (qs.map Q)).map _ = _
    rw [h1]; rfl
  have e2 : D.eq (.lst (qs.map Q)) (.lst []) = (some (PyData.list ps)).bind fun p => if SeqAt.shaped p && SeqAt.shaped (.list []) then some (PyData.eqv p (.list [])) else none := by rw [← e]; rfl
  have hd : decide ((PyData.list ps).depth ≤ 64) = true := decide_eq_true (by show PyData.depthAll ps + 1 ≤ 64; omega)
  rw [e2]
  show (if (PyData.canLayAll0 ps && decide ((PyData.list ps).depth ≤ 64)) && true then some (PyData.eqvAll ps []) else none) = _
  rw [h2, hd]
  cases qs with
  | nil =>
    cases ps with
    | nil => rfl
    | cons p ps => simp at h4
  | cons q qs =>
    cases ps with
    | nil => simp at h4
    | cons p ps => rfl
end K35
set_option Elab.async false
set_option linter.all false
set_option maxRecDepth 100000
set_option maxHeartbeats 1000000
namespace K35
open PySem PySem.Spec L2 Fw
theorem lcC_run {ci : C (List D)} {t : Tg} {cond : List D → C Bool} {e : List D → C D} {M M1 : Mem} {ds : List D} (h : ci M = .ok ds M1) (hl : ds.length < 2 ^ 24) : lcC ci t cond e M = lcGo t cond e ds M1 := by
  unfold lcC
  rw [C.bind_ok h, if_pos hl]
theorem asL_run {co : C (List D)} {M M1 : Mem} {ds : List D} (h : co M = .ok ds M1) : asL co M = .ok (.lst ds) M1 := by
  unfold asL
  rw [C.bind_ok h]; rfl
theorem thenR_inr {S β : Type} {r : D → β} {k : S → C β} {s : S} : thenR r k (.inr s) = k s := rfl
theorem cut1 {x : D} {xs : List D} : cutD (x :: xs) (some 1) none = xs := by
  unfold cutD
  rw [show HT.sIx (x :: xs).length 0 (some 1) = min 1 (x :: xs).length from HT.sIx_nat _ _ 1, HT.sIx_none]
  rw [show min 1 (x :: xs).length = 1 by rw [List.length_cons]; omega]
  rw [List.drop_succ_cons, List.drop_zero, List.take_of_length_le (by rw [List.length_cons]; omega)]
theorem masses_of {n : Nat} {M : Mem} (hp : Pot 0 n M) : ∃ (m : Rat) (ms : List Rat) (M' : Mem),
    asL (lcC (iterR1 (Fw.bin D.add (pure (.int 1)) (callM m__law_take [pure (.cell n), pure (.int 6)]))) .nm yesC (ap1 fun lap2 => callM m__law_mass_drawn [pure (.cell n)])) M = .ok (.lst ((m :: ms).map F)) M' ∧ ms.length ≤ 5 ∧ Good (m :: ms) ∧ Pot 7 n M' := by
  obtain ⟨r, M1, e1, r0, r1, p1⟩ := take_run (up := 6) hp (by decide) (by decide) (by decide)
  have hl : (rng 0 (1 + r)).length = (1 + r).toNat := by rw [rng_len, Int.sub_zero]
  obtain ⟨ms, M2, e2, hlen, hg, p2⟩ := masses_run (rng 0 (1 + r)) 1 M1 p1 (by omega)
  cases ms with
  | nil => simp only [List.length_nil] at hlen; omega
  | cons m ms =>
    rw [List.length_cons] at hlen
    refine ⟨m, ms, M2, ?_, by omega, hg, p2.mono (by omega)⟩
    have e3 : iterR1 (Fw.bin D.add (pure (.int 1)) (callM m__law_take [pure (.cell n), pure (.int 6)])) M = .ok (rng 0 (1 + r)) M1 := by
      have z : Fw.bin D.add (pure (.int 1)) (callM m__law_take [pure (.cell n), pure (.int 6)]) M = .ok (.int (1 + r)) M1 := by
        show (callM m__law_take [pure (.cell n), pure (.int 6)] >>= fun b => lift (D.add (.int 1) b)) M = _
        rw [C.bind_ok (show callM m__law_take [pure (.cell n), pure (.int 6)] M = .ok (.int r) M1 from e1)]; rfl
      show (args [_] >>= fun ds => lift (D.rng1? ds)) M = _
      rw [C.bind_ok (args_run z args0_run)]
      have q : D.rng1? [.int (1 + r)] = if inR (1 + r) then some (rng 0 (1 + r)) else none := rfl
      rw [q, if_pos (by unfold inR; rw [decide_eq_true (by omega), decide_eq_true (by omega)]; rfl)]; rfl
    exact asL_run ((lcC_run e3 (by rw [hl]; omega)).trans e2)
theorem right_run {n : Nat} {M : Mem} (hp : Pot 0 n M) : ∃ M', m__law_right [.cell n] M = .ok (.bl true) M' := by
  obtain ⟨m, ms, M1, e1, hms, hg, p1⟩ := masses_of hp
  obtain ⟨qs, M2, e2, hc, hl, p2⟩ := clacks_run ms m 7 M1 p1 hg (by omega)
  have hlen := chain_len _ _ hc
  rw [List.length_cons] at hlen
  have hq5 : qs.length ≤ 5 := by omega
  obtain ⟨m0, mb⟩ := hg m List.mem_cons_self
  have zs : (zeros qs.length).sum = 0 := by unfold zeros; simp
  have hf : Fits 10 qs := fits_of _ qs 10 hl (by rw [zs]; omega)
  obtain ⟨M3, e3, p3⟩ := loop_run (m :: ms) qs _ M2 p2 hg hl (by omega)
  show ∃ M', b__law_right _ M = _
  unfold b__law_right
  rw [C.bind_ok e1]
  have z1 : iterZ [pure (.lst ((m :: ms).map F)), slC (pure (.lst ((m :: ms).map F))) (some (pure (.int 1))) none] = pure (zip2 ((m :: ms).map F) (ms.map F)) := by
    show lift (D.zip? [.lst ((m :: ms).map F), .lst (cutD ((m :: ms).map F) (some 1) none)]) = _
    rw [List.map_cons, cut1]; rfl
  have e2' : lcC (iterZ [pure (.lst ((m :: ms).map F)), slC (pure (.lst ((m :: ms).map F))) (some (pure (.int 1))) none]) (.tp [.nm, .nm]) yesC (ap2 fun one4 other5 => callM m__law_clack_drawn [pure (.cell n), pure one4, pure other5]) M1 = .ok (qs.map Q) M2 := by
    rw [z1]
    exact (lcC_run (ds := zip2 ((m :: ms).map F) (ms.map F)) rfl (by rw [zip2_len, List.length_map, List.length_map, List.length_cons]; omega)).trans e2
  rw [C.bind_ok e2']
  have hx0 : Fw.bin D.ix (pure (.lst ((m :: ms).map F))) (pure (.int 0)) = pure (F m) := by
    simp only [ev_bin, ev_cmp, ev_un, ev_valB, ev_asB, ev_andVt, ev_andVf, ev_orVt, ev_orVf, ev_notV, ev_andTt, ev_andTf, ev_orTt, ev_orTf, ev_notT, ev_ifEt, ev_ifEf, ev_args0, ev_args1, ev_tupC, ev_lstC, ev_dicC, ev_callM, ev_callK, ev_callO, ev_asL, ev_lift, ev_ap1, ev_ap2, ev_ap3, ev_isi, ev_add, ev_sub, ev_neg, ev_lt, ev_le, ev_gt, ev_ge, ev_isNon, ev_isntNon, ev_t0, ev_t1, ev_l0, ev_l1, ev_abs, ev_int, ev_intB, ev_lenL, ev_lenT, ev_tupL, ev_eqI, ev_neI, C.pure_bind, C.raise_bind, C.no_bind]
    rw [List.map_cons, ev_l0]; rfl
  have hcond : callM m__law_is [callK m_masses_told [1, 0] [callO bTup [pure (.lst (qs.map Q))], Fw.bin D.ix (pure (.lst ((m :: ms).map F))) (pure (.int 0))], callO bTup [pure (.lst ((m :: ms).map F))]] = pure (.bl true) := by
    rw [hx0]
    simp only [ev_bin, ev_cmp, ev_un, ev_valB, ev_asB, ev_andVt, ev_andVf, ev_orVt, ev_orVf, ev_notV, ev_andTt, ev_andTf, ev_orTt, ev_orTf, ev_notT, ev_ifEt, ev_ifEf, ev_args0, ev_args1, ev_tupC, ev_lstC, ev_dicC, ev_callM, ev_callK, ev_callO, ev_asL, ev_lift, ev_ap1, ev_ap2, ev_ap3, ev_isi, ev_add, ev_sub, ev_neg, ev_lt, ev_le, ev_gt, ev_ge, ev_isNon, ev_isntNon, ev_t0, ev_t1, ev_l0, ev_l1, ev_abs, ev_int, ev_intB, ev_lenL, ev_lenT, ev_tupL, ev_eqI, ev_neI, C.pure_bind, C.raise_bind, C.no_bind]
    rw [show pick [1, 0] [D.tup (qs.map Q), F m] = [F m, .tup (qs.map Q)] from rfl, masses_eq m0 mb hf hq5, chain_row ms qs m hc]
    show (args [pure (.tup ((m :: ms).map F)), pure (.tup ((m :: ms).map F))] >>= m__law_is) = _
    simp only [ev_bin, ev_cmp, ev_un, ev_valB, ev_asB, ev_andVt, ev_andVf, ev_orVt, ev_orVf, ev_notV, ev_andTt, ev_andTf, ev_orTt, ev_orTf, ev_notT, ev_ifEt, ev_ifEf, ev_args0, ev_args1, ev_tupC, ev_lstC, ev_dicC, ev_callM, ev_callK, ev_callO, ev_asL, ev_lift, ev_ap1, ev_ap2, ev_ap3, ev_isi, ev_add, ev_sub, ev_neg, ev_lt, ev_le, ev_gt, ev_ge, ev_isNon, ev_isntNon, ev_t0, ev_t1, ev_l0, ev_l1, ev_abs, ev_int, ev_intB, ev_lenL, ev_lenT, ev_tupL, ev_eqI, ev_neI, C.pure_bind, C.raise_bind, C.no_bind]
    exact is_Fs 1 (m :: ms) (by rw [List.length_cons]; omega)
  rw [hcond, ev_asB, ev_notT, show (!true) = false from rfl, ev_ifEf]
  have z4 : iterZ [pure (.lst ((m :: ms).map F)), pure (.lst (qs.map Q))] = pure (zip2 ((m :: ms).map F) (qs.map Q)) := rfl
  rw [z4, C.pure_bind, C.bind_ok e3]
  have hnil : cmp D.eq (pure (.lst (qs.map Q))) (lstC []) = pure (decide (qs = [])) := by
    simp only [ev_bin, ev_cmp, ev_un, ev_valB, ev_asB, ev_andVt, ev_andVf, ev_orVt, ev_orVf, ev_notV, ev_andTt, ev_andTf, ev_orTt, ev_orTf, ev_notT, ev_ifEt, ev_ifEf, ev_args0, ev_args1, ev_tupC, ev_lstC, ev_dicC, ev_callM, ev_callK, ev_callO, ev_asL, ev_lift, ev_ap1, ev_ap2, ev_ap3, ev_isi, ev_add, ev_sub, ev_neg, ev_lt, ev_le, ev_gt, ev_ge, ev_isNon, ev_isntNon, ev_t0, ev_t1, ev_l0, ev_l1, ev_abs, ev_int, ev_intB, ev_lenL, ev_lenT, ev_tupL, ev_eqI, ev_neI, C.pure_bind, C.raise_bind, C.no_bind]
    rw [eq_nil hl]; rfl
  rw [thenR_inr]
  rw [hnil]
  by_cases hq0 : qs = []
  · rw [decide_eq_true hq0]
    exact ⟨M3, rfl⟩
  rw [decide_eq_false hq0, ev_ifEf]
  obtain ⟨q1, l1, M4, e4, k4, v4, s4, p4⟩ := alter_run (lap := .int 0) p3 (by omega) hq0 hq5 hl (by rw [zs]; decide)
  have hq1 : q1 ≠ [] := fun z => by rw [z] at k4; exact hq0 (List.length_eq_zero_iff.mp k4.symm)
  obtain ⟨q2, l2, M5, e5, k5, v5, s5, p5⟩ := alter_run (lap := .int 1) p4 (by omega) hq1 (by omega) v4 (by rw [s4, zs]; decide)
  have z6 : iterR1 (pure (.int 2)) = pure [.int 0, .int 1] := by rw [rng1_ev (by decide +kernel)]; rfl
  have e6 : forC (S := List D) .nm (alterS n) [.int 0, .int 1] (qs.map Q) M3 = .ok (q2.map Q) M5 := by
    show (alterS n (qs.map Q) [.int 0] >>= fun s' => (alterS n s' [.int 1] >>= fun s'' => pure s'')) M3 = _
    rw [C.bind_ok e4, C.bind_ok e5]; rfl
  rw [z6, C.pure_bind, C.bind_ok e6]
  have hf2 : Fits 10 q2 := fits_of l2 q2 10 v5 (by rw [s5, s4, zs]; omega)
  have h52 : q2.length ≤ 5 := by omega
  have hdue : callM m__law_row_due [Fw.bin D.ix (pure (.lst ((m :: ms).map F))) (pure (.int 0)), pure (.lst (q2.map Q))] = pure (dueT m (rowR m q2)) := by
    rw [hx0]
    simp only [ev_bin, ev_cmp, ev_un, ev_valB, ev_asB, ev_andVt, ev_andVf, ev_orVt, ev_orVf, ev_notV, ev_andTt, ev_andTf, ev_orTt, ev_orTf, ev_notT, ev_ifEt, ev_ifEf, ev_args0, ev_args1, ev_tupC, ev_lstC, ev_dicC, ev_callM, ev_callK, ev_callO, ev_asL, ev_lift, ev_ap1, ev_ap2, ev_ap3, ev_isi, ev_add, ev_sub, ev_neg, ev_lt, ev_le, ev_gt, ev_ge, ev_isNon, ev_isntNon, ev_t0, ev_t1, ev_l0, ev_l1, ev_abs, ev_int, ev_intB, ev_lenL, ev_lenT, ev_tupL, ev_eqI, ev_neI, C.pure_bind, C.raise_bind, C.no_bind]
    exact rowdue_eq m0 mb hf2 h52
  have htold : callM m_masses_told [Fw.bin D.ix (pure (.lst ((m :: ms).map F))) (pure (.int 0)), callO bTup [pure (.lst (q2.map Q))]] = toldT m (rowR m q2) := by
    rw [hx0]
    simp only [ev_bin, ev_cmp, ev_un, ev_valB, ev_asB, ev_andVt, ev_andVf, ev_orVt, ev_orVf, ev_notV, ev_andTt, ev_andTf, ev_orTt, ev_orTf, ev_notT, ev_ifEt, ev_ifEf, ev_args0, ev_args1, ev_tupC, ev_lstC, ev_dicC, ev_callM, ev_callK, ev_callO, ev_asL, ev_lift, ev_ap1, ev_ap2, ev_ap3, ev_isi, ev_add, ev_sub, ev_neg, ev_lt, ev_le, ev_gt, ev_ge, ev_isNon, ev_isntNon, ev_t0, ev_t1, ev_l0, ev_l1, ev_abs, ev_int, ev_intB, ev_lenL, ev_lenT, ev_tupL, ev_eqI, ev_neI, C.pure_bind, C.raise_bind, C.no_bind]
    exact masses_eq m0 mb hf2 h52
  rw [hdue, htold, C.pure_bind]
  have hlen2 : ∀ (qs : List QQ) (m : Rat) (ms : List Rat), rowR m qs = .ok ms → ms.length ≤ qs.length := by
    intro qs
    induction qs with
    | nil => intro m ms h; cases h; exact Nat.le_refl _
    | cons q qs ih =>
      intro m ms h
      unfold rowR at h
      cases e : dueR m q.1 q.2 with
      | none => rw [e] at h; cases h
      | some M =>
        rw [e] at h
        have h : (match rowR M qs with
          | .ok ms => Except.ok (M :: ms)
          | .error e => .error e) = Except.ok ms := h
        cases e2 : rowR M qs with
        | error z => rw [e2] at h; cases h
        | ok ms' =>
          rw [e2] at h
          have := ih M ms' e2
          cases h
          simp only [List.length_cons]; omega
  have herr : ∀ (ls : List Nat) (qs : List QQ) (m : Rat) (q : QQ), LvL ls qs → rowR m qs = .error q → ∃ l, Lv l q := by
    intro ls qs
    induction qs generalizing ls with
    | nil => intro m q _ h; cases h
    | cons q0 qs ih =>
      intro m q hl h
      cases ls with
      | nil => exact hl.elim
      | cons l ls =>
        obtain ⟨ha, hb⟩ := hl
        unfold rowR at h
        cases e : dueR m q0.1 q0.2 with
        | none => rw [e] at h; cases h; exact ⟨l, ha⟩
        | some M =>
          rw [e] at h
          have h : (match rowR M qs with
            | .ok ms => Except.ok (M :: ms)
            | .error e => .error e) = Except.error q := h
          cases e2 : rowR M qs with
          | ok ms' => rw [e2] at h; cases h
          | error z => rw [e2] at h; cases h; exact ih ls M _ hb e2
  cases hr : rowR m q2 with
  | ok ms2 =>
    refine ⟨M5, congrFun (?_ : _ = (pure (D.bl true) : C D)) M5⟩
    rw [show dueT m (.ok ms2) = .tup [.tup ((m :: ms2).map F), .non] from rfl, tg2, show toldT m (.ok ms2) = pure (.tup ((m :: ms2).map F)) from rfl, heard_ok]
    simp only [ev_bin, ev_cmp, ev_un, ev_valB, ev_asB, ev_andVt, ev_andVf, ev_orVt, ev_orVf, ev_notV, ev_andTt, ev_andTf, ev_orTt, ev_orTf, ev_notT, ev_ifEt, ev_ifEf, ev_args0, ev_args1, ev_tupC, ev_lstC, ev_dicC, ev_callM, ev_callK, ev_callO, ev_asL, ev_lift, ev_ap1, ev_ap2, ev_ap3, ev_isi, ev_add, ev_sub, ev_neg, ev_lt, ev_le, ev_gt, ev_ge, ev_isNon, ev_isntNon, ev_t0, ev_t1, ev_l0, ev_l1, ev_abs, ev_int, ev_intB, ev_lenL, ev_lenT, ev_tupL, ev_eqI, ev_neI, C.pure_bind, C.raise_bind, C.no_bind]
    rw [tg2]
    simp only [ev_bin, ev_cmp, ev_un, ev_valB, ev_asB, ev_andVt, ev_andVf, ev_orVt, ev_orVf, ev_notV, ev_andTt, ev_andTf, ev_orTt, ev_orTf, ev_notT, ev_ifEt, ev_ifEf, ev_args0, ev_args1, ev_tupC, ev_lstC, ev_dicC, ev_callM, ev_callK, ev_callO, ev_asL, ev_lift, ev_ap1, ev_ap2, ev_ap3, ev_isi, ev_add, ev_sub, ev_neg, ev_lt, ev_le, ev_gt, ev_ge, ev_isNon, ev_isntNon, ev_t0, ev_t1, ev_l0, ev_l1, ev_abs, ev_int, ev_intB, ev_lenL, ev_lenT, ev_tupL, ev_eqI, ev_neI, C.pure_bind, C.raise_bind, C.no_bind]
    rw [show (D.isNon (.tup ((m :: ms2).map F))) = false from rfl]
    simp only [ev_bin, ev_cmp, ev_un, ev_valB, ev_asB, ev_andVt, ev_andVf, ev_orVt, ev_orVf, ev_notV, ev_andTt, ev_andTf, ev_orTt, ev_orTf, ev_notT, ev_ifEt, ev_ifEf, ev_args0, ev_args1, ev_tupC, ev_lstC, ev_dicC, ev_callM, ev_callK, ev_callO, ev_asL, ev_lift, ev_ap1, ev_ap2, ev_ap3, ev_isi, ev_add, ev_sub, ev_neg, ev_lt, ev_le, ev_gt, ev_ge, ev_isNon, ev_isntNon, ev_t0, ev_t1, ev_l0, ev_l1, ev_abs, ev_int, ev_intB, ev_lenL, ev_lenT, ev_tupL, ev_eqI, ev_neI, C.pure_bind, C.raise_bind, C.no_bind]
    rw [show (D.isNon .non) = true from rfl]
    simp only [ev_bin, ev_cmp, ev_un, ev_valB, ev_asB, ev_andVt, ev_andVf, ev_orVt, ev_orVf, ev_notV, ev_andTt, ev_andTf, ev_orTt, ev_orTf, ev_notT, ev_ifEt, ev_ifEf, ev_args0, ev_args1, ev_tupC, ev_lstC, ev_dicC, ev_callM, ev_callK, ev_callO, ev_asL, ev_lift, ev_ap1, ev_ap2, ev_ap3, ev_isi, ev_add, ev_sub, ev_neg, ev_lt, ev_le, ev_gt, ev_ge, ev_isNon, ev_isntNon, ev_t0, ev_t1, ev_l0, ev_l1, ev_abs, ev_int, ev_intB, ev_lenL, ev_lenT, ev_tupL, ev_eqI, ev_neI, C.pure_bind, C.raise_bind, C.no_bind]
    exact is_Fs 1 (m :: ms2) (by have := hlen2 _ _ _ hr; rw [List.length_cons]; omega)
  | error q =>
    obtain ⟨l, hlq⟩ := herr _ _ _ _ v5 hr
    obtain ⟨i1, i2, c1, c2, c3, c4, c5⟩ := lv_cost hlq
    refine ⟨M5, congrFun (?_ : _ = (pure (D.bl true) : C D)) M5⟩
    rw [show dueT m (.error q) = .tup [.non, Q q] from rfl, tg2, show toldT m (.error q) = C.raise "NoClack" (Q q) from rfl, heard_exc]
    simp only [ev_bin, ev_cmp, ev_un, ev_valB, ev_asB, ev_andVt, ev_andVf, ev_orVt, ev_orVf, ev_notV, ev_andTt, ev_andTf, ev_orTt, ev_orTf, ev_notT, ev_ifEt, ev_ifEf, ev_args0, ev_args1, ev_tupC, ev_lstC, ev_dicC, ev_callM, ev_callK, ev_callO, ev_asL, ev_lift, ev_ap1, ev_ap2, ev_ap3, ev_isi, ev_add, ev_sub, ev_neg, ev_lt, ev_le, ev_gt, ev_ge, ev_isNon, ev_isntNon, ev_t0, ev_t1, ev_l0, ev_l1, ev_abs, ev_int, ev_intB, ev_lenL, ev_lenT, ev_tupL, ev_eqI, ev_neI, C.pure_bind, C.raise_bind, C.no_bind]
    rw [tg2]
    simp only [ev_bin, ev_cmp, ev_un, ev_valB, ev_asB, ev_andVt, ev_andVf, ev_orVt, ev_orVf, ev_notV, ev_andTt, ev_andTf, ev_orTt, ev_orTf, ev_notT, ev_ifEt, ev_ifEf, ev_args0, ev_args1, ev_tupC, ev_lstC, ev_dicC, ev_callM, ev_callK, ev_callO, ev_asL, ev_lift, ev_ap1, ev_ap2, ev_ap3, ev_isi, ev_add, ev_sub, ev_neg, ev_lt, ev_le, ev_gt, ev_ge, ev_isNon, ev_isntNon, ev_t0, ev_t1, ev_l0, ev_l1, ev_abs, ev_int, ev_intB, ev_lenL, ev_lenT, ev_tupL, ev_eqI, ev_neI, C.pure_bind, C.raise_bind, C.no_bind]
    rw [show (D.isNon .non) = true from rfl]
    simp only [ev_bin, ev_cmp, ev_un, ev_valB, ev_asB, ev_andVt, ev_andVf, ev_orVt, ev_orVf, ev_notV, ev_andTt, ev_andTf, ev_orTt, ev_orTf, ev_notT, ev_ifEt, ev_ifEf, ev_args0, ev_args1, ev_tupC, ev_lstC, ev_dicC, ev_callM, ev_callK, ev_callO, ev_asL, ev_lift, ev_ap1, ev_ap2, ev_ap3, ev_isi, ev_add, ev_sub, ev_neg, ev_lt, ev_le, ev_gt, ev_ge, ev_isNon, ev_isntNon, ev_t0, ev_t1, ev_l0, ev_l1, ev_abs, ev_int, ev_intB, ev_lenL, ev_lenT, ev_tupL, ev_eqI, ev_neI, C.pure_bind, C.raise_bind, C.no_bind]
    rw [isexc, excv]
    simp only [ev_bin, ev_cmp, ev_un, ev_valB, ev_asB, ev_andVt, ev_andVf, ev_orVt, ev_orVf, ev_notV, ev_andTt, ev_andTf, ev_orTt, ev_orTf, ev_notT, ev_ifEt, ev_ifEf, ev_args0, ev_args1, ev_tupC, ev_lstC, ev_dicC, ev_callM, ev_callK, ev_callO, ev_asL, ev_lift, ev_ap1, ev_ap2, ev_ap3, ev_isi, ev_add, ev_sub, ev_neg, ev_lt, ev_le, ev_gt, ev_ge, ev_isNon, ev_isntNon, ev_t0, ev_t1, ev_l0, ev_l1, ev_abs, ev_int, ev_intB, ev_lenL, ev_lenT, ev_tupL, ev_eqI, ev_neI, C.pure_bind, C.raise_bind, C.no_bind]
    exact repr_self c1 c2 (by omega) (by omega)
end K35
set_option Elab.async false
set_option linter.all false
set_option maxRecDepth 100000
set_option maxHeartbeats 1000000
namespace K35
open PySem PySem.Spec L2 Fw
theorem ints_map (ns : List Int) : D.ints (ns.map D.int) = some ns := by
  induction ns with
  | nil => rfl
  | cons n ns ih =>
    show (D.ints (ns.map D.int)).map _ = _
    rw [ih]; rfl
theorem cell_eq (ns : List Int) (p : Int) (h0 : 0 ≤ p) (h1 : p ≤ 1) : ∃ c : Int, ifE (cmp D.lt (pure (.int p)) (callO bLen [pure (.lst (ns.map D.int))])) (Fw.bin D.ix (pure (.lst (ns.map D.int))) (pure (.int p))) (Fw.bin D.add (Fw.bin D.add (Fw.bin D.mod (callO bSum [slC (pure (.lst (ns.map D.int))) none (some (pure (.int 1)))]) (pure (.int 1000003))) (Fw.bin D.mul (pure (.int 4278)) (pure (.int p)))) (pure (.int 2848))) = pure (.int c) := by
  have hp : p.natAbs ≤ 2 ^ 1 := by omega
  simp only [ev_bin, ev_cmp, ev_un, ev_valB, ev_asB, ev_andVt, ev_andVf, ev_orVt, ev_orVf, ev_notV, ev_andTt, ev_andTf, ev_orTt, ev_orTf, ev_notT, ev_ifEt, ev_ifEf, ev_args0, ev_args1, ev_tupC, ev_lstC, ev_dicC, ev_callM, ev_callK, ev_callO, ev_asL, ev_lift, ev_ap1, ev_ap2, ev_ap3, ev_isi, ev_add, ev_sub, ev_neg, ev_lt, ev_le, ev_gt, ev_ge, ev_isNon, ev_isntNon, ev_t0, ev_t1, ev_l0, ev_l1, ev_abs, ev_int, ev_intB, ev_lenL, ev_lenT, ev_tupL, ev_eqI, ev_neI, C.pure_bind, C.raise_bind, C.no_bind]
  rw [List.length_map]
  by_cases h : p < ns.length
  · rw [decide_eq_true h]
    have hr : p.toNat < ns.length := by omega
    refine ⟨ns[p.toNat], ?_⟩
    have z : D.ix (.lst (ns.map D.int)) (.int p) = some (.int ns[p.toNat]) := by
      show atI (ns.map D.int) p = _
      unfold atI ixN
      rw [if_pos h0, if_pos (by rw [List.length_map]; exact h)]
      show (ns.map D.int)[p.toNat]? = _
      rw [List.getElem?_map, List.getElem?_eq_getElem hr]; rfl
    simp only [ev_bin, ev_cmp, ev_un, ev_valB, ev_asB, ev_andVt, ev_andVf, ev_orVt, ev_orVf, ev_notV, ev_andTt, ev_andTf, ev_orTt, ev_orTf, ev_notT, ev_ifEt, ev_ifEf, ev_args0, ev_args1, ev_tupC, ev_lstC, ev_dicC, ev_callM, ev_callK, ev_callO, ev_asL, ev_lift, ev_ap1, ev_ap2, ev_ap3, ev_isi, ev_add, ev_sub, ev_neg, ev_lt, ev_le, ev_gt, ev_ge, ev_isNon, ev_isntNon, ev_t0, ev_t1, ev_l0, ev_l1, ev_abs, ev_int, ev_intB, ev_lenL, ev_lenT, ev_tupL, ev_eqI, ev_neI, C.pure_bind, C.raise_bind, C.no_bind]
    rw [z]; rfl
  · rw [decide_eq_false h]
    have e : slC (pure (.lst (ns.map D.int))) none (some (pure (.int 1))) = pure (.lst ((ns.take (min 1 ns.length)).map D.int)) := by
      show (pure (.lst (cutD (ns.map D.int) none (some 1))) : C D) = _
      unfold cutD
      rw [HT.sIx_none, List.drop_zero, show HT.sIx (ns.map D.int).length (ns.map D.int).length (some 1) = min 1 (ns.map D.int).length from HT.sIx_nat _ _ 1, List.length_map, Nat.sub_zero, List.map_take]
    rw [e, mulN (m := 13) (n := 1) (by decide) hp (by decide)]
    simp only [ev_bin, ev_cmp, ev_un, ev_valB, ev_asB, ev_andVt, ev_andVf, ev_orVt, ev_orVf, ev_notV, ev_andTt, ev_andTf, ev_orTt, ev_orTf, ev_notT, ev_ifEt, ev_ifEf, ev_args0, ev_args1, ev_tupC, ev_lstC, ev_dicC, ev_callM, ev_callK, ev_callO, ev_asL, ev_lift, ev_ap1, ev_ap2, ev_ap3, ev_isi, ev_add, ev_sub, ev_neg, ev_lt, ev_le, ev_gt, ev_ge, ev_isNon, ev_isntNon, ev_t0, ev_t1, ev_l0, ev_l1, ev_abs, ev_int, ev_intB, ev_lenL, ev_lenT, ev_tupL, ev_eqI, ev_neI, C.pure_bind, C.raise_bind, C.no_bind]
    rw [show bSum [.lst ((ns.take (min 1 ns.length)).map D.int)] = some (.int (ns.take (min 1 ns.length)).sum) from by
      show (D.ints _).map _ = _
      rw [ints_map]; rfl]
    simp only [ev_bin, ev_cmp, ev_un, ev_valB, ev_asB, ev_andVt, ev_andVf, ev_orVt, ev_orVf, ev_notV, ev_andTt, ev_andTf, ev_orTt, ev_orTf, ev_notT, ev_ifEt, ev_ifEf, ev_args0, ev_args1, ev_tupC, ev_lstC, ev_dicC, ev_callM, ev_callK, ev_callO, ev_asL, ev_lift, ev_ap1, ev_ap2, ev_ap3, ev_isi, ev_add, ev_sub, ev_neg, ev_lt, ev_le, ev_gt, ev_ge, ev_isNon, ev_isntNon, ev_t0, ev_t1, ev_l0, ev_l1, ev_abs, ev_int, ev_intB, ev_lenL, ev_lenT, ev_tupL, ev_eqI, ev_neI, C.pure_bind, C.raise_bind, C.no_bind]
    rw [ev_mod (by decide)]
    simp only [ev_bin, ev_cmp, ev_un, ev_valB, ev_asB, ev_andVt, ev_andVf, ev_orVt, ev_orVf, ev_notV, ev_andTt, ev_andTf, ev_orTt, ev_orTf, ev_notT, ev_ifEt, ev_ifEf, ev_args0, ev_args1, ev_tupC, ev_lstC, ev_dicC, ev_callM, ev_callK, ev_callO, ev_asL, ev_lift, ev_ap1, ev_ap2, ev_ap3, ev_isi, ev_add, ev_sub, ev_neg, ev_lt, ev_le, ev_gt, ev_ge, ev_isNon, ev_isntNon, ev_t0, ev_t1, ev_l0, ev_l1, ev_abs, ev_int, ev_intB, ev_lenL, ev_lenT, ev_tupL, ev_eqI, ev_neI, C.pure_bind, C.raise_bind, C.no_bind]
    exact ⟨_, rfl⟩
theorem pot_run (ns : List Int) (p : Int) (M : Mem) (h0 : 0 ≤ p) (h1 : p ≤ 1) : ∃ M', m__law_pot [.lst (ns.map D.int), .int p] M = .ok (.cell M.length) M' ∧ Pot 0 M.length M' := by
  obtain ⟨c, hc⟩ := cell_eq ns p h0 h1
  have hp : p.natAbs ≤ 2 ^ 1 := by omega
  show ∃ M', b__law_pot _ _ M = _ ∧ _
  unfold b__law_pot
  rw [hc, C.pure_bind]
  have t1 : Fw.bin D.pow (Fw.bin D.pow (pure (.int 10)) (pure (.int 60))) (pure (.int 5)) = pure (.int ((10 ^ 60) ^ 5)) := by
    simp only [ev_bin, ev_cmp, ev_un, ev_valB, ev_asB, ev_andVt, ev_andVf, ev_orVt, ev_orVf, ev_notV, ev_andTt, ev_andTf, ev_orTt, ev_orTf, ev_notT, ev_ifEt, ev_ifEf, ev_args0, ev_args1, ev_tupC, ev_lstC, ev_dicC, ev_callM, ev_callK, ev_callO, ev_asL, ev_lift, ev_ap1, ev_ap2, ev_ap3, ev_isi, ev_add, ev_sub, ev_neg, ev_lt, ev_le, ev_gt, ev_ge, ev_isNon, ev_isntNon, ev_t0, ev_t1, ev_l0, ev_l1, ev_abs, ev_int, ev_intB, ev_lenL, ev_lenT, ev_tupL, ev_eqI, ev_neI, C.pure_bind, C.raise_bind, C.no_bind]
    rw [ev_pow (i := 10) (n := 4) (by decide) (by decide) (by decide)]
    simp only [ev_bin, ev_cmp, ev_un, ev_valB, ev_asB, ev_andVt, ev_andVf, ev_orVt, ev_orVf, ev_notV, ev_andTt, ev_andTf, ev_orTt, ev_orTf, ev_notT, ev_ifEt, ev_ifEf, ev_args0, ev_args1, ev_tupC, ev_lstC, ev_dicC, ev_callM, ev_callK, ev_callO, ev_asL, ev_lift, ev_ap1, ev_ap2, ev_ap3, ev_isi, ev_add, ev_sub, ev_neg, ev_lt, ev_le, ev_gt, ev_ge, ev_isNon, ev_isntNon, ev_t0, ev_t1, ev_l0, ev_l1, ev_abs, ev_int, ev_intB, ev_lenL, ev_lenT, ev_tupL, ev_eqI, ev_neI, C.pure_bind, C.raise_bind, C.no_bind]
    rw [ev_pow (i := 10 ^ (60 : Int).toNat) (n := 200) (by decide) (by decide +kernel) (by decide)]; rfl
  have t2 : Fw.bin D.pow (pure (.int 10)) (pure (.int 18)) = pure (.int (10 ^ 18)) := by
    simp only [ev_bin, ev_cmp, ev_un, ev_valB, ev_asB, ev_andVt, ev_andVf, ev_orVt, ev_orVf, ev_notV, ev_andTt, ev_andTf, ev_orTt, ev_orTf, ev_notT, ev_ifEt, ev_ifEf, ev_args0, ev_args1, ev_tupC, ev_lstC, ev_dicC, ev_callM, ev_callK, ev_callO, ev_asL, ev_lift, ev_ap1, ev_ap2, ev_ap3, ev_isi, ev_add, ev_sub, ev_neg, ev_lt, ev_le, ev_gt, ev_ge, ev_isNon, ev_isntNon, ev_t0, ev_t1, ev_l0, ev_l1, ev_abs, ev_int, ev_intB, ev_lenL, ev_lenT, ev_tupL, ev_eqI, ev_neI, C.pure_bind, C.raise_bind, C.no_bind]
    rw [ev_pow (i := 10) (n := 4) (by decide) (by decide) (by decide)]; rfl
  have a1 : Fw.bin D.mod (callO bInt [callO bAbs [pure (.int c)]]) (Fw.bin D.pow (Fw.bin D.pow (pure (.int 10)) (pure (.int 60))) (pure (.int 5))) = pure (.int ((c.natAbs : Int).fmod ((10 ^ 60) ^ 5))) := by
    rw [t1]; simp only [ev_bin, ev_cmp, ev_un, ev_valB, ev_asB, ev_andVt, ev_andVf, ev_orVt, ev_orVf, ev_notV, ev_andTt, ev_andTf, ev_orTt, ev_orTf, ev_notT, ev_ifEt, ev_ifEf, ev_args0, ev_args1, ev_tupC, ev_lstC, ev_dicC, ev_callM, ev_callK, ev_callO, ev_asL, ev_lift, ev_ap1, ev_ap2, ev_ap3, ev_isi, ev_add, ev_sub, ev_neg, ev_lt, ev_le, ev_gt, ev_ge, ev_isNon, ev_isntNon, ev_t0, ev_t1, ev_l0, ev_l1, ev_abs, ev_int, ev_intB, ev_lenL, ev_lenT, ev_tupL, ev_eqI, ev_neI, C.pure_bind, C.raise_bind, C.no_bind]
    rw [ev_mod (by decide +kernel)]; rfl
  have a2 : callO bInt [valB (cmp D.ge (callO bAbs [pure (.int c)]) (Fw.bin D.pow (pure (.int 10)) (pure (.int 18))))] = pure (.int (if decide ((10 ^ 18 : Int) ≤ c.natAbs) then 1 else 0)) := by
    rw [t2]; simp only [ev_bin, ev_cmp, ev_un, ev_valB, ev_asB, ev_andVt, ev_andVf, ev_orVt, ev_orVf, ev_notV, ev_andTt, ev_andTf, ev_orTt, ev_orTf, ev_notT, ev_ifEt, ev_ifEf, ev_args0, ev_args1, ev_tupC, ev_lstC, ev_dicC, ev_callM, ev_callK, ev_callO, ev_asL, ev_lift, ev_ap1, ev_ap2, ev_ap3, ev_isi, ev_add, ev_sub, ev_neg, ev_lt, ev_le, ev_gt, ev_ge, ev_isNon, ev_isntNon, ev_t0, ev_t1, ev_l0, ev_l1, ev_abs, ev_int, ev_intB, ev_lenL, ev_lenT, ev_tupL, ev_eqI, ev_neI, C.pure_bind, C.raise_bind, C.no_bind]
  rw [a1, a2]
  obtain ⟨f1, f2⟩ := fmod_rng (a := (c.natAbs : Int)) (b := (10 ^ 60) ^ 5) (by decide +kernel)
  have hz : (0 : Int) ≤ (if decide ((10 ^ 18 : Int) ≤ c.natAbs) then 1 else 0) ∧ (if decide ((10 ^ 18 : Int) ≤ c.natAbs) then (1 : Int) else 0) ≤ 1 := by split <;> decide
  generalize (if decide ((10 ^ 18 : Int) ≤ c.natAbs) then (1 : Int) else 0) = z at hz
  have f3 : ((c.natAbs : Int).fmod ((10 ^ 60) ^ 5)).natAbs ≤ 2 ^ 1000 := by
    have : ((10 ^ 60) ^ 5 : Int) ≤ 2 ^ 1000 := by decide +kernel
    have h2 : (c.natAbs : Int).fmod ((10 ^ 60) ^ 5) ≤ 2 ^ 1000 := Int.le_trans (Int.le_of_lt f2) this
    have h3 : ((((c.natAbs : Int).fmod ((10 ^ 60) ^ 5)).natAbs : Nat) : Int) ≤ ((2 ^ 1000 : Nat) : Int) := by
      rw [Int.natAbs_of_nonneg f1, Int.natCast_pow]; exact h2
    exact Int.ofNat_le.mp h3
  generalize (c.natAbs : Int).fmod ((10 ^ 60) ^ 5) = o at f1 f3
  have a3 : Fw.bin D.mul (pure (.int o)) (pure (.int z)) = pure (.int (o * z)) := by
    simp only [ev_bin, ev_cmp, ev_un, ev_valB, ev_asB, ev_andVt, ev_andVf, ev_orVt, ev_orVf, ev_notV, ev_andTt, ev_andTf, ev_orTt, ev_orTf, ev_notT, ev_ifEt, ev_ifEf, ev_args0, ev_args1, ev_tupC, ev_lstC, ev_dicC, ev_callM, ev_callK, ev_callO, ev_asL, ev_lift, ev_ap1, ev_ap2, ev_ap3, ev_isi, ev_add, ev_sub, ev_neg, ev_lt, ev_le, ev_gt, ev_ge, ev_isNon, ev_isntNon, ev_t0, ev_t1, ev_l0, ev_l1, ev_abs, ev_int, ev_intB, ev_lenL, ev_lenT, ev_tupL, ev_eqI, ev_neI, C.pure_bind, C.raise_bind, C.no_bind]
    rw [mulN (m := 1000) (n := 1) f3 (by omega) (by decide)]; rfl
  rw [a3, C.pure_bind]
  have a4 : Fw.bin D.mod (callO bInt [pure (.int c)]) (pure (.int 2305843009213693951)) = pure (.int (c.fmod 2305843009213693951)) := by
    simp only [ev_bin, ev_cmp, ev_un, ev_valB, ev_asB, ev_andVt, ev_andVf, ev_orVt, ev_orVf, ev_notV, ev_andTt, ev_andTf, ev_orTt, ev_orTf, ev_notT, ev_ifEt, ev_ifEf, ev_args0, ev_args1, ev_tupC, ev_lstC, ev_dicC, ev_callM, ev_callK, ev_callO, ev_asL, ev_lift, ev_ap1, ev_ap2, ev_ap3, ev_isi, ev_add, ev_sub, ev_neg, ev_lt, ev_le, ev_gt, ev_ge, ev_isNon, ev_isntNon, ev_t0, ev_t1, ev_l0, ev_l1, ev_abs, ev_int, ev_intB, ev_lenL, ev_lenT, ev_tupL, ev_eqI, ev_neI, C.pure_bind, C.raise_bind, C.no_bind]
    rw [ev_mod (by decide)]; rfl
  rw [a4, C.pure_bind]
  obtain ⟨g1, g2⟩ := fmod_rng (a := c) (b := 2305843009213693951) (by decide)
  generalize c.fmod 2305843009213693951 = s at g1 g2
  have hs : s.natAbs ≤ 2 ^ 61 := by omega
  have a5 : ∃ r : Int, 0 ≤ r ∧ r < 2 ^ 62 ∧ Fw.bin D.mod (callO bInt [Fw.bin D.add (Fw.bin D.add (Fw.bin D.mul (pure (.int s)) (pure (.int 95316))) (Fw.bin D.mul (Fw.bin D.mul (pure (.int 16608)) (pure (.int p))) (pure (.int p)))) (pure (.int 3154))]) (pure (.int 2305843009213693921)) = pure (.int r) := by
    simp only [ev_bin, ev_cmp, ev_un, ev_valB, ev_asB, ev_andVt, ev_andVf, ev_orVt, ev_orVf, ev_notV, ev_andTt, ev_andTf, ev_orTt, ev_orTf, ev_notT, ev_ifEt, ev_ifEf, ev_args0, ev_args1, ev_tupC, ev_lstC, ev_dicC, ev_callM, ev_callK, ev_callO, ev_asL, ev_lift, ev_ap1, ev_ap2, ev_ap3, ev_isi, ev_add, ev_sub, ev_neg, ev_lt, ev_le, ev_gt, ev_ge, ev_isNon, ev_isntNon, ev_t0, ev_t1, ev_l0, ev_l1, ev_abs, ev_int, ev_intB, ev_lenL, ev_lenT, ev_tupL, ev_eqI, ev_neI, C.pure_bind, C.raise_bind, C.no_bind]
    rw [mulN (m := 61) (n := 17) hs (by decide) (by decide), mulN (m := 15) (n := 1) (by decide) hp (by decide)]
    simp only [ev_bin, ev_cmp, ev_un, ev_valB, ev_asB, ev_andVt, ev_andVf, ev_orVt, ev_orVf, ev_notV, ev_andTt, ev_andTf, ev_orTt, ev_orTf, ev_notT, ev_ifEt, ev_ifEf, ev_args0, ev_args1, ev_tupC, ev_lstC, ev_dicC, ev_callM, ev_callK, ev_callO, ev_asL, ev_lift, ev_ap1, ev_ap2, ev_ap3, ev_isi, ev_add, ev_sub, ev_neg, ev_lt, ev_le, ev_gt, ev_ge, ev_isNon, ev_isntNon, ev_t0, ev_t1, ev_l0, ev_l1, ev_abs, ev_int, ev_intB, ev_lenL, ev_lenT, ev_tupL, ev_eqI, ev_neI, C.pure_bind, C.raise_bind, C.no_bind]
    rw [mulN (m := 16) (n := 1) (mul_le2 (m := 15) (n := 1) (by decide) hp) hp (by decide)]
    simp only [ev_bin, ev_cmp, ev_un, ev_valB, ev_asB, ev_andVt, ev_andVf, ev_orVt, ev_orVf, ev_notV, ev_andTt, ev_andTf, ev_orTt, ev_orTf, ev_notT, ev_ifEt, ev_ifEf, ev_args0, ev_args1, ev_tupC, ev_lstC, ev_dicC, ev_callM, ev_callK, ev_callO, ev_asL, ev_lift, ev_ap1, ev_ap2, ev_ap3, ev_isi, ev_add, ev_sub, ev_neg, ev_lt, ev_le, ev_gt, ev_ge, ev_isNon, ev_isntNon, ev_t0, ev_t1, ev_l0, ev_l1, ev_abs, ev_int, ev_intB, ev_lenL, ev_lenT, ev_tupL, ev_eqI, ev_neI, C.pure_bind, C.raise_bind, C.no_bind]
    rw [ev_mod (by decide)]
    obtain ⟨k1, k2⟩ := fmod_rng (a := s * 95316 + 16608 * p * p + 3154) (b := 2305843009213693921) (by decide)
    exact ⟨_, k1, by omega, rfl⟩
  obtain ⟨r, r0, r1, a5⟩ := a5
  rw [a5]
  refine ⟨M ++ [.lst [.int (o * z), .int r, .int 0]], rfl, o * z, r, 0, ?_, Int.mul_nonneg f1 hz.1, r0, r1, Int.le_refl _, Int.le_refl _⟩
  rw [List.getElem?_append_right (Nat.le_refl _), Nat.sub_self]; rfl
theorem cells_eq (ns : List Int) : ∃ ds : List D, m__law_cells [.lst (ns.map D.int), .int 2] = pure (.lst ds) ∧ ds.length ≤ 2 ∧ ∀ d ∈ ds, ∃ p : Int, d = .int p ∧ 0 ≤ p ∧ p ≤ 1 := by
  show ∃ ds, b__law_cells _ _ = _ ∧ _
  unfold b__law_cells
  simp only [ev_bin, ev_cmp, ev_un, ev_valB, ev_asB, ev_andVt, ev_andVf, ev_orVt, ev_orVf, ev_notV, ev_andTt, ev_andTf, ev_orTt, ev_orTf, ev_notT, ev_ifEt, ev_ifEf, ev_args0, ev_args1, ev_tupC, ev_lstC, ev_dicC, ev_callM, ev_callK, ev_callO, ev_asL, ev_lift, ev_ap1, ev_ap2, ev_ap3, ev_isi, ev_add, ev_sub, ev_neg, ev_lt, ev_le, ev_gt, ev_ge, ev_isNon, ev_isntNon, ev_t0, ev_t1, ev_l0, ev_l1, ev_abs, ev_int, ev_intB, ev_lenL, ev_lenT, ev_tupL, ev_eqI, ev_neI, C.pure_bind, C.raise_bind, C.no_bind]
  rw [List.length_map]
  have e1 : bMin [.int 2, .int ns.length] = some (.int (if (ns.length : Int) < 2 then ns.length else 2)) := rfl
  rw [e1]
  simp only [ev_bin, ev_cmp, ev_un, ev_valB, ev_asB, ev_andVt, ev_andVf, ev_orVt, ev_orVf, ev_notV, ev_andTt, ev_andTf, ev_orTt, ev_orTf, ev_notT, ev_ifEt, ev_ifEf, ev_args0, ev_args1, ev_tupC, ev_lstC, ev_dicC, ev_callM, ev_callK, ev_callO, ev_asL, ev_lift, ev_ap1, ev_ap2, ev_ap3, ev_isi, ev_add, ev_sub, ev_neg, ev_lt, ev_le, ev_gt, ev_ge, ev_isNon, ev_isntNon, ev_t0, ev_t1, ev_l0, ev_l1, ev_abs, ev_int, ev_intB, ev_lenL, ev_lenT, ev_tupL, ev_eqI, ev_neI, C.pure_bind, C.raise_bind, C.no_bind]
  generalize hk : (if (ns.length : Int) < 2 then (ns.length : Int) else 2) = k
  have e2 : bMax [.int 1, .int k] = some (.int (if k > 1 then k else 1)) := rfl
  rw [e2]
  simp only [ev_bin, ev_cmp, ev_un, ev_valB, ev_asB, ev_andVt, ev_andVf, ev_orVt, ev_orVf, ev_notV, ev_andTt, ev_andTf, ev_orTt, ev_orTf, ev_notT, ev_ifEt, ev_ifEf, ev_args0, ev_args1, ev_tupC, ev_lstC, ev_dicC, ev_callM, ev_callK, ev_callO, ev_asL, ev_lift, ev_ap1, ev_ap2, ev_ap3, ev_isi, ev_add, ev_sub, ev_neg, ev_lt, ev_le, ev_gt, ev_ge, ev_isNon, ev_isntNon, ev_t0, ev_t1, ev_l0, ev_l1, ev_abs, ev_int, ev_intB, ev_lenL, ev_lenT, ev_tupL, ev_eqI, ev_neI, C.pure_bind, C.raise_bind, C.no_bind]
  have hk2 : k ≤ 2 := by rw [← hk]; split <;> omega
  have : (if k > 1 then k else 1) = 2 ∨ (if k > 1 then k else 1) = 1 := by split <;> omega
  rcases this with h | h
  · rw [h]
    exact ⟨[.int 0, .int 1], rfl, by decide, fun d hd => by
      simp only [List.mem_cons, List.not_mem_nil, or_false] at hd
      rcases hd with rfl | rfl
      · exact ⟨0, rfl, by decide, by decide⟩
      · exact ⟨1, rfl, by decide, by decide⟩⟩
  · rw [h]
    exact ⟨[.int 0], rfl, by decide, fun d hd => by
      rw [List.mem_singleton.mp hd]
      exact ⟨0, rfl, by decide, by decide⟩⟩
theorem law_go (ns : List Int) : ∀ (ds : List D) (M : Mem), (∀ d ∈ ds, ∃ p : Int, d = .int p ∧ 0 ≤ p ∧ p ≤ 1) →
    ∃ M', lcGo .nm yesC (ap1 fun place2 => callM m__law_right [callM m__law_pot [pure (.lst (ns.map D.int)), pure place2]]) ds M = .ok (ds.map fun _ => .bl true) M'
  | [], M, _ => ⟨M, rfl⟩
  | d :: ds, M, h => by
    obtain ⟨p, rfl, p0, p1⟩ := h d List.mem_cons_self
    obtain ⟨M1, e1, hp⟩ := pot_run ns p M p0 p1
    obtain ⟨M2, e2⟩ := right_run hp
    obtain ⟨M3, e3⟩ := law_go ns ds M2 fun x hx => h x (List.mem_cons_of_mem _ hx)
    refine ⟨M3, ?_⟩
    have z1 : callM m__law_pot [pure (.lst (ns.map D.int)), pure (.int p)] M = .ok (.cell M.length) M1 := e1
    have z : callM m__law_right [callM m__law_pot [pure (.lst (ns.map D.int)), pure (.int p)]] M = .ok (.bl true) M2 := by
      rw [callM_run (args_run z1 args0_run)]; exact e2
    show (calm (callM m__law_right [callM m__law_pot [pure (.lst (ns.map D.int)), pure (.int p)]]) >>= fun y => lcGo .nm yesC (ap1 fun place2 => callM m__law_right [callM m__law_pot [pure (.lst (ns.map D.int)), pure place2]]) ds >>= fun ys => pure (y :: ys)) M = _
    rw [C.bind_ok (calm_run z), C.bind_ok e3]; rfl
theorem hlaw (ns : List Int) (hl : ns.length ≤ 63) (hb : ∀ i ∈ ns, PySem.Builtin.Int.intBits i ≤ 1048576) : ∃ M', m_law [.lst (ns.map D.int)] [] = .ok (.bl true) M' := by
  obtain ⟨ds, e, hlen, hd⟩ := cells_eq ns
  obtain ⟨M', e2⟩ := law_go ns ds [] hd
  refine ⟨M', ?_⟩
  show b_law _ [] = _
  unfold b_law
  have z : iterL (callM m__law_cells [pure (.lst (ns.map D.int)), pure (.int 2)]) [] = .ok ds [] := by
    show (callM m__law_cells [pure (.lst (ns.map D.int)), pure (.int 2)] >>= fun d => lift d.lst?) [] = _
    rw [show callM m__law_cells [pure (.lst (ns.map D.int)), pure (.int 2)] = pure (.lst ds) from e]; rfl
  have z2 := asL_run ((lcC_run (t := .nm) (cond := yesC) (e := ap1 fun place2 => callM m__law_right [callM m__law_pot [pure (.lst (ns.map D.int)), pure place2]]) z (Nat.lt_of_le_of_lt hlen (by decide))).trans e2)
  show (args [_] >>= fun ds => lift (bAll ds)) [] = _
  rw [C.bind_ok (args_run z2 args0_run), bools_trues fun _ _ => rfl]; rfl
end K35
set_option Elab.async false
set_option linter.all false
set_option maxRecDepth 100000
set_option maxHeartbeats 2000000
namespace K35
open PySem PySem.Spec L2 Fw
def top (i : Nat) : Stmt := PySem.Challenge.pw_sameclacks_k35_whole_masses_told_back_fr.main.body.getD i (.Pass ⟨0, 0, 0, 0⟩)
abbrev FnP (K : PySem.W.Frag) (x : Str) (st : Stmt) (f : Addr) (fd : FuncData) : Prop := FunD K x x (defArgs st) (defBody st) (defScope st) [] [] f fd
abbrev s_is_whole : Stmt := top 2
abbrev s_common : Stmt := top 3
abbrev s_ratio : Stmt := top 4
abbrev s_less : Stmt := top 5
abbrev s_times : Stmt := top 6
abbrev s_over : Stmt := top 7
abbrev s_is_below : Stmt := top 8
abbrev s_is_ratio : Stmt := top 9
abbrev s_is_size : Stmt := top 10
abbrev s_is_tuple : Stmt := top 12
abbrev s_is_pair_of_ratios : Stmt := top 22
abbrev s_check_mass : Stmt := top 23
abbrev s_other_mass : Stmt := top 24
abbrev s_mass_told : Stmt := top 25
abbrev s_is_seen : Stmt := top 26
abbrev s_masses_told : Stmt := top 27
abbrev s__law_pot : Stmt := top 29
abbrev s__law_take : Stmt := top 30
abbrev s__law_of : Stmt := top 31
abbrev s__law_cells : Stmt := top 32
abbrev s__law_heard : Stmt := top 33
abbrev s__law_frac_common : Stmt := top 34
abbrev s__law_frac : Stmt := top 35
abbrev s__law_frac_plus : Stmt := top 36
abbrev s__law_frac_less : Stmt := top 37
abbrev s__law_frac_times : Stmt := top 38
abbrev s__law_frac_over : Stmt := top 39
abbrev s__law_frac_is_less : Stmt := top 40
abbrev s__law_frac_drawn : Stmt := top 41
abbrev s__law_track_joints : Stmt := top 42
abbrev s__law_track_clacked : Stmt := top 43
abbrev s__law_is : Stmt := top 44
abbrev s__law_mass_drawn : Stmt := top 45
abbrev s__law_clack_drawn : Stmt := top 46
abbrev s__law_due : Stmt := top 47
abbrev s__law_is_told : Stmt := top 48
abbrev s__law_near : Stmt := top 49
abbrev s__law_row_due : Stmt := top 50
abbrev s__law_right : Stmt := top 51
abbrev s_law : Stmt := top 52
/-- what the written part says -/
structure FA (P : Program) (K : PySem.W.Frag) (mg : Str → Option Value) (DA fI : Addr) : Prop where
  F_is_whole : ∃ fd, FnP K "is_whole" s_is_whole (He.ga K "is_whole") fd
  m_is_whole : mg "is_whole" = some (.ref (He.ga K "is_whole"))
  F_common : ∃ fd, FnP K "common" s_common (He.ga K "common") fd
  m_common : mg "common" = some (.ref (He.ga K "common"))
  F_ratio : ∃ fd, FnP K "ratio" s_ratio (He.ga K "ratio") fd
  m_ratio : mg "ratio" = some (.ref (He.ga K "ratio"))
  F_less : ∃ fd, FnP K "less" s_less (He.ga K "less") fd
  m_less : mg "less" = some (.ref (He.ga K "less"))
  F_times : ∃ fd, FnP K "times" s_times (He.ga K "times") fd
  m_times : mg "times" = some (.ref (He.ga K "times"))
  F_over : ∃ fd, FnP K "over" s_over (He.ga K "over") fd
  m_over : mg "over" = some (.ref (He.ga K "over"))
  F_is_below : ∃ fd, FnP K "is_below" s_is_below (He.ga K "is_below") fd
  m_is_below : mg "is_below" = some (.ref (He.ga K "is_below"))
  F_is_ratio : ∃ fd, FnP K "is_ratio" s_is_ratio (He.ga K "is_ratio") fd
  m_is_ratio : mg "is_ratio" = some (.ref (He.ga K "is_ratio"))
  F_is_size : ∃ fd, FnP K "is_size" s_is_size (He.ga K "is_size") fd
  m_is_size : mg "is_size" = some (.ref (He.ga K "is_size"))
  F_is_tuple : ∃ fd, FnP K "is_tuple" s_is_tuple (He.ga K "is_tuple") fd
  m_is_tuple : mg "is_tuple" = some (.ref (He.ga K "is_tuple"))
  F_is_pair_of_ratios : ∃ fd, FnP K "is_pair_of_ratios" s_is_pair_of_ratios (He.ga K "is_pair_of_ratios") fd
  m_is_pair_of_ratios : mg "is_pair_of_ratios" = some (.ref (He.ga K "is_pair_of_ratios"))
  F_check_mass : ∃ fd, FnP K "check_mass" s_check_mass (He.ga K "check_mass") fd
  m_check_mass : mg "check_mass" = some (.ref (He.ga K "check_mass"))
  F_other_mass : ∃ fd, FnP K "other_mass" s_other_mass (He.ga K "other_mass") fd
  m_other_mass : mg "other_mass" = some (.ref (He.ga K "other_mass"))
  F_mass_told : ∃ fd, FnP K "mass_told" s_mass_told (He.ga K "mass_told") fd
  m_mass_told : mg "mass_told" = some (.ref (He.ga K "mass_told"))
  F_is_seen : ∃ fd, FnP K "is_seen" s_is_seen (He.ga K "is_seen") fd
  m_is_seen : mg "is_seen" = some (.ref (He.ga K "is_seen"))
  F_masses_told : ∃ fd, FnP K "masses_told" s_masses_told (He.ga K "masses_told") fd
  m_masses_told : mg "masses_told" = some (.ref (He.ga K "masses_told"))
  F__law_pot : ∃ fd, FnP K "_law_pot" s__law_pot (He.ga K "_law_pot") fd
  m__law_pot : mg "_law_pot" = some (.ref (He.ga K "_law_pot"))
  F__law_take : ∃ fd, FnP K "_law_take" s__law_take (He.ga K "_law_take") fd
  m__law_take : mg "_law_take" = some (.ref (He.ga K "_law_take"))
  F__law_of : ∃ fd, FnP K "_law_of" s__law_of (He.ga K "_law_of") fd
  m__law_of : mg "_law_of" = some (.ref (He.ga K "_law_of"))
  F__law_cells : ∃ fd, FnP K "_law_cells" s__law_cells (He.ga K "_law_cells") fd
  m__law_cells : mg "_law_cells" = some (.ref (He.ga K "_law_cells"))
  F__law_heard : ∃ fd, FnP K "_law_heard" s__law_heard (He.ga K "_law_heard") fd
  m__law_heard : mg "_law_heard" = some (.ref (He.ga K "_law_heard"))
  F__law_frac_common : ∃ fd, FnP K "_law_frac_common" s__law_frac_common (He.ga K "_law_frac_common") fd
  m__law_frac_common : mg "_law_frac_common" = some (.ref (He.ga K "_law_frac_common"))
  F__law_frac : ∃ fd, FnP K "_law_frac" s__law_frac (He.ga K "_law_frac") fd
  m__law_frac : mg "_law_frac" = some (.ref (He.ga K "_law_frac"))
  F__law_frac_plus : ∃ fd, FnP K "_law_frac_plus" s__law_frac_plus (He.ga K "_law_frac_plus") fd
  m__law_frac_plus : mg "_law_frac_plus" = some (.ref (He.ga K "_law_frac_plus"))
  F__law_frac_less : ∃ fd, FnP K "_law_frac_less" s__law_frac_less (He.ga K "_law_frac_less") fd
  m__law_frac_less : mg "_law_frac_less" = some (.ref (He.ga K "_law_frac_less"))
  F__law_frac_times : ∃ fd, FnP K "_law_frac_times" s__law_frac_times (He.ga K "_law_frac_times") fd
  m__law_frac_times : mg "_law_frac_times" = some (.ref (He.ga K "_law_frac_times"))
  F__law_frac_over : ∃ fd, FnP K "_law_frac_over" s__law_frac_over (He.ga K "_law_frac_over") fd
  m__law_frac_over : mg "_law_frac_over" = some (.ref (He.ga K "_law_frac_over"))
  F__law_frac_is_less : ∃ fd, FnP K "_law_frac_is_less" s__law_frac_is_less (He.ga K "_law_frac_is_less") fd
  m__law_frac_is_less : mg "_law_frac_is_less" = some (.ref (He.ga K "_law_frac_is_less"))
  F__law_frac_drawn : ∃ fd, FnP K "_law_frac_drawn" s__law_frac_drawn (He.ga K "_law_frac_drawn") fd
  m__law_frac_drawn : mg "_law_frac_drawn" = some (.ref (He.ga K "_law_frac_drawn"))
  F__law_track_joints : ∃ fd, FnP K "_law_track_joints" s__law_track_joints (He.ga K "_law_track_joints") fd
  m__law_track_joints : mg "_law_track_joints" = some (.ref (He.ga K "_law_track_joints"))
  F__law_track_clacked : ∃ fd, FnP K "_law_track_clacked" s__law_track_clacked (He.ga K "_law_track_clacked") fd
  m__law_track_clacked : mg "_law_track_clacked" = some (.ref (He.ga K "_law_track_clacked"))
  F__law_is : ∃ fd, FnP K "_law_is" s__law_is (He.ga K "_law_is") fd
  m__law_is : mg "_law_is" = some (.ref (He.ga K "_law_is"))
  F__law_mass_drawn : ∃ fd, FnP K "_law_mass_drawn" s__law_mass_drawn (He.ga K "_law_mass_drawn") fd
  m__law_mass_drawn : mg "_law_mass_drawn" = some (.ref (He.ga K "_law_mass_drawn"))
  F__law_clack_drawn : ∃ fd, FnP K "_law_clack_drawn" s__law_clack_drawn (He.ga K "_law_clack_drawn") fd
  m__law_clack_drawn : mg "_law_clack_drawn" = some (.ref (He.ga K "_law_clack_drawn"))
  F__law_due : ∃ fd, FnP K "_law_due" s__law_due (He.ga K "_law_due") fd
  m__law_due : mg "_law_due" = some (.ref (He.ga K "_law_due"))
  F__law_is_told : ∃ fd, FnP K "_law_is_told" s__law_is_told (He.ga K "_law_is_told") fd
  m__law_is_told : mg "_law_is_told" = some (.ref (He.ga K "_law_is_told"))
  F__law_near : ∃ fd, FnP K "_law_near" s__law_near (He.ga K "_law_near") fd
  m__law_near : mg "_law_near" = some (.ref (He.ga K "_law_near"))
  F__law_row_due : ∃ fd, FnP K "_law_row_due" s__law_row_due (He.ga K "_law_row_due") fd
  m__law_row_due : mg "_law_row_due" = some (.ref (He.ga K "_law_row_due"))
  F__law_right : ∃ fd, FnP K "_law_right" s__law_right (He.ga K "_law_right") fd
  m__law_right : mg "_law_right" = some (.ref (He.ga K "_law_right"))
  F_law : ∃ fd, FnP K "law" s_law (He.ga K "law") fd
  m_law : mg "law" = some (.ref (He.ga K "law"))
  n_abs : mg "abs" = none
  n_all : mg "all" = none
  n_bool : mg "bool" = none
  n_int : mg "int" = none
  n_isinstance : mg "isinstance" = none
  n_len : mg "len" = none
  n_list : mg "list" = none
  n_max : mg "max" = none
  n_min : mg "min" = none
  n_range : mg "range" = none
  n_repr : mg "repr" = none
  n_str : mg "str" = none
  n_sum : mg "sum" = none
  n_tuple : mg "tuple" = none
  n_zip : mg "zip" = none
  g_PAIR_ratios : GlD K mg "PAIR_ratios" (.int 2)
  g_PAIR_backward : GlD K mg "PAIR_backward" (.int 2)
  g_MOST_SEEN : GlD K mg "MOST_SEEN" (.int 5)
  TD : ErrD P K DA fI
  m_ClackError : mg "ClackError" = some (.ref (He.ga K "ClackError"))
  m_BadMass : mg "BadMass" = some (.ref (He.ga K "BadMass"))
  x_BadMass : ErrC K (He.ga K "BadMass") DA fI
  m_BadPair : mg "BadPair" = some (.ref (He.ga K "BadPair"))
  x_BadPair : ErrC K (He.ga K "BadPair") DA fI
  m_NoClack : mg "NoClack" = some (.ref (He.ga K "NoClack"))
  x_NoClack : ErrC K (He.ga K "NoClack") DA fI
  kk_NoClack : ∀ k, known k = true → ErrV K (He.ga K k) ∧ PySem.W.kitOne K (.ref (He.ga K k)) (.ref (He.ga K "NoClack")) = some (k == "NoClack")
  no_NoClack : PySem.W.kitOne K (.type "NoneType") (.ref (He.ga K "NoClack")) = some false
  m_BadSeen : mg "BadSeen" = some (.ref (He.ga K "BadSeen"))
  x_BadSeen : ErrC K (He.ga K "BadSeen") DA fI
  known_v : ∀ k, known k = true → ErrV K (He.ga K k)
  hkn : ∀ n, known n = true → PySem.W.exmOne K (.ref (He.ga K n)) (.ref (He.ga K "ClackError")) = some true
  hu : ∀ p ∈ TB K, ∀ q ∈ TB K, p.1 = q.1 → p.2 = q.2
theorem bt_abs : bootBuiltins "abs" = some (.builtin "abs") := by decide +kernel
theorem bt_all : bootBuiltins "all" = some (.builtin "all") := by decide +kernel
theorem bt_int : bootBuiltins "int" = some (.type "int") := by decide +kernel
theorem bt_len : bootBuiltins "len" = some (.builtin "len") := by decide +kernel
theorem bt_max : bootBuiltins "max" = some (.builtin "max") := by decide +kernel
theorem bt_min : bootBuiltins "min" = some (.builtin "min") := by decide +kernel
theorem bt_repr : bootBuiltins "repr" = some (.builtin "repr") := by decide +kernel
theorem bt_sum : bootBuiltins "sum" = some (.builtin "sum") := by decide +kernel
theorem bt_tuple : bootBuiltins "tuple" = some (.type "tuple") := by decide +kernel
theorem boot_bool : bootBuiltins "bool" = some (.type "bool") := by decide +kernel
theorem boot_int : bootBuiltins "int" = some (.type "int") := by decide +kernel
theorem boot_str : bootBuiltins "str" = some (.type "str") := by decide +kernel
theorem boot_tuple : bootBuiltins "tuple" = some (.type "tuple") := by decide +kernel
def TabsB (K : PySem.W.Frag) (mg : Str → Option Value) (base : Heap) : Prop := ∀ x ∈ lamDefs, LamX.TabB base mg (He.codeOf K (x, none)) (He.tabOf K (He.codeOf K (x, none)))
theorem sc_heard : FnScope Nh ["call"] (defScope s__law_heard) := ⟨rfl, rfl, rfl, by decide +kernel, rfl, by decide +kernel, by decide +kernel⟩
theorem heard_by {X : Cx} {W : WX} {ρ : List Sl} {w : Bool} {DA fI : Addr} {x : Str} {gb : Bool} {k : Nat} {params : Arguments} {body : Expr} {scope : Scope} {ce : C D} {p lpos pos : Pos} (A : FA X.prog X.K X.mg DA fI) (hT : TabsB X.K X.mg X.base) (hx : x ∈ lamDefs)
    (hcode : X.env.code = .ref (He.codeOf X.K (x, none))) (hr : Rm gb (k + 2) X.A)
    (hbody : ∀ (A : Around) (outer : List Env) (s : Shared) (H : Hp) (E : XK) (f c' : Addr), Rm false k (A.deeper (LamX.lamEnv X scope s.heap.objs.size f c')) → DE (LamX.lamCx X A outer s H E scope f c') (fun cls d _ H => E cls d H) ρ body ce)
    (L : LamX.LamS X.env.scope scope := by exact LamX.lamS_by (by decide +kernel)) (hdef : defaultsOf params X.env = ([], []) := by rfl)
    (hbind : ∀ (q : Str) (cl : List (Str × Addr)) (pm cv ctv : Value), bindArgs (PySem.W.kla_fn "<lambda>" q params body scope cl pm cv ctv) ⟨[], []⟩ = pure [] := by intros; rfl)
    (hg : Gl X "_law_heard" := by rfl) (hq : X.env.qual ++ "<lambda>" = x ++ ".<locals>." ++ "<lambda>" := by rfl) :
    DG w X W ρ (.Call (.Name "_law_heard" p) [.Lambda params body scope lpos] [] pos) (heardC known ce) := by
  obtain ⟨fd, F⟩ := A.F__law_heard
  have hmem : (He.tabOf X.K (He.codeOf X.K (x, none)), X.env.qual ++ "<lambda>") ∈ TB X.K := by
    rw [hq]; exact List.mem_map.mpr ⟨x, hx, rfl⟩
  refine de_heard (x := "_law_heard") (a := "call") A.m__law_heard F (FunD.bindsN F fun _ _ _ _ _ _ us hl => match us, hl with | [_], _ => rfl) sc_heard rfl (.inl rfl) (fun cdg => ?_) (hT x hx) hcode hmem (fun q hq e => A.hu q hq _ hmem e) A.hkn hr L hdef hbind hbody hg
  exact heard_gives (e := "ClackError") rfl A.m_ClackError rfl rfl rfl rfl (fun _ => rfl) (fun _ => rfl) (fun _ => rfl) (fun _ => rfl)
end K35
set_option Elab.async false
set_option linter.all false
set_option maxRecDepth 100000
set_option maxHeartbeats 4000000
namespace K35
open PySem PySem.Spec L2 Fw
section
variable {P : Program} {w : World} {K : PySem.W.Frag} {mg : Str → Option Value} {base : Heap} {DA fI : Addr}
theorem sc_is_whole : FnScope ["value"] ["value"] (defScope s_is_whole) := ⟨rfl, rfl, rfl, by decide +kernel, rfl, by decide +kernel, by decide +kernel⟩
theorem ok_is_whole (A : FA P K mg DA fI) : Fn P w K mg base false 1 "is_whole" ["value"] m_is_whole := by
  obtain ⟨fd, F⟩ := A.F_is_whole
  refine Fn.of_body F A.m_is_whole sc_is_whole (FunD.bindsN F fun _ _ _ _ _ _ us hl => match us, hl with | [_], _ => rfl) fun cdv A1 outer s H E hr => len1 fun value1 => ?_
  change DB _ _ [.val value1] _ _ (b_is_whole value1)
  unfold b_is_whole
  exact (db_ret (de_and (de_isi .int (de_var (i := 0) (pe_var rfl (by first | exact .inl rfl | exact .inr (.inl rfl) | exact .inr (.inr rfl))) rfl) A.n_isinstance A.n_int boot_int) (de_one (de_not (de_isi .bool (de_var (i := 0) (pe_var rfl (by first | exact .inl rfl | exact .inr (.inl rfl) | exact .inr (.inr rfl))) rfl) A.n_isinstance A.n_bool boot_bool)))))
theorem sc_common : FnScope ["one", "other"] ["one", "other"] (defScope s_common) := ⟨rfl, rfl, rfl, by decide +kernel, rfl, by decide +kernel, by decide +kernel⟩
theorem ok_common (A : FA P K mg DA fI) : Fn P w K mg base false 1 "common" ["one", "other"] m_common := by
  obtain ⟨fd, F⟩ := A.F_common
  refine Fn.of_body F A.m_common sc_common (FunD.bindsN F fun _ _ _ _ _ _ us hl => match us, hl with | [_, _], _ => rfl) fun cdv A1 outer s H E hr => len2 fun one1 other2 => ?_
  change DB _ _ [.val one1, .val other2] _ _ (b_common one1 other2)
  unfold b_common
  exact (db_par (i := 0) (j := 1) rfl (da_cons (de_callB kd_abs A.n_abs bt_abs (da_cons (de_var (i := 0) (pe_var rfl (by first | exact .inl rfl | exact .inr (.inl rfl) | exact .inr (.inr rfl))) rfl) da_nil)) (da_cons (de_callB kd_abs A.n_abs bt_abs (da_cons (de_var (i := 1) (pe_var rfl (by first | exact .inl rfl | exact .inr (.inl rfl) | exact .inr (.inr rfl))) rfl) da_nil)) da_nil)) (fun one3 other4 => (db_wk (.s (.s .nil)) (db_while (S := D × D) (env := (fun | (one5, other6) => [.val one5, .val other6])) (s0 := (one3, other4)) (fuelD (one3, other4)) passes_cx (fun | (one5, other6) => (dt_cmp cd_gt (de_var (i := 1) (pe_var rfl (by first | exact .inl rfl | exact .inr (.inl rfl) | exact .inr (.inr rfl))) rfl) de_int (by rfl))) (fun | (one5, other6) => (db_par (i := 0) (j := 1) rfl (da_cons (de_var (i := 1) (pe_var rfl (by first | exact .inl rfl | exact .inr (.inl rfl) | exact .inr (.inr rfl))) rfl) (da_cons (de_bin od_mod (de_var (i := 0) (pe_var rfl (by first | exact .inl rfl | exact .inr (.inl rfl) | exact .inr (.inr rfl))) rfl) (de_var (i := 1) (pe_var rfl (by first | exact .inl rfl | exact .inr (.inl rfl) | exact .inr (.inr rfl))) rfl)) da_nil)) (fun one7 other8 => (db_nil rfl (.s (.s .nil)))) sc_common.nd)) (fun | (one9, other10) => (db_ret (de_var (i := 0) (pe_var rfl (by first | exact .inl rfl | exact .inr (.inl rfl) | exact .inr (.inr rfl))) rfl)))))) sc_common.nd)
theorem sc_ratio : FnScope ["top", "bottom", "by"] ["top", "bottom"] (defScope s_ratio) := ⟨rfl, rfl, rfl, by decide +kernel, rfl, by decide +kernel, by decide +kernel⟩
theorem ok_ratio (A : FA P K mg DA fI) : Fn P w K mg base false 2 "ratio" ["top", "bottom"] m_ratio := by
  obtain ⟨fd, F⟩ := A.F_ratio
  have h_common := ok_common (P := P) (w := w) (base := base) A
  refine Fn.of_body F A.m_ratio sc_ratio (FunD.bindsN F fun _ _ _ _ _ _ us hl => match us, hl with | [_, _], _ => rfl) fun cdv A1 outer s H E hr => len2 fun top1 bottom2 => ?_
  change DB _ _ [.val top1, .val bottom2, .no] _ _ (b_ratio top1 bottom2)
  unfold b_ratio
  exact (db_set (i := 2) (de_call (h_common.up) (hr.mono (by decide : 1 ≤ _)) takes_cx (da_cons (de_var (i := 0) (pe_var rfl (by first | exact .inl rfl | exact .inr (.inl rfl) | exact .inr (.inr rfl))) rfl) (da_cons (de_var (i := 1) (pe_var rfl (by first | exact .inl rfl | exact .inr (.inl rfl) | exact .inr (.inr rfl))) rfl) da_nil))) (fun by3 => (db_set (i := 2) (de_if (dt_cmp cd_gt (de_var (i := 1) (pe_var rfl (by first | exact .inl rfl | exact .inr (.inl rfl) | exact .inr (.inr rfl))) rfl) de_int (by rfl)) (de_var (i := 2) (pe_var rfl (by first | exact .inl rfl | exact .inr (.inl rfl) | exact .inr (.inr rfl))) rfl) (de_bin od_sub de_int (de_var (i := 2) (pe_var rfl (by first | exact .inl rfl | exact .inr (.inl rfl) | exact .inr (.inr rfl))) rfl))) (fun by4 => (db_ret (de_tup (da_cons (de_bin od_div (de_var (i := 0) (pe_var rfl (by first | exact .inl rfl | exact .inr (.inl rfl) | exact .inr (.inr rfl))) rfl) (de_var (i := 2) (pe_var rfl (by first | exact .inl rfl | exact .inr (.inl rfl) | exact .inr (.inr rfl))) rfl)) (da_cons (de_bin od_div (de_var (i := 1) (pe_var rfl (by first | exact .inl rfl | exact .inr (.inl rfl) | exact .inr (.inr rfl))) rfl) (de_var (i := 2) (pe_var rfl (by first | exact .inl rfl | exact .inr (.inl rfl) | exact .inr (.inr rfl))) rfl)) da_nil)) (Nat.le_of_ble_eq_true rfl)))) sc_ratio.nd)) sc_ratio.nd)
theorem sc_less : FnScope ["one", "other"] ["one", "other"] (defScope s_less) := ⟨rfl, rfl, rfl, by decide +kernel, rfl, by decide +kernel, by decide +kernel⟩
theorem ok_less (A : FA P K mg DA fI) : Fn P w K mg base false 3 "less" ["one", "other"] m_less := by
  obtain ⟨fd, F⟩ := A.F_less
  have h_ratio := ok_ratio (P := P) (w := w) (base := base) A
  refine Fn.of_body F A.m_less sc_less (FunD.bindsN F fun _ _ _ _ _ _ us hl => match us, hl with | [_, _], _ => rfl) fun cdv A1 outer s H E hr => len2 fun one1 other2 => ?_
  change DB _ _ [.val one1, .val other2] _ _ (b_less one1 other2)
  unfold b_less
  exact (db_ret (de_call (h_ratio.up) (hr.mono (by decide : 2 ≤ _)) takes_cx (da_cons (de_bin od_sub (de_bin od_mul (de_ix xd_ix (de_var (i := 0) (pe_var rfl (by first | exact .inl rfl | exact .inr (.inl rfl) | exact .inr (.inr rfl))) rfl) de_int) (de_ix xd_ix (de_var (i := 1) (pe_var rfl (by first | exact .inl rfl | exact .inr (.inl rfl) | exact .inr (.inr rfl))) rfl) de_int)) (de_bin od_mul (de_ix xd_ix (de_var (i := 1) (pe_var rfl (by first | exact .inl rfl | exact .inr (.inl rfl) | exact .inr (.inr rfl))) rfl) de_int) (de_ix xd_ix (de_var (i := 0) (pe_var rfl (by first | exact .inl rfl | exact .inr (.inl rfl) | exact .inr (.inr rfl))) rfl) de_int))) (da_cons (de_bin od_mul (de_ix xd_ix (de_var (i := 0) (pe_var rfl (by first | exact .inl rfl | exact .inr (.inl rfl) | exact .inr (.inr rfl))) rfl) de_int) (de_ix xd_ix (de_var (i := 1) (pe_var rfl (by first | exact .inl rfl | exact .inr (.inl rfl) | exact .inr (.inr rfl))) rfl) de_int)) da_nil))))
theorem sc_times : FnScope ["one", "other"] ["one", "other"] (defScope s_times) := ⟨rfl, rfl, rfl, by decide +kernel, rfl, by decide +kernel, by decide +kernel⟩
theorem ok_times (A : FA P K mg DA fI) : Fn P w K mg base false 3 "times" ["one", "other"] m_times := by
  obtain ⟨fd, F⟩ := A.F_times
  have h_ratio := ok_ratio (P := P) (w := w) (base := base) A
  refine Fn.of_body F A.m_times sc_times (FunD.bindsN F fun _ _ _ _ _ _ us hl => match us, hl with | [_, _], _ => rfl) fun cdv A1 outer s H E hr => len2 fun one1 other2 => ?_
  change DB _ _ [.val one1, .val other2] _ _ (b_times one1 other2)
  unfold b_times
  exact (db_ret (de_call (h_ratio.up) (hr.mono (by decide : 2 ≤ _)) takes_cx (da_cons (de_bin od_mul (de_ix xd_ix (de_var (i := 0) (pe_var rfl (by first | exact .inl rfl | exact .inr (.inl rfl) | exact .inr (.inr rfl))) rfl) de_int) (de_ix xd_ix (de_var (i := 1) (pe_var rfl (by first | exact .inl rfl | exact .inr (.inl rfl) | exact .inr (.inr rfl))) rfl) de_int)) (da_cons (de_bin od_mul (de_ix xd_ix (de_var (i := 0) (pe_var rfl (by first | exact .inl rfl | exact .inr (.inl rfl) | exact .inr (.inr rfl))) rfl) de_int) (de_ix xd_ix (de_var (i := 1) (pe_var rfl (by first | exact .inl rfl | exact .inr (.inl rfl) | exact .inr (.inr rfl))) rfl) de_int)) da_nil))))
theorem sc_over : FnScope ["one", "other"] ["one", "other"] (defScope s_over) := ⟨rfl, rfl, rfl, by decide +kernel, rfl, by decide +kernel, by decide +kernel⟩
theorem ok_over (A : FA P K mg DA fI) : Fn P w K mg base false 3 "over" ["one", "other"] m_over := by
  obtain ⟨fd, F⟩ := A.F_over
  have h_ratio := ok_ratio (P := P) (w := w) (base := base) A
  refine Fn.of_body F A.m_over sc_over (FunD.bindsN F fun _ _ _ _ _ _ us hl => match us, hl with | [_, _], _ => rfl) fun cdv A1 outer s H E hr => len2 fun one1 other2 => ?_
  change DB _ _ [.val one1, .val other2] _ _ (b_over one1 other2)
  unfold b_over
  exact (db_ret (de_call (h_ratio.up) (hr.mono (by decide : 2 ≤ _)) takes_cx (da_cons (de_bin od_mul (de_ix xd_ix (de_var (i := 0) (pe_var rfl (by first | exact .inl rfl | exact .inr (.inl rfl) | exact .inr (.inr rfl))) rfl) de_int) (de_ix xd_ix (de_var (i := 1) (pe_var rfl (by first | exact .inl rfl | exact .inr (.inl rfl) | exact .inr (.inr rfl))) rfl) de_int)) (da_cons (de_bin od_mul (de_ix xd_ix (de_var (i := 0) (pe_var rfl (by first | exact .inl rfl | exact .inr (.inl rfl) | exact .inr (.inr rfl))) rfl) de_int) (de_ix xd_ix (de_var (i := 1) (pe_var rfl (by first | exact .inl rfl | exact .inr (.inl rfl) | exact .inr (.inr rfl))) rfl) de_int)) da_nil))))
theorem sc_is_below : FnScope ["one", "other"] ["one", "other"] (defScope s_is_below) := ⟨rfl, rfl, rfl, by decide +kernel, rfl, by decide +kernel, by decide +kernel⟩
theorem ok_is_below (A : FA P K mg DA fI) : Fn P w K mg base false 1 "is_below" ["one", "other"] m_is_below := by
  obtain ⟨fd, F⟩ := A.F_is_below
  refine Fn.of_body F A.m_is_below sc_is_below (FunD.bindsN F fun _ _ _ _ _ _ us hl => match us, hl with | [_, _], _ => rfl) fun cdv A1 outer s H E hr => len2 fun one1 other2 => ?_
  change DB _ _ [.val one1, .val other2] _ _ (b_is_below one1 other2)
  unfold b_is_below
  exact (db_ret (de_cmp cd_lt (de_bin od_mul (de_ix xd_ix (de_var (i := 0) (pe_var rfl (by first | exact .inl rfl | exact .inr (.inl rfl) | exact .inr (.inr rfl))) rfl) de_int) (de_ix xd_ix (de_var (i := 1) (pe_var rfl (by first | exact .inl rfl | exact .inr (.inl rfl) | exact .inr (.inr rfl))) rfl) de_int)) (de_bin od_mul (de_ix xd_ix (de_var (i := 1) (pe_var rfl (by first | exact .inl rfl | exact .inr (.inl rfl) | exact .inr (.inr rfl))) rfl) de_int) (de_ix xd_ix (de_var (i := 0) (pe_var rfl (by first | exact .inl rfl | exact .inr (.inl rfl) | exact .inr (.inr rfl))) rfl) de_int)) (by rfl)))
theorem sc_is_ratio : FnScope ["value", "one"] ["value"] (defScope s_is_ratio) := ⟨rfl, rfl, rfl, by decide +kernel, rfl, by decide +kernel, by decide +kernel⟩
theorem ok_is_ratio (A : FA P K mg DA fI) : Fn P w K mg base false 2 "is_ratio" ["value"] m_is_ratio := by
  obtain ⟨fd, F⟩ := A.F_is_ratio
  have h_common := ok_common (P := P) (w := w) (base := base) A
  have h_is_whole := ok_is_whole (P := P) (w := w) (base := base) A
  refine Fn.of_body F A.m_is_ratio sc_is_ratio (FunD.bindsN F fun _ _ _ _ _ _ us hl => match us, hl with | [_], _ => rfl) fun cdv A1 outer s H E hr => len1 fun value1 => ?_
  change DB _ _ [.val value1, .no] _ _ (b_is_ratio value1)
  unfold b_is_ratio
  exact (db_ifD (dt_bop (dw_or (dt_not (dt_val (de_isi .tup (de_var (i := 0) (pe_var rfl (by first | exact .inl rfl | exact .inr (.inl rfl) | exact .inr (.inr rfl))) rfl) A.n_isinstance A.n_tuple boot_tuple))) (dw_or (dt_cmp (cd_ne hr) (de_callB kd_len A.n_len bt_len (da_cons (de_var (i := 0) (pe_var rfl (by first | exact .inl rfl | exact .inr (.inl rfl) | exact .inr (.inr rfl))) rfl) da_nil)) (de_glob A.g_PAIR_ratios) (by rfl)) (dw_or1 (dt_not (dt_val (de_callB (kd_all rfl) A.n_all bt_all (da_cons (de_of (do_lc rfl sc_is_ratio.nd (w := false) (di_tup (de_var (i := 0) (pe_var rfl (by first | exact .inl rfl | exact .inr (.inl rfl) | exact .inr (.inr rfl))) rfl)) (own := [("one", 1)]) (blkOk_by (N := ["value", "one"]) (sc := defScope s_is_ratio) (by decide +kernel)) (by simp [noAll]) (by decide) (fun _ _ _ _ _ => (dtg_nm (i := 1) sc_is_ratio.nd)) (fun _ _ _ _ _ => dts_nil) (fun _ _ _ _ _ => len1 fun one2 => (de_call (h_is_whole.up) (hr.mono (by decide : 1 ≤ _)) takes_w0 (da_cons (de_var (i := 1) (pe_var rfl (by first | exact .inl rfl | exact .inr (.inl rfl) | exact .inr (.inr rfl))) rfl) da_nil))))) da_nil)))))))) (db_retR de_bl) (db_ret (de_and (de_cmp cd_ge (de_ix xd_ix (de_var (i := 0) (pe_var rfl (by first | exact .inl rfl | exact .inr (.inl rfl) | exact .inr (.inr rfl))) rfl) de_int) de_int (by rfl)) (de_one (de_cmp (cd_eq hr) (de_call (h_common.up) (hr.mono (by decide : 1 ≤ _)) takes_cx (da_cons (de_ix xd_ix (de_var (i := 0) (pe_var rfl (by first | exact .inl rfl | exact .inr (.inl rfl) | exact .inr (.inr rfl))) rfl) de_int) (da_cons (de_ix xd_ix (de_var (i := 0) (pe_var rfl (by first | exact .inl rfl | exact .inr (.inl rfl) | exact .inr (.inr rfl))) rfl) de_int) da_nil))) de_int (by rfl))))))
theorem sc_is_size : FnScope ["value"] ["value"] (defScope s_is_size) := ⟨rfl, rfl, rfl, by decide +kernel, rfl, by decide +kernel, by decide +kernel⟩
theorem ok_is_size (A : FA P K mg DA fI) : Fn P w K mg base false 3 "is_size" ["value"] m_is_size := by
  obtain ⟨fd, F⟩ := A.F_is_size
  have h_is_ratio := ok_is_ratio (P := P) (w := w) (base := base) A
  refine Fn.of_body F A.m_is_size sc_is_size (FunD.bindsN F fun _ _ _ _ _ _ us hl => match us, hl with | [_], _ => rfl) fun cdv A1 outer s H E hr => len1 fun value1 => ?_
  change DB _ _ [.val value1] _ _ (b_is_size value1)
  unfold b_is_size
  exact (db_ret (de_and (de_call (h_is_ratio.up) (hr.mono (by decide : 2 ≤ _)) takes_cx (da_cons (de_var (i := 0) (pe_var rfl (by first | exact .inl rfl | exact .inr (.inl rfl) | exact .inr (.inr rfl))) rfl) da_nil)) (de_one (de_cmp cd_gt (de_ix xd_ix (de_var (i := 0) (pe_var rfl (by first | exact .inl rfl | exact .inr (.inl rfl) | exact .inr (.inr rfl))) rfl) de_int) de_int (by rfl)))))
theorem sc_is_tuple : FnScope ["value", "low", "high"] ["value", "low", "high"] (defScope s_is_tuple) := ⟨rfl, rfl, rfl, by decide +kernel, rfl, by decide +kernel, by decide +kernel⟩
theorem ok_is_tuple (A : FA P K mg DA fI) : Fn P w K mg base false 1 "is_tuple" ["value", "low", "high"] m_is_tuple := by
  obtain ⟨fd, F⟩ := A.F_is_tuple
  refine Fn.of_body F A.m_is_tuple sc_is_tuple (FunD.bindsN F fun _ _ _ _ _ _ us hl => match us, hl with | [_, _, _], _ => rfl) fun cdv A1 outer s H E hr => len3 fun value1 low2 high3 => ?_
  change DB _ _ [.val value1, .val low2, .val high3] _ _ (b_is_tuple value1 low2 high3)
  unfold b_is_tuple
  exact (db_ret (de_and (de_isi .tup (de_var (i := 0) (pe_var rfl (by first | exact .inl rfl | exact .inr (.inl rfl) | exact .inr (.inr rfl))) rfl) A.n_isinstance A.n_tuple boot_tuple) (de_one (de_chain cd_le cd_le (de_var (i := 1) (pe_var rfl (by first | exact .inl rfl | exact .inr (.inl rfl) | exact .inr (.inr rfl))) rfl) (de_callB kd_len A.n_len bt_len (da_cons (de_var (i := 0) (pe_var rfl (by first | exact .inl rfl | exact .inr (.inl rfl) | exact .inr (.inr rfl))) rfl) da_nil)) (de_var (i := 2) (pe_var rfl (by first | exact .inl rfl | exact .inr (.inl rfl) | exact .inr (.inr rfl))) rfl)))))
theorem sc_is_pair_of_ratios : FnScope ["value", "one"] ["value"] (defScope s_is_pair_of_ratios) := ⟨rfl, rfl, rfl, by decide +kernel, rfl, by decide +kernel, by decide +kernel⟩
theorem ok_is_pair_of_ratios (A : FA P K mg DA fI) : Fn P w K mg base false 3 "is_pair_of_ratios" ["value"] m_is_pair_of_ratios := by
  obtain ⟨fd, F⟩ := A.F_is_pair_of_ratios
  have h_is_ratio := ok_is_ratio (P := P) (w := w) (base := base) A
  have h_is_tuple := ok_is_tuple (P := P) (w := w) (base := base) A
  refine Fn.of_body F A.m_is_pair_of_ratios sc_is_pair_of_ratios (FunD.bindsN F fun _ _ _ _ _ _ us hl => match us, hl with | [_], _ => rfl) fun cdv A1 outer s H E hr => len1 fun value1 => ?_
  change DB _ _ [.val value1, .no] _ _ (b_is_pair_of_ratios value1)
  unfold b_is_pair_of_ratios
  exact (db_ret (de_and (de_call (h_is_tuple.up) (hr.mono (by decide : 1 ≤ _)) takes_cx (da_cons (de_var (i := 0) (pe_var rfl (by first | exact .inl rfl | exact .inr (.inl rfl) | exact .inr (.inr rfl))) rfl) (da_cons (de_glob A.g_PAIR_backward) (da_cons (de_glob A.g_PAIR_backward) da_nil)))) (de_one (de_callB (kd_all rfl) A.n_all bt_all (da_cons (de_of (do_lc rfl sc_is_pair_of_ratios.nd (w := false) (di_tup (de_var (i := 0) (pe_var rfl (by first | exact .inl rfl | exact .inr (.inl rfl) | exact .inr (.inr rfl))) rfl)) (own := [("one", 1)]) (blkOk_by (N := ["value", "one"]) (sc := defScope s_is_pair_of_ratios) (by decide +kernel)) (by simp [noAll]) (by decide) (fun _ _ _ _ _ => (dtg_nm (i := 1) sc_is_pair_of_ratios.nd)) (fun _ _ _ _ _ => dts_nil) (fun _ _ _ _ _ => len1 fun one2 => (de_call (h_is_ratio.up) (hr.mono (by decide : 2 ≤ _)) takes_w0 (da_cons (de_var (i := 1) (pe_var rfl (by first | exact .inl rfl | exact .inr (.inl rfl) | exact .inr (.inr rfl))) rfl) da_nil))))) da_nil)))))
theorem sc_check_mass : FnScope ["mass"] ["mass"] (defScope s_check_mass) := ⟨rfl, rfl, rfl, by decide +kernel, rfl, by decide +kernel, by decide +kernel⟩
theorem ok_check_mass (A : FA P K mg DA fI) : Fn P w K mg base false 4 "check_mass" ["mass"] m_check_mass := by
  obtain ⟨fd, F⟩ := A.F_check_mass
  have h_is_size := ok_is_size (P := P) (w := w) (base := base) A
  refine Fn.of_body F A.m_check_mass sc_check_mass (FunD.bindsN F fun _ _ _ _ _ _ us hl => match us, hl with | [_], _ => rfl) fun cdv A1 outer s H E hr => len1 fun mass1 => ?_
  change DB _ _ [.val mass1] _ _ (b_check_mass mass1)
  unfold b_check_mass
  exact (db_ifD (dt_not (dt_val (de_call (h_is_size.up) (hr.mono (by decide : 3 ≤ _)) takes_cx (da_cons (de_var (i := 0) (pe_var rfl (by first | exact .inl rfl | exact .inr (.inl rfl) | exact .inr (.inr rfl))) rfl) da_nil)))) (db_raise (rest := []) rfl takes_cx A.TD A.x_BadMass A.m_BadMass hr (de_var (i := 0) (pe_var rfl (by first | exact .inl rfl | exact .inr (.inl rfl) | exact .inr (.inr rfl))) rfl)) (db_end rfl))
theorem sc_other_mass : FnScope ["mass", "ahead", "behind", "left", "right", "found"] ["mass", "ahead", "behind"] (defScope s_other_mass) := ⟨rfl, rfl, rfl, by decide +kernel, rfl, by decide +kernel, by decide +kernel⟩
theorem ok_other_mass (A : FA P K mg DA fI) : Fn P w K mg base false 4 "other_mass" ["mass", "ahead", "behind"] m_other_mass := by
  obtain ⟨fd, F⟩ := A.F_other_mass
  have h_is_below := ok_is_below (P := P) (w := w) (base := base) A
  have h_is_size := ok_is_size (P := P) (w := w) (base := base) A
  have h_less := ok_less (P := P) (w := w) (base := base) A
  have h_over := ok_over (P := P) (w := w) (base := base) A
  have h_times := ok_times (P := P) (w := w) (base := base) A
  refine Fn.of_body F A.m_other_mass sc_other_mass (FunD.bindsN F fun _ _ _ _ _ _ us hl => match us, hl with | [_, _, _], _ => rfl) fun cdv A1 outer s H E hr => len3 fun mass1 ahead2 behind3 => ?_
  change DB _ _ [.val mass1, .val ahead2, .val behind3, .no, .no, .no] _ _ (b_other_mass mass1 ahead2 behind3)
  unfold b_other_mass
  exact (db_asgT (de_var (i := 1) (pe_var rfl (by first | exact .inl rfl | exact .inr (.inl rfl) | exact .inr (.inr rfl))) rfl) (dtg_tup rfl (dtgs_cons (dtg_nm (i := 3) sc_other_mass.nd) (dtgs_cons (dtg_nm (i := 4) sc_other_mass.nd) dtgs_nil))) (len2 fun left4 right5 => (db_ifSR (S := Unit) (env := (fun _ => [.val mass1, .val ahead2, .val behind3, .val left4, .val right5, .no])) (r := (fun d => d)) (fun _ => .inr rfl) (dt_bop (dw_and (dt_val (de_call (h_is_below.up) (hr.mono (by decide : 1 ≤ _)) takes_cx (da_cons (de_var (i := 4) (pe_var rfl (by first | exact .inl rfl | exact .inr (.inl rfl) | exact .inr (.inr rfl))) rfl) (da_cons (de_var (i := 3) (pe_var rfl (by first | exact .inl rfl | exact .inr (.inl rfl) | exact .inr (.inr rfl))) rfl) da_nil)))) (dw_and (dt_cmp (cd_eq hr) (de_call (h_less.up) (hr.mono (by decide : 3 ≤ _)) takes_cx (da_cons (de_ix xd_ix (de_var (i := 2) (pe_var rfl (by first | exact .inl rfl | exact .inr (.inl rfl) | exact .inr (.inr rfl))) rfl) de_int) (da_cons (de_ix xd_ix (de_var (i := 2) (pe_var rfl (by first | exact .inl rfl | exact .inr (.inl rfl) | exact .inr (.inr rfl))) rfl) de_int) da_nil))) (de_call (h_less.up) (hr.mono (by decide : 3 ≤ _)) takes_cx (da_cons (de_var (i := 3) (pe_var rfl (by first | exact .inl rfl | exact .inr (.inl rfl) | exact .inr (.inr rfl))) rfl) (da_cons (de_var (i := 4) (pe_var rfl (by first | exact .inl rfl | exact .inr (.inl rfl) | exact .inr (.inr rfl))) rfl) da_nil))) (by rfl)) (dw_and1 (dt_val (de_call (h_is_below.up) (hr.mono (by decide : 1 ≤ _)) takes_cx (da_cons (de_var (i := 4) (pe_var rfl (by first | exact .inl rfl | exact .inr (.inl rfl) | exact .inr (.inr rfl))) rfl) (da_cons (de_ix xd_ix (de_var (i := 2) (pe_var rfl (by first | exact .inl rfl | exact .inr (.inl rfl) | exact .inr (.inr rfl))) rfl) de_int) da_nil)))))))) (db_set (i := 5) (de_call (h_over.up) (hr.mono (by decide : 3 ≤ _)) takes_cx (da_cons (de_call (h_times.up) (hr.mono (by decide : 3 ≤ _)) takes_cx (da_cons (de_var (i := 0) (pe_var rfl (by first | exact .inl rfl | exact .inr (.inl rfl) | exact .inr (.inr rfl))) rfl) (da_cons (de_call (h_less.up) (hr.mono (by decide : 3 ≤ _)) takes_cx (da_cons (de_var (i := 3) (pe_var rfl (by first | exact .inl rfl | exact .inr (.inl rfl) | exact .inr (.inr rfl))) rfl) (da_cons (de_ix xd_ix (de_var (i := 2) (pe_var rfl (by first | exact .inl rfl | exact .inr (.inl rfl) | exact .inr (.inr rfl))) rfl) de_int) da_nil))) da_nil))) (da_cons (de_call (h_less.up) (hr.mono (by decide : 3 ≤ _)) takes_cx (da_cons (de_ix xd_ix (de_var (i := 2) (pe_var rfl (by first | exact .inl rfl | exact .inr (.inl rfl) | exact .inr (.inr rfl))) rfl) de_int) (da_cons (de_var (i := 4) (pe_var rfl (by first | exact .inl rfl | exact .inr (.inl rfl) | exact .inr (.inr rfl))) rfl) da_nil))) da_nil))) (fun found6 => (db_ifR (r := Sum.inl) (fun _ => .inl rfl) (dt_val (de_call (h_is_size.up) (hr.mono (by decide : 3 ≤ _)) takes_cx (da_cons (de_var (i := 5) (pe_var rfl (by first | exact .inl rfl | exact .inr (.inl rfl) | exact .inr (.inr rfl))) rfl) da_nil))) (db_retR (de_var (i := 5) (pe_var rfl (by first | exact .inl rfl | exact .inr (.inl rfl) | exact .inr (.inr rfl))) rfl)) (db_nil rfl (.s (.s (.s (.s (.s (.n .nil))))))))) sc_other_mass.nd) (db_nil rfl (.s (.s (.s (.s (.s (.s .nil))))))) (fun _ => (db_raise (rest := []) rfl takes_cx A.TD A.x_NoClack A.m_NoClack hr (de_tup (da_cons (de_var (i := 1) (pe_var rfl (by first | exact .inl rfl | exact .inr (.inl rfl) | exact .inr (.inr rfl))) rfl) (da_cons (de_var (i := 2) (pe_var rfl (by first | exact .inl rfl | exact .inr (.inl rfl) | exact .inr (.inr rfl))) rfl) da_nil)) (Nat.le_of_ble_eq_true rfl)))))))
theorem sc_mass_told : FnScope ["mass", "ahead", "behind", "pair"] ["mass", "ahead", "behind"] (defScope s_mass_told) := ⟨rfl, rfl, rfl, by decide +kernel, rfl, by decide +kernel, by decide +kernel⟩
theorem okc_mass_told (A : FA P K mg DA fI) {fd : FuncData} (F : FnP K "mass_told" s_mass_told (He.ga K "mass_told") fd) : FnC P w K mg base false 5 (He.ga K "mass_told") fd ["mass", "ahead", "behind"] (spM K 3 m_mass_told) := by
  have h_check_mass := ok_check_mass (P := P) (w := w) (base := base) A
  have h_is_pair_of_ratios := ok_is_pair_of_ratios (P := P) (w := w) (base := base) A
  have h_other_mass := ok_other_mass (P := P) (w := w) (base := base) A
  refine FnC.of_body F sc_mass_told fun cdv A1 outer s H E hr => len3 fun mass1 ahead2 behind3 => ?_
  change DB _ _ [.val mass1, .val ahead2, .val behind3, .no] _ _ (b_mass_told mass1 ahead2 behind3)
  unfold b_mass_told
  exact (db_expr (de_call (h_check_mass.up) (hr.mono (by decide : 4 ≤ _)) takes_cx (da_cons (de_var (i := 0) (pe_var rfl (by first | exact .inl rfl | exact .inr (.inl rfl) | exact .inr (.inr rfl))) rfl) da_nil)) (fun _ => (db_wk (.s (.s (.s (.s .nil)))) (db_forR (w := false) (S := Unit) (env := (fun _ => [.val mass1, .val ahead2, .val behind3, .no])) (s0 := ()) (r := (fun d => d)) (fun _ => .inr rfl) passes_cx rfl (di_tup (de_tup (da_cons (de_var (i := 1) (pe_var rfl (by first | exact .inl rfl | exact .inr (.inl rfl) | exact .inr (.inr rfl))) rfl) (da_cons (de_var (i := 2) (pe_var rfl (by first | exact .inl rfl | exact .inr (.inl rfl) | exact .inr (.inr rfl))) rfl) da_nil)) (Nat.le_of_ble_eq_true rfl))) (fun z => by cases z) (dtg_nm (i := 3) sc_mass_told.nd) (fun _ => len1 fun pair4 => (db_ifR (r := Sum.inl) (fun _ => .inl rfl) (dt_not (dt_val (de_call (h_is_pair_of_ratios.up) (hr.mono (by decide : 3 ≤ _)) takes_cx (da_cons (de_var (i := 3) (pe_var rfl (by first | exact .inl rfl | exact .inr (.inl rfl) | exact .inr (.inr rfl))) rfl) da_nil)))) (db_raise (rest := []) rfl takes_cx A.TD A.x_BadPair A.m_BadPair hr (de_var (i := 3) (pe_var rfl (by first | exact .inl rfl | exact .inr (.inl rfl) | exact .inr (.inr rfl))) rfl)) (db_nil rfl (.s (.s (.s (.n .nil))))))) (fun _ => (db_ret (de_call (h_other_mass.up) (hr.mono (by decide : 4 ≤ _)) takes_cx (da_cons (de_var (i := 0) (pe_var rfl (by first | exact .inl rfl | exact .inr (.inl rfl) | exact .inr (.inr rfl))) rfl) (da_cons (de_var (i := 1) (pe_var rfl (by first | exact .inl rfl | exact .inr (.inl rfl) | exact .inr (.inr rfl))) rfl) (da_cons (de_var (i := 2) (pe_var rfl (by first | exact .inl rfl | exact .inr (.inl rfl) | exact .inr (.inr rfl))) rfl) da_nil))))))))))
theorem ok_mass_told (A : FA P K mg DA fI) : Fn P w K mg base false 5 "mass_told" ["mass", "ahead", "behind"] m_mass_told := by
  obtain ⟨fd, F⟩ := A.F_mass_told
  exact ⟨_, fd, A.m_mass_told, F.kp, FunD.bindsN F fun _ _ _ _ _ _ us hl => match us, hl with | [_, _, _], _ => rfl, okc_mass_told A F⟩
theorem sc_is_seen : FnScope ["value", "pair"] ["value"] (defScope s_is_seen) := ⟨rfl, rfl, rfl, by decide +kernel, rfl, by decide +kernel, by decide +kernel⟩
theorem ok_is_seen (A : FA P K mg DA fI) : Fn P w K mg base false 4 "is_seen" ["value"] m_is_seen := by
  obtain ⟨fd, F⟩ := A.F_is_seen
  have h_is_pair_of_ratios := ok_is_pair_of_ratios (P := P) (w := w) (base := base) A
  have h_is_tuple := ok_is_tuple (P := P) (w := w) (base := base) A
  refine Fn.of_body F A.m_is_seen sc_is_seen (FunD.bindsN F fun _ _ _ _ _ _ us hl => match us, hl with | [_], _ => rfl) fun cdv A1 outer s H E hr => len1 fun value1 => ?_
  change DB _ _ [.val value1, .no] _ _ (b_is_seen value1)
  unfold b_is_seen
  exact (db_ret (de_and (de_call (h_is_tuple.up) (hr.mono (by decide : 1 ≤ _)) takes_cx (da_cons (de_var (i := 0) (pe_var rfl (by first | exact .inl rfl | exact .inr (.inl rfl) | exact .inr (.inr rfl))) rfl) (da_cons (de_glob A.g_PAIR_backward) (da_cons (de_glob A.g_PAIR_backward) da_nil)))) (de_one (de_callB (kd_all rfl) A.n_all bt_all (da_cons (de_of (do_lc rfl sc_is_seen.nd (w := false) (di_tup (de_var (i := 0) (pe_var rfl (by first | exact .inl rfl | exact .inr (.inl rfl) | exact .inr (.inr rfl))) rfl)) (own := [("pair", 1)]) (blkOk_by (N := ["value", "pair"]) (sc := defScope s_is_seen) (by decide +kernel)) (by simp [noAll]) (by decide) (fun _ _ _ _ _ => (dtg_nm (i := 1) sc_is_seen.nd)) (fun _ _ _ _ _ => dts_nil) (fun _ _ _ _ _ => len1 fun pair2 => (de_call (h_is_pair_of_ratios.up) (hr.mono (by decide : 3 ≤ _)) takes_w0 (da_cons (de_var (i := 1) (pe_var rfl (by first | exact .inl rfl | exact .inr (.inl rfl) | exact .inr (.inr rfl))) rfl) da_nil))))) da_nil)))))
theorem sc_masses_told : FnScope ["mass", "seen", "found", "ahead", "behind", "one"] ["mass", "seen"] (defScope s_masses_told) := ⟨rfl, rfl, rfl, by decide +kernel, rfl, by decide +kernel, by decide +kernel⟩
theorem okc_masses_told (A : FA P K mg DA fI) {fd : FuncData} (F : FnP K "masses_told" s_masses_told (He.ga K "masses_told") fd) : FnC P w K mg base false 5 (He.ga K "masses_told") fd ["mass", "seen"] (spM K 2 m_masses_told) := by
  have h_check_mass := ok_check_mass (P := P) (w := w) (base := base) A
  have h_is_seen := ok_is_seen (P := P) (w := w) (base := base) A
  have h_is_tuple := ok_is_tuple (P := P) (w := w) (base := base) A
  have h_other_mass := ok_other_mass (P := P) (w := w) (base := base) A
  refine FnC.of_body F sc_masses_told fun cdv A1 outer s H E hr => len2 fun mass1 seen2 => ?_
  change DB _ _ [.val mass1, .val seen2, .no, .no, .no, .no] _ _ (b_masses_told mass1 seen2)
  unfold b_masses_told
  exact (db_expr (de_call (h_check_mass.up) (hr.mono (by decide : 4 ≤ _)) takes_cx (da_cons (de_var (i := 0) (pe_var rfl (by first | exact .inl rfl | exact .inr (.inl rfl) | exact .inr (.inr rfl))) rfl) da_nil)) (fun _ => (db_ifD (dt_bop (dw_or (dt_not (dt_val (de_call (h_is_tuple.up) (hr.mono (by decide : 1 ≤ _)) takes_cx (da_cons (de_var (i := 1) (pe_var rfl (by first | exact .inl rfl | exact .inr (.inl rfl) | exact .inr (.inr rfl))) rfl) (da_cons de_int (da_cons (de_glob A.g_MOST_SEEN) da_nil)))))) (dw_or1 (dt_not (dt_val (de_callB (kd_all rfl) A.n_all bt_all (da_cons (de_of (do_lc rfl sc_masses_told.nd (w := false) (di_tup (de_var (i := 1) (pe_var rfl (by first | exact .inl rfl | exact .inr (.inl rfl) | exact .inr (.inr rfl))) rfl)) (own := [("one", 5)]) (blkOk_by (N := ["mass", "seen", "found", "ahead", "behind", "one"]) (sc := defScope s_masses_told) (by decide +kernel)) (by simp [noAll]) (by decide) (fun _ _ _ _ _ => (dtg_nm (i := 5) sc_masses_told.nd)) (fun _ _ _ _ _ => dts_nil) (fun _ _ _ _ _ => len1 fun one3 => (de_call (h_is_seen.up) (hr.mono (by decide : 4 ≤ _)) takes_w0 (da_cons (de_var (i := 5) (pe_var rfl (by first | exact .inl rfl | exact .inr (.inl rfl) | exact .inr (.inr rfl))) rfl) da_nil))))) da_nil))))))) (db_raise (rest := []) rfl takes_cx A.TD A.x_BadSeen A.m_BadSeen hr (de_var (i := 1) (pe_var rfl (by first | exact .inl rfl | exact .inr (.inl rfl) | exact .inr (.inr rfl))) rfl)) (db_setO (i := 2) (do_lst (da_cons (de_var (i := 0) (pe_var rfl (by first | exact .inl rfl | exact .inr (.inl rfl) | exact .inr (.inr rfl))) rfl) da_nil) (Nat.le_of_ble_eq_true rfl)) (fun a4 found5 => (db_wk (.s (.s (.s (.s (.s (.s .nil)))))) (db_for (w := false) (S := List D) (env := (fun found6 => [.val mass1, .val seen2, .own a4 found6, .no, .no, .no])) (s0 := found5) passes_cx rfl (di_tup (de_var (i := 1) (pe_var rfl (by first | exact .inl rfl | exact .inr (.inl rfl) | exact .inr (.inr rfl))) rfl)) (fun z => by cases z) (dtg_tup rfl (dtgs_cons (dtg_nm (i := 3) sc_masses_told.nd) (dtgs_cons (dtg_nm (i := 4) sc_masses_told.nd) dtgs_nil))) (fun found6 => len2 fun ahead7 behind8 => (db_app (i := 2) (pe_var (i := 2) rfl (by first | exact .inl rfl | exact .inr (.inl rfl) | exact .inr (.inr rfl))) rfl (de_call (h_other_mass.up) (hr.mono (by decide : 4 ≤ _)) takes_cx (da_cons (de_ix xd_ix (dv_own (pe_var (i := 2) rfl (by first | exact .inl rfl | exact .inr (.inl rfl) | exact .inr (.inr rfl))) rfl) (de_un ud_neg de_int)) (da_cons (de_var (i := 3) (pe_var rfl (by first | exact .inl rfl | exact .inr (.inl rfl) | exact .inr (.inr rfl))) rfl) (da_cons (de_var (i := 4) (pe_var rfl (by first | exact .inl rfl | exact .inr (.inl rfl) | exact .inr (.inr rfl))) rfl) da_nil)))) (fun found9 => (db_nil rfl (.s (.s (.s (.n (.n (.s .nil)))))))))) (fun found10 => (db_ret (de_callTy kd_tup A.n_tuple bt_tuple (da_cons (dv_own (pe_var (i := 2) rfl (by first | exact .inl rfl | exact .inr (.inl rfl) | exact .inr (.inr rfl))) rfl) da_nil))))))) sc_masses_told.nd))))
theorem ok_masses_told (A : FA P K mg DA fI) : Fn P w K mg base false 5 "masses_told" ["mass", "seen"] m_masses_told := by
  obtain ⟨fd, F⟩ := A.F_masses_told
  exact ⟨_, fd, A.m_masses_told, F.kp, FunD.bindsN F fun _ _ _ _ _ _ us hl => match us, hl with | [_, _], _ => rfl, okc_masses_told A F⟩
theorem sc__law_pot : FnScope ["script", "place", "cell", "own", "small"] ["script", "place"] (defScope s__law_pot) := ⟨rfl, rfl, rfl, by decide +kernel, rfl, by decide +kernel, by decide +kernel⟩
theorem ok__law_pot (A : FA P K mg DA fI) : Fn P w K mg base false 1 "_law_pot" ["script", "place"] m__law_pot := by
  obtain ⟨fd, F⟩ := A.F__law_pot
  refine Fn.of_body F A.m__law_pot sc__law_pot (FunD.bindsN F fun _ _ _ _ _ _ us hl => match us, hl with | [_, _], _ => rfl) fun cdv A1 outer s H E hr => len2 fun script1 place2 => ?_
  change DB _ _ [.val script1, .val place2, .no, .no, .no] _ _ (b__law_pot script1 place2)
  unfold b__law_pot
  exact (db_set (i := 2) (de_if (dt_cmp cd_lt (de_var (i := 1) (pe_var rfl (by first | exact .inl rfl | exact .inr (.inl rfl) | exact .inr (.inr rfl))) rfl) (de_callB kd_len A.n_len bt_len (da_cons (de_var (i := 0) (pe_var rfl (by first | exact .inl rfl | exact .inr (.inl rfl) | exact .inr (.inr rfl))) rfl) da_nil)) (by rfl)) (de_ix xd_ix (de_var (i := 0) (pe_var rfl (by first | exact .inl rfl | exact .inr (.inl rfl) | exact .inr (.inr rfl))) rfl) (de_var (i := 1) (pe_var rfl (by first | exact .inl rfl | exact .inr (.inl rfl) | exact .inr (.inr rfl))) rfl)) (de_bin od_add (de_bin od_add (de_bin od_mod (de_callB (kd_sum rfl) A.n_sum bt_sum (da_cons (de_slice (de_var (i := 0) (pe_var rfl (by first | exact .inl rfl | exact .inr (.inl rfl) | exact .inr (.inr rfl))) rfl) dp_none (dp_some de_int)) da_nil)) de_int) (de_bin od_mul de_int (de_var (i := 1) (pe_var rfl (by first | exact .inl rfl | exact .inr (.inl rfl) | exact .inr (.inr rfl))) rfl))) de_int)) (fun cell3 => (db_set (i := 3) (de_bin od_mul (de_bin od_mod (de_callTy kd_int A.n_int bt_int (da_cons (de_callB kd_abs A.n_abs bt_abs (da_cons (de_var (i := 2) (pe_var rfl (by first | exact .inl rfl | exact .inr (.inl rfl) | exact .inr (.inr rfl))) rfl) da_nil)) da_nil)) (de_bin od_pow (de_bin od_pow de_int de_int) de_int)) (de_callTy kd_int A.n_int bt_int (da_cons (de_cmp cd_ge (de_callB kd_abs A.n_abs bt_abs (da_cons (de_var (i := 2) (pe_var rfl (by first | exact .inl rfl | exact .inr (.inl rfl) | exact .inr (.inr rfl))) rfl) da_nil)) (de_bin od_pow de_int de_int) (by rfl)) da_nil))) (fun own4 => (db_set (i := 4) (de_bin od_mod (de_callTy kd_int A.n_int bt_int (da_cons (de_var (i := 2) (pe_var rfl (by first | exact .inl rfl | exact .inr (.inl rfl) | exact .inr (.inr rfl))) rfl) da_nil)) de_int) (fun small5 => (db_retC (do_lst (da_cons (de_var (i := 3) (pe_var rfl (by first | exact .inl rfl | exact .inr (.inl rfl) | exact .inr (.inr rfl))) rfl) (da_cons (de_bin od_mod (de_callTy kd_int A.n_int bt_int (da_cons (de_bin od_add (de_bin od_add (de_bin od_mul (de_var (i := 4) (pe_var rfl (by first | exact .inl rfl | exact .inr (.inl rfl) | exact .inr (.inr rfl))) rfl) de_int) (de_bin od_mul (de_bin od_mul de_int (de_var (i := 1) (pe_var rfl (by first | exact .inl rfl | exact .inr (.inl rfl) | exact .inr (.inr rfl))) rfl)) (de_var (i := 1) (pe_var rfl (by first | exact .inl rfl | exact .inr (.inl rfl) | exact .inr (.inr rfl))) rfl))) de_int) da_nil)) de_int) (da_cons de_int da_nil))) (Nat.le_of_ble_eq_true rfl)))) sc__law_pot.nd)) sc__law_pot.nd)) sc__law_pot.nd)
theorem sc__law_take : FnScope ["pot", "upto", "digit", "prime", "blend"] ["pot", "upto"] (defScope s__law_take) := ⟨rfl, rfl, rfl, by decide +kernel, rfl, by decide +kernel, by decide +kernel⟩
theorem ok__law_take (A : FA P K mg DA fI) : Fn P w K mg base false 1 "_law_take" ["pot", "upto"] m__law_take := by
  obtain ⟨fd, F⟩ := A.F__law_take
  refine Fn.of_body F A.m__law_take sc__law_take (FunD.bindsN F fun _ _ _ _ _ _ us hl => match us, hl with | [_, _], _ => rfl) fun cdv A1 outer s H E hr => len2 fun pot1 upto2 => ?_
  change DB _ _ [.val pot1, .val upto2, .no, .no, .no] _ _ (b__law_take pot1 upto2)
  unfold b__law_take
  exact (db_ifD (dt_cmp cd_gt (de_ixC (de_var (i := 0) (pe_var rfl (by first | exact .inl rfl | exact .inr (.inl rfl) | exact .inr (.inr rfl))) rfl) de_int) de_int (by rfl)) (db_set (i := 2) (de_bin od_mod (de_callTy kd_int A.n_int bt_int (da_cons (de_ixC (de_var (i := 0) (pe_var rfl (by first | exact .inl rfl | exact .inr (.inl rfl) | exact .inr (.inr rfl))) rfl) de_int) da_nil)) (de_var (i := 1) (pe_var rfl (by first | exact .inl rfl | exact .inr (.inl rfl) | exact .inr (.inr rfl))) rfl)) (fun digit3 => (db_wr (i := 0) (pe_var (i := 0) rfl (by first | exact .inl rfl | exact .inr (.inl rfl) | exact .inr (.inr rfl))) rfl (de_bin od_div (de_ixC (de_var (i := 0) (pe_var rfl (by first | exact .inl rfl | exact .inr (.inl rfl) | exact .inr (.inr rfl))) rfl) de_int) (de_var (i := 1) (pe_var rfl (by first | exact .inl rfl | exact .inr (.inl rfl) | exact .inr (.inr rfl))) rfl)) de_int (db_retR (de_var (i := 2) (pe_var rfl (by first | exact .inl rfl | exact .inr (.inl rfl) | exact .inr (.inr rfl))) rfl)))) sc__law_take.nd) (db_wr (i := 0) (pe_var (i := 0) rfl (by first | exact .inl rfl | exact .inr (.inl rfl) | exact .inr (.inr rfl))) rfl (de_bin od_add (de_ixC (de_var (i := 0) (pe_var rfl (by first | exact .inl rfl | exact .inr (.inl rfl) | exact .inr (.inr rfl))) rfl) de_int) de_int) de_int (db_set (i := 3) (de_ix xd_ix (de_lst (da_cons de_int (da_cons de_int (da_cons de_int (da_cons de_int (da_cons de_int da_nil))))) (Nat.le_of_ble_eq_true rfl)) (de_bin od_mod (de_callTy kd_int A.n_int bt_int (da_cons (de_ixC (de_var (i := 0) (pe_var rfl (by first | exact .inl rfl | exact .inr (.inl rfl) | exact .inr (.inr rfl))) rfl) de_int) da_nil)) de_int)) (fun prime4 => (db_set (i := 4) (de_bin od_mod (de_callTy kd_int A.n_int bt_int (da_cons (de_bin od_pow (de_callTy kd_int A.n_int bt_int (da_cons (de_bin od_add (de_bin od_add (de_ixC (de_var (i := 0) (pe_var rfl (by first | exact .inl rfl | exact .inr (.inl rfl) | exact .inr (.inr rfl))) rfl) de_int) (de_bin od_mul (de_bin od_mul de_int (de_ixC (de_var (i := 0) (pe_var rfl (by first | exact .inl rfl | exact .inr (.inl rfl) | exact .inr (.inr rfl))) rfl) de_int)) (de_ixC (de_var (i := 0) (pe_var rfl (by first | exact .inl rfl | exact .inr (.inl rfl) | exact .inr (.inr rfl))) rfl) de_int))) de_int) da_nil)) de_int) da_nil)) (de_var (i := 3) (pe_var rfl (by first | exact .inl rfl | exact .inr (.inl rfl) | exact .inr (.inr rfl))) rfl)) (fun blend5 => (db_set (i := 4) (de_bin od_mod (de_callTy kd_int A.n_int bt_int (da_cons (de_bin od_mul (de_var (i := 4) (pe_var rfl (by first | exact .inl rfl | exact .inr (.inl rfl) | exact .inr (.inr rfl))) rfl) (de_bin od_add (de_bin od_mod (de_callTy kd_int A.n_int bt_int (da_cons (de_var (i := 4) (pe_var rfl (by first | exact .inl rfl | exact .inr (.inl rfl) | exact .inr (.inr rfl))) rfl) da_nil)) de_int) (de_bin od_mul de_int (de_ixC (de_var (i := 0) (pe_var rfl (by first | exact .inl rfl | exact .inr (.inl rfl) | exact .inr (.inr rfl))) rfl) de_int)))) da_nil)) de_int) (fun blend6 => (db_ret (de_bin od_mod (de_callTy kd_int A.n_int bt_int (da_cons (de_bin od_div (de_var (i := 4) (pe_var rfl (by first | exact .inl rfl | exact .inr (.inl rfl) | exact .inr (.inr rfl))) rfl) de_int) da_nil)) (de_var (i := 1) (pe_var rfl (by first | exact .inl rfl | exact .inr (.inl rfl) | exact .inr (.inr rfl))) rfl)))) sc__law_take.nd)) sc__law_take.nd)) sc__law_take.nd)))
theorem sc__law_of : FnScope ["pot", "some"] ["pot", "some"] (defScope s__law_of) := ⟨rfl, rfl, rfl, by decide +kernel, rfl, by decide +kernel, by decide +kernel⟩
theorem ok__law_of (A : FA P K mg DA fI) : Fn P w K mg base false 2 "_law_of" ["pot", "some"] m__law_of := by
  obtain ⟨fd, F⟩ := A.F__law_of
  have h__law_take := ok__law_take (P := P) (w := w) (base := base) A
  refine Fn.of_body F A.m__law_of sc__law_of (FunD.bindsN F fun _ _ _ _ _ _ us hl => match us, hl with | [_, _], _ => rfl) fun cdv A1 outer s H E hr => len2 fun pot1 some2 => ?_
  change DB _ _ [.val pot1, .val some2] _ _ (b__law_of pot1 some2)
  unfold b__law_of
  exact (db_ret (de_ix xd_ix (de_var (i := 1) (pe_var rfl (by first | exact .inl rfl | exact .inr (.inl rfl) | exact .inr (.inr rfl))) rfl) (de_call (h__law_take.up) (hr.mono (by decide : 1 ≤ _)) takes_cx (da_cons (de_var (i := 0) (pe_var rfl (by first | exact .inl rfl | exact .inr (.inl rfl) | exact .inr (.inr rfl))) rfl) (da_cons (de_callB kd_len A.n_len bt_len (da_cons (de_var (i := 1) (pe_var rfl (by first | exact .inl rfl | exact .inr (.inl rfl) | exact .inr (.inr rfl))) rfl) da_nil)) da_nil)))))
theorem sc__law_cells : FnScope ["script", "most"] ["script", "most"] (defScope s__law_cells) := ⟨rfl, rfl, rfl, by decide +kernel, rfl, by decide +kernel, by decide +kernel⟩
theorem ok__law_cells (A : FA P K mg DA fI) : Fn P w K mg base false 1 "_law_cells" ["script", "most"] m__law_cells := by
  obtain ⟨fd, F⟩ := A.F__law_cells
  refine Fn.of_body F A.m__law_cells sc__law_cells (FunD.bindsN F fun _ _ _ _ _ _ us hl => match us, hl with | [_, _], _ => rfl) fun cdv A1 outer s H E hr => len2 fun script1 most2 => ?_
  change DB _ _ [.val script1, .val most2] _ _ (b__law_cells script1 most2)
  unfold b__law_cells
  exact (db_ret (de_of (do_listR rfl (de_callB (kd_max rfl) A.n_max bt_max (da_cons de_int (da_cons (de_callB (kd_min rfl) A.n_min bt_min (da_cons (de_var (i := 1) (pe_var rfl (by first | exact .inl rfl | exact .inr (.inl rfl) | exact .inr (.inr rfl))) rfl) (da_cons (de_callB kd_len A.n_len bt_len (da_cons (de_var (i := 0) (pe_var rfl (by first | exact .inl rfl | exact .inr (.inl rfl) | exact .inr (.inr rfl))) rfl) da_nil)) da_nil))) da_nil))) A.n_list A.n_range)))
theorem sc__law_frac_common : FnScope ["one", "other"] ["one", "other"] (defScope s__law_frac_common) := ⟨rfl, rfl, rfl, by decide +kernel, rfl, by decide +kernel, by decide +kernel⟩
theorem ok__law_frac_common (A : FA P K mg DA fI) : Fn P w K mg base false 1 "_law_frac_common" ["one", "other"] m__law_frac_common := by
  obtain ⟨fd, F⟩ := A.F__law_frac_common
  refine Fn.of_body F A.m__law_frac_common sc__law_frac_common (FunD.bindsN F fun _ _ _ _ _ _ us hl => match us, hl with | [_, _], _ => rfl) fun cdv A1 outer s H E hr => len2 fun one1 other2 => ?_
  change DB _ _ [.val one1, .val other2] _ _ (b__law_frac_common one1 other2)
  unfold b__law_frac_common
  exact (db_par (i := 0) (j := 1) rfl (da_cons (de_callB kd_abs A.n_abs bt_abs (da_cons (de_var (i := 0) (pe_var rfl (by first | exact .inl rfl | exact .inr (.inl rfl) | exact .inr (.inr rfl))) rfl) da_nil)) (da_cons (de_callB kd_abs A.n_abs bt_abs (da_cons (de_var (i := 1) (pe_var rfl (by first | exact .inl rfl | exact .inr (.inl rfl) | exact .inr (.inr rfl))) rfl) da_nil)) da_nil)) (fun one3 other4 => (db_wk (.s (.s .nil)) (db_while (S := D × D) (env := (fun | (one5, other6) => [.val one5, .val other6])) (s0 := (one3, other4)) (fuelD (one3, other4)) passes_cx (fun | (one5, other6) => (dt_cmp cd_gt (de_var (i := 1) (pe_var rfl (by first | exact .inl rfl | exact .inr (.inl rfl) | exact .inr (.inr rfl))) rfl) de_int (by rfl))) (fun | (one5, other6) => (db_par (i := 0) (j := 1) rfl (da_cons (de_var (i := 1) (pe_var rfl (by first | exact .inl rfl | exact .inr (.inl rfl) | exact .inr (.inr rfl))) rfl) (da_cons (de_bin od_mod (de_callTy kd_int A.n_int bt_int (da_cons (de_var (i := 0) (pe_var rfl (by first | exact .inl rfl | exact .inr (.inl rfl) | exact .inr (.inr rfl))) rfl) da_nil)) (de_var (i := 1) (pe_var rfl (by first | exact .inl rfl | exact .inr (.inl rfl) | exact .inr (.inr rfl))) rfl)) da_nil)) (fun one7 other8 => (db_nil rfl (.s (.s .nil)))) sc__law_frac_common.nd)) (fun | (one9, other10) => (db_ret (de_var (i := 0) (pe_var rfl (by first | exact .inl rfl | exact .inr (.inl rfl) | exact .inr (.inr rfl))) rfl)))))) sc__law_frac_common.nd)
theorem sc__law_frac : FnScope ["top", "bottom", "by"] ["top", "bottom"] (defScope s__law_frac) := ⟨rfl, rfl, rfl, by decide +kernel, rfl, by decide +kernel, by decide +kernel⟩
theorem ok__law_frac (A : FA P K mg DA fI) : Fn P w K mg base false 2 "_law_frac" ["top", "bottom"] m__law_frac := by
  obtain ⟨fd, F⟩ := A.F__law_frac
  have h__law_frac_common := ok__law_frac_common (P := P) (w := w) (base := base) A
  refine Fn.of_body F A.m__law_frac sc__law_frac (FunD.bindsN F fun _ _ _ _ _ _ us hl => match us, hl with | [_, _], _ => rfl) fun cdv A1 outer s H E hr => len2 fun top1 bottom2 => ?_
  change DB _ _ [.val top1, .val bottom2, .no] _ _ (b__law_frac top1 bottom2)
  unfold b__law_frac
  exact (db_set (i := 2) (de_call (h__law_frac_common.up) (hr.mono (by decide : 1 ≤ _)) takes_cx (da_cons (de_var (i := 0) (pe_var rfl (by first | exact .inl rfl | exact .inr (.inl rfl) | exact .inr (.inr rfl))) rfl) (da_cons (de_var (i := 1) (pe_var rfl (by first | exact .inl rfl | exact .inr (.inl rfl) | exact .inr (.inr rfl))) rfl) da_nil))) (fun by3 => (db_set (i := 2) (de_if (dt_cmp cd_gt (de_var (i := 1) (pe_var rfl (by first | exact .inl rfl | exact .inr (.inl rfl) | exact .inr (.inr rfl))) rfl) de_int (by rfl)) (de_var (i := 2) (pe_var rfl (by first | exact .inl rfl | exact .inr (.inl rfl) | exact .inr (.inr rfl))) rfl) (de_un ud_neg (de_var (i := 2) (pe_var rfl (by first | exact .inl rfl | exact .inr (.inl rfl) | exact .inr (.inr rfl))) rfl))) (fun by4 => (db_ret (de_tup (da_cons (de_bin od_div (de_var (i := 0) (pe_var rfl (by first | exact .inl rfl | exact .inr (.inl rfl) | exact .inr (.inr rfl))) rfl) (de_var (i := 2) (pe_var rfl (by first | exact .inl rfl | exact .inr (.inl rfl) | exact .inr (.inr rfl))) rfl)) (da_cons (de_bin od_div (de_var (i := 1) (pe_var rfl (by first | exact .inl rfl | exact .inr (.inl rfl) | exact .inr (.inr rfl))) rfl) (de_var (i := 2) (pe_var rfl (by first | exact .inl rfl | exact .inr (.inl rfl) | exact .inr (.inr rfl))) rfl)) da_nil)) (Nat.le_of_ble_eq_true rfl)))) sc__law_frac.nd)) sc__law_frac.nd)
theorem sc__law_frac_plus : FnScope ["one", "other"] ["one", "other"] (defScope s__law_frac_plus) := ⟨rfl, rfl, rfl, by decide +kernel, rfl, by decide +kernel, by decide +kernel⟩
theorem ok__law_frac_plus (A : FA P K mg DA fI) : Fn P w K mg base false 3 "_law_frac_plus" ["one", "other"] m__law_frac_plus := by
  obtain ⟨fd, F⟩ := A.F__law_frac_plus
  have h__law_frac := ok__law_frac (P := P) (w := w) (base := base) A
  refine Fn.of_body F A.m__law_frac_plus sc__law_frac_plus (FunD.bindsN F fun _ _ _ _ _ _ us hl => match us, hl with | [_, _], _ => rfl) fun cdv A1 outer s H E hr => len2 fun one1 other2 => ?_
  change DB _ _ [.val one1, .val other2] _ _ (b__law_frac_plus one1 other2)
  unfold b__law_frac_plus
  exact (db_ret (de_call (h__law_frac.up) (hr.mono (by decide : 2 ≤ _)) takes_cx (da_cons (de_bin od_add (de_bin od_mul (de_ix xd_ix (de_var (i := 0) (pe_var rfl (by first | exact .inl rfl | exact .inr (.inl rfl) | exact .inr (.inr rfl))) rfl) de_int) (de_ix xd_ix (de_var (i := 1) (pe_var rfl (by first | exact .inl rfl | exact .inr (.inl rfl) | exact .inr (.inr rfl))) rfl) de_int)) (de_bin od_mul (de_ix xd_ix (de_var (i := 1) (pe_var rfl (by first | exact .inl rfl | exact .inr (.inl rfl) | exact .inr (.inr rfl))) rfl) de_int) (de_ix xd_ix (de_var (i := 0) (pe_var rfl (by first | exact .inl rfl | exact .inr (.inl rfl) | exact .inr (.inr rfl))) rfl) de_int))) (da_cons (de_bin od_mul (de_ix xd_ix (de_var (i := 0) (pe_var rfl (by first | exact .inl rfl | exact .inr (.inl rfl) | exact .inr (.inr rfl))) rfl) de_int) (de_ix xd_ix (de_var (i := 1) (pe_var rfl (by first | exact .inl rfl | exact .inr (.inl rfl) | exact .inr (.inr rfl))) rfl) de_int)) da_nil))))
theorem sc__law_frac_less : FnScope ["one", "other"] ["one", "other"] (defScope s__law_frac_less) := ⟨rfl, rfl, rfl, by decide +kernel, rfl, by decide +kernel, by decide +kernel⟩
theorem ok__law_frac_less (A : FA P K mg DA fI) : Fn P w K mg base false 3 "_law_frac_less" ["one", "other"] m__law_frac_less := by
  obtain ⟨fd, F⟩ := A.F__law_frac_less
  have h__law_frac := ok__law_frac (P := P) (w := w) (base := base) A
  refine Fn.of_body F A.m__law_frac_less sc__law_frac_less (FunD.bindsN F fun _ _ _ _ _ _ us hl => match us, hl with | [_, _], _ => rfl) fun cdv A1 outer s H E hr => len2 fun one1 other2 => ?_
  change DB _ _ [.val one1, .val other2] _ _ (b__law_frac_less one1 other2)
  unfold b__law_frac_less
  exact (db_ret (de_call (h__law_frac.up) (hr.mono (by decide : 2 ≤ _)) takes_cx (da_cons (de_bin od_sub (de_bin od_mul (de_ix xd_ix (de_var (i := 0) (pe_var rfl (by first | exact .inl rfl | exact .inr (.inl rfl) | exact .inr (.inr rfl))) rfl) de_int) (de_ix xd_ix (de_var (i := 1) (pe_var rfl (by first | exact .inl rfl | exact .inr (.inl rfl) | exact .inr (.inr rfl))) rfl) de_int)) (de_bin od_mul (de_ix xd_ix (de_var (i := 1) (pe_var rfl (by first | exact .inl rfl | exact .inr (.inl rfl) | exact .inr (.inr rfl))) rfl) de_int) (de_ix xd_ix (de_var (i := 0) (pe_var rfl (by first | exact .inl rfl | exact .inr (.inl rfl) | exact .inr (.inr rfl))) rfl) de_int))) (da_cons (de_bin od_mul (de_ix xd_ix (de_var (i := 0) (pe_var rfl (by first | exact .inl rfl | exact .inr (.inl rfl) | exact .inr (.inr rfl))) rfl) de_int) (de_ix xd_ix (de_var (i := 1) (pe_var rfl (by first | exact .inl rfl | exact .inr (.inl rfl) | exact .inr (.inr rfl))) rfl) de_int)) da_nil))))
theorem sc__law_frac_times : FnScope ["one", "other"] ["one", "other"] (defScope s__law_frac_times) := ⟨rfl, rfl, rfl, by decide +kernel, rfl, by decide +kernel, by decide +kernel⟩
theorem ok__law_frac_times (A : FA P K mg DA fI) : Fn P w K mg base false 3 "_law_frac_times" ["one", "other"] m__law_frac_times := by
  obtain ⟨fd, F⟩ := A.F__law_frac_times
  have h__law_frac := ok__law_frac (P := P) (w := w) (base := base) A
  refine Fn.of_body F A.m__law_frac_times sc__law_frac_times (FunD.bindsN F fun _ _ _ _ _ _ us hl => match us, hl with | [_, _], _ => rfl) fun cdv A1 outer s H E hr => len2 fun one1 other2 => ?_
  change DB _ _ [.val one1, .val other2] _ _ (b__law_frac_times one1 other2)
  unfold b__law_frac_times
  exact (db_ret (de_call (h__law_frac.up) (hr.mono (by decide : 2 ≤ _)) takes_cx (da_cons (de_bin od_mul (de_ix xd_ix (de_var (i := 0) (pe_var rfl (by first | exact .inl rfl | exact .inr (.inl rfl) | exact .inr (.inr rfl))) rfl) de_int) (de_ix xd_ix (de_var (i := 1) (pe_var rfl (by first | exact .inl rfl | exact .inr (.inl rfl) | exact .inr (.inr rfl))) rfl) de_int)) (da_cons (de_bin od_mul (de_ix xd_ix (de_var (i := 0) (pe_var rfl (by first | exact .inl rfl | exact .inr (.inl rfl) | exact .inr (.inr rfl))) rfl) de_int) (de_ix xd_ix (de_var (i := 1) (pe_var rfl (by first | exact .inl rfl | exact .inr (.inl rfl) | exact .inr (.inr rfl))) rfl) de_int)) da_nil))))
theorem sc__law_frac_over : FnScope ["one", "other"] ["one", "other"] (defScope s__law_frac_over) := ⟨rfl, rfl, rfl, by decide +kernel, rfl, by decide +kernel, by decide +kernel⟩
theorem ok__law_frac_over (A : FA P K mg DA fI) : Fn P w K mg base false 3 "_law_frac_over" ["one", "other"] m__law_frac_over := by
  obtain ⟨fd, F⟩ := A.F__law_frac_over
  have h__law_frac := ok__law_frac (P := P) (w := w) (base := base) A
  refine Fn.of_body F A.m__law_frac_over sc__law_frac_over (FunD.bindsN F fun _ _ _ _ _ _ us hl => match us, hl with | [_, _], _ => rfl) fun cdv A1 outer s H E hr => len2 fun one1 other2 => ?_
  change DB _ _ [.val one1, .val other2] _ _ (b__law_frac_over one1 other2)
  unfold b__law_frac_over
  exact (db_ret (de_call (h__law_frac.up) (hr.mono (by decide : 2 ≤ _)) takes_cx (da_cons (de_bin od_mul (de_ix xd_ix (de_var (i := 0) (pe_var rfl (by first | exact .inl rfl | exact .inr (.inl rfl) | exact .inr (.inr rfl))) rfl) de_int) (de_ix xd_ix (de_var (i := 1) (pe_var rfl (by first | exact .inl rfl | exact .inr (.inl rfl) | exact .inr (.inr rfl))) rfl) de_int)) (da_cons (de_bin od_mul (de_ix xd_ix (de_var (i := 0) (pe_var rfl (by first | exact .inl rfl | exact .inr (.inl rfl) | exact .inr (.inr rfl))) rfl) de_int) (de_ix xd_ix (de_var (i := 1) (pe_var rfl (by first | exact .inl rfl | exact .inr (.inl rfl) | exact .inr (.inr rfl))) rfl) de_int)) da_nil))))
theorem sc__law_frac_is_less : FnScope ["one", "other"] ["one", "other"] (defScope s__law_frac_is_less) := ⟨rfl, rfl, rfl, by decide +kernel, rfl, by decide +kernel, by decide +kernel⟩
theorem ok__law_frac_is_less (A : FA P K mg DA fI) : Fn P w K mg base false 1 "_law_frac_is_less" ["one", "other"] m__law_frac_is_less := by
  obtain ⟨fd, F⟩ := A.F__law_frac_is_less
  refine Fn.of_body F A.m__law_frac_is_less sc__law_frac_is_less (FunD.bindsN F fun _ _ _ _ _ _ us hl => match us, hl with | [_, _], _ => rfl) fun cdv A1 outer s H E hr => len2 fun one1 other2 => ?_
  change DB _ _ [.val one1, .val other2] _ _ (b__law_frac_is_less one1 other2)
  unfold b__law_frac_is_less
  exact (db_ret (de_cmp cd_lt (de_bin od_mul (de_ix xd_ix (de_var (i := 0) (pe_var rfl (by first | exact .inl rfl | exact .inr (.inl rfl) | exact .inr (.inr rfl))) rfl) de_int) (de_ix xd_ix (de_var (i := 1) (pe_var rfl (by first | exact .inl rfl | exact .inr (.inl rfl) | exact .inr (.inr rfl))) rfl) de_int)) (de_bin od_mul (de_ix xd_ix (de_var (i := 1) (pe_var rfl (by first | exact .inl rfl | exact .inr (.inl rfl) | exact .inr (.inr rfl))) rfl) de_int) (de_ix xd_ix (de_var (i := 0) (pe_var rfl (by first | exact .inl rfl | exact .inr (.inl rfl) | exact .inr (.inr rfl))) rfl) de_int)) (by rfl)))
theorem sc__law_frac_drawn : FnScope ["pot", "low", "high", "bottom"] ["pot", "low", "high"] (defScope s__law_frac_drawn) := ⟨rfl, rfl, rfl, by decide +kernel, rfl, by decide +kernel, by decide +kernel⟩
theorem ok__law_frac_drawn (A : FA P K mg DA fI) : Fn P w K mg base false 3 "_law_frac_drawn" ["pot", "low", "high"] m__law_frac_drawn := by
  obtain ⟨fd, F⟩ := A.F__law_frac_drawn
  have h__law_frac := ok__law_frac (P := P) (w := w) (base := base) A
  have h__law_of := ok__law_of (P := P) (w := w) (base := base) A
  have h__law_take := ok__law_take (P := P) (w := w) (base := base) A
  refine Fn.of_body F A.m__law_frac_drawn sc__law_frac_drawn (FunD.bindsN F fun _ _ _ _ _ _ us hl => match us, hl with | [_, _, _], _ => rfl) fun cdv A1 outer s H E hr => len3 fun pot1 low2 high3 => ?_
  change DB _ _ [.val pot1, .val low2, .val high3, .no] _ _ (b__law_frac_drawn pot1 low2 high3)
  unfold b__law_frac_drawn
  exact (db_set (i := 3) (de_call (h__law_of.up) (hr.mono (by decide : 2 ≤ _)) takes_cx (da_cons (de_var (i := 0) (pe_var rfl (by first | exact .inl rfl | exact .inr (.inl rfl) | exact .inr (.inr rfl))) rfl) (da_cons (de_lst (da_cons de_int (da_cons de_int (da_cons de_int (da_cons de_int (da_cons de_int (da_cons de_int da_nil)))))) (Nat.le_of_ble_eq_true rfl)) da_nil))) (fun bottom4 => (db_ret (de_call (h__law_frac.up) (hr.mono (by decide : 2 ≤ _)) takes_cx (da_cons (de_bin od_add (de_bin od_mul (de_var (i := 1) (pe_var rfl (by first | exact .inl rfl | exact .inr (.inl rfl) | exact .inr (.inr rfl))) rfl) (de_var (i := 3) (pe_var rfl (by first | exact .inl rfl | exact .inr (.inl rfl) | exact .inr (.inr rfl))) rfl)) (de_call (h__law_take.up) (hr.mono (by decide : 1 ≤ _)) takes_cx (da_cons (de_var (i := 0) (pe_var rfl (by first | exact .inl rfl | exact .inr (.inl rfl) | exact .inr (.inr rfl))) rfl) (da_cons (de_bin od_add (de_bin od_mul (de_bin od_sub (de_var (i := 2) (pe_var rfl (by first | exact .inl rfl | exact .inr (.inl rfl) | exact .inr (.inr rfl))) rfl) (de_var (i := 1) (pe_var rfl (by first | exact .inl rfl | exact .inr (.inl rfl) | exact .inr (.inr rfl))) rfl)) (de_var (i := 3) (pe_var rfl (by first | exact .inl rfl | exact .inr (.inl rfl) | exact .inr (.inr rfl))) rfl)) de_int) da_nil)))) (da_cons (de_var (i := 3) (pe_var rfl (by first | exact .inl rfl | exact .inr (.inl rfl) | exact .inr (.inr rfl))) rfl) da_nil))))) sc__law_frac_drawn.nd)
theorem sc__law_track_joints : FnScope ["own", "many", "rows", "cart"] ["own"] (defScope s__law_track_joints) := ⟨rfl, rfl, rfl, by decide +kernel, rfl, by decide +kernel, by decide +kernel⟩
theorem ok__law_track_joints (A : FA P K mg DA fI) : Fn P w K mg base false 1 "_law_track_joints" ["own"] m__law_track_joints := by
  obtain ⟨fd, F⟩ := A.F__law_track_joints
  refine Fn.of_body F A.m__law_track_joints sc__law_track_joints (FunD.bindsN F fun _ _ _ _ _ _ us hl => match us, hl with | [_], _ => rfl) fun cdv A1 outer s H E hr => len1 fun own1 => ?_
  change DB _ _ [.val own1, .no, .no, .no] _ _ (b__law_track_joints own1)
  unfold b__law_track_joints
  exact (db_set (i := 1) (de_callB kd_len A.n_len bt_len (da_cons (de_dget hr (de_var (i := 0) (pe_var rfl (by first | exact .inl rfl | exact .inr (.inl rfl) | exact .inr (.inr rfl))) rfl) de_str) da_nil)) (fun many2 => (db_setLc (i := 2) rfl sc__law_track_joints.nd (w := false) (di_range1 (da_cons (de_bin od_sub (de_var (i := 1) (pe_var rfl (by first | exact .inl rfl | exact .inr (.inl rfl) | exact .inr (.inr rfl))) rfl) de_int) da_nil) A.n_range) (own := [("cart", 3)]) (blkOk_by (N := ["own", "many", "rows", "cart"]) (sc := defScope s__law_track_joints) (by decide +kernel)) (by simp [noAll]) (by decide) (fun _ _ _ _ _ => (dtg_nm (i := 3) sc__law_track_joints.nd)) (fun _ _ _ _ _ => dts_nil) (fun _ _ _ _ _ => len1 fun cart3 => (de_tup (da_cons (de_var (i := 3) (pe_var rfl (by first | exact .inl rfl | exact .inr (.inl rfl) | exact .inr (.inr rfl))) rfl) (da_cons (de_bin od_add (de_var (i := 3) (pe_var rfl (by first | exact .inl rfl | exact .inr (.inl rfl) | exact .inr (.inr rfl))) rfl) de_int) da_nil)) (Nat.le_of_ble_eq_true rfl))) (fun a4 rows5 => (db_set (i := 2) (de_bin od_add (de_if (dt_cmp cd_isnt (de_dget hr (de_var (i := 0) (pe_var rfl (by first | exact .inl rfl | exact .inr (.inl rfl) | exact .inr (.inr rfl))) rfl) de_str) de_non (by rfl)) (de_lst (da_cons (de_tup (da_cons de_non (da_cons de_int da_nil)) (Nat.le_of_ble_eq_true rfl)) da_nil) (Nat.le_of_ble_eq_true rfl)) (de_lst da_nil (Nat.le_of_ble_eq_true rfl))) (dv_own (pe_var (i := 2) rfl (by first | exact .inl rfl | exact .inr (.inl rfl) | exact .inr (.inr rfl))) rfl)) (fun rows6 => (db_ret (de_bin od_add (de_var (i := 2) (pe_var rfl (by first | exact .inl rfl | exact .inr (.inl rfl) | exact .inr (.inr rfl))) rfl) (de_if (dt_cmp cd_isnt (de_dget hr (de_var (i := 0) (pe_var rfl (by first | exact .inl rfl | exact .inr (.inl rfl) | exact .inr (.inr rfl))) rfl) de_str) de_non (by rfl)) (de_lst (da_cons (de_tup (da_cons (de_bin od_sub (de_var (i := 1) (pe_var rfl (by first | exact .inl rfl | exact .inr (.inl rfl) | exact .inr (.inr rfl))) rfl) de_int) (da_cons de_non da_nil)) (Nat.le_of_ble_eq_true rfl)) da_nil) (Nat.le_of_ble_eq_true rfl)) (de_lst da_nil (Nat.le_of_ble_eq_true rfl)))))) sc__law_track_joints.nd)))) sc__law_track_joints.nd)
theorem sc__law_track_clacked : FnScope ["own", "speeds", "joint", "left", "right", "found", "cart", "one", "other", "pushed", "middle"] ["own", "speeds", "joint"] (defScope s__law_track_clacked) := ⟨rfl, rfl, rfl, by decide +kernel, rfl, by decide +kernel, by decide +kernel⟩
theorem ok__law_track_clacked (A : FA P K mg DA fI) : Fn P w K mg base false 4 "_law_track_clacked" ["own", "speeds", "joint"] m__law_track_clacked := by
  obtain ⟨fd, F⟩ := A.F__law_track_clacked
  have h__law_frac_less := ok__law_frac_less (P := P) (w := w) (base := base) A
  have h__law_frac_over := ok__law_frac_over (P := P) (w := w) (base := base) A
  have h__law_frac_plus := ok__law_frac_plus (P := P) (w := w) (base := base) A
  have h__law_frac_times := ok__law_frac_times (P := P) (w := w) (base := base) A
  have h__law_track_joints := ok__law_track_joints (P := P) (w := w) (base := base) A
  refine Fn.of_body F A.m__law_track_clacked sc__law_track_clacked (FunD.bindsN F fun _ _ _ _ _ _ us hl => match us, hl with | [_, _, _], _ => rfl) fun cdv A1 outer s H E hr => len3 fun own1 speeds2 joint3 => ?_
  change DB _ _ [.val own1, .val speeds2, .val joint3, .no, .no, .no, .no, .no, .no, .no, .no] _ _ (b__law_track_clacked own1 speeds2 joint3)
  unfold b__law_track_clacked
  exact (db_asgT (de_ix xd_ix (de_call (h__law_track_joints.up) (hr.mono (by decide : 1 ≤ _)) takes_cx (da_cons (de_var (i := 0) (pe_var rfl (by first | exact .inl rfl | exact .inr (.inl rfl) | exact .inr (.inr rfl))) rfl) da_nil)) (de_var (i := 2) (pe_var rfl (by first | exact .inl rfl | exact .inr (.inl rfl) | exact .inr (.inr rfl))) rfl)) (dtg_tup rfl (dtgs_cons (dtg_nm (i := 3) sc__law_track_clacked.nd) (dtgs_cons (dtg_nm (i := 4) sc__law_track_clacked.nd) dtgs_nil))) (len2 fun left4 right5 => (db_setO (i := 5) (do_list (de_var (i := 1) (pe_var rfl (by first | exact .inl rfl | exact .inr (.inl rfl) | exact .inr (.inr rfl))) rfl) A.n_list) (fun a6 found7 => (db_ifD (dt_bop (dw_or (dt_cmp cd_is (de_var (i := 3) (pe_var rfl (by first | exact .inl rfl | exact .inr (.inl rfl) | exact .inr (.inr rfl))) rfl) de_non (by rfl)) (dw_or1 (dt_cmp cd_is (de_var (i := 4) (pe_var rfl (by first | exact .inl rfl | exact .inr (.inl rfl) | exact .inr (.inr rfl))) rfl) de_non (by rfl))))) (db_set (i := 6) (de_if (dt_cmp cd_is (de_var (i := 3) (pe_var rfl (by first | exact .inl rfl | exact .inr (.inl rfl) | exact .inr (.inr rfl))) rfl) de_non (by rfl)) (de_var (i := 4) (pe_var rfl (by first | exact .inl rfl | exact .inr (.inl rfl) | exact .inr (.inr rfl))) rfl) (de_var (i := 3) (pe_var rfl (by first | exact .inl rfl | exact .inr (.inl rfl) | exact .inr (.inr rfl))) rfl)) (fun cart8 => (db_setI (i := 5) (pe_var (i := 5) rfl (by first | exact .inl rfl | exact .inr (.inl rfl) | exact .inr (.inr rfl))) rfl (de_tup (da_cons (de_un ud_neg (de_ix xd_ix (de_ix xd_ix (de_var (i := 1) (pe_var rfl (by first | exact .inl rfl | exact .inr (.inl rfl) | exact .inr (.inr rfl))) rfl) (de_var (i := 6) (pe_var rfl (by first | exact .inl rfl | exact .inr (.inl rfl) | exact .inr (.inr rfl))) rfl)) de_int)) (da_cons (de_ix xd_ix (de_ix xd_ix (de_var (i := 1) (pe_var rfl (by first | exact .inl rfl | exact .inr (.inl rfl) | exact .inr (.inr rfl))) rfl) (de_var (i := 6) (pe_var rfl (by first | exact .inl rfl | exact .inr (.inl rfl) | exact .inr (.inr rfl))) rfl)) de_int) da_nil)) (Nat.le_of_ble_eq_true rfl)) (de_var (i := 6) (pe_var rfl (by first | exact .inl rfl | exact .inr (.inl rfl) | exact .inr (.inr rfl))) rfl) (fun found9 => (db_retR (de_callTy kd_tup A.n_tuple bt_tuple (da_cons (dv_own (pe_var (i := 5) rfl (by first | exact .inl rfl | exact .inr (.inl rfl) | exact .inr (.inr rfl))) rfl) da_nil)))))) sc__law_track_clacked.nd) (db_par (i := 7) (j := 8) rfl (da_cons (de_ix xd_ix (de_dget hr (de_var (i := 0) (pe_var rfl (by first | exact .inl rfl | exact .inr (.inl rfl) | exact .inr (.inr rfl))) rfl) de_str) (de_var (i := 3) (pe_var rfl (by first | exact .inl rfl | exact .inr (.inl rfl) | exact .inr (.inr rfl))) rfl)) (da_cons (de_ix xd_ix (de_dget hr (de_var (i := 0) (pe_var rfl (by first | exact .inl rfl | exact .inr (.inl rfl) | exact .inr (.inr rfl))) rfl) de_str) (de_var (i := 4) (pe_var rfl (by first | exact .inl rfl | exact .inr (.inl rfl) | exact .inr (.inr rfl))) rfl)) da_nil)) (fun one10 other11 => (db_set (i := 9) (de_call (h__law_frac_plus.up) (hr.mono (by decide : 3 ≤ _)) takes_cx (da_cons (de_call (h__law_frac_times.up) (hr.mono (by decide : 3 ≤ _)) takes_cx (da_cons (de_var (i := 7) (pe_var rfl (by first | exact .inl rfl | exact .inr (.inl rfl) | exact .inr (.inr rfl))) rfl) (da_cons (de_ix xd_ix (de_var (i := 1) (pe_var rfl (by first | exact .inl rfl | exact .inr (.inl rfl) | exact .inr (.inr rfl))) rfl) (de_var (i := 3) (pe_var rfl (by first | exact .inl rfl | exact .inr (.inl rfl) | exact .inr (.inr rfl))) rfl)) da_nil))) (da_cons (de_call (h__law_frac_times.up) (hr.mono (by decide : 3 ≤ _)) takes_cx (da_cons (de_var (i := 8) (pe_var rfl (by first | exact .inl rfl | exact .inr (.inl rfl) | exact .inr (.inr rfl))) rfl) (da_cons (de_ix xd_ix (de_var (i := 1) (pe_var rfl (by first | exact .inl rfl | exact .inr (.inl rfl) | exact .inr (.inr rfl))) rfl) (de_var (i := 4) (pe_var rfl (by first | exact .inl rfl | exact .inr (.inl rfl) | exact .inr (.inr rfl))) rfl)) da_nil))) da_nil))) (fun pushed12 => (db_set (i := 10) (de_call (h__law_frac_times.up) (hr.mono (by decide : 3 ≤ _)) takes_cx (da_cons (de_tup (da_cons de_int (da_cons de_int da_nil)) (Nat.le_of_ble_eq_true rfl)) (da_cons (de_call (h__law_frac_over.up) (hr.mono (by decide : 3 ≤ _)) takes_cx (da_cons (de_var (i := 9) (pe_var rfl (by first | exact .inl rfl | exact .inr (.inl rfl) | exact .inr (.inr rfl))) rfl) (da_cons (de_call (h__law_frac_plus.up) (hr.mono (by decide : 3 ≤ _)) takes_cx (da_cons (de_var (i := 7) (pe_var rfl (by first | exact .inl rfl | exact .inr (.inl rfl) | exact .inr (.inr rfl))) rfl) (da_cons (de_var (i := 8) (pe_var rfl (by first | exact .inl rfl | exact .inr (.inl rfl) | exact .inr (.inr rfl))) rfl) da_nil))) da_nil))) da_nil))) (fun middle13 => (db_set2I (i := 5) rfl (pe_var (i := 5) rfl (by first | exact .inl rfl | exact .inr (.inl rfl) | exact .inr (.inr rfl))) (pe_var (i := 5) rfl (by first | exact .inl rfl | exact .inr (.inl rfl) | exact .inr (.inr rfl))) rfl (da_cons (de_call (h__law_frac_less.up) (hr.mono (by decide : 3 ≤ _)) takes_cx (da_cons (de_var (i := 10) (pe_var rfl (by first | exact .inl rfl | exact .inr (.inl rfl) | exact .inr (.inr rfl))) rfl) (da_cons (de_ix xd_ix (de_var (i := 1) (pe_var rfl (by first | exact .inl rfl | exact .inr (.inl rfl) | exact .inr (.inr rfl))) rfl) (de_var (i := 3) (pe_var rfl (by first | exact .inl rfl | exact .inr (.inl rfl) | exact .inr (.inr rfl))) rfl)) da_nil))) (da_cons (de_call (h__law_frac_less.up) (hr.mono (by decide : 3 ≤ _)) takes_cx (da_cons (de_var (i := 10) (pe_var rfl (by first | exact .inl rfl | exact .inr (.inl rfl) | exact .inr (.inr rfl))) rfl) (da_cons (de_ix xd_ix (de_var (i := 1) (pe_var rfl (by first | exact .inl rfl | exact .inr (.inl rfl) | exact .inr (.inr rfl))) rfl) (de_var (i := 4) (pe_var rfl (by first | exact .inl rfl | exact .inr (.inl rfl) | exact .inr (.inr rfl))) rfl)) da_nil))) da_nil)) (de_var (i := 3) (pe_var rfl (by first | exact .inl rfl | exact .inr (.inl rfl) | exact .inr (.inr rfl))) rfl) (fun found14 => (db_ret (de_callTy kd_tup A.n_tuple bt_tuple (da_cons (dv_own (pe_var (i := 5) rfl (by first | exact .inl rfl | exact .inr (.inl rfl) | exact .inr (.inr rfl))) rfl) da_nil)))) (fun _ => (de_var (i := 4) (pe_var rfl (by first | exact .inl rfl | exact .inr (.inl rfl) | exact .inr (.inr rfl))) rfl)))) sc__law_track_clacked.nd)) sc__law_track_clacked.nd)) sc__law_track_clacked.nd))) sc__law_track_clacked.nd)))
theorem sc__law_is : FnScope ["told", "due", "is_fit", "one", "other"] ["told", "due"] (defScope s__law_is) := ⟨rfl, rfl, rfl, by decide +kernel, rfl, by decide +kernel, by decide +kernel⟩
theorem okr__law_is (A : FA P K mg DA fI) (n : Nat) : Fn P w K mg base false (n + 0) "_law_is" ["told", "due"] (mr__law_is n) := by
  obtain ⟨fd, F⟩ := A.F__law_is
  have hB : Binds K fd ["told", "due"] [] := FunD.bindsN F fun _ _ _ _ _ _ us hl => match us, hl with | [_, _], _ => rfl
  induction n with
  | zero => exact Fn.zero F A.m__law_is hB
  | succ n h_self =>
    rw [show n + 1 + 0 = n + 0 + 1 from by omega]
    refine Fn.of_body F A.m__law_is sc__law_is hB fun cdv A1 outer s H E hr => len2 fun told1 due2 => ?_
    change DB _ _ [.val told1, .val due2, .no, .no, .no] _ _ (b__law_is (mr__law_is n) told1 due2)
    generalize mr__law_is n = mm at h_self ⊢
    unfold b__law_is
    exact (db_ifD (dt_val (de_isi .tup (de_var (i := 1) (pe_var rfl (by first | exact .inl rfl | exact .inr (.inl rfl) | exact .inr (.inr rfl))) rfl) A.n_isinstance A.n_tuple boot_tuple)) (db_set (i := 2) (de_and (de_isi .tup (de_var (i := 0) (pe_var rfl (by first | exact .inl rfl | exact .inr (.inl rfl) | exact .inr (.inr rfl))) rfl) A.n_isinstance A.n_tuple boot_tuple) (de_one (de_cmp (cd_eq hr) (de_callB kd_len A.n_len bt_len (da_cons (de_var (i := 0) (pe_var rfl (by first | exact .inl rfl | exact .inr (.inl rfl) | exact .inr (.inr rfl))) rfl) da_nil)) (de_callB kd_len A.n_len bt_len (da_cons (de_var (i := 1) (pe_var rfl (by first | exact .inl rfl | exact .inr (.inl rfl) | exact .inr (.inr rfl))) rfl) da_nil)) (by rfl)))) (fun is_fit3 => (db_retR (de_and (de_var (i := 2) (pe_var rfl (by first | exact .inl rfl | exact .inr (.inl rfl) | exact .inr (.inr rfl))) rfl) (de_one (de_callB (kd_all rfl) A.n_all bt_all (da_cons (de_of (do_lc rfl sc__law_is.nd (w := false) (di_zip (da_cons (de_var (i := 0) (pe_var rfl (by first | exact .inl rfl | exact .inr (.inl rfl) | exact .inr (.inr rfl))) rfl) (da_cons (de_var (i := 1) (pe_var rfl (by first | exact .inl rfl | exact .inr (.inl rfl) | exact .inr (.inr rfl))) rfl) da_nil)) A.n_zip) (own := [("one", 3), ("other", 4)]) (blkOk_by (N := ["told", "due", "is_fit", "one", "other"]) (sc := defScope s__law_is) (by decide +kernel)) (by simp [noAll]) (by decide) (fun _ _ _ _ _ => (dtg_tup rfl (dtgs_cons (dtg_nm (i := 3) sc__law_is.nd) (dtgs_cons (dtg_nm (i := 4) sc__law_is.nd) dtgs_nil)))) (fun _ _ _ _ _ => dts_nil) (fun _ _ _ _ _ => len2 fun one4 other5 => (de_call (h_self.up) (hr.mono (Nat.le_refl _)) takes_w0 (da_cons (de_var (i := 3) (pe_var rfl (by first | exact .inl rfl | exact .inr (.inl rfl) | exact .inr (.inr rfl))) rfl) (da_cons (de_var (i := 4) (pe_var rfl (by first | exact .inl rfl | exact .inr (.inl rfl) | exact .inr (.inr rfl))) rfl) da_nil)))))) da_nil)))))) sc__law_is.nd) (db_ifD (dt_val (de_isi .int (de_var (i := 1) (pe_var rfl (by first | exact .inl rfl | exact .inr (.inl rfl) | exact .inr (.inr rfl))) rfl) A.n_isinstance A.n_int boot_int)) (db_retR (de_and (de_isi .int (de_var (i := 0) (pe_var rfl (by first | exact .inl rfl | exact .inr (.inl rfl) | exact .inr (.inr rfl))) rfl) A.n_isinstance A.n_int boot_int) (de_and (de_not (de_isi .bool (de_var (i := 0) (pe_var rfl (by first | exact .inl rfl | exact .inr (.inl rfl) | exact .inr (.inr rfl))) rfl) A.n_isinstance A.n_bool boot_bool)) (de_one (de_cmp (cd_eq hr) (de_var (i := 0) (pe_var rfl (by first | exact .inl rfl | exact .inr (.inl rfl) | exact .inr (.inr rfl))) rfl) (de_var (i := 1) (pe_var rfl (by first | exact .inl rfl | exact .inr (.inl rfl) | exact .inr (.inr rfl))) rfl) (by rfl)))))) (db_ret (de_if (dt_val (de_isi .str (de_var (i := 1) (pe_var rfl (by first | exact .inl rfl | exact .inr (.inl rfl) | exact .inr (.inr rfl))) rfl) A.n_isinstance A.n_str boot_str)) (de_and (de_isi .str (de_var (i := 0) (pe_var rfl (by first | exact .inl rfl | exact .inr (.inl rfl) | exact .inr (.inr rfl))) rfl) A.n_isinstance A.n_str boot_str) (de_one (de_cmp (cd_eq hr) (de_var (i := 0) (pe_var rfl (by first | exact .inl rfl | exact .inr (.inl rfl) | exact .inr (.inr rfl))) rfl) (de_var (i := 1) (pe_var rfl (by first | exact .inl rfl | exact .inr (.inl rfl) | exact .inr (.inr rfl))) rfl) (by rfl)))) (de_cmp cd_is (de_var (i := 0) (pe_var rfl (by first | exact .inl rfl | exact .inr (.inl rfl) | exact .inr (.inr rfl))) rfl) de_non (by rfl))))))
theorem ok__law_is (A : FA P K mg DA fI) : Fn P w K mg base false 4 "_law_is" ["told", "due"] m__law_is := okr__law_is A 4
theorem sc__law_mass_drawn : FnScope ["pot"] ["pot"] (defScope s__law_mass_drawn) := ⟨rfl, rfl, rfl, by decide +kernel, rfl, by decide +kernel, by decide +kernel⟩
theorem ok__law_mass_drawn (A : FA P K mg DA fI) : Fn P w K mg base false 3 "_law_mass_drawn" ["pot"] m__law_mass_drawn := by
  obtain ⟨fd, F⟩ := A.F__law_mass_drawn
  have h__law_of := ok__law_of (P := P) (w := w) (base := base) A
  refine Fn.of_body F A.m__law_mass_drawn sc__law_mass_drawn (FunD.bindsN F fun _ _ _ _ _ _ us hl => match us, hl with | [_], _ => rfl) fun cdv A1 outer s H E hr => len1 fun pot1 => ?_
  change DB _ _ [.val pot1] _ _ (b__law_mass_drawn pot1)
  unfold b__law_mass_drawn
  exact (db_ret (de_call (h__law_of.up) (hr.mono (by decide : 2 ≤ _)) takes_cx (da_cons (de_var (i := 0) (pe_var rfl (by first | exact .inl rfl | exact .inr (.inl rfl) | exact .inr (.inr rfl))) rfl) (da_cons (de_lst (da_cons (de_tup (da_cons de_int (da_cons de_int da_nil)) (Nat.le_of_ble_eq_true rfl)) (da_cons (de_tup (da_cons de_int (da_cons de_int da_nil)) (Nat.le_of_ble_eq_true rfl)) (da_cons (de_tup (da_cons de_int (da_cons de_int da_nil)) (Nat.le_of_ble_eq_true rfl)) (da_cons (de_tup (da_cons de_int (da_cons de_int da_nil)) (Nat.le_of_ble_eq_true rfl)) (da_cons (de_tup (da_cons de_int (da_cons de_int da_nil)) (Nat.le_of_ble_eq_true rfl)) (da_cons (de_tup (da_cons de_int (da_cons de_int da_nil)) (Nat.le_of_ble_eq_true rfl)) (da_cons (de_tup (da_cons de_int (da_cons de_int da_nil)) (Nat.le_of_ble_eq_true rfl)) (da_cons (de_tup (da_cons de_int (da_cons de_int da_nil)) (Nat.le_of_ble_eq_true rfl)) (da_cons (de_tup (da_cons de_int (da_cons de_int da_nil)) (Nat.le_of_ble_eq_true rfl)) da_nil))))))))) (Nat.le_of_ble_eq_true rfl)) da_nil))))
theorem sc__law_clack_drawn : FnScope ["pot", "one", "other", "left", "right", "own"] ["pot", "one", "other"] (defScope s__law_clack_drawn) := ⟨rfl, rfl, rfl, by decide +kernel, rfl, by decide +kernel, by decide +kernel⟩
theorem ok__law_clack_drawn (A : FA P K mg DA fI) : Fn P w K mg base false 5 "_law_clack_drawn" ["pot", "one", "other"] m__law_clack_drawn := by
  obtain ⟨fd, F⟩ := A.F__law_clack_drawn
  have h__law_frac_drawn := ok__law_frac_drawn (P := P) (w := w) (base := base) A
  have h__law_frac_less := ok__law_frac_less (P := P) (w := w) (base := base) A
  have h__law_of := ok__law_of (P := P) (w := w) (base := base) A
  have h__law_track_clacked := ok__law_track_clacked (P := P) (w := w) (base := base) A
  refine Fn.of_body F A.m__law_clack_drawn sc__law_clack_drawn (FunD.bindsN F fun _ _ _ _ _ _ us hl => match us, hl with | [_, _, _], _ => rfl) fun cdv A1 outer s H E hr => len3 fun pot1 one2 other3 => ?_
  change DB _ _ [.val pot1, .val one2, .val other3, .no, .no, .no] _ _ (b__law_clack_drawn pot1 one2 other3)
  unfold b__law_clack_drawn
  exact (db_set (i := 3) (de_call (h__law_frac_drawn.up) (hr.mono (by decide : 3 ≤ _)) takes_cx (da_cons (de_var (i := 0) (pe_var rfl (by first | exact .inl rfl | exact .inr (.inl rfl) | exact .inr (.inr rfl))) rfl) (da_cons (de_un ud_neg de_int) (da_cons de_int da_nil)))) (fun left4 => (db_set (i := 4) (de_call (h__law_frac_less.up) (hr.mono (by decide : 3 ≤ _)) takes_cx (da_cons (de_var (i := 3) (pe_var rfl (by first | exact .inl rfl | exact .inr (.inl rfl) | exact .inr (.inr rfl))) rfl) (da_cons (de_call (h__law_of.up) (hr.mono (by decide : 2 ≤ _)) takes_cx (da_cons (de_var (i := 0) (pe_var rfl (by first | exact .inl rfl | exact .inr (.inl rfl) | exact .inr (.inr rfl))) rfl) (da_cons (de_lst (da_cons (de_tup (da_cons de_int (da_cons de_int da_nil)) (Nat.le_of_ble_eq_true rfl)) (da_cons (de_tup (da_cons de_int (da_cons de_int da_nil)) (Nat.le_of_ble_eq_true rfl)) (da_cons (de_tup (da_cons de_int (da_cons de_int da_nil)) (Nat.le_of_ble_eq_true rfl)) (da_cons (de_tup (da_cons de_int (da_cons de_int da_nil)) (Nat.le_of_ble_eq_true rfl)) da_nil)))) (Nat.le_of_ble_eq_true rfl)) da_nil))) da_nil))) (fun right5 => (db_set (i := 5) (de_disp (pps_cons pe_str de_non (pps_cons pe_str (de_lst (da_cons (de_var (i := 1) (pe_var rfl (by first | exact .inl rfl | exact .inr (.inl rfl) | exact .inr (.inr rfl))) rfl) (da_cons (de_var (i := 2) (pe_var rfl (by first | exact .inl rfl | exact .inr (.inl rfl) | exact .inr (.inr rfl))) rfl) da_nil)) (Nat.le_of_ble_eq_true rfl)) (pps_cons pe_str de_non pps_nil)))) (fun own6 => (db_ret (de_tup (da_cons (de_tup (da_cons (de_var (i := 3) (pe_var rfl (by first | exact .inl rfl | exact .inr (.inl rfl) | exact .inr (.inr rfl))) rfl) (da_cons (de_var (i := 4) (pe_var rfl (by first | exact .inl rfl | exact .inr (.inl rfl) | exact .inr (.inr rfl))) rfl) da_nil)) (Nat.le_of_ble_eq_true rfl)) (da_cons (de_call (h__law_track_clacked.up) (hr.mono (by decide : 4 ≤ _)) takes_cx (da_cons (de_var (i := 5) (pe_var rfl (by first | exact .inl rfl | exact .inr (.inl rfl) | exact .inr (.inr rfl))) rfl) (da_cons (de_tup (da_cons (de_var (i := 3) (pe_var rfl (by first | exact .inl rfl | exact .inr (.inl rfl) | exact .inr (.inr rfl))) rfl) (da_cons (de_var (i := 4) (pe_var rfl (by first | exact .inl rfl | exact .inr (.inl rfl) | exact .inr (.inr rfl))) rfl) da_nil)) (Nat.le_of_ble_eq_true rfl)) (da_cons de_int da_nil)))) da_nil)) (Nat.le_of_ble_eq_true rfl)))) sc__law_clack_drawn.nd)) sc__law_clack_drawn.nd)) sc__law_clack_drawn.nd)
theorem sc__law_due : FnScope ["one", "ahead", "behind", "given", "other", "own"] ["one", "ahead", "behind"] (defScope s__law_due) := ⟨rfl, rfl, rfl, by decide +kernel, rfl, by decide +kernel, by decide +kernel⟩
theorem ok__law_due (A : FA P K mg DA fI) : Fn P w K mg base false 5 "_law_due" ["one", "ahead", "behind"] m__law_due := by
  obtain ⟨fd, F⟩ := A.F__law_due
  have h__law_frac_is_less := ok__law_frac_is_less (P := P) (w := w) (base := base) A
  have h__law_frac_less := ok__law_frac_less (P := P) (w := w) (base := base) A
  have h__law_frac_over := ok__law_frac_over (P := P) (w := w) (base := base) A
  have h__law_frac_times := ok__law_frac_times (P := P) (w := w) (base := base) A
  have h__law_track_clacked := ok__law_track_clacked (P := P) (w := w) (base := base) A
  refine Fn.of_body F A.m__law_due sc__law_due (FunD.bindsN F fun _ _ _ _ _ _ us hl => match us, hl with | [_, _, _], _ => rfl) fun cdv A1 outer s H E hr => len3 fun one1 ahead2 behind3 => ?_
  change DB _ _ [.val one1, .val ahead2, .val behind3, .no, .no, .no] _ _ (b__law_due one1 ahead2 behind3)
  unfold b__law_due
  exact (db_ifD (dt_bop (dw_or (dt_not (dt_val (de_call (h__law_frac_is_less.up) (hr.mono (by decide : 1 ≤ _)) takes_cx (da_cons (de_ix xd_ix (de_var (i := 1) (pe_var rfl (by first | exact .inl rfl | exact .inr (.inl rfl) | exact .inr (.inr rfl))) rfl) de_int) (da_cons (de_ix xd_ix (de_var (i := 1) (pe_var rfl (by first | exact .inl rfl | exact .inr (.inl rfl) | exact .inr (.inr rfl))) rfl) de_int) da_nil))))) (dw_or1 (dt_cmp (cd_eq hr) (de_ix xd_ix (de_var (i := 2) (pe_var rfl (by first | exact .inl rfl | exact .inr (.inl rfl) | exact .inr (.inr rfl))) rfl) de_int) (de_ix xd_ix (de_var (i := 1) (pe_var rfl (by first | exact .inl rfl | exact .inr (.inl rfl) | exact .inr (.inr rfl))) rfl) de_int) (by rfl))))) (db_retR de_non) (db_set (i := 3) (de_call (h__law_frac_times.up) (hr.mono (by decide : 3 ≤ _)) takes_cx (da_cons (de_var (i := 0) (pe_var rfl (by first | exact .inl rfl | exact .inr (.inl rfl) | exact .inr (.inr rfl))) rfl) (da_cons (de_call (h__law_frac_less.up) (hr.mono (by decide : 3 ≤ _)) takes_cx (da_cons (de_ix xd_ix (de_var (i := 1) (pe_var rfl (by first | exact .inl rfl | exact .inr (.inl rfl) | exact .inr (.inr rfl))) rfl) de_int) (da_cons (de_ix xd_ix (de_var (i := 2) (pe_var rfl (by first | exact .inl rfl | exact .inr (.inl rfl) | exact .inr (.inr rfl))) rfl) de_int) da_nil))) da_nil))) (fun given4 => (db_set (i := 4) (de_call (h__law_frac_over.up) (hr.mono (by decide : 3 ≤ _)) takes_cx (da_cons (de_var (i := 3) (pe_var rfl (by first | exact .inl rfl | exact .inr (.inl rfl) | exact .inr (.inr rfl))) rfl) (da_cons (de_call (h__law_frac_less.up) (hr.mono (by decide : 3 ≤ _)) takes_cx (da_cons (de_ix xd_ix (de_var (i := 2) (pe_var rfl (by first | exact .inl rfl | exact .inr (.inl rfl) | exact .inr (.inr rfl))) rfl) de_int) (da_cons (de_ix xd_ix (de_var (i := 1) (pe_var rfl (by first | exact .inl rfl | exact .inr (.inl rfl) | exact .inr (.inr rfl))) rfl) de_int) da_nil))) da_nil))) (fun other5 => (db_ifD (dt_cmp cd_le (de_ix xd_ix (de_var (i := 4) (pe_var rfl (by first | exact .inl rfl | exact .inr (.inl rfl) | exact .inr (.inr rfl))) rfl) de_int) de_int (by rfl)) (db_retR de_non) (db_set (i := 5) (de_disp (pps_cons pe_str de_non (pps_cons pe_str (de_lst (da_cons (de_var (i := 0) (pe_var rfl (by first | exact .inl rfl | exact .inr (.inl rfl) | exact .inr (.inr rfl))) rfl) (da_cons (de_var (i := 4) (pe_var rfl (by first | exact .inl rfl | exact .inr (.inl rfl) | exact .inr (.inr rfl))) rfl) da_nil)) (Nat.le_of_ble_eq_true rfl)) (pps_cons pe_str de_non pps_nil)))) (fun own6 => (db_ret (de_if (dt_cmp (cd_eq hr) (de_call (h__law_track_clacked.up) (hr.mono (by decide : 4 ≤ _)) takes_cx (da_cons (de_var (i := 5) (pe_var rfl (by first | exact .inl rfl | exact .inr (.inl rfl) | exact .inr (.inr rfl))) rfl) (da_cons (de_var (i := 1) (pe_var rfl (by first | exact .inl rfl | exact .inr (.inl rfl) | exact .inr (.inr rfl))) rfl) (da_cons de_int da_nil)))) (de_var (i := 2) (pe_var rfl (by first | exact .inl rfl | exact .inr (.inl rfl) | exact .inr (.inr rfl))) rfl) (by rfl)) (de_var (i := 4) (pe_var rfl (by first | exact .inl rfl | exact .inr (.inl rfl) | exact .inr (.inr rfl))) rfl) de_non))) sc__law_due.nd))) sc__law_due.nd)) sc__law_due.nd))
theorem sc__law_is_told : FnScope ["one", "ahead", "behind", "due", "caught", "told"] ["one", "ahead", "behind"] (defScope s__law_is_told) := ⟨rfl, rfl, rfl, by decide +kernel, rfl, by decide +kernel, by decide +kernel⟩
theorem ok__law_is_told (A : FA P K mg DA fI) (hT : TabsB K mg base) : Fn P w K mg base true 8 "_law_is_told" ["one", "ahead", "behind"] m__law_is_told := by
  obtain ⟨fd, F⟩ := A.F__law_is_told
  have h__law_due := ok__law_due (P := P) (w := w) (base := base) A
  have h__law_is := ok__law_is (P := P) (w := w) (base := base) A
  have h_mass_told := ok_mass_told (P := P) (w := w) (base := base) A
  have k_mass_told : FnK P w K mg base false 5 "mass_told" ["behind", "ahead", "mass"] [2, 1, 0] m_mass_told := by
    obtain ⟨fd, F⟩ := A.F_mass_told
    exact FnK.of F A.m_mass_told (okc_mass_told A F) (fun _ _ _ _ _ _ ws hl => match ws, hl with | [_, _, _], _ => rfl) rfl (by decide)
  refine Fn.of_bodyC F A.m__law_is_told sc__law_is_told (FunD.bindsN F fun _ _ _ _ _ _ us hl => match us, hl with | [_, _, _], _ => rfl) rfl fun cdv A1 outer s H E hcd hr => len3 fun one1 ahead2 behind3 => ?_
  change DB _ _ [.val one1, .val ahead2, .val behind3, .no, .no, .no] _ _ (b__law_is_told one1 ahead2 behind3)
  unfold b__law_is_told
  exact (db_set (i := 3) (de_call (h__law_due.up) (hr.mono (by decide : 5 ≤ _)) takes_cx (da_cons (de_var (i := 0) (pe_var rfl (by first | exact .inl rfl | exact .inr (.inl rfl) | exact .inr (.inr rfl))) rfl) (da_cons (de_var (i := 1) (pe_var rfl (by first | exact .inl rfl | exact .inr (.inl rfl) | exact .inr (.inr rfl))) rfl) (da_cons (de_var (i := 2) (pe_var rfl (by first | exact .inl rfl | exact .inr (.inl rfl) | exact .inr (.inr rfl))) rfl) da_nil)))) (fun due4 => (db_asgT (heard_by A hT (x := "_law_is_told") (by decide) hcd hr (fun A2 outer2 s2 H2 E2 f2 c2 hr2 => (de_callK0 k_mass_told.up (hr2.mono (by decide : 5 ≤ _)) (takes_of rfl rfl rfl rfl) (dk_cons (de_var (i := 2) (pe_var rfl (by first | exact .inl rfl | exact .inr (.inl rfl) | exact .inr (.inr rfl))) rfl) (dk_cons (de_var (i := 1) (pe_var rfl (by first | exact .inl rfl | exact .inr (.inl rfl) | exact .inr (.inr rfl))) rfl) (dk_cons (de_var (i := 0) (pe_var rfl (by first | exact .inl rfl | exact .inr (.inl rfl) | exact .inr (.inr rfl))) rfl) dk_nil))))) (L := LamX.lamS_by (sc := defScope s__law_is_told) (by decide +kernel))) (dtg_tup rfl (dtgs_cons (dtg_nm (i := 4) sc__law_is_told.nd) (dtgs_cons (dtg_nm (i := 5) sc__law_is_told.nd) dtgs_nil))) (len2 fun caught5 told6 => (db_ifD (dt_cmp cd_is (de_var (i := 3) (pe_var rfl (by first | exact .inl rfl | exact .inr (.inl rfl) | exact .inr (.inr rfl))) rfl) de_non (by rfl)) (db_retR (de_and (de_isX (de_var (i := 4) (pe_var rfl (by first | exact .inl rfl | exact .inr (.inl rfl) | exact .inr (.inr rfl))) rfl) A.n_isinstance A.m_NoClack A.kk_NoClack A.no_NoClack) (de_one (de_cmp (cd_eq hr) (de_callB (kd_repr hr) A.n_repr bt_repr (da_cons (de_excV (de_var (i := 4) (pe_var rfl (by first | exact .inl rfl | exact .inr (.inl rfl) | exact .inr (.inr rfl))) rfl) A.known_v) da_nil)) (de_callB (kd_repr hr) A.n_repr bt_repr (da_cons (de_tup (da_cons (de_var (i := 1) (pe_var rfl (by first | exact .inl rfl | exact .inr (.inl rfl) | exact .inr (.inr rfl))) rfl) (da_cons (de_var (i := 2) (pe_var rfl (by first | exact .inl rfl | exact .inr (.inl rfl) | exact .inr (.inr rfl))) rfl) da_nil)) (Nat.le_of_ble_eq_true rfl)) da_nil)) (by rfl))))) (db_ret (de_and (de_cmp cd_is (de_var (i := 4) (pe_var rfl (by first | exact .inl rfl | exact .inr (.inl rfl) | exact .inr (.inr rfl))) rfl) de_non (by rfl)) (de_one (de_call (h__law_is.up) (hr.mono (by decide : 4 ≤ _)) takes_cx (da_cons (de_var (i := 5) (pe_var rfl (by first | exact .inl rfl | exact .inr (.inl rfl) | exact .inr (.inr rfl))) rfl) (da_cons (de_var (i := 3) (pe_var rfl (by first | exact .inl rfl | exact .inr (.inl rfl) | exact .inr (.inr rfl))) rfl) da_nil)))))))))) sc__law_is_told.nd)
theorem sc__law_near : FnScope ["pot", "ahead", "behind", "more", "some", "wide", "speed"] ["pot", "ahead", "behind"] (defScope s__law_near) := ⟨rfl, rfl, rfl, by decide +kernel, rfl, by decide +kernel, by decide +kernel⟩
theorem ok__law_near (A : FA P K mg DA fI) : Fn P w K mg base false 4 "_law_near" ["pot", "ahead", "behind"] m__law_near := by
  obtain ⟨fd, F⟩ := A.F__law_near
  have h__law_frac_less := ok__law_frac_less (P := P) (w := w) (base := base) A
  have h__law_frac_plus := ok__law_frac_plus (P := P) (w := w) (base := base) A
  have h__law_of := ok__law_of (P := P) (w := w) (base := base) A
  refine Fn.of_body F A.m__law_near sc__law_near (FunD.bindsN F fun _ _ _ _ _ _ us hl => match us, hl with | [_, _, _], _ => rfl) fun cdv A1 outer s H E hr => len3 fun pot1 ahead2 behind3 => ?_
  change DB _ _ [.val pot1, .val ahead2, .val behind3, .no, .no, .no, .no] _ _ (b__law_near pot1 ahead2 behind3)
  unfold b__law_near
  exact (db_set (i := 3) (de_call (h__law_of.up) (hr.mono (by decide : 2 ≤ _)) takes_cx (da_cons (de_var (i := 0) (pe_var rfl (by first | exact .inl rfl | exact .inr (.inl rfl) | exact .inr (.inr rfl))) rfl) (da_cons (de_lst (da_cons (de_tup (da_cons de_int (da_cons de_int da_nil)) (Nat.le_of_ble_eq_true rfl)) (da_cons (de_tup (da_cons (de_un ud_neg de_int) (da_cons de_int da_nil)) (Nat.le_of_ble_eq_true rfl)) (da_cons (de_tup (da_cons de_int (da_cons de_int da_nil)) (Nat.le_of_ble_eq_true rfl)) da_nil))) (Nat.le_of_ble_eq_true rfl)) da_nil))) (fun more4 => (db_setO (i := 4) (do_lst (da_cons (de_tup (da_cons (de_var (i := 1) (pe_var rfl (by first | exact .inl rfl | exact .inr (.inl rfl) | exact .inr (.inr rfl))) rfl) (da_cons (de_tup (da_cons (de_call (h__law_frac_plus.up) (hr.mono (by decide : 3 ≤ _)) takes_cx (da_cons (de_ix xd_ix (de_var (i := 2) (pe_var rfl (by first | exact .inl rfl | exact .inr (.inl rfl) | exact .inr (.inr rfl))) rfl) de_int) (da_cons (de_var (i := 3) (pe_var rfl (by first | exact .inl rfl | exact .inr (.inl rfl) | exact .inr (.inr rfl))) rfl) da_nil))) (da_cons (de_ix xd_ix (de_var (i := 2) (pe_var rfl (by first | exact .inl rfl | exact .inr (.inl rfl) | exact .inr (.inr rfl))) rfl) de_int) da_nil)) (Nat.le_of_ble_eq_true rfl)) da_nil)) (Nat.le_of_ble_eq_true rfl)) da_nil) (Nat.le_of_ble_eq_true rfl)) (fun a5 some6 => (db_app (i := 4) (pe_var (i := 4) rfl (by first | exact .inl rfl | exact .inr (.inl rfl) | exact .inr (.inr rfl))) rfl (de_tup (da_cons (de_var (i := 1) (pe_var rfl (by first | exact .inl rfl | exact .inr (.inl rfl) | exact .inr (.inr rfl))) rfl) (da_cons (de_tup (da_cons (de_ix xd_ix (de_var (i := 2) (pe_var rfl (by first | exact .inl rfl | exact .inr (.inl rfl) | exact .inr (.inr rfl))) rfl) de_int) (da_cons (de_call (h__law_frac_plus.up) (hr.mono (by decide : 3 ≤ _)) takes_cx (da_cons (de_ix xd_ix (de_var (i := 2) (pe_var rfl (by first | exact .inl rfl | exact .inr (.inl rfl) | exact .inr (.inr rfl))) rfl) de_int) (da_cons (de_var (i := 3) (pe_var rfl (by first | exact .inl rfl | exact .inr (.inl rfl) | exact .inr (.inr rfl))) rfl) da_nil))) da_nil)) (Nat.le_of_ble_eq_true rfl)) da_nil)) (Nat.le_of_ble_eq_true rfl)) (fun some7 => (db_setO (i := 4) (do_cat (dv_own (pe_var (i := 4) rfl (by first | exact .inl rfl | exact .inr (.inl rfl) | exact .inr (.inr rfl))) rfl) (de_lst (da_cons (de_tup (da_cons (de_var (i := 2) (pe_var rfl (by first | exact .inl rfl | exact .inr (.inl rfl) | exact .inr (.inr rfl))) rfl) (da_cons (de_var (i := 1) (pe_var rfl (by first | exact .inl rfl | exact .inr (.inl rfl) | exact .inr (.inr rfl))) rfl) da_nil)) (Nat.le_of_ble_eq_true rfl)) (da_cons (de_tup (da_cons (de_var (i := 1) (pe_var rfl (by first | exact .inl rfl | exact .inr (.inl rfl) | exact .inr (.inr rfl))) rfl) (da_cons (de_var (i := 1) (pe_var rfl (by first | exact .inl rfl | exact .inr (.inl rfl) | exact .inr (.inr rfl))) rfl) da_nil)) (Nat.le_of_ble_eq_true rfl)) (da_cons (de_tup (da_cons (de_var (i := 1) (pe_var rfl (by first | exact .inl rfl | exact .inr (.inl rfl) | exact .inr (.inr rfl))) rfl) (da_cons (de_rev (de_var (i := 2) (pe_var rfl (by first | exact .inl rfl | exact .inr (.inl rfl) | exact .inr (.inr rfl))) rfl)) da_nil)) (Nat.le_of_ble_eq_true rfl)) (da_cons (de_tup (da_cons (de_var (i := 1) (pe_var rfl (by first | exact .inl rfl | exact .inr (.inl rfl) | exact .inr (.inr rfl))) rfl) (da_cons (de_rev (de_var (i := 1) (pe_var rfl (by first | exact .inl rfl | exact .inr (.inl rfl) | exact .inr (.inr rfl))) rfl)) da_nil)) (Nat.le_of_ble_eq_true rfl)) da_nil)))) (Nat.le_of_ble_eq_true rfl))) (fun a8 some9 => (db_app (i := 4) (pe_var (i := 4) rfl (by first | exact .inl rfl | exact .inr (.inl rfl) | exact .inr (.inr rfl))) rfl (de_tup (da_cons (de_rev (de_var (i := 1) (pe_var rfl (by first | exact .inl rfl | exact .inr (.inl rfl) | exact .inr (.inr rfl))) rfl)) (da_cons (de_var (i := 2) (pe_var rfl (by first | exact .inl rfl | exact .inr (.inl rfl) | exact .inr (.inr rfl))) rfl) da_nil)) (Nat.le_of_ble_eq_true rfl)) (fun some10 => (db_app (i := 4) (pe_var (i := 4) rfl (by first | exact .inl rfl | exact .inr (.inl rfl) | exact .inr (.inr rfl))) rfl (de_tup (da_cons (de_var (i := 1) (pe_var rfl (by first | exact .inl rfl | exact .inr (.inl rfl) | exact .inr (.inr rfl))) rfl) (da_cons (de_callTy kd_tup A.n_tuple bt_tuple (da_cons (de_of (do_lc rfl sc__law_near.nd (w := false) (di_tup (de_var (i := 2) (pe_var rfl (by first | exact .inl rfl | exact .inr (.inl rfl) | exact .inr (.inr rfl))) rfl)) (own := [("speed", 6)]) (blkOk_by (N := ["pot", "ahead", "behind", "more", "some", "wide", "speed"]) (sc := defScope s__law_near) (by decide +kernel)) (by simp [noAll]) (by decide) (fun _ _ _ _ _ => (dtg_nm (i := 6) sc__law_near.nd)) (fun _ _ _ _ _ => dts_nil) (fun _ _ _ _ _ => len1 fun speed11 => (de_call (h__law_frac_plus.up) (hr.mono (by decide : 3 ≤ _)) takes_w0 (da_cons (de_var (i := 6) (pe_var rfl (by first | exact .inl rfl | exact .inr (.inl rfl) | exact .inr (.inr rfl))) rfl) (da_cons (de_var (i := 3) (pe_var rfl (by first | exact .inl rfl | exact .inr (.inl rfl) | exact .inr (.inr rfl))) rfl) da_nil)))))) da_nil)) da_nil)) (Nat.le_of_ble_eq_true rfl)) (fun some12 => (db_set (i := 5) (de_call (h__law_frac_less.up) (hr.mono (by decide : 3 ≤ _)) takes_cx (da_cons (de_ix xd_ix (de_var (i := 1) (pe_var rfl (by first | exact .inl rfl | exact .inr (.inl rfl) | exact .inr (.inr rfl))) rfl) de_int) (da_cons (de_ix xd_ix (de_var (i := 1) (pe_var rfl (by first | exact .inl rfl | exact .inr (.inl rfl) | exact .inr (.inr rfl))) rfl) de_int) da_nil))) (fun wide13 => (db_app (i := 4) (pe_var (i := 4) rfl (by first | exact .inl rfl | exact .inr (.inl rfl) | exact .inr (.inr rfl))) rfl (de_tup (da_cons (de_var (i := 1) (pe_var rfl (by first | exact .inl rfl | exact .inr (.inl rfl) | exact .inr (.inr rfl))) rfl) (da_cons (de_tup (da_cons (de_ix xd_ix (de_var (i := 1) (pe_var rfl (by first | exact .inl rfl | exact .inr (.inl rfl) | exact .inr (.inr rfl))) rfl) de_int) (da_cons (de_call (h__law_frac_plus.up) (hr.mono (by decide : 3 ≤ _)) takes_cx (da_cons (de_ix xd_ix (de_var (i := 1) (pe_var rfl (by first | exact .inl rfl | exact .inr (.inl rfl) | exact .inr (.inr rfl))) rfl) de_int) (da_cons (de_var (i := 5) (pe_var rfl (by first | exact .inl rfl | exact .inr (.inl rfl) | exact .inr (.inr rfl))) rfl) da_nil))) da_nil)) (Nat.le_of_ble_eq_true rfl)) da_nil)) (Nat.le_of_ble_eq_true rfl)) (fun some14 => (db_app (i := 4) (pe_var (i := 4) rfl (by first | exact .inl rfl | exact .inr (.inl rfl) | exact .inr (.inr rfl))) rfl (de_tup (da_cons (de_var (i := 1) (pe_var rfl (by first | exact .inl rfl | exact .inr (.inl rfl) | exact .inr (.inr rfl))) rfl) (da_cons (de_tup (da_cons (de_call (h__law_frac_less.up) (hr.mono (by decide : 3 ≤ _)) takes_cx (da_cons (de_ix xd_ix (de_var (i := 1) (pe_var rfl (by first | exact .inl rfl | exact .inr (.inl rfl) | exact .inr (.inr rfl))) rfl) de_int) (da_cons (de_var (i := 5) (pe_var rfl (by first | exact .inl rfl | exact .inr (.inl rfl) | exact .inr (.inr rfl))) rfl) da_nil))) (da_cons (de_ix xd_ix (de_var (i := 1) (pe_var rfl (by first | exact .inl rfl | exact .inr (.inl rfl) | exact .inr (.inr rfl))) rfl) de_int) da_nil)) (Nat.le_of_ble_eq_true rfl)) da_nil)) (Nat.le_of_ble_eq_true rfl)) (fun some15 => (db_frz (i := 4) rfl (db_ret (de_call (h__law_of.up) (hr.mono (by decide : 2 ≤ _)) takes_cx (da_cons (de_var (i := 0) (pe_var rfl (by first | exact .inl rfl | exact .inr (.inl rfl) | exact .inr (.inr rfl))) rfl) (da_cons (de_var (i := 4) (pe_var rfl (by first | exact .inl rfl | exact .inr (.inl rfl) | exact .inr (.inr rfl))) rfl) da_nil)))))))))) sc__law_near.nd)))))) sc__law_near.nd)))) sc__law_near.nd)) sc__law_near.nd)
theorem sc__law_row_due : FnScope ["mass", "seen", "found", "ahead", "behind", "other"] ["mass", "seen"] (defScope s__law_row_due) := ⟨rfl, rfl, rfl, by decide +kernel, rfl, by decide +kernel, by decide +kernel⟩
theorem ok__law_row_due (A : FA P K mg DA fI) : Fn P w K mg base false 6 "_law_row_due" ["mass", "seen"] m__law_row_due := by
  obtain ⟨fd, F⟩ := A.F__law_row_due
  have h__law_due := ok__law_due (P := P) (w := w) (base := base) A
  refine Fn.of_body F A.m__law_row_due sc__law_row_due (FunD.bindsN F fun _ _ _ _ _ _ us hl => match us, hl with | [_, _], _ => rfl) fun cdv A1 outer s H E hr => len2 fun mass1 seen2 => ?_
  change DB _ _ [.val mass1, .val seen2, .no, .no, .no, .no] _ _ (b__law_row_due mass1 seen2)
  unfold b__law_row_due
  exact (db_setO (i := 2) (do_lst (da_cons (de_var (i := 0) (pe_var rfl (by first | exact .inl rfl | exact .inr (.inl rfl) | exact .inr (.inr rfl))) rfl) da_nil) (Nat.le_of_ble_eq_true rfl)) (fun a3 found4 => (db_wk (.s (.s (.s (.s (.s (.s .nil)))))) (db_forR (w := false) (S := List D) (env := (fun found5 => [.val mass1, .val seen2, .own a3 found5, .no, .no, .no])) (s0 := found4) (r := (fun d => d)) (fun _ => .inr rfl) passes_cx rfl (di_lst (de_var (i := 1) (pe_var rfl (by first | exact .inl rfl | exact .inr (.inl rfl) | exact .inr (.inr rfl))) rfl)) (fun z => by cases z) (dtg_tup rfl (dtgs_cons (dtg_nm (i := 3) sc__law_row_due.nd) (dtgs_cons (dtg_nm (i := 4) sc__law_row_due.nd) dtgs_nil))) (fun found5 => len2 fun ahead6 behind7 => (db_set (i := 5) (de_call (h__law_due.up) (hr.mono (by decide : 5 ≤ _)) takes_cx (da_cons (de_ix xd_ix (dv_own (pe_var (i := 2) rfl (by first | exact .inl rfl | exact .inr (.inl rfl) | exact .inr (.inr rfl))) rfl) (de_un ud_neg de_int)) (da_cons (de_var (i := 3) (pe_var rfl (by first | exact .inl rfl | exact .inr (.inl rfl) | exact .inr (.inr rfl))) rfl) (da_cons (de_var (i := 4) (pe_var rfl (by first | exact .inl rfl | exact .inr (.inl rfl) | exact .inr (.inr rfl))) rfl) da_nil)))) (fun other8 => (db_ifR (r := Sum.inl) (fun _ => .inl rfl) (dt_cmp cd_is (de_var (i := 5) (pe_var rfl (by first | exact .inl rfl | exact .inr (.inl rfl) | exact .inr (.inr rfl))) rfl) de_non (by rfl)) (db_retR (de_tup (da_cons de_non (da_cons (de_tup (da_cons (de_var (i := 3) (pe_var rfl (by first | exact .inl rfl | exact .inr (.inl rfl) | exact .inr (.inr rfl))) rfl) (da_cons (de_var (i := 4) (pe_var rfl (by first | exact .inl rfl | exact .inr (.inl rfl) | exact .inr (.inr rfl))) rfl) da_nil)) (Nat.le_of_ble_eq_true rfl)) da_nil)) (Nat.le_of_ble_eq_true rfl))) (db_app (i := 2) (pe_var (i := 2) rfl (by first | exact .inl rfl | exact .inr (.inl rfl) | exact .inr (.inr rfl))) rfl (de_var (i := 5) (pe_var rfl (by first | exact .inl rfl | exact .inr (.inl rfl) | exact .inr (.inr rfl))) rfl) (fun found9 => (db_nil rfl (.s (.s (.s (.n (.n (.n .nil))))))))))) sc__law_row_due.nd)) (fun found10 => (db_ret (de_tup (da_cons (de_callTy kd_tup A.n_tuple bt_tuple (da_cons (dv_own (pe_var (i := 2) rfl (by first | exact .inl rfl | exact .inr (.inl rfl) | exact .inr (.inr rfl))) rfl) da_nil)) (da_cons de_non da_nil)) (Nat.le_of_ble_eq_true rfl))))))) sc__law_row_due.nd)
theorem sc__law_right : FnScope ["pot", "masses", "seen", "one", "ahead", "behind", "near", "lap", "at", "due", "lost", "caught", "told", "other"] ["pot"] (defScope s__law_right) := ⟨rfl, rfl, rfl, by decide +kernel, rfl, by decide +kernel, by decide +kernel⟩
theorem ok__law_right (A : FA P K mg DA fI) (hT : TabsB K mg base) : Fn P w K mg base true 11 "_law_right" ["pot"] m__law_right := by
  obtain ⟨fd, F⟩ := A.F__law_right
  have h__law_clack_drawn := ok__law_clack_drawn (P := P) (w := w) (base := base) A
  have h__law_is := ok__law_is (P := P) (w := w) (base := base) A
  have h__law_is_told := ok__law_is_told (P := P) (w := w) (base := base) A hT
  have h__law_mass_drawn := ok__law_mass_drawn (P := P) (w := w) (base := base) A
  have h__law_near := ok__law_near (P := P) (w := w) (base := base) A
  have h__law_row_due := ok__law_row_due (P := P) (w := w) (base := base) A
  have h__law_take := ok__law_take (P := P) (w := w) (base := base) A
  have h_masses_told := ok_masses_told (P := P) (w := w) (base := base) A
  have k_masses_told : FnK P w K mg base false 5 "masses_told" ["seen", "mass"] [1, 0] m_masses_told := by
    obtain ⟨fd, F⟩ := A.F_masses_told
    exact FnK.of F A.m_masses_told (okc_masses_told A F) (fun _ _ _ _ _ _ ws hl => match ws, hl with | [_, _], _ => rfl) rfl (by decide)
  refine Fn.of_bodyC F A.m__law_right sc__law_right (FunD.bindsN F fun _ _ _ _ _ _ us hl => match us, hl with | [_], _ => rfl) rfl fun cdv A1 outer s H E hcd hr => len1 fun pot1 => ?_
  change DB _ _ [.val pot1, .no, .no, .no, .no, .no, .no, .no, .no, .no, .no, .no, .no, .no] _ _ (b__law_right pot1)
  unfold b__law_right
  exact (db_set (i := 1) (de_of (do_lc rfl sc__law_right.nd (w := false) (di_range1 (da_cons (de_bin od_add de_int (de_call (h__law_take.up) (hr.mono (by decide : 1 ≤ _)) takes_cx (da_cons (de_var (i := 0) (pe_var rfl (by first | exact .inl rfl | exact .inr (.inl rfl) | exact .inr (.inr rfl))) rfl) (da_cons de_int da_nil)))) da_nil) A.n_range) (own := [("lap", 7)]) (blkOk_by (N := ["pot", "masses", "seen", "one", "ahead", "behind", "near", "lap", "at", "due", "lost", "caught", "told", "other"]) (sc := defScope s__law_right) (by decide +kernel)) (by simp [noAll]) (by decide) (fun _ _ _ _ _ => (dtg_nm (i := 7) sc__law_right.nd)) (fun _ _ _ _ _ => dts_nil) (fun _ _ _ _ _ => len1 fun lap2 => (de_call (h__law_mass_drawn.up) (hr.mono (by decide : 3 ≤ _)) takes_w0 (da_cons (de_var (i := 0) (pe_var rfl (by first | exact .inl rfl | exact .inr (.inl rfl) | exact .inr (.inr rfl))) rfl) da_nil))))) (fun masses3 => (db_setO (i := 2) (do_lc rfl sc__law_right.nd (w := false) (di_zip (da_cons (de_var (i := 1) (pe_var rfl (by first | exact .inl rfl | exact .inr (.inl rfl) | exact .inr (.inr rfl))) rfl) (da_cons (de_slice (de_var (i := 1) (pe_var rfl (by first | exact .inl rfl | exact .inr (.inl rfl) | exact .inr (.inr rfl))) rfl) (dp_some de_int) dp_none) da_nil)) A.n_zip) (own := [("one", 3), ("other", 13)]) (blkOk_by (N := ["pot", "masses", "seen", "one", "ahead", "behind", "near", "lap", "at", "due", "lost", "caught", "told", "other"]) (sc := defScope s__law_right) (by decide +kernel)) (by simp [noAll]) (by decide) (fun _ _ _ _ _ => (dtg_tup rfl (dtgs_cons (dtg_nm (i := 3) sc__law_right.nd) (dtgs_cons (dtg_nm (i := 13) sc__law_right.nd) dtgs_nil)))) (fun _ _ _ _ _ => dts_nil) (fun _ _ _ _ _ => len2 fun one4 other5 => (de_call (h__law_clack_drawn.up) (hr.mono (by decide : 5 ≤ _)) takes_w0 (da_cons (de_var (i := 0) (pe_var rfl (by first | exact .inl rfl | exact .inr (.inl rfl) | exact .inr (.inr rfl))) rfl) (da_cons (de_var (i := 3) (pe_var rfl (by first | exact .inl rfl | exact .inr (.inl rfl) | exact .inr (.inr rfl))) rfl) (da_cons (de_var (i := 13) (pe_var rfl (by first | exact .inl rfl | exact .inr (.inl rfl) | exact .inr (.inr rfl))) rfl) da_nil)))))) (fun a6 seen7 => (db_ifD (dt_not (dt_val (de_call (h__law_is.up) (hr.mono (by decide : 4 ≤ _)) takes_cx (da_cons (de_callK0 k_masses_told.up (hr.mono (by decide : 5 ≤ _)) takes_cx (dk_cons (de_callTy kd_tup A.n_tuple bt_tuple (da_cons (dv_own (pe_var (i := 2) rfl (by first | exact .inl rfl | exact .inr (.inl rfl) | exact .inr (.inr rfl))) rfl) da_nil)) (dk_cons (de_ix xd_ix (de_var (i := 1) (pe_var rfl (by first | exact .inl rfl | exact .inr (.inl rfl) | exact .inr (.inr rfl))) rfl) de_int) dk_nil))) (da_cons (de_callTy kd_tup A.n_tuple bt_tuple (da_cons (de_var (i := 1) (pe_var rfl (by first | exact .inl rfl | exact .inr (.inl rfl) | exact .inr (.inr rfl))) rfl) da_nil)) da_nil))))) (db_retR de_bl) (db_wk (.s (.s (.s (.s (.s (.s (.s (.s (.s (.s (.s (.s (.s (.s .nil)))))))))))))) (db_forR (w := true) (S := Unit) (env := (fun _ => [.val pot1, .val masses3, .own a6 seen7, .no, .no, .no, .no, .no, .no, .no, .no, .no, .no, .no])) (s0 := ()) (r := (fun d => d)) (fun _ => .inr rfl) passes_cx rfl (di_zip (da_cons (de_var (i := 1) (pe_var rfl (by first | exact .inl rfl | exact .inr (.inl rfl) | exact .inr (.inr rfl))) rfl) (da_cons (dv_own (pe_var (i := 2) rfl (by first | exact .inl rfl | exact .inr (.inl rfl) | exact .inr (.inr rfl))) rfl) da_nil)) A.n_zip) (fun _ => (fun _ => fun i a ds h => by simpa using h)) (dtg_tup rfl (dtgs_cons (dtg_nm (i := 3) sc__law_right.nd) (dtgs_cons (dtg_tup rfl (dtgs_cons (dtg_nm (i := 4) sc__law_right.nd) (dtgs_cons (dtg_nm (i := 5) sc__law_right.nd) dtgs_nil))) dtgs_nil))) (fun _ => len3 fun one8 ahead9 behind10 => (db_ifR (r := Sum.inl) (fun _ => .inl rfl) (dt_not (dt_val (de_call (h__law_is_told) (hr.mono (by decide : 8 ≤ _)) takes_cx (da_cons (de_var (i := 3) (pe_var rfl (by first | exact .inl rfl | exact .inr (.inl rfl) | exact .inr (.inr rfl))) rfl) (da_cons (de_var (i := 4) (pe_var rfl (by first | exact .inl rfl | exact .inr (.inl rfl) | exact .inr (.inr rfl))) rfl) (da_cons (de_var (i := 5) (pe_var rfl (by first | exact .inl rfl | exact .inr (.inl rfl) | exact .inr (.inr rfl))) rfl) da_nil)))))) (db_retR de_bl) (db_set (i := 6) (de_call (h__law_near.up) (hr.mono (by decide : 4 ≤ _)) takes_cx (da_cons (de_var (i := 0) (pe_var rfl (by first | exact .inl rfl | exact .inr (.inl rfl) | exact .inr (.inr rfl))) rfl) (da_cons (de_var (i := 4) (pe_var rfl (by first | exact .inl rfl | exact .inr (.inl rfl) | exact .inr (.inr rfl))) rfl) (da_cons (de_var (i := 5) (pe_var rfl (by first | exact .inl rfl | exact .inr (.inl rfl) | exact .inr (.inr rfl))) rfl) da_nil)))) (fun near11 => (db_ifR (r := Sum.inl) (fun _ => .inl rfl) (dt_not (dt_val (de_call (h__law_is_told) (hr.mono (by decide : 8 ≤ _)) takes_cx (da_cons (de_var (i := 3) (pe_var rfl (by first | exact .inl rfl | exact .inr (.inl rfl) | exact .inr (.inr rfl))) rfl) (da_cons (de_ix xd_ix (de_var (i := 6) (pe_var rfl (by first | exact .inl rfl | exact .inr (.inl rfl) | exact .inr (.inr rfl))) rfl) de_int) (da_cons (de_ix xd_ix (de_var (i := 6) (pe_var rfl (by first | exact .inl rfl | exact .inr (.inl rfl) | exact .inr (.inr rfl))) rfl) de_int) da_nil)))))) (db_retR de_bl) (db_nil rfl (.s (.s (.s (.n (.n (.n (.n (.s (.s (.s (.s (.s (.s (.s .nil))))))))))))))))) sc__law_right.nd))) (fun _ => (db_ifD (dt_cmp (cd_eq hr) (dv_own (pe_var (i := 2) rfl (by first | exact .inl rfl | exact .inr (.inl rfl) | exact .inr (.inr rfl))) rfl) (de_lst da_nil (Nat.le_of_ble_eq_true rfl)) (by rfl)) (db_retR de_bl) (db_wk (.s (.s (.s (.s (.s (.s (.s (.s (.s (.s (.s (.s (.s (.s .nil)))))))))))))) (db_for (w := false) (S := List D) (env := (fun seen12 => [.val pot1, .val masses3, .own a6 seen12, .no, .no, .no, .no, .no, .no, .no, .no, .no, .no, .no])) (s0 := seen7) passes_cx rfl (di_range1 (da_cons de_int da_nil) A.n_range) (fun z => by cases z) (dtg_nm (i := 7) sc__law_right.nd) (fun seen12 => len1 fun lap13 => (db_set (i := 8) (de_call (h__law_take.up) (hr.mono (by decide : 1 ≤ _)) takes_cx (da_cons (de_var (i := 0) (pe_var rfl (by first | exact .inl rfl | exact .inr (.inl rfl) | exact .inr (.inr rfl))) rfl) (da_cons (de_callB kd_len A.n_len bt_len (da_cons (dv_own (pe_var (i := 2) rfl (by first | exact .inl rfl | exact .inr (.inl rfl) | exact .inr (.inr rfl))) rfl) da_nil)) da_nil))) (fun at14 => (db_setI (i := 2) (pe_var (i := 2) rfl (by first | exact .inl rfl | exact .inr (.inl rfl) | exact .inr (.inr rfl))) rfl (de_call (h__law_near.up) (hr.mono (by decide : 4 ≤ _)) takes_cx (da_cons (de_var (i := 0) (pe_var rfl (by first | exact .inl rfl | exact .inr (.inl rfl) | exact .inr (.inr rfl))) rfl) (da_cons (de_ix xd_ix (de_ix xd_ix (dv_own (pe_var (i := 2) rfl (by first | exact .inl rfl | exact .inr (.inl rfl) | exact .inr (.inr rfl))) rfl) (de_var (i := 8) (pe_var rfl (by first | exact .inl rfl | exact .inr (.inl rfl) | exact .inr (.inr rfl))) rfl)) de_int) (da_cons (de_ix xd_ix (de_ix xd_ix (dv_own (pe_var (i := 2) rfl (by first | exact .inl rfl | exact .inr (.inl rfl) | exact .inr (.inr rfl))) rfl) (de_var (i := 8) (pe_var rfl (by first | exact .inl rfl | exact .inr (.inl rfl) | exact .inr (.inr rfl))) rfl)) de_int) da_nil)))) (de_var (i := 8) (pe_var rfl (by first | exact .inl rfl | exact .inr (.inl rfl) | exact .inr (.inr rfl))) rfl) (fun seen15 => (db_nil rfl (.s (.s (.s (.s (.s (.s (.s (.n (.n (.s (.s (.s (.s (.s .nil)))))))))))))))))) sc__law_right.nd)) (fun seen16 => (db_frz (i := 2) rfl (db_asgT (de_call (h__law_row_due.up) (hr.mono (by decide : 6 ≤ _)) takes_cx (da_cons (de_ix xd_ix (de_var (i := 1) (pe_var rfl (by first | exact .inl rfl | exact .inr (.inl rfl) | exact .inr (.inr rfl))) rfl) de_int) (da_cons (de_var (i := 2) (pe_var rfl (by first | exact .inl rfl | exact .inr (.inl rfl) | exact .inr (.inr rfl))) rfl) da_nil))) (dtg_tup rfl (dtgs_cons (dtg_nm (i := 9) sc__law_right.nd) (dtgs_cons (dtg_nm (i := 10) sc__law_right.nd) dtgs_nil))) (len2 fun due17 lost18 => (db_asgT (heard_by A hT (x := "_law_right") (by decide) hcd hr (fun A2 outer2 s2 H2 E2 f2 c2 hr2 => (de_call (h_masses_told.up) (hr2.mono (by decide : 5 ≤ _)) (takes_of rfl rfl rfl rfl) (da_cons (de_ix xd_ix (de_var (i := 1) (pe_var rfl (by first | exact .inl rfl | exact .inr (.inl rfl) | exact .inr (.inr rfl))) rfl) de_int) (da_cons (de_callTy kd_tup A.n_tuple bt_tuple (da_cons (de_var (i := 2) (pe_var rfl (by first | exact .inl rfl | exact .inr (.inl rfl) | exact .inr (.inr rfl))) rfl) da_nil)) da_nil)))) (L := LamX.lamS_by (sc := defScope s__law_right) (by decide +kernel))) (dtg_tup rfl (dtgs_cons (dtg_nm (i := 11) sc__law_right.nd) (dtgs_cons (dtg_nm (i := 12) sc__law_right.nd) dtgs_nil))) (len2 fun caught19 told20 => (db_ifD (dt_cmp cd_is (de_var (i := 9) (pe_var rfl (by first | exact .inl rfl | exact .inr (.inl rfl) | exact .inr (.inr rfl))) rfl) de_non (by rfl)) (db_retR (de_and (de_isX (de_var (i := 11) (pe_var rfl (by first | exact .inl rfl | exact .inr (.inl rfl) | exact .inr (.inr rfl))) rfl) A.n_isinstance A.m_NoClack A.kk_NoClack A.no_NoClack) (de_one (de_cmp (cd_eq hr) (de_callB (kd_repr hr) A.n_repr bt_repr (da_cons (de_excV (de_var (i := 11) (pe_var rfl (by first | exact .inl rfl | exact .inr (.inl rfl) | exact .inr (.inr rfl))) rfl) A.known_v) da_nil)) (de_callB (kd_repr hr) A.n_repr bt_repr (da_cons (de_var (i := 10) (pe_var rfl (by first | exact .inl rfl | exact .inr (.inl rfl) | exact .inr (.inr rfl))) rfl) da_nil)) (by rfl))))) (db_ret (de_and (de_cmp cd_is (de_var (i := 11) (pe_var rfl (by first | exact .inl rfl | exact .inr (.inl rfl) | exact .inr (.inr rfl))) rfl) de_non (by rfl)) (de_one (de_call (h__law_is.up) (hr.mono (by decide : 4 ≤ _)) takes_cx (da_cons (de_var (i := 12) (pe_var rfl (by first | exact .inl rfl | exact .inr (.inl rfl) | exact .inr (.inr rfl))) rfl) (da_cons (de_var (i := 9) (pe_var rfl (by first | exact .inl rfl | exact .inr (.inl rfl) | exact .inr (.inr rfl))) rfl) da_nil))))))))))))))))))))) sc__law_right.nd)) sc__law_right.nd)
theorem sc_law : FnScope ["script", "place"] ["script"] (defScope s_law) := ⟨rfl, rfl, rfl, by decide +kernel, rfl, by decide +kernel, by decide +kernel⟩
theorem okc_law (A : FA P K mg DA fI) (hT : TabsB K mg base) {fd : FuncData} (F : FnP K "law" s_law (He.ga K "law") fd) : FnC P w K mg base true 12 (He.ga K "law") fd ["script"] (spM K 1 m_law) := by
  have h__law_cells := ok__law_cells (P := P) (w := w) (base := base) A
  have h__law_pot := ok__law_pot (P := P) (w := w) (base := base) A
  have h__law_right := ok__law_right (P := P) (w := w) (base := base) A hT
  refine FnC.of_body F sc_law fun cdv A1 outer s H E hr => len1 fun script1 => ?_
  change DB _ _ [.val script1, .no] _ _ (b_law script1)
  unfold b_law
  exact (db_ret (de_callB (kd_all rfl) A.n_all bt_all (da_cons (de_of (do_lc rfl sc_law.nd (w := false) (di_lst (de_call (h__law_cells.up) (hr.mono (by decide : 1 ≤ _)) takes_cx (da_cons (de_var (i := 0) (pe_var rfl (by first | exact .inl rfl | exact .inr (.inl rfl) | exact .inr (.inr rfl))) rfl) (da_cons de_int da_nil)))) (own := [("place", 1)]) (blkOk_by (N := ["script", "place"]) (sc := defScope s_law) (by decide +kernel)) (by simp [noAll]) (by decide) (fun _ _ _ _ _ => (dtg_nm (i := 1) sc_law.nd)) (fun _ _ _ _ _ => dts_nil) (fun _ _ _ _ _ => len1 fun place2 => (de_call (h__law_right) (hr.mono (by decide : 11 ≤ _)) takes_w0 (da_cons (de_call (h__law_pot.up) (hr.mono (by decide : 1 ≤ _)) takes_w0 (da_cons (de_var (i := 0) (pe_var rfl (by first | exact .inl rfl | exact .inr (.inl rfl) | exact .inr (.inr rfl))) rfl) (da_cons (de_var (i := 1) (pe_var rfl (by first | exact .inl rfl | exact .inr (.inl rfl) | exact .inr (.inr rfl))) rfl) da_nil))) da_nil))))) da_nil)))
theorem ok_law (A : FA P K mg DA fI) (hT : TabsB K mg base) : Fn P w K mg base true 12 "law" ["script"] m_law := by
  obtain ⟨fd, F⟩ := A.F_law
  exact ⟨_, fd, A.m_law, F.kp, FunD.bindsN F fun _ _ _ _ _ _ us hl => match us, hl with | [_], _ => rfl, okc_law A hT F⟩
end
end K35
set_option Elab.async false
set_option linter.all false
set_option maxRecDepth 100000
set_option maxHeartbeats 0
namespace K35
open PySem PySem.Spec PySem.W L2 Fw
abbrev LW : OpenLaw := PySem.Challenge.rw_sameclacks_k35_whole_masses_told_back_fr
abbrev R : OpenRow := OpenLaw.row LW
abbrev qv : Program := view R.prog [52]
def names : List PySem.Str := (["PAIR_ratios", "is_whole", "common", "ratio", "less", "times", "over", "is_below", "is_ratio", "is_size", "is_tuple", "ClackError", "BadMass", "BadPair", "NoClack", "BadSeen", "PAIR_backward", "MOST_SEEN", "is_pair_of_ratios", "check_mass", "other_mass", "mass_told", "is_seen", "masses_told", "_law_pot", "_law_take", "_law_of", "_law_cells", "_law_heard", "_law_frac_common"] : List PySem.Str) ++ (["_law_frac", "_law_frac_plus", "_law_frac_less", "_law_frac_times", "_law_frac_over", "_law_frac_is_less", "_law_frac_drawn", "_law_track_joints", "_law_track_clacked", "_law_is", "_law_mass_drawn", "_law_clack_drawn", "_law_due", "_law_is_told", "_law_near", "_law_row_due", "_law_right"] : List PySem.Str)
def d_is_whole : He.DefD := ⟨("is_whole", none), "is_whole", "is_whole", defArgs s_is_whole, defBody s_is_whole, defScope s_is_whole, [], []⟩
def d_common : He.DefD := ⟨("common", none), "common", "common", defArgs s_common, defBody s_common, defScope s_common, [], []⟩
def d_ratio : He.DefD := ⟨("ratio", none), "ratio", "ratio", defArgs s_ratio, defBody s_ratio, defScope s_ratio, [], []⟩
def d_less : He.DefD := ⟨("less", none), "less", "less", defArgs s_less, defBody s_less, defScope s_less, [], []⟩
def d_times : He.DefD := ⟨("times", none), "times", "times", defArgs s_times, defBody s_times, defScope s_times, [], []⟩
def d_over : He.DefD := ⟨("over", none), "over", "over", defArgs s_over, defBody s_over, defScope s_over, [], []⟩
def d_is_below : He.DefD := ⟨("is_below", none), "is_below", "is_below", defArgs s_is_below, defBody s_is_below, defScope s_is_below, [], []⟩
def d_is_ratio : He.DefD := ⟨("is_ratio", none), "is_ratio", "is_ratio", defArgs s_is_ratio, defBody s_is_ratio, defScope s_is_ratio, [], []⟩
def d_is_size : He.DefD := ⟨("is_size", none), "is_size", "is_size", defArgs s_is_size, defBody s_is_size, defScope s_is_size, [], []⟩
def d_is_tuple : He.DefD := ⟨("is_tuple", none), "is_tuple", "is_tuple", defArgs s_is_tuple, defBody s_is_tuple, defScope s_is_tuple, [], []⟩
def d_is_pair_of_ratios : He.DefD := ⟨("is_pair_of_ratios", none), "is_pair_of_ratios", "is_pair_of_ratios", defArgs s_is_pair_of_ratios, defBody s_is_pair_of_ratios, defScope s_is_pair_of_ratios, [], []⟩
def d_check_mass : He.DefD := ⟨("check_mass", none), "check_mass", "check_mass", defArgs s_check_mass, defBody s_check_mass, defScope s_check_mass, [], []⟩
def d_other_mass : He.DefD := ⟨("other_mass", none), "other_mass", "other_mass", defArgs s_other_mass, defBody s_other_mass, defScope s_other_mass, [], []⟩
def d_mass_told : He.DefD := ⟨("mass_told", none), "mass_told", "mass_told", defArgs s_mass_told, defBody s_mass_told, defScope s_mass_told, [], []⟩
def d_is_seen : He.DefD := ⟨("is_seen", none), "is_seen", "is_seen", defArgs s_is_seen, defBody s_is_seen, defScope s_is_seen, [], []⟩
def d_masses_told : He.DefD := ⟨("masses_told", none), "masses_told", "masses_told", defArgs s_masses_told, defBody s_masses_told, defScope s_masses_told, [], []⟩
def d__law_pot : He.DefD := ⟨("_law_pot", none), "_law_pot", "_law_pot", defArgs s__law_pot, defBody s__law_pot, defScope s__law_pot, [], []⟩
def d__law_take : He.DefD := ⟨("_law_take", none), "_law_take", "_law_take", defArgs s__law_take, defBody s__law_take, defScope s__law_take, [], []⟩
def d__law_of : He.DefD := ⟨("_law_of", none), "_law_of", "_law_of", defArgs s__law_of, defBody s__law_of, defScope s__law_of, [], []⟩
def d__law_cells : He.DefD := ⟨("_law_cells", none), "_law_cells", "_law_cells", defArgs s__law_cells, defBody s__law_cells, defScope s__law_cells, [], []⟩
def d__law_heard : He.DefD := ⟨("_law_heard", none), "_law_heard", "_law_heard", defArgs s__law_heard, defBody s__law_heard, defScope s__law_heard, [], []⟩
def d__law_frac_common : He.DefD := ⟨("_law_frac_common", none), "_law_frac_common", "_law_frac_common", defArgs s__law_frac_common, defBody s__law_frac_common, defScope s__law_frac_common, [], []⟩
def d__law_frac : He.DefD := ⟨("_law_frac", none), "_law_frac", "_law_frac", defArgs s__law_frac, defBody s__law_frac, defScope s__law_frac, [], []⟩
def d__law_frac_plus : He.DefD := ⟨("_law_frac_plus", none), "_law_frac_plus", "_law_frac_plus", defArgs s__law_frac_plus, defBody s__law_frac_plus, defScope s__law_frac_plus, [], []⟩
def d__law_frac_less : He.DefD := ⟨("_law_frac_less", none), "_law_frac_less", "_law_frac_less", defArgs s__law_frac_less, defBody s__law_frac_less, defScope s__law_frac_less, [], []⟩
def d__law_frac_times : He.DefD := ⟨("_law_frac_times", none), "_law_frac_times", "_law_frac_times", defArgs s__law_frac_times, defBody s__law_frac_times, defScope s__law_frac_times, [], []⟩
def d__law_frac_over : He.DefD := ⟨("_law_frac_over", none), "_law_frac_over", "_law_frac_over", defArgs s__law_frac_over, defBody s__law_frac_over, defScope s__law_frac_over, [], []⟩
def d__law_frac_is_less : He.DefD := ⟨("_law_frac_is_less", none), "_law_frac_is_less", "_law_frac_is_less", defArgs s__law_frac_is_less, defBody s__law_frac_is_less, defScope s__law_frac_is_less, [], []⟩
def d__law_frac_drawn : He.DefD := ⟨("_law_frac_drawn", none), "_law_frac_drawn", "_law_frac_drawn", defArgs s__law_frac_drawn, defBody s__law_frac_drawn, defScope s__law_frac_drawn, [], []⟩
def d__law_track_joints : He.DefD := ⟨("_law_track_joints", none), "_law_track_joints", "_law_track_joints", defArgs s__law_track_joints, defBody s__law_track_joints, defScope s__law_track_joints, [], []⟩
def d__law_track_clacked : He.DefD := ⟨("_law_track_clacked", none), "_law_track_clacked", "_law_track_clacked", defArgs s__law_track_clacked, defBody s__law_track_clacked, defScope s__law_track_clacked, [], []⟩
def d__law_is : He.DefD := ⟨("_law_is", none), "_law_is", "_law_is", defArgs s__law_is, defBody s__law_is, defScope s__law_is, [], []⟩
def d__law_mass_drawn : He.DefD := ⟨("_law_mass_drawn", none), "_law_mass_drawn", "_law_mass_drawn", defArgs s__law_mass_drawn, defBody s__law_mass_drawn, defScope s__law_mass_drawn, [], []⟩
def d__law_clack_drawn : He.DefD := ⟨("_law_clack_drawn", none), "_law_clack_drawn", "_law_clack_drawn", defArgs s__law_clack_drawn, defBody s__law_clack_drawn, defScope s__law_clack_drawn, [], []⟩
def d__law_due : He.DefD := ⟨("_law_due", none), "_law_due", "_law_due", defArgs s__law_due, defBody s__law_due, defScope s__law_due, [], []⟩
def d__law_is_told : He.DefD := ⟨("_law_is_told", none), "_law_is_told", "_law_is_told", defArgs s__law_is_told, defBody s__law_is_told, defScope s__law_is_told, [], []⟩
def d__law_near : He.DefD := ⟨("_law_near", none), "_law_near", "_law_near", defArgs s__law_near, defBody s__law_near, defScope s__law_near, [], []⟩
def d__law_row_due : He.DefD := ⟨("_law_row_due", none), "_law_row_due", "_law_row_due", defArgs s__law_row_due, defBody s__law_row_due, defScope s__law_row_due, [], []⟩
def d__law_right : He.DefD := ⟨("_law_right", none), "_law_right", "_law_right", defArgs s__law_right, defBody s__law_right, defScope s__law_right, [], []⟩
def d_law : He.DefD := ⟨("law", none), "law", "law", defArgs s_law, defBody s_law, defScope s_law, [], []⟩
def fn : List He.DefD := [d_is_whole, d_common, d_ratio, d_less, d_times, d_over, d_is_below, d_is_ratio, d_is_size, d_is_tuple, d_is_pair_of_ratios, d_check_mass, d_other_mass, d_mass_told, d_is_seen, d_masses_told, d__law_pot, d__law_take, d__law_of, d__law_cells, d__law_heard, d__law_frac_common, d__law_frac, d__law_frac_plus, d__law_frac_less, d__law_frac_times, d__law_frac_over, d__law_frac_is_less, d__law_frac_drawn, d__law_track_joints, d__law_track_clacked, d__law_is, d__law_mass_drawn, d__law_clack_drawn, d__law_due, d__law_is_told, d__law_near, d__law_row_due, d__law_right, d_law]
def fa : List He.Fa := ([.glo "is_whole", .glo "common", .glo "ratio", .glo "less", .glo "times", .glo "over", .glo "is_below", .glo "is_ratio", .glo "is_size", .glo "is_tuple", .glo "is_pair_of_ratios", .glo "check_mass", .glo "other_mass", .glo "mass_told", .glo "is_seen", .glo "masses_told", .glo "_law_pot", .glo "_law_take", .glo "_law_of", .glo "_law_cells", .glo "_law_heard", .glo "_law_frac_common", .glo "_law_frac", .glo "_law_frac_plus", .glo "_law_frac_less", .glo "_law_frac_times", .glo "_law_frac_over", .glo "_law_frac_is_less", .glo "_law_frac_drawn", .glo "_law_track_joints", .glo "_law_track_clacked", .glo "_law_is", .glo "_law_mass_drawn", .glo "_law_clack_drawn", .glo "_law_due", .glo "_law_is_told", .glo "_law_near", .glo "_law_row_due", .glo "_law_right", .glo "law"] : List He.Fa) ++ ([.glo "ClackError", .glo "BadMass", .glo "BadPair", .glo "NoClack", .glo "BadSeen", .free "abs", .free "all", .free "bool", .free "int", .free "isinstance", .free "len", .free "list", .free "max", .free "min", .free "range", .free "repr", .free "str", .free "sum", .free "tuple", .free "zip", .int "PAIR_ratios" 2, .int "PAIR_backward" 2, .int "MOST_SEEN" 5] : List He.Fa)
def tf : List He.Defn := lamDefs.map fun x => (x, none)
def s_init : Stmt := match top 14 with
  | .ClassDef _ _ _ b .. => b.getD 0 (.Pass ⟨0, 0, 0, 0⟩)
  | s => s
def pI : Str × Option Str := ("ClackError", some "__init__")
def ps : List (Str × Option Str) := [pI]
def isV : List IniV := [some ("__init__", "ClackError.__init__", defArgs s_init, .stmts (defBody s_init), defScope s_init, mainGlobals, ["__class__"], builtinsNs)]
def ex (K : Frag) : Bool := [errDB K (He.ga K "ClackError") (He.fAd K pI),
  ini2B K (He.ga K "ClackError") (He.fAd K pI) "ClackError.__init__" "/claim/cut.py",
  tabDB K,
  errCB K (He.ga K "BadMass") (He.ga K "ClackError") (He.fAd K pI),
  errCB K (He.ga K "BadPair") (He.ga K "ClackError") (He.fAd K pI),
  errCB K (He.ga K "NoClack") (He.ga K "ClackError") (He.fAd K pI),
  errCB K (He.ga K "BadSeen") (He.ga K "ClackError") (He.fAd K pI),
  errVB K (He.ga K "NoClack"),
  decide (PySem.W.exmOne K (.ref (He.ga K "NoClack")) (.ref (He.ga K "ClackError")) = some true),
  decide (PySem.W.kitOne K (.ref (He.ga K "NoClack")) (.ref (He.ga K "NoClack")) = some true),
  decide (PySem.W.kitOne K (.type "NoneType") (.ref (He.ga K "NoClack")) = some false)].all id
theorem ex_at {K : Frag} (h : ex K = true) {b : Bool} (i : Nat) (e : [errDB K (He.ga K "ClackError") (He.fAd K pI),
  ini2B K (He.ga K "ClackError") (He.fAd K pI) "ClackError.__init__" "/claim/cut.py",
  tabDB K,
  errCB K (He.ga K "BadMass") (He.ga K "ClackError") (He.fAd K pI),
  errCB K (He.ga K "BadPair") (He.ga K "ClackError") (He.fAd K pI),
  errCB K (He.ga K "NoClack") (He.ga K "ClackError") (He.fAd K pI),
  errCB K (He.ga K "BadSeen") (He.ga K "ClackError") (He.fAd K pI),
  errVB K (He.ga K "NoClack"),
  decide (PySem.W.exmOne K (.ref (He.ga K "NoClack")) (.ref (He.ga K "ClackError")) = some true),
  decide (PySem.W.kitOne K (.ref (He.ga K "NoClack")) (.ref (He.ga K "NoClack")) = some true),
  decide (PySem.W.kitOne K (.type "NoneType") (.ref (He.ga K "NoClack")) = some false)][i]? = some b := by rfl) : b = true := by
  have h2 := List.all_eq_true.mp h b (List.mem_of_getElem? e)
  exact h2
abbrev hk : PySem.W.Hook := hookF 6 fa fn tf ex ps isV
def ob (s : PySem.W.SharedT) : AlF := obsF 6 fa fn tf ex ps (HandSHeadRun.getT s)
theorem ob_eq (s : PySem.W.SharedT) : ob s = hk.obs s.abs := obsF_eq (HandSHeadRun.getT_eq s)
theorem known_cases {k : Str} (h : known k = true) : k = "NoClack" := by
  unfold known at h
  simpa using h
theorem errD_of {K : Frag} {h : Heap} (c : SaysF fa fn tf ex ps isV h K) (h1 : errDB K (He.ga K "ClackError") (He.fAd K pI) = true) (h2 : ini2B K (He.ga K "ClackError") (He.fAd K pI) "ClackError.__init__" "/claim/cut.py" = true) : ErrD LW.prog K (He.ga K "ClackError") (He.fAd K pI) := by
  obtain ⟨a1, a⟩ := He.ba h1
  obtain ⟨a2, a⟩ := He.ba a
  obtain ⟨a3, a4⟩ := He.ba a
  have e : iniV K pI = (some ("__init__", "ClackError.__init__", defArgs s_init, FuncBody.stmts (defBody s_init), defScope s_init, mainGlobals, ["__class__"], builtinsNs) : IniV) := by
    have z := c.ini
    exact (List.cons.inj z).1
  refine ⟨Option.isSome_iff_exists.mp a1, He.eqO_ok a2, He.eqO_ok a3, by decide +kernel, of_decide_eq_true a4, ?_⟩
  obtain ⟨oc, od, doc, pm, ct, an, osl, cc, cda, cl, cld, csl, ccl, cdd, vs, ccs, tk, b1, b2, b3, b4, b5⟩ := ini2_ok e h2
  refine ⟨oc, od, doc, pm, ct, an, osl, cc, cda, _, _, _, _, _, _, _, _, _, _, _, _, cl, cld, csl, ccl, cdd, vs, ccs, _, tk, b1, b2, init_call rfl, fun env => rfl, fun env => rfl, b3, b4, b5, by decide +kernel⟩
theorem factsA {K : Frag} {h : Heap} {mg : Str → Option Value} (KX : K.In h) (G : h.Ns mainGlobals mg) (c : SaysF fa fn tf ex ps isV h K) : FA LW.prog K mg (He.ga K "ClackError") (He.fAd K pI) := by
  have M := c.more
  exact {
    F_is_whole := c.d.def_ 0 (d := d_is_whole) rfl,
    m_is_whole := He.glo_ok KX G (c.d.fact 0 (f := .glo "is_whole") rfl),
    F_common := c.d.def_ 1 (d := d_common) rfl,
    m_common := He.glo_ok KX G (c.d.fact 1 (f := .glo "common") rfl),
    F_ratio := c.d.def_ 2 (d := d_ratio) rfl,
    m_ratio := He.glo_ok KX G (c.d.fact 2 (f := .glo "ratio") rfl),
    F_less := c.d.def_ 3 (d := d_less) rfl,
    m_less := He.glo_ok KX G (c.d.fact 3 (f := .glo "less") rfl),
    F_times := c.d.def_ 4 (d := d_times) rfl,
    m_times := He.glo_ok KX G (c.d.fact 4 (f := .glo "times") rfl),
    F_over := c.d.def_ 5 (d := d_over) rfl,
    m_over := He.glo_ok KX G (c.d.fact 5 (f := .glo "over") rfl),
    F_is_below := c.d.def_ 6 (d := d_is_below) rfl,
    m_is_below := He.glo_ok KX G (c.d.fact 6 (f := .glo "is_below") rfl),
    F_is_ratio := c.d.def_ 7 (d := d_is_ratio) rfl,
    m_is_ratio := He.glo_ok KX G (c.d.fact 7 (f := .glo "is_ratio") rfl),
    F_is_size := c.d.def_ 8 (d := d_is_size) rfl,
    m_is_size := He.glo_ok KX G (c.d.fact 8 (f := .glo "is_size") rfl),
    F_is_tuple := c.d.def_ 9 (d := d_is_tuple) rfl,
    m_is_tuple := He.glo_ok KX G (c.d.fact 9 (f := .glo "is_tuple") rfl),
    F_is_pair_of_ratios := c.d.def_ 10 (d := d_is_pair_of_ratios) rfl,
    m_is_pair_of_ratios := He.glo_ok KX G (c.d.fact 10 (f := .glo "is_pair_of_ratios") rfl),
    F_check_mass := c.d.def_ 11 (d := d_check_mass) rfl,
    m_check_mass := He.glo_ok KX G (c.d.fact 11 (f := .glo "check_mass") rfl),
    F_other_mass := c.d.def_ 12 (d := d_other_mass) rfl,
    m_other_mass := He.glo_ok KX G (c.d.fact 12 (f := .glo "other_mass") rfl),
    F_mass_told := c.d.def_ 13 (d := d_mass_told) rfl,
    m_mass_told := He.glo_ok KX G (c.d.fact 13 (f := .glo "mass_told") rfl),
    F_is_seen := c.d.def_ 14 (d := d_is_seen) rfl,
    m_is_seen := He.glo_ok KX G (c.d.fact 14 (f := .glo "is_seen") rfl),
    F_masses_told := c.d.def_ 15 (d := d_masses_told) rfl,
    m_masses_told := He.glo_ok KX G (c.d.fact 15 (f := .glo "masses_told") rfl),
    F__law_pot := c.d.def_ 16 (d := d__law_pot) rfl,
    m__law_pot := He.glo_ok KX G (c.d.fact 16 (f := .glo "_law_pot") rfl),
    F__law_take := c.d.def_ 17 (d := d__law_take) rfl,
    m__law_take := He.glo_ok KX G (c.d.fact 17 (f := .glo "_law_take") rfl),
    F__law_of := c.d.def_ 18 (d := d__law_of) rfl,
    m__law_of := He.glo_ok KX G (c.d.fact 18 (f := .glo "_law_of") rfl),
    F__law_cells := c.d.def_ 19 (d := d__law_cells) rfl,
    m__law_cells := He.glo_ok KX G (c.d.fact 19 (f := .glo "_law_cells") rfl),
    F__law_heard := c.d.def_ 20 (d := d__law_heard) rfl,
    m__law_heard := He.glo_ok KX G (c.d.fact 20 (f := .glo "_law_heard") rfl),
    F__law_frac_common := c.d.def_ 21 (d := d__law_frac_common) rfl,
    m__law_frac_common := He.glo_ok KX G (c.d.fact 21 (f := .glo "_law_frac_common") rfl),
    F__law_frac := c.d.def_ 22 (d := d__law_frac) rfl,
    m__law_frac := He.glo_ok KX G (c.d.fact 22 (f := .glo "_law_frac") rfl),
    F__law_frac_plus := c.d.def_ 23 (d := d__law_frac_plus) rfl,
    m__law_frac_plus := He.glo_ok KX G (c.d.fact 23 (f := .glo "_law_frac_plus") rfl),
    F__law_frac_less := c.d.def_ 24 (d := d__law_frac_less) rfl,
    m__law_frac_less := He.glo_ok KX G (c.d.fact 24 (f := .glo "_law_frac_less") rfl),
    F__law_frac_times := c.d.def_ 25 (d := d__law_frac_times) rfl,
    m__law_frac_times := He.glo_ok KX G (c.d.fact 25 (f := .glo "_law_frac_times") rfl),
    F__law_frac_over := c.d.def_ 26 (d := d__law_frac_over) rfl,
    m__law_frac_over := He.glo_ok KX G (c.d.fact 26 (f := .glo "_law_frac_over") rfl),
    F__law_frac_is_less := c.d.def_ 27 (d := d__law_frac_is_less) rfl,
    m__law_frac_is_less := He.glo_ok KX G (c.d.fact 27 (f := .glo "_law_frac_is_less") rfl),
    F__law_frac_drawn := c.d.def_ 28 (d := d__law_frac_drawn) rfl,
    m__law_frac_drawn := He.glo_ok KX G (c.d.fact 28 (f := .glo "_law_frac_drawn") rfl),
    F__law_track_joints := c.d.def_ 29 (d := d__law_track_joints) rfl,
    m__law_track_joints := He.glo_ok KX G (c.d.fact 29 (f := .glo "_law_track_joints") rfl),
    F__law_track_clacked := c.d.def_ 30 (d := d__law_track_clacked) rfl,
    m__law_track_clacked := He.glo_ok KX G (c.d.fact 30 (f := .glo "_law_track_clacked") rfl),
    F__law_is := c.d.def_ 31 (d := d__law_is) rfl,
    m__law_is := He.glo_ok KX G (c.d.fact 31 (f := .glo "_law_is") rfl),
    F__law_mass_drawn := c.d.def_ 32 (d := d__law_mass_drawn) rfl,
    m__law_mass_drawn := He.glo_ok KX G (c.d.fact 32 (f := .glo "_law_mass_drawn") rfl),
    F__law_clack_drawn := c.d.def_ 33 (d := d__law_clack_drawn) rfl,
    m__law_clack_drawn := He.glo_ok KX G (c.d.fact 33 (f := .glo "_law_clack_drawn") rfl),
    F__law_due := c.d.def_ 34 (d := d__law_due) rfl,
    m__law_due := He.glo_ok KX G (c.d.fact 34 (f := .glo "_law_due") rfl),
    F__law_is_told := c.d.def_ 35 (d := d__law_is_told) rfl,
    m__law_is_told := He.glo_ok KX G (c.d.fact 35 (f := .glo "_law_is_told") rfl),
    F__law_near := c.d.def_ 36 (d := d__law_near) rfl,
    m__law_near := He.glo_ok KX G (c.d.fact 36 (f := .glo "_law_near") rfl),
    F__law_row_due := c.d.def_ 37 (d := d__law_row_due) rfl,
    m__law_row_due := He.glo_ok KX G (c.d.fact 37 (f := .glo "_law_row_due") rfl),
    F__law_right := c.d.def_ 38 (d := d__law_right) rfl,
    m__law_right := He.glo_ok KX G (c.d.fact 38 (f := .glo "_law_right") rfl),
    F_law := c.d.def_ 39 (d := d_law) rfl,
    m_law := He.glo_ok KX G (c.d.fact 39 (f := .glo "law") rfl),
    n_abs := He.free_ok KX G (c.d.fact 45 (f := .free "abs") rfl),
    n_all := He.free_ok KX G (c.d.fact 46 (f := .free "all") rfl),
    n_bool := He.free_ok KX G (c.d.fact 47 (f := .free "bool") rfl),
    n_int := He.free_ok KX G (c.d.fact 48 (f := .free "int") rfl),
    n_isinstance := He.free_ok KX G (c.d.fact 49 (f := .free "isinstance") rfl),
    n_len := He.free_ok KX G (c.d.fact 50 (f := .free "len") rfl),
    n_list := He.free_ok KX G (c.d.fact 51 (f := .free "list") rfl),
    n_max := He.free_ok KX G (c.d.fact 52 (f := .free "max") rfl),
    n_min := He.free_ok KX G (c.d.fact 53 (f := .free "min") rfl),
    n_range := He.free_ok KX G (c.d.fact 54 (f := .free "range") rfl),
    n_repr := He.free_ok KX G (c.d.fact 55 (f := .free "repr") rfl),
    n_str := He.free_ok KX G (c.d.fact 56 (f := .free "str") rfl),
    n_sum := He.free_ok KX G (c.d.fact 57 (f := .free "sum") rfl),
    n_tuple := He.free_ok KX G (c.d.fact 58 (f := .free "tuple") rfl),
    n_zip := He.free_ok KX G (c.d.fact 59 (f := .free "zip") rfl),
    g_PAIR_ratios := (He.int_ok KX G (c.d.fact 60 (f := .int "PAIR_ratios" 2) rfl)).elim fun t e => ⟨_, .int 2, e, ⟨t, rfl⟩, fun _ _ => .int⟩,
    g_PAIR_backward := (He.int_ok KX G (c.d.fact 61 (f := .int "PAIR_backward" 2) rfl)).elim fun t e => ⟨_, .int 2, e, ⟨t, rfl⟩, fun _ _ => .int⟩,
    g_MOST_SEEN := (He.int_ok KX G (c.d.fact 62 (f := .int "MOST_SEEN" 5) rfl)).elim fun t e => ⟨_, .int 5, e, ⟨t, rfl⟩, fun _ _ => .int⟩,
    TD := errD_of c (ex_at M 0) (ex_at M 1),
    m_ClackError := He.glo_ok KX G (c.d.fact 40 (f := .glo "ClackError") rfl),
    m_BadMass := He.glo_ok KX G (c.d.fact 41 (f := .glo "BadMass") rfl),
    x_BadMass := errC_ok (ex_at M 3),
    m_BadPair := He.glo_ok KX G (c.d.fact 42 (f := .glo "BadPair") rfl),
    x_BadPair := errC_ok (ex_at M 4),
    m_NoClack := He.glo_ok KX G (c.d.fact 43 (f := .glo "NoClack") rfl),
    x_NoClack := errC_ok (ex_at M 5),
    m_BadSeen := He.glo_ok KX G (c.d.fact 44 (f := .glo "BadSeen") rfl),
    x_BadSeen := errC_ok (ex_at M 6),
    kk_NoClack := (fun k hk => by
      have hk' := known_cases hk
      rcases hk' with rfl
      · exact ⟨errV_ok (ex_at M 7), of_decide_eq_true (ex_at M 9)⟩),
    no_NoClack := of_decide_eq_true (ex_at M 10),
    known_v := (fun k hk => by
      have hk' := known_cases hk
      rcases hk' with rfl
      · exact errV_ok (ex_at M 7)),
    hkn := (fun k hk => by
      have hk' := known_cases hk
      rcases hk' with rfl
      · exact of_decide_eq_true (ex_at M 8)),
    hu := tabD_ok (ex_at M 2) }
theorem facts {w : World} {mg : Str → Option Value} {fa' : Addr} {h : Heap} (Y : hk.says w h) (G : h.Ns mainGlobals mg) (hfa : mg ("law" : Str) = some (.ref fa')) : ∃ (K : Frag) (fd : FuncData) (cs : List (Addr × Addr)), K.In h ∧
      (∀ p ∈ cs, h.get? p.2 = some { cls := .none, data := .fields #[] }) ∧ (∀ p ∈ cs, K.lookup p.2 = none) ∧ (∀ p ∈ cs, CodeHd h p.1 p.2) ∧ (∀ p ∈ TB K, ∃ c, (c, p.1) ∈ cs) ∧
      (∀ (s : Shared) (u : Value), BindsTo s fd ⟨[u], []⟩ [("script", u)]) ∧
      ∀ base : Heap, K.In base → base.Ns mainGlobals mg → (∀ p ∈ cs, LamX.TabB base mg p.1 p.2) → FnC LW.prog w K mg base true 12 fa' fd ["script"] (spM K 1 m_law) := by
  obtain ⟨K, KX, c⟩ := Y
  have A := factsA KX G c
  obtain ⟨fd, F⟩ := A.F_law
  have e := hfa.symm.trans A.m_law
  cases e
  have b := FunD.bindsA (ps := ["script"]) F fun _ _ _ _ _ _ us hl => match us, hl with | [_], _ => rfl
  refine ⟨K, fd, tf.map (He.cT K), KX, fun p hp => ?_, fun p hp => ?_, fun p hp => ?_, fun p hp => ?_, fun s v => b s [v] rfl, fun base _ _ hT => okc_law A (fun x hx => hT (He.cT K (x, none)) (List.mem_map.mpr ⟨(x, none), List.mem_map.mpr ⟨x, hx, rfl⟩, rfl⟩)) F⟩
  · obtain ⟨q, hq, rfl⟩ := List.mem_map.mp hp
    exact c.empty q hq
  · obtain ⟨q, hq, rfl⟩ := List.mem_map.mp hp
    exact c.out q hq
  · obtain ⟨q, hq, rfl⟩ := List.mem_map.mp hp
    exact codeHd_of_K KX (c.hd q hq)
  · obtain ⟨x, hx, rfl⟩ := List.mem_map.mp hp
    exact ⟨_, List.mem_map.mpr ⟨(x, none), List.mem_map.mpr ⟨x, hx, rfl⟩, rfl⟩⟩
end K35
set_option Elab.async false
set_option linter.all false
set_option maxRecDepth 100000
set_option maxHeartbeats 0
namespace K35
open PySem PySem.Spec PySem.W L2 Fw
theorem run (w : World) : HandSHeadRun.RunEq R qv hk ob 6000 names w := by
  intro os
  kernel_rfl
end K35
open PySem PySem.W PySem.Calls PyProof.Rows
theorem PySem.Challenge.cw_sameclacks_k35_whole_masses_told_back_fr_holds : PySem.Challenge.rw_sameclacks_k35_whole_masses_told_back_fr.Holds := by
  w_on; o_law
  refine HandSHeadRun.head_any (r := K35.R) (q := K35.qv) (H := K35.hk) (ob := K35.ob) (M := 6000) (loose := K35.names) (d := HandSHeadRun.topDef K35.R.prog 52) (kwd := []) K35.ob_eq
    (by kernel_rfl) (fun s => by kernel_rfl) K35.run (by kernel_rfl) (by kernel_rfl) (by kernel_rfl) (by rfl) (by first | assumption | decide +kernel) (by decide +kernel) ⟨rfl, rfl, rfl, rfl, rfl, by decide +kernel⟩ ?hw ?hc
  case hw => w_witness2
  case hc =>
    refine Fw.walk_law (l := K35.LW) (n := 63) (k := 12) (x := "script") (m := K35.m_law) rfl (by decide) (by kernel_rfl) ⟨⟨rfl, by decide, by decide⟩, fun _ => rfl⟩ K35.hlaw fun w mg fa h Y G hmg0 => ?_
    have hmg : mg ("law" : PySem.Str) = some (.ref fa) := by
      have e : (HandSHeadRun.topDef K35.R.prog 52).name = ("law" : PySem.Str) := by kernel_rfl
      rw [← e]
      exact hmg0
    exact K35.facts Y G hmg
