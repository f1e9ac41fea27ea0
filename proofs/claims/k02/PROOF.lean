import PyProof.Rows.All
import Wide.All
import OpenK.AllK
import Wide.FinOn
import HandS.ForMost
import HandS.ForExc
import HandS.IsInst
import HandS.Deep
import HandS.TupAny
import HandS.Style
import HandS.Flow
import HandS.Conv
import KE.SortData
import KE.SortKeyHeap
import KE.DataFind
import HandS.Defaults
import KE.KSortKey
import KE.KSortKeySt
import HandS.SortKw
import HandS.Strs
import HandS.Words
import HandS.HeadEnd
import HandS.HeadHook1
import HandS.HeadHook2
import HandS.HeadHook3
import HandS.HeadHook4
import HandS.Head0
import HandS.Head1
import HandS.Head2
import HandS.More
import PySem.Challenge.RW_meetingsjoin_k02_whole_known_by_all_worl
set_option Elab.async false
set_option linter.all false
set_option maxRecDepth 100000
set_option autoImplicit false
/-! Data in the place of heaps: values as PyData, environments, results; how a heap bears them (Rp), how a frame bears an environment (Fit). -/
namespace Dt
open PySem PySem.Spec PyProof.Rows L2

abbrev D := PyData
abbrev St := L2.St
abbrev Ev := List (Option D)
abbrev Fg := PySem.W.Frag
abbrev Av := Addr → Prop

/-! ### results -/
inductive R (α : Type) where
  | ok (a : α)
  | exc (c : Str)
  | no

namespace R
def bind {α β : Type} : R α → (α → R β) → R β
  | ok a, f => f a
  | exc c, _ => exc c
  | no, _ => no
@[simp] theorem ok_bind {α β : Type} (a : α) (f : α → R β) : (ok a).bind f = f a := rfl
@[simp] theorem exc_bind {α β : Type} (c : Str) (f : α → R β) : (exc c : R α).bind f = exc c := rfl
@[simp] theorem no_bind {α β : Type} (f : α → R β) : (no : R α).bind f = no := rfl
/-- what is asked of a result -/
def post {α : Type} (m : R α) (Q : α → Prop) (X : Str → Prop) : Prop := match m with
  | ok a => Q a
  | exc c => X c
  | no => False
theorem post_bind {α β : Type} {m : R α} {f : α → R β} {Q : β → Prop} {X : Str → Prop} (h : (m.bind f).post Q X) : m.post (fun a => (f a).post Q X) X := by
  cases m with
  | ok a => exact h
  | exc c => exact h
  | no => exact h
theorem post_imp {α : Type} {m : R α} {Q Q' : α → Prop} {X X' : Str → Prop} (h : m.post Q X) (hq : ∀ a, m = ok a → Q a → Q' a) (hx : ∀ c, X c → X' c) : m.post Q' X' := by
  cases m with
  | ok a => exact hq a rfl h
  | exc c => exact hx c h
  | no => exact h
theorem pimp {α : Type} {m : R α} {Q Q' : α → Prop} {X X' : Str → Prop} (h : m.post Q X) (hq : ∀ a, Q a → Q' a) (hx : ∀ c, X c → X' c) : m.post Q' X' := post_imp h (fun a _ => hq a) hx
/-- an exception is not served here -/
def nox {α : Type} : R α → R α
  | ok a => ok a
  | _ => no
@[simp] theorem nox_ok {α : Type} (a : α) : (ok a).nox = ok a := rfl
theorem post_nox {α : Type} {m : R α} {Q : α → Prop} {X X' : Str → Prop} (h : m.nox.post Q X) : m.post Q X' := by
  cases m with
  | ok a => exact h
  | exc c => exact h.elim
  | no => exact h
def guard (b : Bool) : R Unit := if b then ok () else no
@[simp] theorem guard_true : guard true = ok () := rfl
@[simp] theorem guard_false : guard false = no := rfl
def opt {α : Type} : Option α → R α
  | some a => ok a
  | none => no
@[simp] theorem opt_some {α : Type} (a : α) : opt (some a) = ok a := rfl
@[simp] theorem opt_none {α : Type} : opt (none : Option α) = no := rfl
end R
open R

/-! ### keys -/
def kD : Key → D
  | .inl i => .int i
  | .inr x => .str x
def kT (k : List Key) : D := .tuple (k.map kD)
/-- the mark of a dict with tuples as keys, ahead of its entries -/
def tH : D × D := (.bool true, .none)

/-! ### how a heap bears data; the addresses of M are not leaned upon -/
def SLm (K : Fg) (H : Hp) (M : Av) (a : Addr) (xs : List V) : Prop :=
  Rd H a (.lst xs) ∧ ¬ M a
/-- the law's script, as a datum that no other rule knows -/
def scrD (ns : List Int) : D := .dict [(.none, .list (ns.map .int))]
def SQm (K : Fg) (H : Hp) (M : Av) (a : Addr) (xs : List V) : Prop :=
  (Rd H a (.lst xs) ∧ ¬ M a) ∨ ∃ (o : Obj) (its : Array Value) (n : Nat), K.lookup a = some o ∧ o.cls = .type "list" ∧ o.dict = none ∧ o.data = .seq its n ∧ its.size ≤ sizeLine ∧ Vals xs its.toList
/-- a tuple whose object is known -/
def Tp (H : Hp) (a : Addr) (xs : List V) : Prop := ∃ o : Obj, H a = some (.frz o (.tup xs)) ∧ o.dict = none
def STm (K : Fg) (H : Hp) (M : Av) (a : Addr) (xs : List V) : Prop :=
  (Tp H a xs ∧ ¬ M a) ∨ ∃ (o : Obj) (its : Array Value) (n : Nat), K.lookup a = some o ∧ o.dict = none ∧ o.cls = .type "tuple" ∧ o.data = .seq its n ∧ its.size ≤ sizeLine ∧ Vals xs its.toList

mutual
inductive Rp (K : Fg) (H : Hp) (M : Av) : V → D → Prop
  | non : Rp K H M .non .none
  | bl (b : Bool) : Rp K H M (.bl b) (.bool b)
  | int (i : Int) : Rp K H M (.int i) (.int i)
  | str (x : Str) : Rp K H M (.str x) (.str x)
  | lst {a : Addr} {xs : List V} {ds : List D} : SLm K H M a xs → RpAll K H M xs ds → Rp K H M (.ref a) (.list ds)
  | tup {a : Addr} {xs : List V} {ds : List D} : STm K H M a xs → RpAll K H M xs ds → Rp K H M (.ref a) (.tuple ds)
  | dcK {a : Addr} {kvs : List (Key × V)} {es : List (D × D)} : Rd H a (.dK kvs) → ¬ M a → RpK K H M kvs es → Rp K H M (.ref a) (.dict es)
  | dcT {a : Addr} {kvs : List (List Key × V)} {es : List (D × D)} : Rd H a (.dT kvs) → ¬ M a → RpT K H M kvs es → Rp K H M (.ref a) (.dict (tH :: es))
  | scr {a : Addr} {ns : List Int} : SQm K H M a (ns.map V.int) → Rp K H M (.ref a) (scrD ns)
inductive RpAll (K : Fg) (H : Hp) (M : Av) : List V → List D → Prop
  | nil : RpAll K H M [] []
  | cons {v : V} {vs : List V} {d : D} {ds : List D} : Rp K H M v d → RpAll K H M vs ds → RpAll K H M (v :: vs) (d :: ds)
inductive RpK (K : Fg) (H : Hp) (M : Av) : List (Key × V) → List (D × D) → Prop
  | nil : RpK K H M [] []
  | cons {k : Key} {v : V} {kvs : List (Key × V)} {d : D} {es : List (D × D)} : Rp K H M v d → RpK K H M kvs es → RpK K H M ((k, v) :: kvs) ((kD k, d) :: es)
inductive RpT (K : Fg) (H : Hp) (M : Av) : List (List Key × V) → List (D × D) → Prop
  | nil : RpT K H M [] []
  | cons {k : List Key} {v : V} {kvs : List (List Key × V)} {d : D} {es : List (D × D)} : Rp K H M v d → RpT K H M kvs es → RpT K H M ((k, v) :: kvs) ((kT k, d) :: es)
end

section
variable {K : Fg} {H H' : Hp} {M M' : Av} {a p : Addr} {v : V} {d : D} {xs : List V} {ds : List D}

theorem SLm.sq (h : SLm K H M a xs) : SqL K H a xs := .inl h.1
theorem SQm.sq (h : SQm K H M a xs) : SqL K H a xs := h.imp (fun x => x.1) id
theorem Tp.rd (h : Tp H a xs) : Rd H a (.tup xs) := let ⟨o, e, _⟩ := h; .inr ⟨o, e⟩
theorem STm.sq (h : STm K H M a xs) : SqT K H a xs := h.imp (fun x => x.1.rd) fun ⟨o, its, n, e, _, r⟩ => ⟨o, its, n, e, r⟩

/-- heaps that agree where M is not -/
def Fra (A : Av) (H H' : Hp) : Prop := ∀ b o, H b = some o → ¬ A b → H' b = some o
theorem Fra.refl {A : Av} : Fra A H H := fun _ _ e _ => e
theorem Fra.of_same {A : Av} (h : Same H H') : Fra A H H' := fun b o e _ => h b o e
theorem Fra.same (h : Fra (fun _ => False) H H') : Same H H' := fun b o e => h b o e id
theorem Fra.trans {A : Av} {H1 H2 : Hp} (f : Fra A H H1) (g : Fra A H1 H2) : Fra A H H2 := fun b o e n => g b o (f b o e n) n
theorem Fra.mono {A B : Av} (f : Fra A H H') (h : ∀ b, A b → B b) : Fra B H H' := fun b o e n => f b o e fun z => n (h b z)
theorem Fra.rd {A : Av} {u : HO} (f : Fra A H H') (r : Rd H a u) (n : ¬ A a) : Rd H' a u := by
  rcases r with r | ⟨o, r⟩
  · exact .inl (f _ _ r n)
  · exact .inr ⟨o, f _ _ r n⟩
theorem Fra.new {A : Av} {o : HO} (h : H p = none) : Fra A H (upd H p o) := fun b u e _ => by rw [upd_ne (ne_of_none e h)]; exact e

/-- what may be locked -/
def Lkb : HO → Bool
  | .dK _ => true
  | .dT _ => true
  | _ => false
/-- what is borne stays so -/
structure Carry (K : Fg) (H H' : Hp) (M M' : Av) : Prop where
  ex : ∀ a o, H a = some o → ¬ M a → (H' a = some o ∨ ∃ f, Lkb o = true ∧ H' a = some (.frz f o)) ∧ ¬ M' a
theorem Carry.rd (c : Carry K H H' M M') (a : Addr) (u : HO) (r : Rd H a u) (n : ¬ M a) : Rd H' a u ∧ ¬ M' a := by
  rcases r with r | ⟨o, r⟩
  · obtain ⟨h1, h2⟩ := c.ex a _ r n
    refine ⟨?_, h2⟩
    rcases h1 with h1 | ⟨f, e, h1⟩
    · exact .inl h1
    · exact .inr ⟨f, h1⟩
  · obtain ⟨h1, h2⟩ := c.ex a _ r n
    refine ⟨?_, h2⟩
    rcases h1 with h1 | ⟨f, e, h1⟩
    · exact .inr ⟨o, h1⟩
    · cases e
theorem Carry.tp (c : Carry K H H' M M') (a : Addr) (xs : List V) (r : Tp H a xs) (n : ¬ M a) : Tp H' a xs ∧ ¬ M' a := by
  obtain ⟨o, e, d⟩ := r
  obtain ⟨h1, h2⟩ := c.ex a _ e n
  refine ⟨?_, h2⟩
  rcases h1 with h1 | ⟨f, e, h1⟩
  · exact ⟨o, h1, d⟩
  · cases e

mutual
theorem Rp.carry (c : Carry K H H' M M') : ∀ {v : V} {d : D}, Rp K H M v d → Rp K H' M' v d
  | _, _, .non => .non
  | _, _, .bl b => .bl b
  | _, _, .int i => .int i
  | _, _, .str x => .str x
  | _, _, .lst h r => .lst (c.rd _ _ h.1 h.2) (RpAll.carry c r)
  | _, _, .tup h r => .tup (h.imp (fun z => c.tp _ _ z.1 z.2) id) (RpAll.carry c r)
  | _, _, .dcK h n r => .dcK (c.rd _ _ h n).1 (c.rd _ _ h n).2 (RpK.carry c r)
  | _, _, .dcT h n r => .dcT (c.rd _ _ h n).1 (c.rd _ _ h n).2 (RpT.carry c r)
  | _, _, .scr h => .scr (h.imp (fun z => c.rd _ _ z.1 z.2) id)
theorem RpAll.carry (c : Carry K H H' M M') : ∀ {xs : List V} {ds : List D}, RpAll K H M xs ds → RpAll K H' M' xs ds
  | _, _, .nil => .nil
  | _, _, .cons h r => .cons (Rp.carry c h) (RpAll.carry c r)
theorem RpK.carry (c : Carry K H H' M M') : ∀ {kvs : List (Key × V)} {es : List (D × D)}, RpK K H M kvs es → RpK K H' M' kvs es
  | _, _, .nil => .nil
  | _, _, .cons h r => .cons (Rp.carry c h) (RpK.carry c r)
theorem RpT.carry (c : Carry K H H' M M') : ∀ {kvs : List (List Key × V)} {es : List (D × D)}, RpT K H M kvs es → RpT K H' M' kvs es
  | _, _, .nil => .nil
  | _, _, .cons h r => .cons (Rp.carry c h) (RpT.carry c r)
end

theorem Carry.fra {A : Av} (f : Fra A H H') (h : ∀ b, A b → M b) : Carry K H H' M M := ⟨fun a u r n => ⟨.inl (f a u r fun z => n (h a z)), n⟩⟩
theorem Carry.weak (h : ∀ b, M' b → M b) : Carry K H H M M' := ⟨fun a u r n => ⟨.inl r, fun z => n (h a z)⟩⟩
def Av.add (M : Av) (p : Addr) : Av := fun b => M b ∨ b = p
theorem Carry.add (h : H p = none) : Carry K H H M (M.add p) := ⟨fun a u r n => ⟨.inl r, fun z => z.elim n fun e => by
  subst e
  rw [h] at r; cases r⟩⟩
theorem Carry.trans {M1 M2 : Av} {H1 H2 : Hp} (a : Carry K H H1 M M1) (b : Carry K H1 H2 M1 M2) : Carry K H H2 M M2 := ⟨fun x u r n => by
  obtain ⟨h1, h2⟩ := a.ex x u r n
  rcases h1 with h1 | ⟨f, e, h1⟩
  · exact b.ex x u h1 h2
  · obtain ⟨h3, h4⟩ := b.ex x _ h1 h2
    refine ⟨.inr ⟨f, e, ?_⟩, h4⟩
    rcases h3 with h3 | ⟨_, e', _⟩
    · exact h3
    · cases e'⟩

theorem RpAll.length : ∀ {xs : List V} {ds : List D}, RpAll K H M xs ds → xs.length = ds.length
  | _, _, .nil => rfl
  | _, _, .cons _ r => congrArg (· + 1) r.length
theorem RpAll.get : ∀ {xs : List V} {ds : List D} {i : Nat} {d : D}, RpAll K H M xs ds → ds[i]? = some d → ∃ v, xs[i]? = some v ∧ Rp K H M v d
  | _, _, i, _, .nil, e => by simp at e
  | _, _, 0, _, .cons h _, e => by simp at e; subst e; exact ⟨_, rfl, h⟩
  | _, _, i + 1, d, .cons _ r, e => by
    obtain ⟨v, h1, h2⟩ := RpAll.get (i := i) (d := d) r (by simpa using e)
    exact ⟨v, by simpa using h1, h2⟩
theorem RpAll.getV : ∀ {xs : List V} {ds : List D} {i : Nat} {v : V}, RpAll K H M xs ds → xs[i]? = some v → ∃ d, ds[i]? = some d ∧ Rp K H M v d
  | _, _, i, _, .nil, e => by simp at e
  | _, _, 0, _, .cons h _, e => by simp at e; subst e; exact ⟨_, rfl, h⟩
  | _, _, i + 1, d, .cons _ r, e => by
    obtain ⟨v, h1, h2⟩ := RpAll.getV (i := i) (v := d) r (by simpa using e)
    exact ⟨v, by simpa using h1, h2⟩
theorem RpAll.append : ∀ {xs ys : List V} {ds es : List D}, RpAll K H M xs ds → RpAll K H M ys es → RpAll K H M (xs ++ ys) (ds ++ es)
  | _, _, _, _, .nil, s => s
  | _, _, _, _, .cons h r, s => .cons h (RpAll.append r s)
theorem RpAll.take : ∀ {xs : List V} {ds : List D} (n : Nat), RpAll K H M xs ds → RpAll K H M (xs.take n) (ds.take n)
  | _, _, 0, _ => by simp; exact .nil
  | _, _, _ + 1, .nil => .nil
  | _, _, n + 1, .cons h r => .cons h (RpAll.take n r)
theorem RpAll.drop : ∀ {xs : List V} {ds : List D} (n : Nat), RpAll K H M xs ds → RpAll K H M (xs.drop n) (ds.drop n)
  | _, _, 0, r => r
  | _, _, _ + 1, .nil => .nil
  | _, _, n + 1, .cons _ r => RpAll.drop n r
theorem RpAll.reverse {xs : List V} {ds : List D} (h : RpAll K H M xs ds) : RpAll K H M xs.reverse ds.reverse := by
  induction xs generalizing ds with
  | nil => cases h; exact .nil
  | cons v xs ih => cases h with | cons h r => rw [List.reverse_cons, List.reverse_cons]; exact (ih r).append (.cons h .nil)
theorem RpAll.set : ∀ {xs : List V} {ds : List D} {v : V} {d : D} (i : Nat), RpAll K H M xs ds → Rp K H M v d → RpAll K H M (xs.set i v) (ds.set i d)
  | _, _, _, _, _, .nil, _ => .nil
  | _, _, _, _, 0, .cons _ r, h => .cons h r
  | _, _, _, _, i + 1, .cons q r, h => .cons q (RpAll.set i r h)
theorem RpAll.dropLast {xs : List V} {ds : List D} (h : RpAll K H M xs ds) : RpAll K H M xs.dropLast ds.dropLast := by
  rw [List.dropLast_eq_take, List.dropLast_eq_take, h.length]; exact h.take _
theorem RpAll.eraseIdx : ∀ {xs : List V} {ds : List D} (i : Nat), RpAll K H M xs ds → RpAll K H M (xs.eraseIdx i) (ds.eraseIdx i)
  | _, _, _, .nil => .nil
  | _, _, 0, .cons _ r => r
  | _, _, i + 1, .cons h r => .cons h (RpAll.eraseIdx i r)
theorem RpAll.one (h : Rp K H M v d) : RpAll K H M [v] [d] := .cons h .nil
end

/-! ### data that may be an own object of the frame at the top -/
inductive Rt (K : Fg) (H : Hp) (M : Av) : V → D → Prop
  | of {v : V} {d : D} : Rp K H M v d → Rt K H M v d
  | lst {a : Addr} {xs : List V} {ds : List D} : Rd H a (.lst xs) → RpAll K H M xs ds → Rt K H M (.ref a) (.list ds)
  | dcK {a : Addr} {kvs : List (Key × V)} {es : List (D × D)} : Rd H a (.dK kvs) → RpK K H M kvs es → Rt K H M (.ref a) (.dict es)
  | dcT {a : Addr} {kvs : List (List Key × V)} {es : List (D × D)} : Rd H a (.dT kvs) → RpT K H M kvs es → Rt K H M (.ref a) (.dict (tH :: es))
def Rx (r : Bool) (K : Fg) (H : Hp) (M : Av) (v : V) (d : D) : Prop := if r then Rt K H M v d else Rp K H M v d

section
variable {K : Fg} {H H' : Hp} {M M' : Av} {a p : Addr} {v : V} {d : D} {xs : List V} {ds : List D}
theorem Rx.t {r : Bool} (h : Rx r K H M v d) : Rt K H M v d := by
  cases r with
  | true => exact h
  | false => exact .of h
theorem Rp.x {r : Bool} (h : Rp K H M v d) : Rx r K H M v d := by
  cases r with
  | true => exact Rt.of h
  | false => exact h
theorem rd_same {u : HO} (s : Same H H') (h : Rd H a u) : Rd H' a u := by
  rcases h with h | ⟨o, h⟩
  · exact .inl (s _ _ h)
  · exact .inr ⟨o, s _ _ h⟩
theorem Carry.same (s : Same H H') : Carry K H H' M M := ⟨fun a u r n => ⟨.inl (s a u r), n⟩⟩
theorem Rt.same (s : Same H H') (h : Rt K H M v d) : Rt K H' M v d := by
  have c : Carry K H H' M M := Carry.same s
  cases h with
  | of h => exact .of (Rp.carry c h)
  | lst h r => exact .lst (rd_same s h) (RpAll.carry c r)
  | dcK h r => exact .dcK (rd_same s h) (RpK.carry c r)
  | dcT h r => exact .dcT (rd_same s h) (RpT.carry c r)
theorem scr_ne {ns : List Int} : ∀ {kvs : List (Key × V)} {es : List (D × D)}, RpK K H M kvs es → scrD ns ≠ .dict es
  | _, _, .nil => fun e => by injection e with e; cases e
  | _, _, .cons (k := k) _ _ => fun e => by
    injection e with e
    injection e with e _
    injection e with e _
    cases k <;> cases e
theorem Rt.scr {ns : List Int} (h : Rt K H M v (scrD ns)) : ∃ a, v = .ref a ∧ SqL K H a (ns.map V.int) := by
  generalize e : scrD ns = d at h
  cases h with
  | of h =>
    cases h with
    | scr h =>
      have e2 : ∀ ms : List Int, scrD ns = scrD ms → ns = ms := fun ms z => by
        injection z with z
        injection z with z _
        injection z with _ z
        injection z with z
        exact (List.map_inj_right (fun a b z => by injection z)).mp z
      rw [e2 _ e]
      exact ⟨_, rfl, h.sq⟩
    | dcK _ _ r => exact (scr_ne r e).elim
    | dcT _ _ r => cases e
    | _ => cases e
  | dcK _ r => exact (scr_ne r e).elim
  | dcT _ r => cases e
  | lst _ _ => cases e
/-- a list that is read -/
theorem Rt.list (h : Rt K H M v (.list ds)) : ∃ a xs, v = .ref a ∧ Rd H a (.lst xs) ∧ RpAll K H M xs ds := by
  cases h with
  | of h => cases h with | lst h r => exact ⟨_, _, rfl, h.1, r⟩
  | lst h r => exact ⟨_, _, rfl, h, r⟩
theorem Rt.tuple (h : Rt K H M v (.tuple ds)) : ∃ a xs, v = .ref a ∧ STm K H M a xs ∧ RpAll K H M xs ds := by
  cases h with
  | of h => cases h with | tup h r => exact ⟨_, _, rfl, h, r⟩
theorem Rt.int {i : Int} (h : Rt K H M v (.int i)) : v = .int i := by
  cases h with
  | of h => cases h with | int => rfl
theorem Rt.str {x : Str} (h : Rt K H M v (.str x)) : v = .str x := by
  cases h with
  | of h => cases h with | str => rfl
theorem Rt.bl {b : Bool} (h : Rt K H M v (.bool b)) : v = .bl b := by
  cases h with
  | of h => cases h with | bl => rfl
theorem Rt.non (h : Rt K H M v .none) : v = .non := by
  cases h with
  | of h => cases h with | non => rfl
end

/-! ### what a frame's slots bear -/
inductive OwnAt (K : Fg) (H : Hp) (M : Av) (a : Addr) : D → Prop
  | lst {xs : List V} {ds : List D} : H a = some (.lst xs) → RpAll K H M xs ds → OwnAt K H M a (.list ds)
  | dcK {kvs : List (Key × V)} {es : List (D × D)} : H a = some (.dK kvs) → RpK K H M kvs es → OwnAt K H M a (.dict es)
  | dcT {kvs : List (List Key × V)} {es : List (D × D)} : H a = some (.dT kvs) → RpT K H M kvs es → OwnAt K H M a (.dict (tH :: es))
theorem OwnAt.t {K : Fg} {H : Hp} {M : Av} {a : Addr} {d : D} (h : OwnAt K H M a d) : Rt K H M (.ref a) d := by
  cases h with
  | lst h r => exact .lst (.inl h) r
  | dcK h r => exact .dcK (.inl h) r
  | dcT h r => exact .dcT (.inl h) r
theorem OwnAt.carry {K : Fg} {H H' : Hp} {M M' : Av} {a : Addr} {d : D} (h : OwnAt K H M a d) (c : Carry K H H' M M') (e : ∀ o, H a = some o → H' a = some o) : OwnAt K H' M' a d := by
  cases h with
  | lst h r => exact .lst (e _ h) (RpAll.carry c r)
  | dcK h r => exact .dcK (e _ h) (RpK.carry c r)
  | dcT h r => exact .dcT (e _ h) (RpT.carry c r)

abbrev As := List (Nat × Addr)
def As.has (A : As) : Av := fun b => ∃ i, (i, b) ∈ A
def Trk (M : Av) (H : Hp) : Prop := ∀ a, M a → ∃ o, H a = some o
theorem Trk.same {M : Av} {H H' : Hp} (t : Trk M H) (s : Same H H') : Trk M H' := fun a m => let ⟨o, e⟩ := t a m; ⟨o, s _ _ e⟩
theorem Trk.ne {M : Av} {H : Hp} {p : Addr} (t : Trk M H) (h : H p = none) : ¬ M p := fun m => by
  obtain ⟨o, e⟩ := t p m
  rw [h] at e; cases e
theorem Trk.add {M : Av} {H : Hp} {p : Addr} {o : HO} (t : Trk M H) (h : H p = some o) : Trk (M.add p) H := fun a m => m.elim (t a) fun e => by subst e; exact ⟨o, h⟩

structure Fit (K : Fg) (M : Av) (A : As) (σ : St) (H : Hp) (ρ : Ev) : Prop where
  len : σ.length = ρ.length
  trk : Trk M H
  sub : ∀ p ∈ A, M p.2
  nd : (A.map (·.2)).Nodup
  own : ∀ p ∈ A, σ[p.1]? = some (some (.ref p.2)) ∧ ∃ d, ρ[p.1]? = some (some d) ∧ OwnAt K H M p.2 d
  shr : ∀ (i : Nat) (d : D), ρ[i]? = some (some d) → (∀ a, (i, a) ∉ A) → ∃ v, σ[i]? = some (some v) ∧ Rp K H M v d

section
variable {K : Fg} {M M' : Av} {A : As} {σ : St} {H H' : Hp} {ρ : Ev}
theorem Fit.has (f : Fit K M A σ H ρ) : ∀ b, A.has b → M b := fun b ⟨i, h⟩ => f.sub (i, b) h
theorem Fit.same (f : Fit K M A σ H ρ) (s : Same H H') : Fit K M A σ H' ρ where
  len := f.len
  trk := f.trk.same s
  sub := f.sub
  nd := f.nd
  own := fun p hp => let ⟨h1, d, h2, h3⟩ := f.own p hp; ⟨h1, d, h2, h3.carry (Carry.same s) fun o e => s _ _ e⟩
  shr := fun i d e n => let ⟨v, h1, h2⟩ := f.shr i d e n; ⟨v, h1, Rp.carry (Carry.same s) h2⟩
theorem Fit.addM {p : Addr} {o : HO} (f : Fit K M A σ H ρ) (h : H p = none) : Fit K (M.add p) A σ (upd H p o) ρ := by
  have s : Same H (upd H p o) := fun b u e => by rw [upd_ne (ne_of_none e h)]; exact e
  have c : Carry K H (upd H p o) M (M.add p) := (Carry.add h).trans (Carry.same s)
  exact ⟨f.len, (f.trk.same s).add upd_same, fun q hq => .inl (f.sub q hq), f.nd,
    fun q hq => let ⟨h1, d, h2, h3⟩ := f.own q hq; ⟨h1, d, h2, h3.carry c fun o e => s _ _ e⟩,
    fun i d e n => let ⟨v, h1, h2⟩ := f.shr i d e n; ⟨v, h1, Rp.carry c h2⟩⟩
/-- an address less is avoided -/
theorem Fit.weakM (f : Fit K M A σ H ρ) (h : ∀ b, M' b → M b) (hs : ∀ p ∈ A, M' p.2) : Fit K M' A σ H ρ :=
  ⟨f.len, fun a m => f.trk a (h a m), hs, f.nd, fun q hq => let ⟨h1, d, h2, h3⟩ := f.own q hq; ⟨h1, d, h2, h3.carry (Carry.weak h) fun _ e => e⟩,
    fun i d e n => let ⟨v, h1, h2⟩ := f.shr i d e n; ⟨v, h1, Rp.carry (Carry.weak h) h2⟩⟩
theorem Fit.get (f : Fit K M A σ H ρ) {i : Nat} {d : D} (e : ρ[i]? = some (some d)) : ∃ v, σ[i]? = some (some v) ∧ Rt K H M v d := by
  by_cases h : ∃ a, (i, a) ∈ A
  · obtain ⟨a, h⟩ := h
    obtain ⟨h1, d', h2, h3⟩ := f.own _ h
    rw [e] at h2; cases h2
    exact ⟨_, h1, h3.t⟩
  · obtain ⟨v, h1, h2⟩ := f.shr i d e fun a z => h ⟨a, z⟩
    exact ⟨v, h1, .of h2⟩
end

/-! ### the judgement of expressions -/
def eff (k : Bool) (A : As) : Av := fun b => k = true ∧ A.has b
def DX (mg : Str → Option Value) (E : XK) (F : Av) (H : Hp) (c : Str) : Prop := ∀ C H', mg c = some (.ref C) → Fra F H H' → E (.ref C) none H'
def DT (K : Fg) (mg : Str → Option Value) (E : XK) (k r : Bool) (Γ : List Nat) (m : Ev → R (D × Ev)) : TE := fun σ H Q =>
  ∃ (M : Av) (A : As) (ρ : Ev), A.map (·.1) = Γ ∧ Fit K M A σ H ρ ∧
    (m ρ).post (fun z => ∀ v H', Fit K M A σ H' z.2 → Fra (eff k A) H H' → (k = false → z.2 = ρ) → Rx r K H' M v z.1 → Q v H') (DX mg E (eff k A) H)
def DE (X : Cx) (E : XK) (k r : Bool) (Γ : List Nat) (e : Expr) (m : Ev → R (D × Ev)) : Prop := PE X e (DT X.K X.mg E k r Γ m)

theorem PE.imp {X : Cx} {e : Expr} {t t' : TE} (h : PE X e t) (w : ∀ σ H Q, t' σ H Q → t σ H Q) : PE X e t' := ⟨fun pins s σ H Q I q => h.run pins s σ H Q I (w σ H Q q)⟩
theorem OpR.imp {X : Cx} {f : Value → Value → Sem Value} {r r' : R2} (h : OpR X f r) (w : ∀ x y H Q, r' x y H Q → r x y H Q) : OpR X f r' := fun pins s σ H x y v u Q I rx ry q => h pins s σ H x y v u Q I rx ry (w _ _ _ _ q)
theorem OpR.or' {X : Cx} {f : Value → Value → Sem Value} {r r1 r2 : R2} (h1 : OpR X f r1) (h2 : OpR X f r2) (w : ∀ x y H Q, r x y H Q → r1 x y H Q ∨ r2 x y H Q) : OpR X f r := OpR.imp (L2.OpR.or h1 h2) w

section
variable {K : Fg} {M : Av} {A : As} {σ : St} {H H' : Hp} {ρ : Ev} {mg : Str → Option Value} {E : XK}
theorem eff_sub {k : Bool} (f : Fit K M A σ H ρ) : ∀ b, eff k A b → M b := fun b h => f.has b h.2
theorem eff_false : Fra (eff false A) H H' → Same H H' := fun f b o e => f b o e fun z => Bool.noConfusion z.1
theorem Fra.of_eff {k : Bool} (s : Same H H') : Fra (eff k A) H H' := Fra.of_same s
theorem DX.fra {F : Av} {H1 : Hp} {c : Str} (f : Fra F H H1) (h : DX mg E F H c) : DX mg E F H1 c := fun C H' e g => h C H' e (f.trans g)
/-- what is borne, after an effect -/
theorem Rx.fra {k r : Bool} {v : V} {d : D} (hk : (k && r) = false) (f : Fit K M A σ H ρ) (g : Fra (eff k A) H H') (h : Rx r K H M v d) : Rx r K H' M v d := by
  cases r with
  | false => exact Rp.carry (Carry.fra g (eff_sub f)) (show Rp K H M v d from h)
  | true =>
    cases k with
    | true => exact Bool.noConfusion hk
    | false => exact Rt.same (eff_false g) h
end
end Dt

set_option Elab.async false
set_option linter.all false
set_option maxRecDepth 100000
set_option autoImplicit false
/-! Expressions: constants, names, operators, tests, arguments, displays, calls of what is built in. -/
namespace Dt
open PySem PySem.Spec PyProof.Rows L2 R

abbrev ME := Ev → R (D × Ev)
abbrev MB := Ev → R (Bool × Ev)
abbrev MA := Ev → R (List D × Ev)

theorem post_opt {α β : Type} {o : Option α} {f : α → R β} {Q : β → Prop} {X : Str → Prop} (h : ((R.opt o).bind f).post Q X) : ∃ a, o = some a ∧ (f a).post Q X := by
  cases o with
  | none => exact h.elim
  | some a => exact ⟨a, rfl, h⟩

section
variable {X : Cx} {E : XK} {k r : Bool} {Γ : List Nat} {a b c e : Expr} {pos : Pos}

theorem ite_pos {b : Bool} {A B : Prop} (h : b = true) (x : A) : if b = true then A else B := by rw [if_pos h]; exact x
theorem ite_neg {b : Bool} {A B : Prop} (h : ¬ b = true) (x : B) : if b = true then A else B := by rw [if_neg h]; exact x
/-! ### constants and names -/
def cst (d : D) : ME := fun ρ => .ok (d, ρ)
theorem de_of {e : Expr} {v : V} {d : D} (h : PE X e (tC v)) (hr : ∀ (H : Hp) (M : Av), Rp X.K H M v d) : DE X E k r Γ e (cst d) :=
  PE.imp h fun σ H Q ⟨M, A, ρ, _, f, q⟩ => q v H f Fra.refl (fun _ => rfl) (hr H M).x
theorem de_int {i : Int} {j : Nat} : DE X E k r Γ (.Constant (.int i) j pos) (cst (.int i)) := de_of pe_int fun _ _ => .int i
theorem de_bl {i : Bool} {j : Nat} : DE X E k r Γ (.Constant (.bool i) j pos) (cst (.bool i)) := de_of pe_bl fun _ _ => .bl i
theorem de_non {j : Nat} : DE X E k r Γ (.Constant .none j pos) (cst .none) := de_of pe_non fun _ _ => .non
theorem de_str {x : Str} {j : Nat} : DE X E k r Γ (.Constant (.str x) j pos) (cst (.str x)) := de_of pe_str fun _ _ => .str x

def getv (ρ : Ev) (i : Nat) : Option D := match ρ[i]? with
  | some (some d) => some d
  | _ => none
def var (i : Nat) : ME := fun ρ => (R.opt (getv ρ i)).bind fun d => .ok (d, ρ)
theorem getv_some {ρ : Ev} {i : Nat} {d : D} (h : getv ρ i = some d) : ρ[i]? = some (some d) := by
  unfold getv at h
  split at h
  · rename_i d' e; rw [e]; exact congrArg some h
  · cases h
/-- a name that is not the frame's own object -/
theorem de_var {i : Nat} (h : PE X e (tVar i)) (hi : Γ.contains i = false := by decide) : DE X E k false Γ e (var i) :=
  PE.imp h fun σ H Q ⟨M, A, ρ, hΓ, f, q⟩ => by
    obtain ⟨d, ed, q⟩ := post_opt q
    obtain ⟨v, e1, rv⟩ := f.shr i d (getv_some ed) fun a z => by
      have : i ∈ Γ := hΓ ▸ List.mem_map.mpr ⟨(i, a), z, rfl⟩
      rw [List.contains_iff_mem.mpr this] at hi
      cases hi
    exact ⟨v, e1, q v H f Fra.refl (fun _ => rfl) rv⟩
/-- a name that may be -/
theorem de_varT {i : Nat} (h : PE X e (tVar i)) : DE X E k true Γ e (var i) :=
  PE.imp h fun σ H Q ⟨M, A, ρ, hΓ, f, q⟩ => by
    obtain ⟨d, ed, q⟩ := post_opt q
    obtain ⟨v, e1, rv⟩ := f.get (getv_some ed)
    exact ⟨v, e1, q v H f Fra.refl (fun _ => rfl) rv⟩
/-- what is pure is an effect, too -/
theorem de_up {m : ME} (h : DE X E false false Γ e m) : DE X E true false Γ e m :=
  PE.imp h fun σ H Q ⟨M, A, ρ, hΓ, f, q⟩ => ⟨M, A, ρ, hΓ, f, pimp q (fun z hz v H' f' g e1 r => hz v H' f' (g.mono fun b z => Bool.noConfusion z.1) (fun n => Bool.noConfusion n) r) fun c hc C H' e g => hc C H' e (g.mono fun b z => Bool.noConfusion z.1)⟩
theorem de_t {m : ME} (h : DE X E k false Γ e m) : DE X E k true Γ e m :=
  PE.imp h fun σ H Q ⟨M, A, ρ, hΓ, f, q⟩ => ⟨M, A, ρ, hΓ, f, pimp q (fun z hz v H' f' g e1 r => hz v H' f' g e1 (Rt.of r)) fun c hc => hc⟩

/-! ### two values -/
abbrev G2 := D → D → Option D
def rD (K : Fg) (g : G2) : R2 := fun x y H Q => ∃ (M : Av) (d e r : D), Trk M H ∧ Rt K H M x d ∧ Rt K H M y e ∧ g d e = some r ∧ ∀ w H', Same H H' → Rp K H' M w r → Q w H'
def mOp (g : G2) (ma mb : ME) : ME := fun ρ => (ma ρ).bind fun x => (mb x.2).bind fun y => (R.opt (g x.1 y.1)).bind fun r => .ok (r, y.2)
theorem dt_op {g : G2} {ta tb : TE} {ma mb : ME} {ra rb : Bool} (hk : (k && ra) = false) {σ : St} {H : Hp} {Q : VK} (h : DT X.K X.mg E k false Γ (mOp g ma mb) σ H Q) :
    tOp (rD X.K g) (DT X.K X.mg E k ra Γ ma) (DT X.K X.mg E k rb Γ mb) σ H Q := by
  obtain ⟨M, A, ρ, hΓ, f, h⟩ := h
  refine ⟨M, A, ρ, hΓ, f, pimp (post_bind h) (fun z hz v1 H1 f1 g1 e1 r1 => ?_) (fun c hc => hc)⟩
  refine ⟨M, A, z.2, hΓ, f1, pimp (post_bind hz) (fun z2 hz2 v2 H2 f2 g2 e2 r2 => ?_) (fun c hc => DX.fra g1 hc)⟩
  obtain ⟨w, ew, q⟩ := post_opt hz2
  exact ⟨M, z.1, z2.1, w, f2.trk, (r1.fra hk f1 g2).t, r2.t, ew, fun u H' s' rp => q u H' (f2.same s') ((g1.trans g2).trans (Fra.of_eff s')) (fun n => (e2 n).trans (e1 n)) rp⟩
theorem de_op {op : Operator} {g : G2} {ma mb : ME} {ra rb : Bool} (ho : OpR X (binaryOp op) (rD X.K g)) (ha : DE X E k ra Γ a ma) (hb : DE X E k rb Γ b mb) (hk : (k && ra) = false := by rfl) :
    DE X E k false Γ (.BinOp a op b pos) (mOp g ma mb) := PE.imp (pe_op ho ha hb) fun σ H Q h => dt_op (ta := DT X.K X.mg E k ra Γ ma) (tb := DT X.K X.mg E k rb Γ mb) hk h
theorem de_cmp {op : CmpOp} {g : G2} {ma mb : ME} {ra rb : Bool} (ho : OpR X (compareOp op) (rD X.K g)) (ha : DE X E k ra Γ a ma) (hb : DE X E k rb Γ b mb) (hm : behindInMarks op b = false) (hk : (k && ra) = false := by rfl) :
    DE X E k false Γ (.Compare a [op] [b] pos) (mOp g ma mb) := PE.imp (pe_cmpR ho ha hb hm) fun σ H Q h => dt_op (ta := DT X.K X.mg E k ra Γ ma) (tb := DT X.K X.mg E k rb Γ mb) hk h
theorem de_ix {g : G2} {ma mb : ME} {ra rb : Bool} (ho : IxR X (rD X.K g)) (ha : DE X E k ra Γ a ma) (hb : DE X E k rb Γ b mb) (hs : PlainIx b) (hk : (k && ra) = false := by rfl) :
    DE X E k false Γ (.Subscript a b pos) (mOp g ma mb) := PE.imp (pe_ix ho ha hb hs) fun σ H Q h => dt_op (ta := DT X.K X.mg E k ra Γ ma) (tb := DT X.K X.mg E k rb Γ mb) hk h

/-! ### one value -/
abbrev G1 := D → Option D
def rU1 (K : Fg) (g : G1) : V → Hp → VK → Prop := fun x H Q => ∃ (M : Av) (d r : D), Trk M H ∧ Rt K H M x d ∧ g d = some r ∧ ∀ w H', Same H H' → Rp K H' M w r → Q w H'
def mUn (g : G1) (ma : ME) : ME := fun ρ => (ma ρ).bind fun x => (R.opt (g x.1)).bind fun r => .ok (r, x.2)
theorem dt_un {g : G1} {ma : ME} {ra : Bool} {σ : St} {H : Hp} {Q : VK} (h : DT X.K X.mg E k false Γ (mUn g ma) σ H Q) : DT X.K X.mg E k ra Γ ma σ H fun x H1 => rU1 X.K g x H1 Q := by
  obtain ⟨M, A, ρ, hΓ, f, h⟩ := h
  refine ⟨M, A, ρ, hΓ, f, pimp (post_bind h) (fun z hz v1 H1 f1 g1 e1 r1 => ?_) (fun c hc => hc)⟩
  obtain ⟨w, ew, q⟩ := post_opt hz
  exact ⟨M, z.1, w, f1.trk, r1.t, ew, fun u H' s' rp => q u H' (f1.same s') (g1.trans (Fra.of_eff s')) e1 rp⟩
theorem de_un {op : UnaryOp} {g : G1} {ma : ME} {ra : Bool} (ho : UnR X (unaryOp op) (rU1 X.K g)) (ha : DE X E k ra Γ a ma) : DE X E k false Γ (.UnaryOp op a pos) (mUn g ma) :=
  PE.imp (pe_un ho ha) fun σ H Q h => dt_un h

/-! ### truth -/
def tru : D → Option Bool
  | .none => some false
  | .bool b => some b
  | .int i => some (i != 0)
  | .str y => if y.length ≤ sizeLine then some ((y.length : Int) != 0) else none
  | .list xs => some !xs.isEmpty
  | .tuple xs => some !xs.isEmpty
  | .dict es => some !es.isEmpty
theorem rpK_empty {K : Fg} {H : Hp} {M : Av} : ∀ {kvs : List (Key × V)} {es : List (D × D)}, RpK K H M kvs es → (!kvs.isEmpty) = !es.isEmpty
  | _, _, .nil => rfl
  | _, _, .cons _ _ => rfl
theorem rpAll_empty {K : Fg} {H : Hp} {M : Av} : ∀ {xs : List V} {ds : List D}, RpAll K H M xs ds → (!xs.isEmpty) = !ds.isEmpty
  | _, _, .nil => rfl
  | _, _, .cons _ _ => rfl
/-- dicts with tuples as keys are not asked for their truth here -/
def noT : V → Hp → Prop := fun v H => ∀ a kvs, v = .ref a → ¬ Rd H a (.dT kvs)
theorem tru_of {K : Fg} {H : Hp} {M : Av} {v : V} {d : D} {b : Bool} (h : Rt K H M v d) (hd : ∀ es, d ≠ .dict es) (t : tru d = some b) : TruV K v H b := by
  cases d with
  | none => rw [h.non]; exact (Option.some.inj t).symm
  | bool x => rw [h.bl]; exact (Option.some.inj t).symm
  | int i => rw [h.int]; exact (Option.some.inj t).symm
  | str y =>
    rw [h.str]
    by_cases hy : y.length ≤ sizeLine
    · have t' : (if y.length ≤ sizeLine then some ((y.length : Int) != 0) else none) = some b := t
      rw [if_pos hy] at t'
      exact ⟨hy, (Option.some.inj t').symm⟩
    · have t' : (if y.length ≤ sizeLine then some ((y.length : Int) != 0) else none) = some b := t
      rw [if_neg hy] at t'
      cases t'
  | list ds =>
    obtain ⟨a, xs, rfl, h1, h2⟩ := h.list
    exact .inl ⟨xs, .inl h1, by rw [rpAll_empty h2]; exact (Option.some.inj t).symm⟩
  | tuple ds =>
    obtain ⟨a, xs, rfl, h1, h2⟩ := h.tuple
    exact .inr (.inl ⟨xs, h1.sq, by rw [rpAll_empty h2]; exact (Option.some.inj t).symm⟩)
  | dict es => exact absurd rfl (hd es)
def truD : D → Option Bool
  | .dict _ => none
  | d => tru d
theorem truD_of {K : Fg} {H : Hp} {M : Av} {v : V} {d : D} {b : Bool} (h : Rt K H M v d) (t : truD d = some b) : TruV K v H b := by
  cases d with
  | dict es => cases t
  | _ => exact tru_of h (fun _ z => by cases z) t

/-! ### tests -/
def DTb (K : Fg) (mg : Str → Option Value) (E : XK) (k : Bool) (Γ : List Nat) (m : MB) : TT := fun σ H Q =>
  ∃ (M : Av) (A : As) (ρ : Ev), A.map (·.1) = Γ ∧ Fit K M A σ H ρ ∧
    (m ρ).post (fun z => ∀ H', Fit K M A σ H' z.2 → Fra (eff k A) H H' → (k = false → z.2 = ρ) → Q z.1 H') (DX mg E (eff k A) H)
def DB (X : Cx) (E : XK) (k : Bool) (Γ : List Nat) (e : Expr) (m : MB) : Prop := PT X e (DTb X.K X.mg E k Γ m)
def DW (X : Cx) (E : XK) (k : Bool) (Γ : List Nat) (e : Expr) (m : MB) : Prop := PW X e (DTb X.K X.mg E k Γ m)
theorem PT.imp {e : Expr} {t t' : TT} (h : PT X e t) (w : ∀ σ H Q, t' σ H Q → t σ H Q) : PT X e t' := ⟨fun pins s σ H Q I q => h.run pins s σ H Q I (w σ H Q q)⟩
theorem PW.imp {e : Expr} {t t' : TT} (h : PW X e t) (w : ∀ σ H Q, t' σ H Q → t σ H Q) : PW X e t' := ⟨fun whole pins s σ H Q I q => h.run whole pins s σ H Q I (w σ H Q q)⟩
def mTru (ma : ME) : MB := fun ρ => (ma ρ).bind fun x => (R.opt (truD x.1)).bind fun b => .ok (b, x.2)
theorem db_tru {ma : ME} {ra : Bool} (ha : DE X E k ra Γ a ma) (he : ∀ whole, isTrue a X.env whole = (do let v ← whole; standAt a.pos; holding [v] (truthy v)) := by intro _; rfl) : DB X E k Γ a (mTru ma) :=
  PT.imp (pt_truth ha he) fun σ H Q ⟨M, A, ρ, hΓ, f, h⟩ => by
    refine ⟨M, A, ρ, hΓ, f, pimp (post_bind h) (fun z hz v1 H1 f1 g1 e1 r1 => ?_) (fun c hc => hc)⟩
    obtain ⟨b, eb, q⟩ := post_opt hz
    exact ⟨b, truD_of r1.t eb, q H1 f1 g1 e1⟩
def asB : D → Option Bool
  | .bool b => some b
  | _ => none
def mBool (ma : ME) : MB := fun ρ => (ma ρ).bind fun x => (R.opt (asB x.1)).bind fun b => .ok (b, x.2)
theorem asB_some {d : D} {b : Bool} (h : asB d = some b) : d = .bool b := by
  cases d with
  | bool c => rw [Option.some.inj h]
  | _ => cases h
theorem db_cmp {op : CmpOp} {g : G2} {ma mb : ME} {ra rb : Bool} (ho : OpR X (compareOp op) (rD X.K g)) (ha : DE X E k ra Γ a ma) (hb : DE X E k rb Γ b mb) (hm : behindInMarks op b = false) (hk : (k && ra) = false := by rfl) :
    DB X E k Γ (.Compare a [op] [b] pos) (mBool (mOp g ma mb)) :=
  PT.imp (pt_cmpR ho ha hb hm) fun σ H Q h => by
    have h' : DT X.K X.mg E k false Γ (mOp g ma mb) σ H (fun x H' => ∃ b, x = .bl b ∧ Q b H') := by
      obtain ⟨M, A, ρ, hΓ, f, h⟩ := h
      refine ⟨M, A, ρ, hΓ, f, pimp (post_bind h) (fun z hz v1 H1 f1 g1 e1 r1 => ?_) (fun c hc => hc)⟩
      obtain ⟨b, eb, q⟩ := post_opt hz
      have e2 := asB_some eb
      rw [e2] at r1
      exact ⟨b, Rt.bl (Rt.of r1), q H1 f1 g1 e1⟩
    exact dt_op (ta := DT X.K X.mg E k ra Γ ma) (tb := DT X.K X.mg E k rb Γ mb) hk h'
def mAndB (a b : MB) : MB := fun ρ => (a ρ).bind fun x => if x.1 = true then b x.2 else .ok (false, x.2)
def mOrB (a b : MB) : MB := fun ρ => (a ρ).bind fun x => if x.1 = true then .ok (true, x.2) else b x.2
def mNotB (a : MB) : MB := fun ρ => (a ρ).bind fun x => .ok (!x.1, x.2)
theorem dw_one {op : BoolOp} {m : MB} (h : DB X E k Γ a m) : DW X E k Γ (.BoolOp op [a] pos) m := by
  cases op with
  | And => exact pw_and1 h
  | Or => exact pw_or1 h
theorem dw_and {rest : List Expr} {ma mb : MB} (ha : DB X E k Γ a ma) (hb : DW X E k Γ (.BoolOp .And (b :: rest) pos) mb) : DW X E k Γ (.BoolOp .And (a :: b :: rest) pos) (mAndB ma mb) :=
  PW.imp (pw_and ha hb) fun σ H Q ⟨M, A, ρ, hΓ, f, h⟩ => by
    refine ⟨M, A, ρ, hΓ, f, pimp (post_bind h) (fun z hz H1 f1 g1 e1 => ?_) (fun c hc => hc)⟩
    by_cases hb : z.1 = true
    · rw [if_pos hb] at hz
      refine ite_pos hb ?_
      exact ⟨M, A, z.2, hΓ, f1, pimp hz (fun z2 h2 H2 f2 g2 e2 => h2 H2 f2 (g1.trans g2) fun n => (e2 n).trans (e1 n)) fun c hc => DX.fra g1 hc⟩
    · rw [if_neg hb] at hz
      refine ite_neg hb ?_
      exact hz H1 f1 g1 e1
theorem dw_or {rest : List Expr} {ma mb : MB} (ha : DB X E k Γ a ma) (hb : DW X E k Γ (.BoolOp .Or (b :: rest) pos) mb) : DW X E k Γ (.BoolOp .Or (a :: b :: rest) pos) (mOrB ma mb) :=
  PW.imp (pw_or ha hb) fun σ H Q ⟨M, A, ρ, hΓ, f, h⟩ => by
    refine ⟨M, A, ρ, hΓ, f, pimp (post_bind h) (fun z hz H1 f1 g1 e1 => ?_) (fun c hc => hc)⟩
    by_cases hb : z.1 = true
    · rw [if_pos hb] at hz
      refine ite_pos hb ?_
      exact hz H1 f1 g1 e1
    · rw [if_neg hb] at hz
      refine ite_neg hb ?_
      exact ⟨M, A, z.2, hΓ, f1, pimp hz (fun z2 h2 H2 f2 g2 e2 => h2 H2 f2 (g1.trans g2) fun n => (e2 n).trans (e1 n)) fun c hc => DX.fra g1 hc⟩
theorem db_w {m : MB} (h : DW X E k Γ a m) : DB X E k Γ a m := PW.pt h
theorem db_not {ma : MB} (ha : DB X E k Γ a ma) : DB X E k Γ (.UnaryOp .Not a pos) (mNotB ma) :=
  PT.imp (pt_not ha) fun σ H Q ⟨M, A, ρ, hΓ, f, h⟩ => ⟨M, A, ρ, hΓ, f, pimp (post_bind h) (fun z hz H1 f1 g1 e1 => hz H1 f1 g1 e1) (fun c hc => hc)⟩
theorem db_up {m : MB} (h : DB X E false Γ e m) : DB X E true Γ e m :=
  PT.imp h fun σ H Q ⟨M, A, ρ, hΓ, f, q⟩ => ⟨M, A, ρ, hΓ, f, pimp q (fun z hz H' f' g e1 => hz H' f' (g.mono fun b z => Bool.noConfusion z.1) (fun n => Bool.noConfusion n)) fun c hc C H' e g => hc C H' e (g.mono fun b z => Bool.noConfusion z.1)⟩

/-! ### and, or, not as values; the conditional expression -/
def mAnd (ma mb : ME) : ME := fun ρ => (ma ρ).bind fun x => (R.opt (truD x.1)).bind fun t => if t = true then mb x.2 else .ok x
def mOr (ma mb : ME) : ME := fun ρ => (ma ρ).bind fun x => (R.opt (truD x.1)).bind fun t => if t = true then .ok x else mb x.2
theorem de_one {op : BoolOp} {m : ME} (h : DE X E k r Γ a m) : DE X E k r Γ (.BoolOp op [a] pos) m := pe_one h
theorem de_and {rest : List Expr} {ma mb : ME} (ha : DE X E k false Γ a ma) (hb : DE X E k false Γ (.BoolOp .And (b :: rest) pos) mb) : DE X E k false Γ (.BoolOp .And (a :: b :: rest) pos) (mAnd ma mb) :=
  PE.imp (pe_andT ha hb) fun σ H Q ⟨M, A, ρ, hΓ, f, h⟩ => by
    refine ⟨M, A, ρ, hΓ, f, pimp (post_bind h) (fun z hz v1 H1 f1 g1 e1 r1 => ?_) (fun c hc => hc)⟩
    obtain ⟨t, et, q⟩ := post_opt hz
    refine ⟨t, truD_of r1.t et, ?_⟩
    by_cases hb : t = true
    · rw [if_pos hb] at q
      refine ite_pos hb ?_
      exact ⟨M, A, z.2, hΓ, f1, pimp q (fun z2 h2 v2 H2 f2 g2 e2 r2 => h2 v2 H2 f2 (g1.trans g2) (fun n => (e2 n).trans (e1 n)) r2) fun c hc => DX.fra g1 hc⟩
    · rw [if_neg hb] at q
      refine ite_neg hb ?_
      exact q v1 H1 f1 g1 e1 r1
theorem de_or {rest : List Expr} {ma mb : ME} (ha : DE X E k false Γ a ma) (hb : DE X E k false Γ (.BoolOp .Or (b :: rest) pos) mb) : DE X E k false Γ (.BoolOp .Or (a :: b :: rest) pos) (mOr ma mb) :=
  PE.imp (pe_orT ha hb) fun σ H Q ⟨M, A, ρ, hΓ, f, h⟩ => by
    refine ⟨M, A, ρ, hΓ, f, pimp (post_bind h) (fun z hz v1 H1 f1 g1 e1 r1 => ?_) (fun c hc => hc)⟩
    obtain ⟨t, et, q⟩ := post_opt hz
    refine ⟨t, truD_of r1.t et, ?_⟩
    by_cases hb : t = true
    · rw [if_pos hb] at q
      refine ite_pos hb ?_
      exact q v1 H1 f1 g1 e1 r1
    · rw [if_neg hb] at q
      refine ite_neg hb ?_
      exact ⟨M, A, z.2, hΓ, f1, pimp q (fun z2 h2 v2 H2 f2 g2 e2 r2 => h2 v2 H2 f2 (g1.trans g2) (fun n => (e2 n).trans (e1 n)) r2) fun c hc => DX.fra g1 hc⟩
def gNot : G1 := fun d => (truD d).map fun b => .bool !b
theorem de_not {ma : ME} {ra : Bool} (ha : DE X E k ra Γ a ma) : DE X E k false Γ (.UnaryOp .Not a pos) (mUn gNot ma) :=
  PE.imp (pe_notT ha) fun σ H Q h => by
    obtain ⟨M, A, ρ, hΓ, f, h⟩ := dt_un (ra := ra) h
    refine ⟨M, A, ρ, hΓ, f, pimp h (fun z hz v1 H1 f1 g1 e1 r1 => ?_) (fun c hc => hc)⟩
    obtain ⟨M', d, w, tk, rd, ew, q⟩ := hz v1 H1 f1 g1 e1 r1
    unfold gNot at ew
    cases ht : truD d with
    | none => rw [ht] at ew; cases ew
    | some b =>
      rw [ht] at ew
      cases ew
      exact ⟨b, truD_of rd ht, q _ H1 (Same.refl _) (.bl _)⟩
def mIf (c : MB) (a b : ME) : ME := fun ρ => (c ρ).bind fun x => if x.1 = true then a x.2 else b x.2
theorem de_if {mc : MB} {ma mb : ME} (hc : DB X E k Γ c mc) (ha : DE X E k r Γ a ma) (hb : DE X E k r Γ b mb) : DE X E k r Γ (.IfExp c a b pos) (mIf mc ma mb) :=
  PE.imp (pe_ifExp hc ha hb) fun σ H Q ⟨M, A, ρ, hΓ, f, h⟩ => by
    refine ⟨M, A, ρ, hΓ, f, pimp (post_bind h) (fun z hz H1 f1 g1 e1 => ?_) (fun c hc => hc)⟩
    by_cases hb : z.1 = true
    · rw [if_pos hb] at hz
      refine ite_pos hb ?_
      exact ⟨M, A, z.2, hΓ, f1, pimp hz (fun z2 h2 v2 H2 f2 g2 e2 r2 => h2 v2 H2 f2 (g1.trans g2) (fun n => (e2 n).trans (e1 n)) r2) fun c hc => DX.fra g1 hc⟩
    · rw [if_neg hb] at hz
      refine ite_neg hb ?_
      exact ⟨M, A, z.2, hΓ, f1, pimp hz (fun z2 h2 v2 H2 f2 g2 e2 r2 => h2 v2 H2 f2 (g1.trans g2) (fun n => (e2 n).trans (e1 n)) r2) fun c hc => DX.fra g1 hc⟩
end
end Dt

set_option Elab.async false
set_option linter.all false
set_option maxRecDepth 100000
set_option autoImplicit false
/-! Operators over data. -/
namespace Dt
open PySem PySem.Spec PyProof.Rows L2 R

section
variable {X : Cx} {pins : List (Addr × Obj)} {σ : St} {H : Hp} {s : Shared} {M : Av}
/-- a list that is read, as it stands -/
theorem Inv.lstR {l : Addr} {xs : List V} (I : Inv X pins σ H s) (h : Rd H l (.lst xs)) :
    xs.length ≤ sizeLine ∧ ∃ (its : List Value) (n : Nat), Vals xs its ∧ xs.length = its.length ∧ s.heap.get? l = some { cls := .type "list", data := .seq its.toArray n } := by
  obtain ⟨z, its, n, r, e⟩ := h.ok I.hok
  exact ⟨z, its, n, r, r.length, e⟩
theorem new_lst {K : Fg} {p : Addr} {xs : List V} {ds : List D} (tk : Trk M H) (np : H p = none) (r : RpAll K H M xs ds) : Same H (upd H p (.lst xs)) ∧ Rp K (upd H p (.lst xs)) M (.ref p) (.list ds) := by
  have s : Same H (upd H p (.lst xs)) := fun b u e => by rw [upd_ne (ne_of_none e np)]; exact e
  exact ⟨s, .lst ⟨.inl upd_same, tk.ne np⟩ (RpAll.carry (Carry.same s) r)⟩
theorem new_tup {K : Fg} {p : Addr} {o : Obj} {xs : List V} {ds : List D} (hd : o.dict = none) (tk : Trk M H) (np : H p = none) (r : RpAll K H M xs ds) : Same H (upd H p (.frz o (.tup xs))) ∧ Rp K (upd H p (.frz o (.tup xs))) M (.ref p) (.tuple ds) := by
  have s : Same H (upd H p (.frz o (.tup xs))) := fun b u e => by rw [upd_ne (ne_of_none e np)]; exact e
  exact ⟨s, .tup (.inl ⟨⟨o, upd_same, hd⟩, tk.ne np⟩) (RpAll.carry (Carry.same s) r)⟩
abbrev tupObj (its : List Value) (n : Nat) : Obj := PyProof.Rows.seqObj "tuple" its.toArray n
theorem tupLaid {h' : Heap} {a : Addr} {t' n : Nat} {ys : List V} {its : List Value} (I : Inv X pins σ H s) (k : ∀ b u, s.heap.get? b = some u → h'.get? b = some u) (hp : s.heap.objs.size ≤ a) (hz : ys.length ≤ sizeLine) (rv : Vals ys its) (e : h'.get? a = some (tupObj its n)) :
    Inv X pins σ (upd H a (.frz (tupObj its n) (.tup ys))) { s with heap := h', toks := t' } := I.laid k hp ⟨e, hz, its, rv, ⟨_, e, rfl, n, rfl⟩⟩
theorem RpAll.nil_iff {K : Fg} {xs : List V} {ds : List D} (r : RpAll K H M xs ds) : xs = [] ↔ ds = [] := by
  cases r with
  | nil => simp
  | cons => simp
end

/-! ### + - * // % ** -/
def dAdd : G2
  | .int i, .int j => some (.int (i + j))
  | .str a, .str b => if a.length + b.length ≤ sizeLine then some (.str (a ++ b)) else none
  | .list xs, .list ys => if xs.length + ys.length ≤ sizeLine then some (.list (xs ++ ys)) else none
  | .tuple xs, .tuple ys => if xs.length + ys.length ≤ sizeLine then some (.tuple (xs ++ ys)) else none
  | _, _ => none
theorem op_catR {X : Cx} : OpR X (binaryOp .Add) (fun x y H Q => ∃ l b xs zs, x = .ref l ∧ y = .ref b ∧ Rd H l (.lst xs) ∧ Rd H b (.lst zs) ∧ xs.length + zs.length ≤ sizeLine ∧ ∀ p, H p = none → Q (.ref p) (upd H p (.lst (xs ++ zs)))) := by
  intro pins s σ H x y v u Q I rx ry h
  obtain ⟨l, b, xs, zs, rfl, rfl, hH, hB, hz, q⟩ := h
  cases rx
  cases ry
  obtain ⟨z, its, n, r, hl, e⟩ := Inv.lstR I hH
  obtain ⟨z2, its2, n2, r2, hl2, e2⟩ := Inv.lstR I hB
  refine PySem.P.add_list e e2 ?_ (by rw [List.size_toArray, List.size_toArray]; omega)
  have ea : its.toArray ++ its2.toArray = (its ++ its2).toArray := by simp
  rw [ea]
  exact ⟨.ref _, _, I.lnew (t' := s.toks) (r.append r2) (by rw [List.length_append]; omega), rfl, q _ I.fresh⟩
section
variable {X : Cx}
theorem op_dAdd : OpR X (binaryOp .Add) (rD X.K dAdd) := by
  intro pins s σ H x y v u Q I rx ry h
  obtain ⟨M, d, e, r, tk, rd, re, eg, q⟩ := h
  unfold dAdd at eg
  split at eg
  · cases eg
    exact op_add pins s σ H x y v u Q I rx ry ⟨_, _, rd.int, re.int, q _ H (Same.refl _) (.int _)⟩
  · split at eg
    · rename_i hz
      cases eg
      exact op_add_str pins s σ H x y v u Q I rx ry ⟨_, _, rd.str, re.str, hz, q _ H (Same.refl _) (.str _)⟩
    · cases eg
  · split at eg
    · rename_i hz
      cases eg
      obtain ⟨a, xs, e1, r1, a1⟩ := rd.list
      obtain ⟨b, ys, e2, r2, a2⟩ := re.list
      exact op_catR pins s σ H x y v u Q I rx ry ⟨a, b, xs, ys, e1, e2, r1, r2, by rw [a1.length, a2.length]; exact hz, fun p np => let ⟨s', rp⟩ := new_lst tk np (a1.append a2); q _ _ s' rp⟩
    · cases eg
  · split at eg
    · rename_i ds es hz
      cases eg
      obtain ⟨a, xs, e1, r1, a1⟩ := rd.tuple
      obtain ⟨b, ys, e2, r2, a2⟩ := re.tuple
      subst e1 e2
      cases rx
      cases ry
      obtain ⟨its, v1, p1, z1⟩ := I.tuple r1.sq
      obtain ⟨its2, v2, p2, z2⟩ := I.tuple r2.sq
      by_cases hx : xs = []
      · subst hx
        cases v1
        cases a1
        exact cat_tup0 p1 p2 ⟨.ref b, H, I, rfl, q _ H (Same.refl _) (.tup r2 a2)⟩
      · refine HT.cat_tup p1 p2 (fun z => hx (v1.nil_iff.mp z)) (fun z => ?_) (fun z => ?_) (by rw [← v1.length, ← v2.length, a1.length, a2.length]; exact hz)
        · subst z
          cases v2
          cases a2
          rw [List.append_nil] at q
          exact ⟨.ref a, H, I, rfl, q _ H (Same.refl _) (.tup r1 a1)⟩
        · have I2 := tupLaid (t' := s.toks) (ys := xs ++ ys) (its := its ++ its2) (n := 0) (a := s.heap.objs.size) I (fun b o e => Heap.get?_push_of_some _ e) (Nat.le_refl _) (by rw [List.length_append, a1.length, a2.length]; exact hz) (v1.append v2) (Heap.get?_push_size _ rfl)
          obtain ⟨s', rp⟩ := new_tup (K := X.K) (o := tupObj (its ++ its2) 0) rfl tk I.fresh (a1.append a2)
          exact ⟨.ref s.heap.objs.size, _, I2, rfl, q _ _ s' rp⟩
    · cases eg
  · cases eg
def dSub : G2
  | .int i, .int j => some (.int (i - j))
  | _, _ => none
theorem op_dSub : OpR X (binaryOp .Sub) (rD X.K dSub) := by
  intro pins s σ H x y v u Q I rx ry h
  obtain ⟨M, d, e, r, tk, rd, re, eg, q⟩ := h
  unfold dSub at eg
  split at eg
  · cases eg
    exact op_sub pins s σ H x y v u Q I rx ry ⟨_, _, rd.int, re.int, q _ H (Same.refl _) (.int _)⟩
  · cases eg
def small64 (i : Int) : Bool := decide (-(2 ^ 64) < i) && decide (i < 2 ^ 64)
theorem small64_of {i : Int} (h : small64 i = true) : -(2 ^ 64) < i ∧ i < 2 ^ 64 := by
  have := Bool.and_eq_true_iff.mp h
  exact ⟨of_decide_eq_true this.1, of_decide_eq_true this.2⟩
def dMul : G2
  | .int i, .int j => if small64 i || small64 j then some (.int (i * j)) else none
  | .tuple xs, .int j => if decide (0 ≤ j) && decide (j ≤ 1000) && decide (xs.length ≤ 1000) then some (.tuple (List.replicate j.toNat xs).flatten) else none
  | _, _ => none
/-- without tuples -/
def dMulI : G2
  | .int i, .int j => if small64 i || small64 j then some (.int (i * j)) else none
  | _, _ => none
theorem op_dMulI : OpR X (binaryOp .Mult) (rD X.K dMulI) := by
  intro pins s σ H x y v u Q I rx ry h
  obtain ⟨M, d, e, r, tk, rd, re, eg, q⟩ := h
  unfold dMulI at eg
  split at eg
  · split at eg
    · rename_i hz
      cases eg
      refine op_mul pins s σ H x y v u Q I rx ry ⟨_, _, rd.int, re.int, ?_, q _ H (Same.refl _) (.int _)⟩
      rcases Bool.or_eq_true_iff.mp hz with z | z
      · exact .inl (small64_of z)
      · exact .inr (small64_of z)
    · cases eg
  · cases eg
def dFdiv : G2
  | .int i, .int j => if decide (0 < j) && decide (j < 1073741824) then some (.int (i / j)) else none
  | _, _ => none
theorem op_dFdiv : OpR X (binaryOp .FloorDiv) (rD X.K dFdiv) := by
  intro pins s σ H x y v u Q I rx ry h
  obtain ⟨M, d, e, r, tk, rd, re, eg, q⟩ := h
  unfold dFdiv at eg
  split at eg
  · split at eg
    · rename_i hz
      cases eg
      have hz' := Bool.and_eq_true_iff.mp hz
      exact op_fdiv pins s σ H x y v u Q I rx ry ⟨_, _, rd.int, re.int, ⟨of_decide_eq_true hz'.1, of_decide_eq_true hz'.2⟩, q _ H (Same.refl _) (.int _)⟩
    · cases eg
  · cases eg
def dMod : G2
  | .int i, .int j => if 0 < j then some (.int (i % j)) else none
  | _, _ => none
theorem op_dMod : OpR X (binaryOp .Mod) (rD X.K dMod) := by
  intro pins s σ H x y v u Q I rx ry h
  obtain ⟨M, d, e, r, tk, rd, re, eg, q⟩ := h
  unfold dMod at eg
  split at eg
  · split at eg
    · rename_i hz
      cases eg
      exact op_mod pins s σ H x y v u Q I rx ry ⟨_, _, rd.int, re.int, hz, q _ H (Same.refl _) (.int _)⟩
    · cases eg
  · cases eg
def dPow : G2
  | .int i, .int j => if decide (0 ≤ j) && decide (j ≤ 1000) && decide (i.natAbs < 2 ^ 64) then some (.int (i ^ j.toNat)) else none
  | _, _ => none
theorem op_dPow : OpR X (binaryOp .Pow) (rD X.K dPow) := by
  intro pins s σ H x y v u Q I rx ry h
  obtain ⟨M, d, e, r, tk, rd, re, eg, q⟩ := h
  unfold dPow at eg
  split at eg
  · split at eg
    · rename_i hz
      cases eg
      have h1 := Bool.and_eq_true_iff.mp hz
      have h2 := Bool.and_eq_true_iff.mp h1.1
      have a := of_decide_eq_true h2.1
      have b := of_decide_eq_true h2.2
      exact op_pow pins s σ H x y v u Q I rx ry ⟨_, _, rd.int, re.int, ⟨a, Int.le_trans b (by decide), of_decide_eq_true h1.2⟩, q _ H (Same.refl _) (.int _)⟩
    · cases eg
  · cases eg
def dNeg : G1
  | .int i => some (.int (-i))
  | _ => none
theorem un_dNeg : UnR X (unaryOp .USub) (rU1 X.K dNeg) := by
  intro pins s σ H x v Q I rx h
  obtain ⟨M, d, r, tk, rd, eg, q⟩ := h
  unfold dNeg at eg
  split at eg
  · cases eg
    exact un_neg pins s σ H x v Q I rx ⟨_, rd.int, q _ H (Same.refl _) (.int _)⟩
  · cases eg
end

/-! ### == != -/
section
variable {K : Fg} {H : Hp} {M : Av}
mutual
theorem Rp.dp : ∀ {v : V} {d : D}, Rp K H M v d → d.plain = true → Dp K H v d
  | _, _, .non, _ => .non
  | _, _, .bl b, _ => .bl b
  | _, _, .int i, _ => .int i
  | _, _, .str x, _ => .str x
  | _, _, .lst h r, p => .lst h.sq (RpAll.dp r p)
  | _, _, .tup h r, p => .tup h.sq (RpAll.dp r p)
  | _, _, .dcK _ _ _, p => Bool.noConfusion p
  | _, _, .dcT _ _ _, p => Bool.noConfusion p
  | _, _, .scr _, p => Bool.noConfusion p
theorem RpAll.dp : ∀ {xs : List V} {ds : List D}, RpAll K H M xs ds → PyData.plainAll ds = true → DpAll K H xs ds
  | _, _, .nil, _ => .nil
  | _, _, .cons h r, p => .cons (Rp.dp h (Bool.and_eq_true_iff.mp p).1) (RpAll.dp r (Bool.and_eq_true_iff.mp p).2)
end
theorem Rt.dp {v : V} {d : D} (h : Rt K H M v d) (p : d.plain = true) : Dp K H v d := by
  cases h with
  | of h => exact h.dp p
  | lst h r => exact .lst (.inl h) (r.dp p)
  | dcK _ _ => cases p
  | dcT _ _ => cases p
end
def eqOk (d e : D) : Bool := d.plain && e.plain && decide (min d.depth e.depth ≤ 100)
def dEq : G2 := fun d e => if eqOk d e then some (.bool (PyData.eqv d e)) else none
def dNe : G2 := fun d e => if eqOk d e then some (.bool !PyData.eqv d e) else none
theorem eqOk_of {d e : D} (h : eqOk d e = true) : d.plain = true ∧ e.plain = true ∧ min d.depth e.depth ≤ 100 := by
  have h1 := Bool.and_eq_true_iff.mp h
  have h2 := Bool.and_eq_true_iff.mp h1.1
  exact ⟨h2.1, h2.2, of_decide_eq_true h1.2⟩
section
variable {X : Cx}
theorem op_dEq (hu : X.A.units + 110 < cLine) : OpR X (compareOp .Eq) (rD X.K dEq) := by
  intro pins s σ H x y v u Q I rx ry h
  obtain ⟨M, d, e, r, tk, rd, re, eg, q⟩ := h
  unfold dEq at eg
  split at eg
  · rename_i hz
    cases eg
    obtain ⟨h1, h2, h3⟩ := eqOk_of hz
    obtain ⟨as, r1⟩ := Dp.reads I d x v (rd.dp h1) rx
    obtain ⟨bs, r2⟩ := Dp.reads I e y u (re.dp h2) ry
    exact SeqAt.eq_plain r1 r2 h1 h2 (by omega) ⟨.bl _, H, I, rfl, q _ H (Same.refl _) (.bl _)⟩
  · cases eg
theorem op_dNe (hu : X.A.units + 110 < cLine) : OpR X (compareOp .NotEq) (rD X.K dNe) := by
  intro pins s σ H x y v u Q I rx ry h
  obtain ⟨M, d, e, r, tk, rd, re, eg, q⟩ := h
  unfold dNe at eg
  split at eg
  · rename_i hz
    cases eg
    obtain ⟨h1, h2, h3⟩ := eqOk_of hz
    obtain ⟨as, r1⟩ := Dp.reads I d x v (rd.dp h1) rx
    obtain ⟨bs, r2⟩ := Dp.reads I e y u (re.dp h2) ry
    exact SeqAt.ne_plain r1 r2 h1 h2 (by omega) ⟨.bl _, H, I, rfl, q _ H (Same.refl _) (.bl _)⟩
  · cases eg
end
end Dt

set_option Elab.async false
set_option linter.all false
set_option maxRecDepth 100000
set_option autoImplicit false
/-! Comparisons, membership, subscripts, slices over data. -/
namespace Dt
open PySem PySem.Spec PyProof.Rows L2 R
open PySem.W (alike alikeAll dataLt)

section
variable {X : Cx}
def ltOk (d e : D) : Bool := alike d e && d.plain && e.plain && decide (min d.depth e.depth ≤ 100)
theorem ltOk_of {d e : D} (h : ltOk d e = true) : alike d e = true ∧ d.plain = true ∧ e.plain = true ∧ min d.depth e.depth ≤ 100 := by
  have h1 := Bool.and_eq_true_iff.mp h
  have h2 := Bool.and_eq_true_iff.mp h1.1
  have h3 := Bool.and_eq_true_iff.mp h2.1
  exact ⟨h3.1, h3.2, h2.2, of_decide_eq_true h1.2⟩
def dLt : G2
  | .int i, .int j => some (.bool (decide (i < j)))
  | .str a, .str b => some (.bool (decide (a.cps.toList < b.cps.toList)))
  | .tuple xs, .tuple ys => if ltOk (.tuple xs) (.tuple ys) then some (.bool (dataLt (.tuple xs) (.tuple ys))) else none
  | _, _ => none
theorem op_dLt (hu : X.A.units + 110 < cLine) : OpR X (compareOp .Lt) (rD X.K dLt) := by
  intro pins s σ H x y v u Q I rx ry h
  obtain ⟨M, d, e, r, tk, rd, re, eg, q⟩ := h
  unfold dLt at eg
  split at eg
  · cases eg
    exact op_lt pins s σ H x y v u Q I rx ry ⟨_, _, rd.int, re.int, q _ H (Same.refl _) (.bl _)⟩
  · cases eg
    exact op_lt_str pins s σ H x y v u Q I rx ry ⟨_, _, rd.str, re.str, q _ H (Same.refl _) (.bl _)⟩
  · split at eg
    · rename_i hz
      cases eg
      obtain ⟨h1, h2, h3, h4⟩ := ltOk_of hz
      obtain ⟨as, r1⟩ := Dp.reads I _ x v (rd.dp h2) rx
      obtain ⟨bs, r2⟩ := Dp.reads I _ y u (re.dp h3) ry
      exact PySem.W.rcLt_alike _ _ X.A s v u as bs r1 r2 h1 (by intro z; cases z) (by omega) _ _ _ _ ⟨.bl _, H, I, rfl, q _ H (Same.refl _) (.bl _)⟩
    · cases eg
  · cases eg
def dLe : G2
  | .int i, .int j => some (.bool (decide (i ≤ j)))
  | .str a, .str b => some (.bool (!decide (b.cps.toList < a.cps.toList)))
  | _, _ => none
theorem op_dLe : OpR X (compareOp .LtE) (rD X.K dLe) := by
  intro pins s σ H x y v u Q I rx ry h
  obtain ⟨M, d, e, r, tk, rd, re, eg, q⟩ := h
  unfold dLe at eg
  split at eg
  · cases eg
    exact op_le pins s σ H x y v u Q I rx ry ⟨_, _, rd.int, re.int, q _ H (Same.refl _) (.bl _)⟩
  · cases eg
    exact op_le_str pins s σ H x y v u Q I rx ry ⟨_, _, rd.str, re.str, q _ H (Same.refl _) (.bl _)⟩
  · cases eg
def dGt : G2
  | .int i, .int j => some (.bool (decide (j < i)))
  | _, _ => none
theorem op_dGt : OpR X (compareOp .Gt) (rD X.K dGt) := by
  intro pins s σ H x y v u Q I rx ry h
  obtain ⟨M, d, e, r, tk, rd, re, eg, q⟩ := h
  unfold dGt at eg
  split at eg
  · cases eg
    exact op_gt pins s σ H x y v u Q I rx ry ⟨_, _, rd.int, re.int, q _ H (Same.refl _) (.bl _)⟩
  · cases eg
def dGe : G2
  | .int i, .int j => some (.bool (decide (j ≤ i)))
  | _, _ => none
theorem op_dGe : OpR X (compareOp .GtE) (rD X.K dGe) := by
  intro pins s σ H x y v u Q I rx ry h
  obtain ⟨M, d, e, r, tk, rd, re, eg, q⟩ := h
  unfold dGe at eg
  split at eg
  · cases eg
    exact op_ge pins s σ H x y v u Q I rx ry ⟨_, _, rd.int, re.int, q _ H (Same.refl _) (.bl _)⟩
  · cases eg
/-! ### is, is not: None; bools -/
def isNon : D → Bool
  | .none => true
  | _ => false
def dIsN : G2
  | d, .none => some (.bool (isNon d))
  | _, _ => none
def dNotN : G2
  | d, .none => some (.bool !(isNon d))
  | _, _ => none
theorem non_dec {K : Fg} {H : Hp} {M : Av} {v : V} {d : D} (h : Rt K H M v d) : decide (v = .non) = isNon d := by
  cases d with
  | none => rw [h.non]; rfl
  | bool b => rw [h.bl]; rfl
  | int i => rw [h.int]; rfl
  | str x => rw [h.str]; rfl
  | list ds => obtain ⟨a, xs, rfl, _⟩ := h.list; rfl
  | tuple ds => obtain ⟨a, xs, rfl, _⟩ := h.tuple; rfl
  | dict es => cases h with
    | of h => cases h <;> rfl
    | dcK => rfl
    | dcT => rfl
theorem op_dIsN : OpR X (compareOp .Is) (rD X.K dIsN) := by
  intro pins s σ H x y v u Q I rx ry h
  obtain ⟨M, d, e, r, tk, rd, re, eg, q⟩ := h
  cases e with
  | none =>
    have eg' : some (PyData.bool (isNon d)) = some r := eg
    cases eg'
    refine op_isN pins s σ H x y v u Q I rx ry ⟨re.non, ?_⟩
    rw [non_dec rd]
    exact q _ H (Same.refl _) (.bl _)
  | _ => cases d <;> cases eg
theorem op_dNotN : OpR X (compareOp .IsNot) (rD X.K dNotN) := by
  intro pins s σ H x y v u Q I rx ry h
  obtain ⟨M, d, e, r, tk, rd, re, eg, q⟩ := h
  cases e with
  | none =>
    have eg' : some (PyData.bool !(isNon d)) = some r := eg
    cases eg'
    refine op_notN pins s σ H x y v u Q I rx ry ⟨re.non, ?_⟩
    rw [non_dec rd]
    exact q _ H (Same.refl _) (.bl _)
  | _ => cases d <;> cases eg
def dIsB : G2
  | .bool a, .bool b => some (.bool (decide (a = b)))
  | _, _ => none
def dNotB : G2
  | .bool a, .bool b => some (.bool (!decide (a = b)))
  | _, _ => none
theorem op_dIsB : OpR X (compareOp .Is) (rD X.K dIsB) := by
  intro pins s σ H x y v u Q I rx ry h
  obtain ⟨M, d, e, r, tk, rd, re, eg, q⟩ := h
  unfold dIsB at eg
  split at eg
  · cases eg
    exact op_isBl pins s σ H x y v u Q I rx ry ⟨_, _, rd.bl, re.bl, q _ H (Same.refl _) (.bl _)⟩
  · cases eg
theorem op_dNotB : OpR X (compareOp .IsNot) (rD X.K dNotB) := by
  intro pins s σ H x y v u Q I rx ry h
  obtain ⟨M, d, e, r, tk, rd, re, eg, q⟩ := h
  unfold dNotB at eg
  split at eg
  · cases eg
    exact op_notBl pins s σ H x y v u Q I rx ry ⟨_, _, rd.bl, re.bl, q _ H (Same.refl _) (.bl _)⟩
  · cases eg
/-! ### in, not in -/
def inOk (d : D) (ds : List D) : Bool := PyData.plainAll ds && d.plain && decide (d.depth ≤ 100)
theorem inOk_of {d : D} {ds : List D} (h : inOk d ds = true) : PyData.plainAll ds = true ∧ d.plain = true ∧ d.depth ≤ 100 := by
  have h1 := Bool.and_eq_true_iff.mp h
  have h2 := Bool.and_eq_true_iff.mp h1.1
  exact ⟨h2.1, h2.2, of_decide_eq_true h1.2⟩
def elemD (ds : List D) (d : D) : Bool := ds.any fun y => PyData.eqv y d
def dIn : G2
  | d, .list ds => if inOk d ds then some (.bool (elemD ds d)) else none
  | d, .tuple ds => if inOk d ds then some (.bool (elemD ds d)) else none
  | .str c, .str z => if c.cps.size = 1 then some (.bool (decide (c.cps.getD 0 0 ∈ z.cps.toList))) else none
  | _, _ => none
def dNotIn : G2
  | d, .list ds => if inOk d ds then some (.bool !(elemD ds d)) else none
  | d, .tuple ds => if inOk d ds then some (.bool !(elemD ds d)) else none
  | .str c, .str z => if c.cps.size = 1 then some (.bool !(decide (c.cps.getD 0 0 ∈ z.cps.toList))) else none
  | _, _ => none
theorem one_sign {c : Str} (h : c.cps.size = 1) : c = ⟨#[c.cps.getD 0 0]⟩ := by
  obtain ⟨a⟩ := c
  have h' : a.size = 1 := h
  congr 1
  apply Array.ext
  · simp [h']
  · intro i h1 h2
    have e : i = 0 := by omega
    subst e
    simp [Array.getD, h']
theorem op_dIn (hu : X.A.units + 110 < cLine) : OpR X (compareOp .In) (rD X.K dIn) := by
  intro pins s σ H x y v u Q I rx ry h
  obtain ⟨M, d, e, r, tk, rd, re, eg, q⟩ := h
  unfold dIn at eg
  split at eg
  · split at eg
    · rename_i ds hz
      cases eg
      obtain ⟨h1, h2, h3⟩ := inOk_of hz
      obtain ⟨as, r1⟩ := Dp.reads I _ x v (rd.dp h2) rx
      obtain ⟨bs, r2⟩ := Dp.reads I (.list ds) y u (re.dp h1) ry
      exact SeqAt.in_list_data r2 r1 h1 h2 (by omega) ⟨.bl _, H, I, rfl, q _ H (Same.refl _) (.bl _)⟩
    · cases eg
  · split at eg
    · rename_i ds hz
      cases eg
      obtain ⟨h1, h2, h3⟩ := inOk_of hz
      obtain ⟨as, r1⟩ := Dp.reads I _ x v (rd.dp h2) rx
      obtain ⟨bs, r2⟩ := Dp.reads I (.tuple ds) y u (re.dp h1) ry
      exact SeqAt.in_tuple_data r2 r1 h1 h2 (by omega) ⟨.bl _, H, I, rfl, q _ H (Same.refl _) (.bl _)⟩
    · cases eg
  · split at eg
    · rename_i c z hz
      cases eg
      exact op_in_sign pins s σ H x y v u Q I rx ry ⟨_, _, rd.str.trans (congrArg V.str (one_sign hz)), re.str, q _ H (Same.refl _) (.bl _)⟩
    · cases eg
  · cases eg
theorem op_dNotIn (hu : X.A.units + 110 < cLine) : OpR X (compareOp .NotIn) (rD X.K dNotIn) := by
  intro pins s σ H x y v u Q I rx ry h
  obtain ⟨M, d, e, r, tk, rd, re, eg, q⟩ := h
  unfold dNotIn at eg
  split at eg
  · split at eg
    · rename_i ds hz
      cases eg
      obtain ⟨h1, h2, h3⟩ := inOk_of hz
      obtain ⟨as, r1⟩ := Dp.reads I _ x v (rd.dp h2) rx
      obtain ⟨bs, r2⟩ := Dp.reads I (.list ds) y u (re.dp h1) ry
      exact SeqAt.notIn_list_data r2 r1 h1 h2 (by omega) ⟨.bl _, H, I, rfl, q _ H (Same.refl _) (.bl _)⟩
    · cases eg
  · split at eg
    · rename_i ds hz
      cases eg
      obtain ⟨h1, h2, h3⟩ := inOk_of hz
      obtain ⟨as, r1⟩ := Dp.reads I _ x v (rd.dp h2) rx
      obtain ⟨bs, r2⟩ := Dp.reads I (.tuple ds) y u (re.dp h1) ry
      exact SeqAt.notIn_tuple_data r2 r1 h1 h2 (by omega) ⟨.bl _, H, I, rfl, q _ H (Same.refl _) (.bl _)⟩
    · cases eg
  · split at eg
    · rename_i c z hz
      cases eg
      exact op_notIn_sign pins s σ H x y v u Q I rx ry ⟨_, _, rd.str.trans (congrArg V.str (one_sign hz)), re.str, q _ H (Same.refl _) (.bl _)⟩
    · cases eg
  · cases eg
/-! ### dicts -/
def keyOf : D → Option Key
  | .int i => some (.inl i)
  | .str x => some (.inr x)
  | _ => none
theorem keyOf_some {d : D} {k : Key} (h : keyOf d = some k) : d = kD k := by
  cases d with
  | int i => cases h; rfl
  | str x => cases h; rfl
  | _ => cases h
/-- what stands at a key -/
def dlook (es : List (D × D)) (k : Key) : Option D := (es.find? fun e => decide (keyOf e.1 = some k)).map (·.2)
theorem keyOf_kD (k : Key) : keyOf (kD k) = some k := by cases k <;> rfl
theorem rpK_look {K : Fg} {H : Hp} {M : Av} {k : Key} : ∀ {kvs : List (Key × V)} {es : List (D × D)}, RpK K H M kvs es → (∀ v, valV kvs k = some v → ∃ d, dlook es k = some d ∧ Rp K H M v d) ∧ (valV kvs k = none → dlook es k = none)
  | _, _, .nil => ⟨fun v h => (by cases h), fun _ => rfl⟩
  | _, _, .cons (k := k') (v := v') (kvs := kvs) (d := d') (es := es) h r => by
    have ih := rpK_look (k := k) r
    unfold valV dlook at *
    rw [List.find?_cons, List.find?_cons, keyOf_kD]
    by_cases e : k' = k
    · subst e
      simp only [decide_true, Option.map_some]
      exact ⟨fun v z => ⟨d', rfl, by cases z; exact h⟩, fun z => by cases z⟩
    · have e1 : decide ((k', v').1 = k) = false := decide_eq_false e
      have e2 : decide (some k' = some k) = false := decide_eq_false fun z => e (Option.some.inj z)
      rw [e1, e2]
      exact ih
/-- a dict with int and text keys, that is read -/
def dDictK {K : Fg} {H : Hp} {M : Av} (v : V) (es : List (D × D)) : Prop := ∃ a kvs, v = .ref a ∧ Rd H a (.dK kvs) ∧ RpK K H M kvs es
end
end Dt

set_option Elab.async false
set_option linter.all false
set_option maxRecDepth 100000
set_option autoImplicit false
/-! Arguments, displays, subscripts, slices, calls of what is built in. -/
namespace Dt
open PySem PySem.Spec PyProof.Rows L2 R

/-! ### arguments -/
inductive RxAll (r : Bool) (K : Fg) (H : Hp) (M : Av) : List V → List D → Prop
  | nil : RxAll r K H M [] []
  | cons {v : V} {vs : List V} {d : D} {ds : List D} : Rx r K H M v d → RxAll r K H M vs ds → RxAll r K H M (v :: vs) (d :: ds)
theorem RxAll.all {K : Fg} {H : Hp} {M : Av} : ∀ {vs : List V} {ds : List D}, RxAll false K H M vs ds → RpAll K H M vs ds
  | _, _, .nil => .nil
  | _, _, .cons h r => .cons h r.all
theorem RxAll.ts {r : Bool} {K : Fg} {H : Hp} {M : Av} : ∀ {vs : List V} {ds : List D}, RxAll r K H M vs ds → RxAll true K H M vs ds
  | _, _, .nil => .nil
  | _, _, .cons h q => .cons h.t q.ts
def DTa (K : Fg) (mg : Str → Option Value) (E : XK) (k r : Bool) (Γ : List Nat) (m : MA) : TA := fun σ H Q =>
  ∃ (M : Av) (A : As) (ρ : Ev), A.map (·.1) = Γ ∧ Fit K M A σ H ρ ∧
    (m ρ).post (fun z => ∀ vs H', Fit K M A σ H' z.2 → Fra (eff k A) H H' → (k = false → z.2 = ρ) → RxAll r K H' M vs z.1 → Q vs H') (DX mg E (eff k A) H)
def DA (X : Cx) (E : XK) (k r : Bool) (Γ : List Nat) (es : List Expr) (m : MA) : Prop := PA X es (DTa X.K X.mg E k r Γ m)
theorem PA.imp {X : Cx} {es : List Expr} {t t' : TA} (h : PA X es t) (w : ∀ σ H Q, t' σ H Q → t σ H Q) : PA X es t' := ⟨fun pos pins s σ H Q I q => h.run pos pins s σ H Q I (w σ H Q q)⟩
def aNil : MA := fun ρ => .ok ([], ρ)
def aCons (ma : ME) (mr : MA) : MA := fun ρ => (ma ρ).bind fun x => (mr x.2).bind fun xs => .ok (x.1 :: xs.1, xs.2)
section
variable {X : Cx} {E : XK} {k r : Bool} {Γ : List Nat} {a b c e : Expr} {es : List Expr} {pos : Pos}
theorem da_nil : DA X E k r Γ [] aNil := PA.imp pa_nil fun σ H Q ⟨M, A, ρ, _, f, q⟩ => q [] H f Fra.refl (fun _ => rfl) .nil
theorem da_cons {ma : ME} {mr : MA} (ha : DE X E k r Γ e ma) (hr : DA X E k r Γ es mr) (hk : (k && r) = false := by rfl) (hs : starEach (e :: es) X.env = (false, eval e X.env) :: starEach es X.env := by rfl) : DA X E k r Γ (e :: es) (aCons ma mr) :=
  PA.imp (pa_cons ha hr hs) fun σ H Q ⟨M, A, ρ, hΓ, f, h⟩ => by
    refine ⟨M, A, ρ, hΓ, f, pimp (post_bind h) (fun z hz v1 H1 f1 g1 e1 r1 => ?_) (fun c hc => hc)⟩
    refine ⟨M, A, z.2, hΓ, f1, pimp (post_bind hz) (fun z2 hz2 vs H2 f2 g2 e2 r2 => ?_) (fun c hc => DX.fra g1 hc)⟩
    exact hz2 (v1 :: vs) H2 f2 (g1.trans g2) (fun n => (e2 n).trans (e1 n)) (.cons (r1.fra hk f1 g2) r2)

/-! ### displays -/
def mTup (m : MA) : ME := fun ρ => (m ρ).bind fun x => if x.1.length ≤ 1000 then .ok (.tuple x.1, x.2) else .no
def mLst (m : MA) : ME := fun ρ => (m ρ).bind fun x => if x.1.length ≤ 1000 then .ok (.list x.1, x.2) else .no
def tTupZ (t : TA) : TE := fun σ H Q => t σ H fun vs H1 => vs.length ≤ sizeLine ∧ ∀ p o, H1 p = none → o.dict = none → Q (.ref p) (upd H1 p (.frz o (.tup vs)))
theorem pe_tupZ {t : TA} {x1 : Nat} (h : PA X es t) : PE X (.Tuple es x1 pos) (tTupZ t) := by
  refine ⟨fun pins s σ H Q I hq => ?_⟩
  refine wpAny_Tuple_spliced (thn (h.run pos pins s σ H _ I hq) fun us s1 ⟨xs, H1, I1, r, z, q⟩ => ⟨by rw [← r.length]; exact z, ?_⟩)
  have hf : H1 s1.heap.objs.size = none := I1.hok.fresh (Nat.le_refl _)
  exact ⟨.ref s1.heap.objs.size, _, tupLaid (t' := s1.toks) (n := 0) I1 (fun b u e => Heap.get?_push_of_some _ e) (Nat.le_refl _) z r (Heap.get?_push_size _ rfl), rfl, q _ _ hf rfl⟩
theorem de_tup {m : MA} {x1 : Nat} (h : DA X E k false Γ es m) : DE X E k false Γ (.Tuple es x1 pos) (mTup m) :=
  PE.imp (pe_tupZ h) fun σ H Q ⟨M, A, ρ, hΓ, f, h⟩ => by
    refine ⟨M, A, ρ, hΓ, f, pimp (post_bind h) (fun z hz vs H1 f1 g1 e1 r1 => ?_) (fun c hc => hc)⟩
    by_cases hl : z.1.length ≤ 1000
    · rw [if_pos hl] at hz
      have ra := r1.all
      refine ⟨by rw [ra.length]; exact Nat.le_of_lt (small1000 hl), fun p o np hd => ?_⟩
      obtain ⟨s', rp⟩ := new_tup hd f1.trk np ra
      exact hz _ _ (f1.same s') (g1.trans (Fra.of_eff s')) e1 rp
    · rw [if_neg hl] at hz; exact hz.elim
theorem de_lst {m : MA} (h : DA X E k false Γ es m) : DE X E k false Γ (.List es pos) (mLst m) :=
  PE.imp (pe_lst h) fun σ H Q ⟨M, A, ρ, hΓ, f, h⟩ => by
    refine ⟨M, A, ρ, hΓ, f, pimp (post_bind h) (fun z hz vs H1 f1 g1 e1 r1 => ?_) (fun c hc => hc)⟩
    by_cases hl : z.1.length ≤ 1000
    · rw [if_pos hl] at hz
      have ra := r1.all
      refine ⟨by rw [ra.length]; exact Nat.le_of_lt (small1000 hl), fun p np => ?_⟩
      obtain ⟨s', rp⟩ := new_lst f1.trk np ra
      exact hz _ _ (f1.same s') (g1.trans (Fra.of_eff s')) e1 rp
    · rw [if_neg hl] at hz; exact hz.elim

/-! ### subscripts -/
def asInts : List D → Option (List Int)
  | [] => some []
  | .int i :: ds => (asInts ds).map (i :: ·)
  | _ => none
theorem asInts_some : ∀ {ds : List D} {ns : List Int}, asInts ds = some ns → ds = ns.map .int
  | [], ns, h => by cases h; rfl
  | d :: ds, ns, h => by
    cases d with
    | int i =>
      have h : (asInts ds).map (i :: ·) = some ns := h
      cases e : asInts ds with
      | none => rw [e] at h; cases h
      | some ms => rw [e] at h; cases h; rw [asInts_some e]; rfl
    | _ => cases h
theorem scr_of {ds : List D} {ns : List Int} (h : asInts ds = some ns) : PyData.dict [(.none, .list ds)] = scrD ns := by rw [asInts_some h]; rfl
def scrIx (ds : List D) (i : Int) : Option D := (asInts ds).bind fun ns => (atI ns i).map .int
theorem atI_map {α β : Type} (f : α → β) (xs : List α) (i : Int) : atI (xs.map f) i = (atI xs i).map f := by
  unfold atI
  rw [List.length_map]
  cases ixN xs.length i with
  | none => rfl
  | some j => exact List.getElem?_map
def dIx : G2
  | .list ds, .int i => atI ds i
  | .tuple ds, .int i => atI ds i
  | .str z, .int i => if z.length ≤ sizeLine then (atI z.cps.toList i).map fun c => .str ⟨#[c]⟩ else none
  | .dict [(.none, .list ds)], .int i => scrIx ds i
  | _, _ => none
theorem atI_rp {K : Fg} {H : Hp} {M : Av} {xs : List V} {ds : List D} {i : Int} {d : D} (r : RpAll K H M xs ds) (h : atI ds i = some d) : ∃ v, atI xs i = some v ∧ Rp K H M v d := by
  unfold atI at *
  rw [r.length]
  cases q : ixN ds.length i with
  | none => rw [q] at h; cases h
  | some j =>
    rw [q] at h
    exact r.get h
theorem op_dIx : IxR X (rD X.K dIx) := by
  intro value slice pins s σ H x y v u Q I rx ry h hs
  obtain ⟨M, d, e, r, tk, rd, re, eg, q⟩ := h
  unfold dIx at eg
  split at eg
  · obtain ⟨a, xs, e1, r1, a1⟩ := rd.list
    obtain ⟨w, ew, rw'⟩ := atI_rp a1 eg
    exact ix_list value slice pins s σ H x y v u Q I rx ry ⟨a, xs, _, w, e1, re.int, .inl r1, ew, q _ H (Same.refl _) rw'⟩ hs
  · obtain ⟨a, xs, e1, r1, a1⟩ := rd.tuple
    obtain ⟨w, ew, rw'⟩ := atI_rp a1 eg
    exact ix_tup value slice pins s σ H x y v u Q I rx ry ⟨a, xs, _, w, e1, re.int, r1.sq, ew, q _ H (Same.refl _) rw'⟩ hs
  · split at eg
    · rename_i z i hz
      cases q2 : atI z.cps.toList i with
      | none => rw [q2] at eg; cases eg
      | some c =>
        rw [q2] at eg
        cases eg
        exact ix_str value slice pins s σ H x y v u Q I rx ry ⟨z, i, c, rd.str, re.int, hz, q2, q _ H (Same.refl _) (.str _)⟩ hs
    · cases eg
  · rename_i ds i
    unfold scrIx at eg
    cases ei : asInts ds with
    | none => rw [ei] at eg; cases eg
    | some ns =>
      rw [ei] at eg
      have eg : (atI ns i).map PyData.int = some r := eg
      cases ea : atI ns i with
      | none => rw [ea] at eg; cases eg
      | some n =>
        rw [ea] at eg
        cases eg
        rw [scr_of ei] at rd
        obtain ⟨a, e1, sq⟩ := rd.scr
        exact ix_list value slice pins s σ H x y v u Q I rx ry ⟨a, _, _, .int n, e1, re.int, sq, by rw [atI_map, ea]; rfl, q _ H (Same.refl _) (.int _)⟩ hs
  · cases eg
theorem de_sub {ma mb : ME} {ra rb : Bool} (ha : DE X E k ra Γ a ma) (hb : DE X E k rb Γ b mb) (hs : PlainIx b) (hk : (k && ra) = false := by rfl) : DE X E k false Γ (.Subscript a b pos) (mOp dIx ma mb) := de_ix op_dIx ha hb hs hk

/-! ### slices -/
abbrev MO := Ev → R (Option Int × Ev)
def DTo (K : Fg) (mg : Str → Option Value) (E : XK) (k : Bool) (Γ : List Nat) (m : MO) : TO := fun σ H Q =>
  ∃ (M : Av) (A : As) (ρ : Ev), A.map (·.1) = Γ ∧ Fit K M A σ H ρ ∧
    (m ρ).post (fun z => ∀ H', Fit K M A σ H' z.2 → Fra (eff k A) H H' → (k = false → z.2 = ρ) → Q z.1 H') (DX mg E (eff k A) H)
def DO (X : Cx) (E : XK) (k : Bool) (Γ : List Nat) (e : Option Expr) (m : MO) : Prop := PO X e (DTo X.K X.mg E k Γ m)
theorem PO.imp {X : Cx} {e : Option Expr} {t t' : TO} (h : PO X e t) (w : ∀ σ H Q, t' σ H Q → t σ H Q) : PO X e t' := ⟨fun pins s σ H Q I q => h.run pins s σ H Q I (w σ H Q q)⟩
def oNone : MO := fun ρ => .ok (none, ρ)
def asI : D → Option Int
  | .int i => some i
  | _ => none
theorem asI_some {d : D} {i : Int} (h : asI d = some i) : d = .int i := by
  cases d with
  | int c => rw [Option.some.inj h]
  | _ => cases h
def oSome (m : ME) : MO := fun ρ => (m ρ).bind fun x => (R.opt (asI x.1)).bind fun i => .ok (some i, x.2)
theorem do_none : DO X E k Γ none oNone := PO.imp po_none fun σ H Q ⟨M, A, ρ, _, f, q⟩ => q H f Fra.refl fun _ => rfl
theorem do_some {m : ME} (h : DE X E k false Γ e m) : DO X E k Γ (some e) (oSome m) := PO.imp (po_some h) fun σ H Q ⟨M, A, ρ, hΓ, f, h⟩ => by
    refine ⟨M, A, ρ, hΓ, f, pimp (post_bind h) (fun z hz v H1 f1 g1 e1 r1 => ?_) (fun c hc => hc)⟩
    obtain ⟨i, ei, q⟩ := post_opt hz
    have e2 := asI_some ei
    rw [e2] at r1
    exact ⟨i, Rt.int (Rt.of r1), q H1 f1 g1 e1⟩
def cut {α : Type} (xs : List α) (lo hi : Option Int) : List α := (xs.drop (HT.sIx xs.length 0 lo)).take (HT.sIx xs.length xs.length hi - HT.sIx xs.length 0 lo)
def dSl : D → Option Int → Option Int → Option D
  | .list ds, lo, hi => some (.list (cut ds lo hi))
  | .tuple ds, lo, hi => some (.tuple (cut ds lo hi))
  | .str z, lo, hi => if z.length ≤ sizeLine then some (.str (cutS z lo hi)) else none
  | _, _, _ => none
theorem cut_rp {K : Fg} {H : Hp} {M : Av} {xs : List V} {ds : List D} {lo hi : Option Int} (r : RpAll K H M xs ds) : RpAll K H M (cutV xs lo hi) (cut ds lo hi) := by
  unfold cutV cut
  rw [r.length]
  exact (r.drop _).take _
def rSlD (K : Fg) : V → Option Int → Option Int → Hp → VK → Prop := fun x lo hi H Q => ∃ (M : Av) (d r : D), Trk M H ∧ Rt K H M x d ∧ dSl d lo hi = some r ∧ ∀ w H', Same H H' → Rp K H' M w r → Q w H'
theorem sl_data : SlR X (rSlD X.K) := by
  intro pins s σ H x v vl vu lo hi sl Q I rx hs pl pu h
  obtain ⟨M, d, r, tk, rd, eg, q⟩ := h
  cases d with
  | list ds =>
    cases eg
    obtain ⟨a, xs, e1, r1, a1⟩ := rd.list
    exact sl_list pins s σ H x v vl vu lo hi sl Q I rx hs pl pu ⟨a, xs, e1, .inl r1, fun p np => let ⟨s', rp⟩ := new_lst tk np (cut_rp a1); q _ _ s' rp⟩
  | tuple ds =>
    cases eg
    obtain ⟨a, xs, e1, r1, a1⟩ := rd.tuple
    subst e1
    cases rx
    obtain ⟨its, rv, ht, hz⟩ := I.tuple r1.sq
    have hlen : its.toArray.size = xs.length := by rw [List.size_toArray]; exact rv.length.symm
    refine ⟨"tuple", _, PyProof.Rows.slot_tuple_getitem.lookup, ht.typeIs, ?_⟩
    by_cases hw : HT.sIx xs.length 0 lo = 0 ∧ HT.sIx xs.length xs.length hi = xs.length
    · have e3 : cut ds lo hi = ds := by
        unfold cut
        rw [← a1.length, hw.1, hw.2]
        simp [a1.length]
      rw [e3] at q
      exact getItem_tuple_whole ht hs pl pu (by rw [hlen]; exact hw) ⟨.ref a, H, I, rfl, q _ H (Same.refl _) (.tup r1 a1)⟩
    · refine HT.getItem_tuple_cut ht hs pl pu (by rw [hlen]; exact hw) ?_ (by rw [hlen]; exact hz)
      rw [hlen]
      have I2 := tupLaid (t' := s.toks) (ys := cutV xs lo hi) (its := (its.drop (HT.sIx xs.length 0 lo)).take (HT.sIx xs.length xs.length hi - HT.sIx xs.length 0 lo)) (n := 0) (a := s.heap.objs.size) I (fun b o e => Heap.get?_push_of_some _ e) (Nat.le_refl _) (Nat.le_trans (cutV_length xs lo hi) hz)
        ((rv.drop (HT.sIx xs.length 0 lo)).take (HT.sIx xs.length xs.length hi - HT.sIx xs.length 0 lo)) (Heap.get?_push_size _ rfl)
      obtain ⟨s', rp⟩ := new_tup (K := X.K) (o := tupObj ((its.drop (HT.sIx xs.length 0 lo)).take (HT.sIx xs.length xs.length hi - HT.sIx xs.length 0 lo)) 0) rfl tk I.fresh (cut_rp (lo := lo) (hi := hi) a1)
      exact ⟨.ref s.heap.objs.size, _, I2, rfl, q _ _ s' rp⟩
  | str z =>
    have eg' : (if z.length ≤ sizeLine then some (PyData.str (cutS z lo hi)) else none) = some r := eg
    by_cases hz : z.length ≤ sizeLine
    · rw [if_pos hz] at eg'
      cases eg'
      exact sl_str pins s σ H x v vl vu lo hi sl Q I rx hs pl pu ⟨z, rd.str, hz, q _ H (Same.refl _) (.str _)⟩
    · rw [if_neg hz] at eg'; cases eg'
  | _ => cases eg
def mSl (ma : ME) (ml mh : MO) : ME := fun ρ => (ma ρ).bind fun x => (ml x.2).bind fun l => (mh l.2).bind fun h => (R.opt (dSl x.1 l.1 h.1)).bind fun r => .ok (r, h.2)
theorem de_sl {lo hi : Option Expr} {ma : ME} {ml mh : MO} {ra : Bool} {p2 : Pos} (ha : DE X E k ra Γ a ma) (hl : DO X E k Γ lo ml) (hh : DO X E k Γ hi mh) (hk : (k && ra) = false := by rfl) : DE X E k false Γ (.Subscript a (.Slice lo hi none p2) pos) (mSl ma ml mh) :=
  PE.imp (pe_slice sl_data ha hl hh) fun σ H Q ⟨M, A, ρ, hΓ, f, h⟩ => by
    refine ⟨M, A, ρ, hΓ, f, pimp (post_bind h) (fun z hz v1 H1 f1 g1 e1 r1 => ?_) (fun c hc => hc)⟩
    refine ⟨M, A, z.2, hΓ, f1, pimp (post_bind hz) (fun z2 hz2 H2 f2 g2 e2 => ?_) (fun c hc => DX.fra g1 hc)⟩
    refine ⟨M, A, z2.2, hΓ, f2, pimp (post_bind hz2) (fun z3 hz3 H3 f3 g3 e3 => ?_) (fun c hc => DX.fra (g1.trans g2) hc)⟩
    obtain ⟨w, ew, q⟩ := post_opt hz3
    exact ⟨M, z.1, w, f3.trk, ((r1.fra hk f1 g2).fra hk f2 g3).t, ew, fun u H' s' rp => q u H' (f3.same s') (((g1.trans g2).trans g3).trans (Fra.of_eff s')) (fun n => ((e3 n).trans (e2 n)).trans (e1 n)) rp⟩
/-- xs[::-1], a list -/
def dRevL : G1
  | .list ds => some (.list ds.reverse)
  | _ => none
theorem de_revL {ma : ME} {ra : Bool} {j : Nat} {p1 p2 p3 : Pos} (ha : DE X E k ra Γ a ma) : DE X E k false Γ (.Subscript a (.Slice none none (some (.UnaryOp .USub (.Constant (.int 1) j p1) p2)) p3) pos) (mUn dRevL ma) :=
  PE.imp (pe_revL ha) fun σ H Q h => by
    obtain ⟨M, A, ρ, hΓ, f, h⟩ := dt_un (ra := ra) h
    refine ⟨M, A, ρ, hΓ, f, pimp h (fun z hz v1 H1 f1 g1 e1 r1 => ?_) (fun c hc => hc)⟩
    obtain ⟨M', d, w, tk, rd, ew, q⟩ := hz v1 H1 f1 g1 e1 r1
    cases d with
    | list ds =>
      cases ew
      obtain ⟨b, xs, e3, r3, a3⟩ := rd.list
      exact ⟨b, xs, e3, .inl r3, fun p np => let ⟨s', rp⟩ := new_lst tk np a3.reverse; q _ _ s' rp⟩
    | _ => cases ew

/-! ### calls of what is built in -/
abbrev GA := List D → Option D
def rC (K : Fg) (g : GA) : List V → Hp → VK → Prop := fun vs H Q => ∃ (M : Av) (ds : List D) (r : D), Trk M H ∧ RxAll true K H M vs ds ∧ g ds = some r ∧ ∀ w H', Same H H' → Rp K H' M w r → Q w H'
def mCall (g : GA) (m : MA) : ME := fun ρ => (m ρ).bind fun x => (R.opt (g x.1)).bind fun r => .ok (r, x.2)
theorem dt_call {g : GA} {m : MA} {σ : St} {H : Hp} {Q : VK} (h : DT X.K X.mg E k false Γ (mCall g m) σ H Q) : DTa X.K X.mg E k r Γ m σ H fun vs H1 => rC X.K g vs H1 Q := by
  obtain ⟨M, A, ρ, hΓ, f, h⟩ := h
  refine ⟨M, A, ρ, hΓ, f, pimp (post_bind h) (fun z hz v1 H1 f1 g1 e1 r1 => ?_) (fun c hc => hc)⟩
  obtain ⟨w, ew, q⟩ := post_opt hz
  exact ⟨M, z.1, w, f1.trk, r1.ts, ew, fun u H' s' rp => q u H' (f1.same s') (g1.trans (Fra.of_eff s')) e1 rp⟩
theorem de_callB {x : Str} {p : Pos} {id : String} {g : GA} {m : MA} (hc : CallR X (.builtin id) (rC X.K g)) (hg : Gl X x) (hm : X.mg x = none) (hv : bootBuiltins x = some (.builtin id)) (ha : DA X E k r Γ (e :: es) m) (hn : x ≠ "__name__" := by decide) (hdb : (x == ("__debug__" : Str)) = false := by decide)
    (he : starEach (e :: es) X.env = (false, eval e X.env) :: starEach es X.env := by rfl) (hpl : (backTo pos (starEach es X.env)).any (·.1) = false := by rfl) : DE X E k false Γ (.Call (.Name x p) (e :: es) [] pos) (mCall g m) :=
  PE.imp (pe_callB hc hg hm hv ha hn hdb he hpl) fun σ H Q h => dt_call (r := r) h
theorem de_callTy {x : Str} {p : Pos} {id : String} {g : GA} {m : MA} (hc : CallR X (.type id) (rC X.K g)) (hg : Gl X x) (hm : X.mg x = none) (hv : bootBuiltins x = some (.type id)) (ha : DA X E k r Γ (e :: es) m) (hn : x ≠ "__name__" := by decide) (hdb : (x == ("__debug__" : Str)) = false := by decide)
    (he : starEach (e :: es) X.env = (false, eval e X.env) :: starEach es X.env := by rfl) (hpl : (backTo pos (starEach es X.env)).any (·.1) = false := by rfl) : DE X E k false Γ (.Call (.Name x p) (e :: es) [] pos) (mCall g m) :=
  PE.imp (pe_callTy hc hg hm hv ha hn hdb he hpl) fun σ H Q h => dt_call (r := r) h
theorem rx1 {K : Fg} {H : Hp} {M : Av} {vs : List V} {d : D} (h : RxAll true K H M vs [d]) : ∃ v, vs = [v] ∧ Rt K H M v d := by
  cases h with
  | cons h r => cases r; exact ⟨_, rfl, h⟩
theorem rx2 {K : Fg} {H : Hp} {M : Av} {vs : List V} {d e : D} (h : RxAll true K H M vs [d, e]) : ∃ v w, vs = [v, w] ∧ Rt K H M v d ∧ Rt K H M w e := by
  cases h with
  | cons h r => cases r with | cons h2 r2 => cases r2; exact ⟨_, _, rfl, h, h2⟩
def dLen : GA
  | [.list ds] => some (.int ds.length)
  | [.tuple ds] => some (.int ds.length)
  | [.str z] => if z.length ≤ sizeLine then some (.int z.length) else none
  | [.dict [(.none, .list ds)]] => (asInts ds).map fun ns => .int ns.length
  | _ => none
theorem call_dLen : CallR X (.builtin "len") (rC X.K dLen) := by
  intro pins s σ H vs us Q I rv h
  obtain ⟨M, ds, r, tk, rx, eg, q⟩ := h
  unfold dLen at eg
  split at eg
  · cases eg
    obtain ⟨v, rfl, rd⟩ := rx1 rx
    obtain ⟨a, xs, e1, r1, a1⟩ := rd.list
    subst e1
    exact call_len_seq pins s σ H _ us Q I rv ⟨a, xs, rfl, .inl (.inl r1), by rw [a1.length]; exact q _ H (Same.refl _) (.int _)⟩
  · cases eg
    obtain ⟨v, rfl, rd⟩ := rx1 rx
    obtain ⟨a, xs, e1, r1, a1⟩ := rd.tuple
    subst e1
    exact call_len_seq pins s σ H _ us Q I rv ⟨a, xs, rfl, .inr r1.sq, by rw [a1.length]; exact q _ H (Same.refl _) (.int _)⟩
  · split at eg
    · rename_i z hz
      cases eg
      obtain ⟨v, rfl, rd⟩ := rx1 rx
      obtain rfl := rd.str
      exact call_len_str pins s σ H _ us Q I rv ⟨z, rfl, hz, q _ H (Same.refl _) (.int _)⟩
    · cases eg
  · rename_i ds
    cases ei : asInts ds with
    | none => rw [ei] at eg; cases eg
    | some ns =>
      rw [ei] at eg
      cases eg
      obtain ⟨v, rfl, rd⟩ := rx1 rx
      rw [scr_of ei] at rd
      obtain ⟨a, e1, sq⟩ := rd.scr
      subst e1
      exact call_len_seq pins s σ H _ us Q I rv ⟨a, _, rfl, .inl sq, by rw [List.length_map]; exact q _ H (Same.refl _) (.int _)⟩
  · cases eg
def dAbs : GA
  | [.int i] => some (.int (if i < 0 then -i else i))
  | _ => none
theorem call_dAbs : CallR X (.builtin "abs") (rC X.K dAbs) := by
  intro pins s σ H vs us Q I rv h
  obtain ⟨M, ds, r, tk, rx, eg, q⟩ := h
  unfold dAbs at eg
  split at eg
  · cases eg
    obtain ⟨v, rfl, rd⟩ := rx1 rx
    obtain rfl := rd.int
    exact call_abs pins s σ H _ us Q I rv ⟨_, rfl, q _ H (Same.refl _) (.int _)⟩
  · cases eg
def dInt : GA
  | [.int i] => some (.int i)
  | [.bool b] => some (.int (if b then 1 else 0))
  | _ => none
theorem call_dInt : CallR X (.type "int") (rC X.K dInt) := by
  intro pins s σ H vs us Q I rv h
  obtain ⟨M, ds, r, tk, rx, eg, q⟩ := h
  unfold dInt at eg
  split at eg
  · cases eg
    obtain ⟨v, rfl, rd⟩ := rx1 rx
    obtain rfl := rd.int
    exact call_int1 pins s σ H _ us Q I rv (.inl ⟨_, rfl, q _ H (Same.refl _) (.int _)⟩)
  · cases eg
    obtain ⟨v, rfl, rd⟩ := rx1 rx
    obtain rfl := rd.bl
    exact call_int1 pins s σ H _ us Q I rv (.inr ⟨_, rfl, q _ H (Same.refl _) (.int _)⟩)
  · cases eg
def dList : GA
  | [.list ds] => some (.list ds)
  | [.tuple ds] => some (.list ds)
  | _ => none
theorem call_dList : CallR X (.type "list") (rC X.K dList) := by
  intro pins s σ H vs us Q I rv h
  obtain ⟨M, ds, r, tk, rx, eg, q⟩ := h
  unfold dList at eg
  split at eg
  · cases eg
    obtain ⟨v, rfl, rd⟩ := rx1 rx
    obtain ⟨a, xs, e1, r1, a1⟩ := rd.list
    subst e1
    exact call_list_of pins s σ H _ us Q I rv ⟨a, xs, rfl, .inl (.inl r1), fun p np => let ⟨s', rp⟩ := new_lst tk np a1; q _ _ s' rp⟩
  · cases eg
    obtain ⟨v, rfl, rd⟩ := rx1 rx
    obtain ⟨a, xs, e1, r1, a1⟩ := rd.tuple
    subst e1
    exact call_list_of pins s σ H _ us Q I rv ⟨a, xs, rfl, .inr r1.sq, fun p np => let ⟨s', rp⟩ := new_lst tk np a1; q _ _ s' rp⟩
  · cases eg
def dTuple : GA
  | [.list ds] => some (.tuple ds)
  | [.tuple ds] => some (.tuple ds)
  | _ => none
theorem call_dTuple : CallR X (.type "tuple") (rC X.K dTuple) := by
  intro pins s σ H vs us Q I rv h
  obtain ⟨M, ds, r, tk, rx, eg, q⟩ := h
  unfold dTuple at eg
  split at eg
  · cases eg
    obtain ⟨v, rfl, rd⟩ := rx1 rx
    obtain ⟨a, xs, e1, r1, a1⟩ := rd.list
    subst e1
    obtain rfl := Vals.ref1 rv
    obtain ⟨its, r', pl, hz⟩ := I.list (.inl r1)
    have hlen := r'.length
    refine call_tuple_list pl.isList (fun h' kp => ?_) (by simp only [List.size_toArray] <;> omega)
    have I1 : Inv X pins σ H { s with heap := h' } := I.kept (t' := s.toks) kp
    have I2 := tupLaid (t' := s.toks) (ys := xs) (its := its) (n := 0) (a := h'.objs.size) I1 (fun b o e => Heap.get?_push_of_some _ e) (Nat.le_refl _) hz r' (Heap.get?_push_size _ rfl)
    obtain ⟨s', rp⟩ := new_tup (K := X.K) (o := tupObj its 0) rfl tk (I1.hok.fresh (Nat.le_refl _)) a1
    exact ⟨.ref h'.objs.size, _, I2, rfl, q _ _ s' rp⟩
  · cases eg
    obtain ⟨v, rfl, rd⟩ := rx1 rx
    obtain ⟨a, xs, e1, r1, a1⟩ := rd.tuple
    subst e1
    exact call_tuple_of pins s σ H _ us Q I rv ⟨a, xs, rfl, .inr ⟨r1.sq, q _ H (Same.refl _) (.tup r1 a1)⟩⟩
  · cases eg
/-- all, any of a list of bools -/
def asBs : List D → Option (List Bool)
  | [] => some []
  | .bool b :: r => (asBs r).map (b :: ·)
  | _ => none
theorem asBs_map : ∀ {ds : List D} {bs : List Bool}, asBs ds = some bs → ds = bs.map PyData.bool
  | [], _, h => by cases h; rfl
  | d :: r, bs, h => by
    cases d with
    | bool b =>
      have h' : (asBs r).map (b :: ·) = some bs := h
      cases q : asBs r with
      | none => rw [q] at h'; cases h'
      | some cs =>
        rw [q] at h'
        cases h'
        rw [asBs_map q]; rfl
    | _ => cases h
theorem rp_bools {K : Fg} {H : Hp} {M : Av} : ∀ {bs : List Bool} {xs : List V}, RpAll K H M xs (bs.map PyData.bool) → xs = bs.map V.bl
  | [], _, h => by cases h; rfl
  | b :: bs, _, h => by
    cases h with
    | cons h r => cases h; rw [rp_bools r]; rfl
def dAll : GA
  | [.list ds] => (asBs ds).map fun bs => .bool (bs.all id)
  | _ => none
def dAny : GA
  | [.list ds] => (asBs ds).map fun bs => .bool (bs.any id)
  | _ => none
theorem call_dAll (hc : X.calm = true) : CallR X (.builtin "all") (rC X.K dAll) := by
  intro pins s σ H vs us Q I rv h
  obtain ⟨M, ds, r, tk, rx, eg, q⟩ := h
  unfold dAll at eg
  split at eg
  · rename_i ds
    cases q2 : asBs ds with
    | none => rw [q2] at eg; cases eg
    | some bs =>
      rw [q2] at eg
      cases eg
      obtain ⟨v, rfl, rd⟩ := rx1 rx
      obtain ⟨a, xs, e1, r1, a1⟩ := rd.list
      subst e1
      rw [asBs_map q2] at a1
      have := rp_bools a1
      subst this
      exact cr_all hc pins s σ H _ us Q I rv ⟨a, bs, rfl, .inl r1, q _ H (Same.refl _) (.bl _)⟩
  · cases eg
theorem call_dAny (hc : X.calm = true) : CallR X (.builtin "any") (rC X.K dAny) := by
  intro pins s σ H vs us Q I rv h
  obtain ⟨M, ds, r, tk, rx, eg, q⟩ := h
  unfold dAny at eg
  split at eg
  · rename_i ds
    cases q2 : asBs ds with
    | none => rw [q2] at eg; cases eg
    | some bs =>
      rw [q2] at eg
      cases eg
      obtain ⟨v, rfl, rd⟩ := rx1 rx
      obtain ⟨a, xs, e1, r1, a1⟩ := rd.list
      subst e1
      rw [asBs_map q2] at a1
      have := rp_bools a1
      subst this
      exact cr_any hc pins s σ H _ us Q I rv ⟨a, bs, rfl, .inl r1, q _ H (Same.refl _) (.bl _)⟩
  · cases eg
end
end Dt

set_option Elab.async false
set_option linter.all false
set_option maxRecDepth 100000
set_option autoImplicit false
/-! What is walked, statements, loops. -/
namespace Dt
open PySem PySem.Spec PyProof.Rows L2 R

/-! ### carrying more -/
theorem Carry.wide {K : Fg} {H H' : Hp} {F M M' : Av} (g : Fra F H H') (hF : ∀ b, F b → M b) (hM : ∀ b, M' b → M b ∨ H b = none) : Carry K H H' M M' := ⟨fun a u r n =>
  ⟨.inl (g a u r fun z => n (hF a z)), fun z => (hM a z).elim n fun e => by rw [e] at r; cases r⟩⟩

/-! ### what is walked: items that stand as data -/
structure Src (K : Fg) (J : It) (ds : List D) (S : Av → Hp → Prop) : Prop where
  carry : ∀ (M M' F : Av) (H H' : Hp), S M H → Fra F H H' → (∀ b, F b → M b) → (∀ b, M' b → M b ∨ H b = none) → S M' H'
  go : ∀ (M : Av) (i : Nat) (H : Hp), S M H → i < ds.length → J.go i H
  stop : ∀ (M : Av) (i : Nat) (H : Hp), S M H → ds.length ≤ i → J.stop i H
  yld : ∀ (M : Av) (i : Nat) (H : Hp) (x : V) (H' : Hp), S M H → i < ds.length → J.yld i H x H' → H' = H ∧ ∃ d, ds[i]? = some d ∧ Rp K H M x d
def DTi (K : Fg) (mg : Str → Option Value) (E : XK) (k : Bool) (Γ : List Nat) (m : MA) : TI := fun σ H Rr =>
  ∃ (M : Av) (A : As) (ρ : Ev), A.map (·.1) = Γ ∧ Fit K M A σ H ρ ∧
    (m ρ).post (fun z => ∀ J S H', Fit K M A σ H' z.2 → Fra (eff k A) H H' → (k = false → z.2 = ρ) → Src K J z.1 S → S M H' → z.1.length ≤ sizeLine → Rr J H') (DX mg E (eff k A) H)
def DI (X : Cx) (E : XK) (k : Bool) (Γ : List Nat) (tg e : Expr) (m : MA) : Prop := PI X tg e (DTi X.K X.mg E k Γ m)
theorem PI.imp {X : Cx} {tg e : Expr} {t t' : TI} (h : PI X tg e t) (w : ∀ σ H Q, t' σ H Q → t σ H Q) : PI X tg e t' := ⟨fun pins s σ H Q I q => h.run pins s σ H Q I (w σ H Q q)⟩

/-- a list, a tuple or a text -/
def iSeq (K : Fg) (tl : TE) : TI := fun σ H R => tl σ H fun x H1 => (∃ a xs, x = .ref a ∧ SqL K H1 a xs ∧ (xs.length ≤ sizeLine → R (Itl K a) H1)) ∨ (∃ a xs, x = .ref a ∧ SqT K H1 a xs ∧ (xs.length ≤ sizeLine → R (Itt K a) H1)) ∨ ∃ z, x = .str z ∧ R (Its z) H1
theorem pi_seq {X : Cx} {tg l : Expr} {tl : TE} (hl : PE X l tl) : PI X tg l (iSeq X.K tl) := by
  refine ⟨fun pins s σ H R I h => ?_⟩
  refine thn (hl.run pins s σ H _ I h) fun v s1 ⟨x, H1, I1, r1, q1⟩ => ?_
  rcases q1 with ⟨a, xs, e, hq, q⟩ | ⟨a, xs, e, hq, q⟩ | ⟨z, e, q⟩
  · subst e
    cases r1
    obtain ⟨its, rv, p, hz⟩ := I1.list hq
    refine wpAny_pyIter_list p.isList ?_
    refine ⟨s1.heap.objs.size, [s1.heap.objs.size], _, _, H1, rfl, I1.kept (t' := s1.toks) fun b o e => Heap.get?_push_of_some _ e, turn_list a _, ⟨_, Heap.get?_push_size _ rfl, rfl, rfl⟩, fun b hb => ?_, q hz⟩
    have e : b = s1.heap.objs.size := by simpa using hb
    subst e
    exact I1.fpOk (Nat.le_refl _) (I1.hok.fresh (Nat.le_refl _))
  · subst e
    cases r1
    obtain ⟨its, rv, p, hz⟩ := I1.tuple hq
    refine wpAny_pyIter_tuple (show s1.heap.IsTuple a its.toArray from p) ?_
    refine ⟨s1.heap.objs.size, [s1.heap.objs.size], _, _, H1, rfl, I1.kept (t' := s1.toks) fun b o e => Heap.get?_push_of_some _ e, turn_tuple a _, ⟨_, Heap.get?_push_size _ rfl, rfl, rfl⟩, fun b hb => ?_, q hz⟩
    have e : b = s1.heap.objs.size := by simpa using hb
    subst e
    exact I1.fpOk (Nat.le_refl _) (I1.hok.fresh (Nat.le_refl _))
  · subst e
    obtain ⟨t, rfl⟩ := r1
    cases ha : z.cps.all (· < 128)
    · exact wpAny_pyIter_wide ha (pi_one (tk := s1.toks) I1 _ (turn_str _ z t "str_iterator" (.inr rfl)) ⟨_, Heap.get?_push_size _ rfl, rfl, rfl⟩ q)
    · exact wpAny_pyIter_ascii ha (pi_one (tk := s1.toks) I1 _ (turn_str _ z t "str_ascii_iterator" (.inl rfl)) ⟨_, Heap.get?_push_size _ rfl, rfl, rfl⟩ q)
theorem src_list {K : Fg} (a : Addr) (ds : List D) : Src K (Itl K a) ds (fun M H => ∃ xs, SLm K H M a xs ∧ RpAll K H M xs ds) where
  carry := fun M M' F H H' ⟨xs, h1, h2⟩ g hF hM =>
    have c : Carry K H H' M M' := Carry.wide g hF hM
    ⟨xs, c.rd _ _ h1.1 h1.2, RpAll.carry c h2⟩
  go := fun M i H ⟨xs, h1, h2⟩ hi => ⟨xs, xs[i]'(by rw [h2.length]; exact hi), h1.sq, List.getElem?_eq_getElem _⟩
  stop := fun M i H ⟨xs, h1, h2⟩ hi => ⟨xs, h1.sq, by rw [h2.length]; exact hi⟩
  yld := fun M i H x H' ⟨xs, h1, h2⟩ _ ⟨e, hx⟩ => ⟨e, h2.getV (hx xs h1.sq)⟩
theorem src_tup {K : Fg} (a : Addr) (ds : List D) : Src K (Itt K a) ds (fun M H => ∃ xs, STm K H M a xs ∧ RpAll K H M xs ds) where
  carry := fun M M' F H H' ⟨xs, h1, h2⟩ g hF hM =>
    have c : Carry K H H' M M' := Carry.wide g hF hM
    ⟨xs, h1.imp (fun z => c.tp _ _ z.1 z.2) id, RpAll.carry c h2⟩
  go := fun M i H ⟨xs, h1, h2⟩ hi => ⟨xs, xs[i]'(by rw [h2.length]; exact hi), h1.sq, List.getElem?_eq_getElem _⟩
  stop := fun M i H ⟨xs, h1, h2⟩ hi => ⟨xs, h1.sq, by rw [h2.length]; exact hi⟩
  yld := fun M i H x H' ⟨xs, h1, h2⟩ _ ⟨e, hx⟩ => ⟨e, h2.getV (hx xs h1.sq)⟩
def signs (z : Str) : List D := z.cps.toList.map fun c => .str ⟨#[c]⟩
theorem src_str {K : Fg} (z : Str) : Src K (Its z) (signs z) (fun _ _ => True) where
  carry := fun _ _ _ _ _ _ _ _ _ => trivial
  go := fun M i H _ hi => by
    have : i < z.cps.size := by simpa [signs] using hi
    exact this
  stop := fun M i H _ hi => by
    have : z.cps.size ≤ i := by simpa [signs] using hi
    exact this
  yld := fun M i H x H' _ _ ⟨e, c, hc, ex⟩ => ⟨e, .str ⟨#[c]⟩, by
    unfold signs
    rw [List.getElem?_map]
    have : z.cps.toList[i]? = some c := by simpa using hc
    rw [this]; rfl, by rw [ex]; exact .str _⟩
def rng (lo : Int) (n : Nat) : List D := (List.range n).map fun i => .int (lo + (i : Nat))
theorem src_rng {K : Fg} (lo : Int) (n : Nat) : Src K (Itr lo n) (rng lo n) (fun _ _ => True) where
  carry := fun _ _ _ _ _ _ _ _ _ => trivial
  go := fun M i H _ hi => by
    have : i < n := by simpa [rng] using hi
    exact this
  stop := fun M i H _ hi => by
    have : n ≤ i := by simpa [rng] using hi
    exact this
  yld := fun M i H x H' _ hi ⟨e, ex⟩ => by
    refine ⟨e, .int (lo + (i : Nat)), ?_, by rw [ex]; exact .int _⟩
    have h : i < n := by simpa [rng] using hi
    unfold rng
    rw [List.getElem?_map, List.getElem?_range h]; rfl

section
variable {X : Cx} {E : XK} {k r : Bool} {Γ : List Nat} {a b c e tg : Expr} {es : List Expr} {pos : Pos}
def items : D → Option (List D)
  | .list ds => some ds
  | .tuple ds => some ds
  | .str z => if z.length ≤ sizeLine then some (signs z) else none
  | .dict [(.none, .list ds)] => (asInts ds).map fun _ => ds
  | _ => none
theorem src_scr {K : Fg} (a : Addr) (ns : List Int) : Src K (Itl K a) (ns.map .int) (fun M H => SQm K H M a (ns.map V.int)) where
  carry := fun M M' F H H' h g hF hM => h.imp (fun z => (Carry.wide (K := K) g hF hM).rd _ _ z.1 z.2) id
  go := fun M i H h hi => ⟨ns.map V.int, (ns.map V.int)[i]'(by simpa using hi), h.sq, List.getElem?_eq_getElem _⟩
  stop := fun M i H h hi => ⟨ns.map V.int, h.sq, by simpa using hi⟩
  yld := fun M i H x H' h hi ⟨e, hx⟩ => ⟨e, by
    have h1 := hx _ h.sq
    rw [List.getElem?_map] at h1
    have hi : i < ns.length := by simpa using hi
    rw [List.getElem?_eq_getElem hi] at h1
    cases h1
    exact ⟨.int ns[i], by rw [List.getElem?_map, List.getElem?_eq_getElem hi]; rfl, .int _⟩⟩
def iSq (m : ME) : MA := fun ρ => (m ρ).bind fun x => (R.opt (items x.1)).bind fun ds => .ok (ds, x.2)
theorem di_seq {m : ME} (h : DE X E k false Γ e m) : DI X E k Γ tg e (iSq m) := PI.imp (pi_seq h) fun σ H Q ⟨M, A, ρ, hΓ, f, h⟩ => by
  refine ⟨M, A, ρ, hΓ, f, pimp (post_bind h) (fun z hz v H1 f1 g1 e1 r1 => ?_) (fun c hc => hc)⟩
  obtain ⟨ds, ed, q⟩ := post_opt hz
  have r2 : Rp X.K H1 M v z.1 := r1
  cases hd : z.1 with
  | list xs =>
    rw [hd] at ed r2
    cases ed
    cases r2 with
    | lst h1 h2 => exact .inl ⟨_, _, rfl, h1.sq, fun hl => q _ _ H1 f1 g1 e1 (src_list _ _) ⟨_, h1, h2⟩ (by rw [← h2.length]; exact hl)⟩
  | tuple xs =>
    rw [hd] at ed r2
    cases ed
    cases r2 with
    | tup h1 h2 => exact .inr (.inl ⟨_, _, rfl, h1.sq, fun hl => q _ _ H1 f1 g1 e1 (src_tup _ _) ⟨_, h1, h2⟩ (by rw [← h2.length]; exact hl)⟩)
  | str x =>
    rw [hd] at ed r2
    have ed' : (if x.length ≤ sizeLine then some (signs x) else none) = some ds := ed
    by_cases hl : x.length ≤ sizeLine
    · rw [if_pos hl] at ed'
      cases ed'
      cases r2
      exact .inr (.inr ⟨_, rfl, q _ _ H1 f1 g1 e1 (src_str _) trivial (by
        have : (signs x).length = x.length := by
          unfold signs
          rw [List.length_map, Array.length_toList]; rfl
        rw [this]; exact hl)⟩)
    · rw [if_neg hl] at ed'; cases ed'
  | dict es =>
    rw [hd] at ed r2
    unfold items at ed
    split at ed
    · rename_i e; cases e
    · rename_i e; cases e
    · rename_i e; cases e
    · rename_i ds' e
      cases e
      cases ei : asInts ds' with
      | none => rw [ei] at ed; cases ed
      | some ns =>
        rw [ei] at ed
        cases ed
        rw [scr_of ei] at r2
        have ens := asInts_some ei
        rw [ens] at q
        generalize hsd : scrD ns = dd at r2
        cases r2 with
        | scr h =>
          have e2 : (scrD ns = scrD _) := hsd
          obtain ⟨hsz, _⟩ : True ∧ True := ⟨trivial, trivial⟩
          injection e2 with e2
          injection e2 with e2 _
          injection e2 with _ e2
          injection e2 with e2
          have e3 := (List.map_inj_right (fun a b z => by injection z)).mp e2
          subst e3
          exact .inl ⟨_, _, rfl, h.sq, fun hl => q _ _ H1 f1 g1 e1 (src_scr _ _) h (by simpa using hl)⟩
        | dcK _ _ r => exact (scr_ne r hsd).elim
        | dcT _ _ r => injection hsd with hsd; injection hsd with hsd _; injection hsd with hsd _; cases hsd
        | _ => cases hsd
    · cases ed
  | _ => rw [hd] at ed; cases ed
def small62 (i : Int) : Bool := decide (-(2 ^ 62) ≤ i) && decide (i < 2 ^ 62)
theorem small62_of {i : Int} (h : small62 i = true) : -(2 ^ 62) ≤ i ∧ i < 2 ^ 62 := by
  have := Bool.and_eq_true_iff.mp h
  exact ⟨of_decide_eq_true this.1, of_decide_eq_true this.2⟩
def rng1 : List D → Option (List D)
  | [.int j] => if decide (j ≤ 16777216) && decide (-16777216 ≤ j) then some (rng 0 j.toNat) else none
  | _ => none
def rng2 : List D → Option (List D)
  | [.int i, .int j] => if small62 i && (small62 j && decide (j - i ≤ 16777216)) then some (rng i (j - i).toNat) else none
  | _ => none
def iRg (g : List D → Option (List D)) (m : MA) : MA := fun ρ => (m ρ).bind fun x => (R.opt (g x.1)).bind fun ds => .ok (ds, x.2)
theorem di_rng1 {m : MA} {p : Pos} (hg : Gl X "range") (hm : X.mg "range" = none) (h : DA X E k r Γ [e] m) (hs : starEach [e] X.env = [(false, eval e X.env)] := by rfl) : DI X E k Γ tg (.Call (.Name "range" p) [e] [] pos) (iRg rng1 m) :=
  PI.imp (pi_range1 hg hm h hs) fun σ H Q ⟨M, A, ρ, hΓ, f, h⟩ => by
    refine ⟨M, A, ρ, hΓ, f, pimp (post_bind h) (fun z hz v H1 f1 g1 e1 r1 => ?_) (fun c hc => hc)⟩
    obtain ⟨ds, ed, q⟩ := post_opt hz
    unfold rng1 at ed
    split at ed
    · rename_i j hd
      split at ed
      · rename_i hj
        cases ed
        rw [hd] at r1
        obtain ⟨w, rfl, rw'⟩ := rx1 r1.ts
        have hj' := Bool.and_eq_true_iff.mp hj
        have h1 := of_decide_eq_true hj'.1
        have h2 := of_decide_eq_true hj'.2
        exact ⟨j, by rw [rw'.int], by omega, by omega, q _ _ H1 f1 g1 e1 (src_rng 0 _) trivial (by
          have : (rng 0 j.toNat).length = j.toNat := by simp [rng]
          have h3 : (sizeLine : Nat) = 16777216 := sizeLine_eq
          rw [this, h3]; omega)⟩
      · cases ed
    · cases ed
theorem di_rng2 {m : MA} {p : Pos} (hg : Gl X "range") (hm : X.mg "range" = none) (h : DA X E k r Γ [a, b] m) (hs : starEach [a, b] X.env = [(false, eval a X.env), (false, eval b X.env)] := by rfl) (hs2 : starEach [b] X.env = [(false, eval b X.env)] := by rfl) :
    DI X E k Γ tg (.Call (.Name "range" p) [a, b] [] pos) (iRg rng2 m) :=
  PI.imp (pi_range2 hg hm h hs hs2) fun σ H Q ⟨M, A, ρ, hΓ, f, h⟩ => by
    refine ⟨M, A, ρ, hΓ, f, pimp (post_bind h) (fun z hz v H1 f1 g1 e1 r1 => ?_) (fun c hc => hc)⟩
    obtain ⟨ds, ed, q⟩ := post_opt hz
    unfold rng2 at ed
    split at ed
    · rename_i i j hd
      split at ed
      · rename_i hj
        cases ed
        rw [hd] at r1
        obtain ⟨w, w2, rfl, rw', rw2⟩ := rx2 r1.ts
        have hj' := Bool.and_eq_true_iff.mp hj
        have hj2 := Bool.and_eq_true_iff.mp hj'.2
        obtain ⟨h1, h2⟩ := small62_of hj'.1
        obtain ⟨h3, h4⟩ := small62_of hj2.1
        have h5 := of_decide_eq_true hj2.2
        exact ⟨i, j, by rw [rw'.int, rw2.int], ⟨h1, h2, h3, h4⟩, q _ _ H1 f1 g1 e1 (src_rng i _) trivial (by
          have : (rng i (j - i).toNat).length = (j - i).toNat := by simp [rng]
          have h6 : (sizeLine : Nat) = 16777216 := sizeLine_eq
          rw [this, h6]; omega)⟩
      · cases ed
    · cases ed
end

/-! ### targets -/
abbrev MG := D → Ev → R Ev
abbrev MGs := List D → Ev → R Ev
theorem Fit.set {K : Fg} {M : Av} {A : As} {σ : St} {H : Hp} {ρ : Ev} {i : Nat} {v : V} {d : D} (f : Fit K M A σ H ρ) (hi : ∀ a, (i, a) ∉ A) (h : Rp K H M v d) : Fit K M A (σ.set i (some v)) H (ρ.set i (some d)) where
  len := by rw [List.length_set, List.length_set]; exact f.len
  trk := f.trk
  sub := f.sub
  nd := f.nd
  own := fun p hp => by
    have ne : i ≠ p.1 := fun e => hi p.2 (by rw [e]; exact hp)
    obtain ⟨h1, d', h2, h3⟩ := f.own p hp
    exact ⟨by rw [List.getElem?_set_ne ne]; exact h1, d', by rw [List.getElem?_set_ne ne]; exact h2, h3⟩
  shr := fun j d' e n => by
    by_cases ej : i = j
    · subst ej
      have hl : i < ρ.length := by
        have := (List.getElem?_eq_some_iff.mp e).1
        rwa [List.length_set] at this
      rw [List.getElem?_set_self hl] at e
      cases e
      exact ⟨v, List.getElem?_set_self (by rw [f.len]; exact hl), h⟩
    · rw [List.getElem?_set_ne ej] at e
      obtain ⟨w, h1, h2⟩ := f.shr j d' e n
      exact ⟨w, by rw [List.getElem?_set_ne ej]; exact h1, h2⟩
theorem not_own {A : As} {Γ : List Nat} {i : Nat} (hΓ : A.map (·.1) = Γ) (hi : Γ.contains i = false) : ∀ a, (i, a) ∉ A := fun a z => by
  have : i ∈ Γ := hΓ ▸ List.mem_map.mpr ⟨(i, a), z, rfl⟩
  rw [List.contains_iff_mem.mpr this] at hi
  cases hi
def DTg (K : Fg) (Γ vs : List Nat) (m : MG) : TG := fun v σ H Q => ∃ (M : Av) (A : As) (ρ : Ev) (d : D), A.map (·.1) = Γ ∧ Fit K M A σ H ρ ∧ Rp K H M v d ∧
  (m d ρ).post (fun ρ' => ∀ σ', Fit K M A σ' H ρ' → wipe σ' vs = wipe σ vs → Q σ' H) (fun _ => False)
def DTgs (K : Fg) (Γ ws : List Nat) (m : MGs) : TGs := fun vs σ H Q => ∃ (M : Av) (A : As) (ρ : Ev) (ds : List D), A.map (·.1) = Γ ∧ Fit K M A σ H ρ ∧ RpAll K H M vs ds ∧
  (m ds ρ).post (fun ρ' => ∀ σ', Fit K M A σ' H ρ' → wipe σ' ws = wipe σ ws → Q σ' H) (fun _ => False)
def DG (X : Cx) (Γ vs : List Nat) (tg : Expr) (m : MG) : Prop := PG X tg (DTg X.K Γ vs m)
def DGs (X : Cx) (Γ vs : List Nat) (tgs : List Expr) (m : MGs) : Prop := PGs X tgs (DTgs X.K Γ vs m)
theorem wipe_set {v : Option V} {i : Nat} : ∀ {vs : List Nat} {σ : St}, i ∈ vs → wipe (σ.set i v) vs = wipe σ vs := by
  have comm : ∀ (vs : List Nat) (σ : St) (v : Option V), wipe (σ.set i v) vs = if i ∈ vs then wipe σ vs else (wipe σ vs).set i v := by
    intro vs
    induction vs with
    | nil => intro σ v; simp [wipe]
    | cons j vs ih =>
      intro σ v
      show (wipe (σ.set i v) vs).set j none = _
      rw [ih]
      by_cases h : i ∈ vs
      · rw [if_pos h, if_pos (List.mem_cons_of_mem _ h)]; rfl
      · rw [if_neg h]
        by_cases e : i = j
        · subst e
          rw [if_pos List.mem_cons_self, List.set_set]; rfl
        · rw [if_neg (fun z => (List.mem_cons.mp z).elim e h), List.set_comm _ _ e]; rfl
  intro vs σ h
  rw [comm, if_pos h]
theorem PG.imp {X : Cx} {tg : Expr} {t t' : TG} (h : PG X tg t) (w : ∀ v σ H Q, t' v σ H Q → t v σ H Q) : PG X tg t' := ⟨fun pins s σ H v u Q I rv q => h.run pins s σ H v u Q I rv (w v σ H Q q)⟩
theorem PGs.imp {X : Cx} {tg : List Expr} {t t' : TGs} (h : PGs X tg t) (w : ∀ v σ H Q, t' v σ H Q → t v σ H Q) : PGs X tg t' := ⟨fun pins s σ H v u Q I rv q => h.run pins s σ H v u Q I rv (w v σ H Q q)⟩
def gSet (i : Nat) : MG := fun d ρ => .ok (ρ.set i (some d))
def gsNil : MGs := fun ds ρ => match ds with
  | [] => .ok ρ
  | _ => .no
def gsCons (g : MG) (gs : MGs) : MGs := fun ds ρ => match ds with
  | d :: r => (g d ρ).bind fun ρ' => gs r ρ'
  | [] => .no
def gTpl (n : Nat) (gs : MGs) : MG := fun d ρ => match d with
  | .tuple ds => if ds.length = n then gs ds ρ else .no
  | _ => .no
section
variable {X : Cx} {Γ vs : List Nat} {pos : Pos}
theorem dg_name {i : Nat} {x : Str} (hN : X.N.Nodup) (hi : X.N[i]? = some x) (hx : Loc X.env.scope x) (hf : X.fn x = true ∨ X.env.scope.names.lookup x = some .local := by first | exact .inl rfl | exact .inr rfl | assumption) (hΓ : Γ.contains i = false := by decide) (hv : vs.contains i = true := by decide) :
    DG X Γ vs (.Name x pos) (gSet i) := PG.imp (pg_name hN hi hx hf) fun v σ H Q ⟨M, A, ρ, d, h1, f, rv, q⟩ => q _ (f.set (not_own h1 hΓ) rv) (wipe_set (List.contains_iff_mem.mp hv))
theorem dgs_nil : DGs X Γ vs [] gsNil := PGs.imp pgs_nil fun vs σ H Q ⟨M, A, ρ, ds, h1, f, rv, q⟩ => by
  cases rv with
  | nil => exact ⟨rfl, q _ f rfl⟩
  | cons => exact q.elim
theorem dgs_cons {e : Expr} {es : List Expr} {g : MG} {gs : MGs} (h1 : DG X Γ vs e g) (h2 : DGs X Γ vs es gs) (hs : (assignEach (e :: es) X.env).map (·.2) = assign e X.env :: (assignEach es X.env).map (·.2) := by rfl) : DGs X Γ vs (e :: es) (gsCons g gs) :=
  PGs.imp (pgs_cons h1 h2 hs) fun vs σ H Q ⟨M, A, ρ, ds, h1, f, rv, q⟩ => by
    cases rv with
    | nil => exact q.elim
    | cons rv rr =>
      refine ⟨_, _, rfl, M, A, ρ, _, h1, f, rv, pimp (post_bind q) (fun ρ' hz σ' f' w' => ?_) fun c hc => hc⟩
      exact ⟨M, A, ρ', _, h1, f', rr, pimp hz (fun ρ2 h2 σ2 f2 w2 => h2 σ2 f2 (w2.trans w')) fun c hc => hc⟩
theorem dg_tup {es : List Expr} {k n : Nat} {gs : MGs} (hc : X.calm = true) (h : DGs X Γ vs es gs) (hn : (assignEach es X.env).length = n := by rfl) (hst : (assignEach es X.env).findIdx? (·.1) = none := by rfl) : DG X Γ vs (.Tuple es k pos) (gTpl n gs) :=
  PG.imp (pg_tup hc h hn hst) fun v σ H Q ⟨M, A, ρ, d, h1, f, rv, q⟩ => by
    cases rv with
    | @tup a xs ds hs hr =>
      have q' : (if ds.length = n then gs ds ρ else R.no).post (fun ρ' => ∀ σ', Fit X.K M A σ' H ρ' → wipe σ' vs = wipe σ vs → Q σ' H) (fun _ => False) := q
      by_cases hl : ds.length = n
      · rw [if_pos hl] at q'
        exact ⟨_, _, rfl, hs.sq, by rw [hr.length]; exact hl, M, A, ρ, ds, h1, f, hr, q'⟩
      · rw [if_neg hl] at q'; exact q'.elim
    | _ => exact q.elim
end
end Dt

set_option Elab.async false
set_option linter.all false
set_option maxRecDepth 100000
set_option autoImplicit false
/-! Statements. -/
namespace Dt
open PySem PySem.Spec PyProof.Rows L2 R

inductive Fl where
  | nx | rt (d : D) | bk | ct
abbrev MS := Ev → R (Fl × Ev)
def un (M0 : Av) (A : As) : Av := fun b => M0 b ∨ A.has b
/-- what a statement may have changed: own objects alone; what is owned then was so, or is new -/
structure Stp (Bs A0 B' : As) (Hs H' : Hp) : Prop where
  fra : Fra (As.has (Bs ++ A0)) Hs H'
  new : ∀ p ∈ B', Bs.has p.2 ∨ Hs p.2 = none
def Pst (K : Fg) (M0 : Av) (A0 : As) (Γ' Γl : List Nat) (D : Ends) (Bs : As) (Hs : Hp) (z : Fl × Ev) : Prop := match z.1 with
  | .nx => ∀ σ' H' B', B'.map (·.1) = Γ' → Stp Bs A0 B' Hs H' → Fit K (un M0 (B' ++ A0)) (B' ++ A0) σ' H' z.2 → D.nx σ' H'
  | .rt d => ∀ v H', Fra (As.has (Bs ++ A0)) Hs H' → Rp K H' (un M0 A0) v d → (∀ p ∈ A0, ∃ d', z.2[p.1]? = some (some d') ∧ OwnAt K H' (un M0 A0) p.2 d') → D.rt v H'
  | .bk => ∀ σ' H' B', B'.map (·.1) = Γl → Stp Bs A0 B' Hs H' → Fit K (un M0 (B' ++ A0)) (B' ++ A0) σ' H' z.2 → D.bk σ' H'
  | .ct => ∀ σ' H' B', B'.map (·.1) = Γl → Stp Bs A0 B' Hs H' → Fit K (un M0 (B' ++ A0)) (B' ++ A0) σ' H' z.2 → D.ct σ' H'
def DTs (K : Fg) (mg : Str → Option Value) (E : XK) (Γ0 Γ Γ' Γl : List Nat) (m : MS) : TS := fun D σ H =>
  ∃ (M0 : Av) (B A0 : As) (ρ : Ev), B.map (·.1) = Γ ∧ A0.map (·.1) = Γ0 ∧ (∀ p ∈ B ++ A0, ¬ M0 p.2) ∧ Fit K (un M0 (B ++ A0)) (B ++ A0) σ H ρ ∧
    (m ρ).post (Pst K M0 A0 Γ' Γl D B H) (DX mg E (As.has (B ++ A0)) H)
def DS (X : Cx) (E : XK) (Γ0 Γ Γ' Γl : List Nat) (st : Stmt) (m : MS) : Prop := PS X st (DTs X.K X.mg E Γ0 Γ Γ' Γl m)
def DSs (X : Cx) (E : XK) (Γ0 Γ Γ' Γl : List Nat) (st : List Stmt) (m : MS) : Prop := PSs X st (DTs X.K X.mg E Γ0 Γ Γ' Γl m)
theorem PS.imp {X : Cx} {st : Stmt} {t t' : TS} (h : PS X st t) (w : ∀ D σ H, t' D σ H → t D σ H) : PS X st t' := ⟨fun pins s σ H D I q => h.run pins s σ H D I (w D σ H q)⟩
theorem PSs.imp {X : Cx} {st : List Stmt} {t t' : TS} (h : PSs X st t) (w : ∀ D σ H, t' D σ H → t D σ H) : PSs X st t' := ⟨fun pins s σ H D I q => h.run pins s σ H D I (w D σ H q)⟩

theorem As.has_append {A B : As} {b : Addr} : As.has (A ++ B) b ↔ As.has A b ∨ As.has B b :=
  ⟨fun ⟨i, h⟩ => (List.mem_append.mp h).elim (fun z => .inl ⟨i, z⟩) fun z => .inr ⟨i, z⟩, fun h => h.elim (fun ⟨i, z⟩ => ⟨i, List.mem_append_left _ z⟩) fun ⟨i, z⟩ => ⟨i, List.mem_append_right _ z⟩⟩
theorem As.has_of {A : As} {p : Nat × Addr} (h : p ∈ A) : As.has A p.2 := ⟨p.1, h⟩
section
variable {K : Fg} {M0 : Av} {B B' B1 B2 A0 : As} {σ : St} {H H1 H2 : Hp} {ρ : Ev} {mg : Str → Option Value} {E : XK}
theorem Stp.refl : Stp B A0 B H H := ⟨Fra.refl, fun p hp => .inl (As.has_of hp)⟩
theorem Stp.eff {k : Bool} (g : Fra (eff k (B ++ A0)) H H1) : Stp B A0 B H H1 := ⟨g.mono fun b z => z.2, fun p hp => .inl (As.has_of hp)⟩
theorem Fra.eff_has {k : Bool} (g : Fra (Dt.eff k (B ++ A0)) H H1) : Fra (As.has (B ++ A0)) H H1 := g.mono fun b z => z.2
theorem Stp.fra_trans (a : Stp B A0 B1 H H1) (g : Fra (As.has (B1 ++ A0)) H1 H2) : Fra (As.has (B ++ A0)) H H2 := fun b o e n => g b o (a.fra b o e n) fun z => by
  rcases As.has_append.mp z with ⟨i, z⟩ | z
  · rcases a.new _ z with q | q
    · exact n (As.has_append.mpr (.inl q))
    · rw [e] at q; cases q
  · exact n (As.has_append.mpr (.inr z))
theorem Stp.trans (a : Stp B A0 B1 H H1) (tk : Trk (As.has A0) H1) (b : Stp B1 A0 B2 H1 H2) : Stp B A0 B2 H H2 := ⟨a.fra_trans b.fra, fun p hp => by
  rcases b.new p hp with ⟨i, q⟩ | q
  · exact a.new (i, p.2) q
  · cases e : H p.2 with
    | none => exact .inr rfl
    | some o =>
      by_cases n : As.has (B ++ A0) p.2
      · rcases As.has_append.mp n with n | n
        · exact .inl n
        · obtain ⟨o', e'⟩ := tk p.2 n
          rw [q] at e'; cases e'
      · have := a.fra p.2 o e n
        rw [q] at this; cases this⟩
theorem Fit.trk0 (f : Fit K (un M0 (B ++ A0)) (B ++ A0) σ H ρ) : Trk (As.has A0) H := fun a z => f.trk a (.inr (As.has_append.mpr (.inr z)))
/-- the other owned ones are still apart from what the callers own -/
theorem Stp.apart (a : Stp B A0 B1 H H1) (dj : ∀ p ∈ B ++ A0, ¬ M0 p.2) (tk : Trk M0 H) : ∀ p ∈ B1 ++ A0, ¬ M0 p.2 := fun p hp => by
  rcases List.mem_append.mp hp with h | h
  · rcases a.new p h with ⟨i, q⟩ | q
    · exact dj (i, p.2) (List.mem_append_left _ q)
    · intro m
      obtain ⟨o, e⟩ := tk p.2 m
      rw [q] at e; cases e
  · exact dj p (List.mem_append_right _ h)
theorem Fit.trkM (f : Fit K (un M0 (B ++ A0)) (B ++ A0) σ H ρ) : Trk M0 H := fun a z => f.trk a (.inl z)
theorem DX.step {c : Str} (a : Stp B A0 B1 H H1) (h : DX mg E (As.has (B ++ A0)) H c) : DX mg E (As.has (B1 ++ A0)) H1 c := fun C H' e g => h C H' e (a.fra_trans g)
theorem DX.eff {k : Bool} {c : Str} (h : DX mg E (As.has (B ++ A0)) H c) : DX mg E (Dt.eff k (B ++ A0)) H c := fun C H' e g => h C H' e g.eff_has
theorem Pst.step {Γ' Γl : List Nat} {D : Ends} {z : Fl × Ev} (a : Stp B A0 B1 H H1) (tk : Trk (As.has A0) H1) (h : Pst K M0 A0 Γ' Γl D B H z) : Pst K M0 A0 Γ' Γl D B1 H1 z := by
  obtain ⟨fl, ρ'⟩ := z
  cases fl with
  | nx => exact fun σ' H' B' e s f => h σ' H' B' e (a.trans tk s) f
  | rt d => exact fun v H' g r o => h v H' (a.fra_trans g) r o
  | bk => exact fun σ' H' B' e s f => h σ' H' B' e (a.trans tk s) f
  | ct => exact fun σ' H' B' e s f => h σ' H' B' e (a.trans tk s) f
end

section
variable {X : Cx} {E : XK} {k r : Bool} {Γ0 Γ Γ' Γ1 Γ2 Γl vs : List Nat} {a b c e tg : Expr} {es : List Expr} {pos : Pos} {st : Stmt} {rest : List Stmt}
/-! ### blocks -/
def sNil : MS := fun ρ => .ok (.nx, ρ)
def sSeq (m m' : MS) : MS := fun ρ => (m ρ).bind fun z => match z.1 with
  | .nx => m' z.2
  | _ => .ok z
theorem ds_nil : DSs X E Γ0 Γ Γ Γl [] sNil := PSs.imp pss_nil fun D σ H ⟨M0, B, A0, ρ, h1, h2, dj, f, q⟩ => q σ H B h1 Stp.refl f
theorem ds_cons {m m' : MS} (h1 : DS X E Γ0 Γ Γ1 Γl st m) (h2 : DSs X E Γ0 Γ1 Γ2 Γl rest m') : DSs X E Γ0 Γ Γ2 Γl (st :: rest) (sSeq m m') :=
  PSs.imp (pss_cons h1 h2) fun D σ H ⟨M0, B, A0, ρ, hB, hA, dj, f, q⟩ => by
    refine ⟨M0, B, A0, ρ, hB, hA, dj, f, pimp (post_bind q) (fun z hz => ?_) fun c hc => hc⟩
    obtain ⟨fl, ρ'⟩ := z
    cases fl with
    | nx =>
      exact fun σ' H' B' e s f' => ⟨M0, B', A0, ρ', e, hA, s.apart dj f.trkM, f', pimp (show (m' ρ').post _ _ from hz) (fun z2 h => Pst.step s f'.trk0 h) fun c hc => DX.step s hc⟩
    | rt d => exact hz
    | bk => exact hz
    | ct => exact hz
theorem ds_one {m : MS} (h1 : DS X E Γ0 Γ Γ' Γl st m) : DSs X E Γ0 Γ Γ' Γl [st] m := pss_one h1
theorem ds_never {m : MS} : DS X E Γ0 Γ Γ' Γl st (fun _ => .no) := PS.imp ps_never fun D σ H ⟨M0, B, A0, ρ, hB, hA, dj, f, q⟩ => q
theorem ds_pass : DS X E Γ0 Γ Γ Γl (.Pass pos) sNil := PS.imp ps_pass fun D σ H ⟨M0, B, A0, ρ, h1, h2, dj, f, q⟩ => q σ H B h1 Stp.refl f

/-! ### fewer own objects -/
theorem Fit.less {K : Fg} {M0 : Av} {B B' A0 : As} {σ : St} {H : Hp} {ρ : Ev} (f : Fit K (un M0 (B ++ A0)) (B ++ A0) σ H ρ) (dj : ∀ p ∈ B ++ A0, ¬ M0 p.2) (h : B'.Sublist B) : Fit K (un M0 (B' ++ A0)) (B' ++ A0) σ H ρ := by
  have sl : (B' ++ A0).Sublist (B ++ A0) := h.append (List.Sublist.refl _)
  have sub : ∀ b, un M0 (B' ++ A0) b → un M0 (B ++ A0) b := fun b z => z.imp id fun ⟨i, z⟩ => ⟨i, sl.subset z⟩
  have c : Carry K H H (un M0 (B ++ A0)) (un M0 (B' ++ A0)) := Carry.weak sub
  refine ⟨f.len, fun a m => f.trk a (sub a m), fun p hp => .inr (As.has_of hp), (sl.map (·.2)).nodup f.nd, fun p hp => ?_, fun i d e n => ?_⟩
  · obtain ⟨h1, d, h2, h3⟩ := f.own p (sl.subset hp)
    exact ⟨h1, d, h2, h3.carry c fun _ e => e⟩
  · by_cases q : ∃ a, (i, a) ∈ B ++ A0
    · obtain ⟨a, q⟩ := q
      obtain ⟨h1, d', h2, h3⟩ := f.own _ q
      rw [e] at h2
      cases h2
      have na : ¬ un M0 (B' ++ A0) a := fun z => z.elim (dj _ q) fun ⟨j, z⟩ => by
        have ej : j = i := by
          have hj := sl.subset z
          obtain ⟨n1, g1⟩ := List.mem_iff_getElem.mp hj
          obtain ⟨n2, g2⟩ := List.mem_iff_getElem.mp q
          have hn1 : n1 < ((B ++ A0).map (·.2)).length := by rw [List.length_map]; exact g1.1
          have hn2 : n2 < ((B ++ A0).map (·.2)).length := by rw [List.length_map]; exact g2.1
          have ee : ((B ++ A0).map (·.2))[n1] = ((B ++ A0).map (·.2))[n2] := by
            rw [List.getElem_map, List.getElem_map, g1.2, g2.2]
          have e3 := (List.getElem_inj f.nd).mp ee
          subst e3
          have e4 : (j, a) = (i, a) := g1.2.symm.trans g2.2
          exact congrArg Prod.fst e4
        subst ej
        exact n a z
      refine ⟨_, h1, ?_⟩
      cases h3 with
      | lst g1 g2 => exact .lst ⟨.inl g1, na⟩ (RpAll.carry c g2)
      | dcK g1 g2 => exact .dcK (.inl g1) na (RpK.carry c g2)
      | dcT g1 g2 => exact .dcT (.inl g1) na (RpT.carry c g2)
    · obtain ⟨v, h1, h2⟩ := f.shr i d e fun a z => q ⟨a, z⟩
      exact ⟨v, h1, Rp.carry c h2⟩
theorem sublist_of_map {B : As} : ∀ {Γ' : List Nat}, Γ'.Sublist (B.map (·.1)) → ∃ B' : As, B'.Sublist B ∧ B'.map (·.1) = Γ' := fun {Γ'} h => by
  obtain ⟨l, h1, h2⟩ := List.sublist_map_iff.mp h
  exact ⟨l, h1, h2.symm⟩
/-- before a statement some own objects are let go -/
theorem ds_free {m : MS} (h : DS X E Γ0 Γ1 Γ' Γl st m) (hs : Γ1.Sublist Γ := by decide) : DS X E Γ0 Γ Γ' Γl st m :=
  PS.imp h fun D σ H ⟨M0, B, A0, ρ, hB, hA, dj, f, q⟩ => by
    obtain ⟨B', s1, s2⟩ := sublist_of_map (B := B) (by rw [hB]; exact hs)
    have st : Stp B A0 B' H H := ⟨Fra.refl, fun p hp => .inl (As.has_of (s1.subset hp))⟩
    exact ⟨M0, B', A0, ρ, s2, hA, st.apart dj f.trkM, f.less dj s1, pimp q (fun z hz => Pst.step st f.trk0 hz) fun c hc => DX.step st hc⟩
theorem dss_free {sts : List Stmt} {m : MS} (h : DSs X E Γ0 Γ1 Γ' Γl sts m) (hs : Γ1.Sublist Γ := by decide) : DSs X E Γ0 Γ Γ' Γl sts m :=
  PSs.imp h fun D σ H ⟨M0, B, A0, ρ, hB, hA, dj, f, q⟩ => by
    obtain ⟨B', s1, s2⟩ := sublist_of_map (B := B) (by rw [hB]; exact hs)
    have st : Stp B A0 B' H H := ⟨Fra.refl, fun p hp => .inl (As.has_of (s1.subset hp))⟩
    exact ⟨M0, B', A0, ρ, s2, hA, st.apart dj f.trkM, f.less dj s1, pimp q (fun z hz => Pst.step st f.trk0 hz) fun c hc => DX.step st hc⟩

/-! ### an expression, a name's store, return -/
def sExpr (m : ME) : MS := fun ρ => (m ρ).bind fun z => .ok (.nx, z.2)
def sSet (g : MG) (m : ME) : MS := fun ρ => (m ρ).bind fun z => (g z.1 z.2).nox.bind fun ρ' => .ok (.nx, ρ')
def sRet (m : ME) : MS := fun ρ => (m ρ).bind fun z => .ok (.rt z.1, z.2)
def sRetN : MS := fun ρ => .ok (.rt .none, ρ)
theorem ds_expr {m : ME} (he : DE X E k false (Γ ++ Γ0) e m) (hs : swapsWith e none pos.line X.env = pure false := by rfl) : DS X E Γ0 Γ Γ Γl (.Expr e pos) (sExpr m) :=
  PS.imp (ps_expr he hs) fun D σ H ⟨M0, B, A0, ρ, hB, hA, dj, f, q⟩ =>
    ⟨_, _, ρ, by rw [List.map_append, hB, hA], f, pimp (post_bind q) (fun z hz v H' f' g e' r' => hz σ H' B hB (Stp.eff g) f') fun c hc => DX.eff hc⟩
theorem DTg.of {K : Fg} {Γ vs : List Nat} {g : MG} {M : Av} {A : As} {ρ : Ev} {d : D} {v : V} {σ : St} {H : Hp} {Q : St → Hp → Prop} (h1 : A.map (·.1) = Γ) (f : Fit K M A σ H ρ) (rv : Rp K H M v d)
    (h : (g d ρ).nox.post (fun ρ' => ∀ σ', Fit K M A σ' H ρ' → Q σ' H) (fun _ => False)) : DTg K Γ vs g v σ H Q := ⟨M, A, ρ, d, h1, f, rv, by
  cases q : g d ρ with
  | ok a => rw [q] at h; exact fun σ' f' _ => h σ' f'
  | exc c => rw [q] at h; exact h
  | no => rw [q] at h; exact h⟩
theorem post_noxbind {α β : Type} {m : R α} {f : α → R β} {Q : β → Prop} {X : Str → Prop} (h : (m.nox.bind f).post Q X) : m.nox.post (fun a => (f a).post Q X) (fun _ => False) := by
  cases m with
  | ok a => exact h
  | exc c => exact h
  | no => exact h
/-- target = e: a name that owns nothing, or a tuple of such -/
theorem ds_asg {m : ME} {g : MG} (he : DE X E k false (Γ ++ Γ0) e m) (hg : DG X (Γ ++ Γ0) vs tg g) (hs : swapsWithSole [tg] e pos.line X.env = pure false := by rfl) (hw : swappedStores [tg] e X.env = pure none := by rfl)
    (h1 : (assignEach [tg] X.env).map (·.2) = [assign tg X.env] := by rfl) : DS X E Γ0 Γ Γ Γl (.Assign [tg] e pos) (sSet g m) :=
  PS.imp (ps_asg he hg hs hw h1) fun D σ H ⟨M0, B, A0, ρ, hB, hA, dj, f, q⟩ => by
    have hΓ : (B ++ A0).map (·.1) = Γ ++ Γ0 := by rw [List.map_append, hB, hA]
    exact ⟨_, _, ρ, hΓ, f, pimp (post_bind q) (fun z hz v H' f' g' e' r' => DTg.of hΓ f' r' (pimp (post_noxbind hz) (fun ρ' hq σ' f2 => hq σ' H' B hB (Stp.eff g') f2) fun c hc => hc)) fun c hc => DX.eff hc⟩
theorem ds_set0 {i : Nat} {m : ME} (h : PS X st (tAsg (DT X.K X.mg E k false (Γ ++ Γ0) m) (gName i))) (hΓ : (Γ ++ Γ0).contains i = false) : DS X E Γ0 Γ Γ Γl st (sSet (gSet i) m) :=
  PS.imp h fun D σ H ⟨M0, B, A0, ρ, hB, hA, dj, f, q⟩ => by
    have hΓ' : (B ++ A0).map (·.1) = Γ ++ Γ0 := by rw [List.map_append, hB, hA]
    exact ⟨_, _, ρ, hΓ', f, pimp (post_bind q) (fun z hz v H' f' g' e' r' => hz _ H' B hB (Stp.eff g') (f'.set (not_own hΓ' hΓ) r')) fun c hc => DX.eff hc⟩
theorem ds_set {i : Nat} {x : Str} {m : ME} {pos' : Pos} (hN : X.N.Nodup) (hi : X.N[i]? = some x) (hx : Loc X.env.scope x) (he : DE X E k false (Γ ++ Γ0) e m) (hs : swapsWith e (some (.Name x pos')) pos.line X.env = pure false := by rfl) (hf : X.fn x = true ∨ X.env.scope.names.lookup x = some .local := by first | exact .inl rfl | exact .inr rfl | assumption)
    (hΓ : (Γ ++ Γ0).contains i = false := by decide) : DS X E Γ0 Γ Γ Γl (.Assign [.Name x pos'] e pos) (sSet (gSet i) m) := ds_set0 (ps_set hN hi hx he hs hf) hΓ
theorem ds_ret {m : ME} (he : DE X E k false (Γ ++ Γ0) e m) : DS X E Γ0 Γ Γ' Γl (.Return (some e) pos) (sRet m) :=
  PS.imp (ps_ret he) fun D σ H ⟨M0, B, A0, ρ, hB, hA, dj, f, q⟩ => by
    have c : ∀ H', Carry X.K H' H' (un M0 (B ++ A0)) (un M0 A0) := fun H' => Carry.weak fun b z => z.imp id fun y => As.has_append.mpr (.inr y)
    refine ⟨_, _, ρ, by rw [List.map_append, hB, hA], f, pimp (post_bind q) (fun z hz v H' f' g' e' r' => hz v H' g'.eff_has (Rp.carry (c H') r') fun p hp => ?_) fun c hc => DX.eff hc⟩
    obtain ⟨_, d, h2, h3⟩ := f'.own p (List.mem_append_right _ hp)
    exact ⟨d, h2, h3.carry (c H') fun _ e => e⟩
theorem ds_retN : DS X E Γ0 Γ Γ' Γl (.Return none pos) sRetN :=
  PS.imp ps_retN fun D σ H ⟨M0, B, A0, ρ, hB, hA, dj, f, q⟩ => by
    have c : ∀ H', Carry X.K H' H' (un M0 (B ++ A0)) (un M0 A0) := fun H' => Carry.weak fun b z => z.imp id fun y => As.has_append.mpr (.inr y)
    refine q .non H Fra.refl .non fun p hp => ?_
    obtain ⟨_, d, h2, h3⟩ := f.own p (List.mem_append_right _ hp)
    exact ⟨d, h2, h3.carry (c H) fun _ e => e⟩
/-! ### if, while, break, continue -/
def sIf (c : MB) (a b : MS) : MS := fun ρ => (c ρ).bind fun x => if x.1 = true then a x.2 else b x.2
theorem ds_if {sa sb : List Stmt} {mc : MB} {ma mb : MS} (hc : DB X E k (Γ ++ Γ0) c mc) (ha : DSs X E Γ0 Γ Γ' Γl sa ma) (hb : DSs X E Γ0 Γ Γ' Γl sb mb) : DS X E Γ0 Γ Γ' Γl (.If c sa sb pos) (sIf mc ma mb) :=
  PS.imp (ps_if hc ha hb) fun D σ H ⟨M0, B, A0, ρ, hB, hA, dj, f, q⟩ => by
    refine ⟨_, _, ρ, by rw [List.map_append, hB, hA], f, pimp (post_bind q) (fun z hz H' f' g' e' => ?_) fun c hc => DX.eff hc⟩
    have s : Stp B A0 B H H' := Stp.eff g'
    by_cases hb : z.1 = true
    · rw [if_pos hb] at hz
      exact ite_pos hb ⟨M0, B, A0, z.2, hB, hA, dj, f', pimp hz (fun z2 h => Pst.step s f'.trk0 h) fun c hc => DX.step s hc⟩
    · rw [if_neg hb] at hz
      exact ite_neg hb ⟨M0, B, A0, z.2, hB, hA, dj, f', pimp hz (fun z2 h => Pst.step s f'.trk0 h) fun c hc => DX.step s hc⟩
def sBrk : MS := fun ρ => .ok (.bk, ρ)
def sCnt : MS := fun ρ => .ok (.ct, ρ)
theorem ds_break : DS X E Γ0 Γl Γ' Γl (.Break pos) sBrk := PS.imp ps_break fun D σ H ⟨M0, B, A0, ρ, h1, h2, dj, f, q⟩ => q σ H B h1 Stp.refl f
theorem ds_cont : DS X E Γ0 Γl Γ' Γl (.Continue pos) sCnt := PS.imp ps_continue fun D σ H ⟨M0, B, A0, ρ, h1, h2, dj, f, q⟩ => q σ H B h1 Stp.refl f
def sWhile (c : MB) (b : MS) : Nat → MS
  | 0 => fun _ => .no
  | n + 1 => fun ρ => (c ρ).bind fun x => if x.1 = true then (b x.2).bind fun z => match z.1 with
      | .nx => sWhile c b n z.2
      | .ct => sWhile c b n z.2
      | .bk => .ok (.nx, z.2)
      | .rt d => .ok (.rt d, z.2)
    else .ok (.nx, x.2)
theorem ds_while {body : List Stmt} {mc : MB} {mb : MS} (n : Nat) (hp : PassesOwn (model X.prog X.w) X.A X.env X.xe) (hc : DB X E k (Γ ++ Γ0) c mc) (hb : DSs X E Γ0 Γ Γ Γ body mb) : DS X E Γ0 Γ Γ Γl (.While c body [] pos) (sWhile mc mb n) :=
  PS.imp (ps_while hp hc hb) fun D σ H ⟨M0, B, A0, ρ, hB, hA, dj, f, q⟩ => by
    refine ⟨fun m σ1 H1 => ∃ B1 ρ1, B1.map (·.1) = Γ ∧ Stp B A0 B1 H H1 ∧ Fit X.K (un M0 (B1 ++ A0)) (B1 ++ A0) σ1 H1 ρ1 ∧ (sWhile mc mb m ρ1).post (Pst X.K M0 A0 Γ Γl D B H) (DX X.mg E (As.has (B ++ A0)) H), ⟨n, B, ρ, hB, Stp.refl, f, q⟩, ?_⟩
    rintro m σ1 H1 ⟨B1, ρ1, hB1, s1, f1, q1⟩
    cases m with
    | zero => exact q1.elim
    | succ m =>
      have s1x : ∀ {c : Str}, DX X.mg E (As.has (B ++ A0)) H c → DX X.mg E (As.has (B1 ++ A0)) H1 c := fun h => DX.step s1 h
      refine ⟨_, _, ρ1, by rw [List.map_append, hB1, hA], f1, pimp (post_bind q1) (fun z hz H2 f2 g2 e2 => ?_) fun c hc => DX.eff (s1x hc)⟩
      have s2 : Stp B A0 B1 H H2 := s1.trans f1.trk0 (Stp.eff g2)
      by_cases hb : z.1 = true
      · rw [if_pos hb] at hz
        refine ite_pos hb ⟨fun σ' H' => ∃ B' ρ', B'.map (·.1) = Γ ∧ Stp B A0 B' H H' ∧ Fit X.K (un M0 (B' ++ A0)) (B' ++ A0) σ' H' ρ' ∧ (sWhile mc mb m ρ').post (Pst X.K M0 A0 Γ Γl D B H) (DX X.mg E (As.has (B ++ A0)) H), fun σ' H' h => ⟨m, Nat.lt_succ_self _, h⟩, ?_⟩
        refine ⟨M0, B1, A0, z.2, hB1, hA, s2.apart dj f.trkM, f2, pimp (post_bind hz) (fun z2 hz2 => ?_) fun c hc => DX.step s2 hc⟩
        obtain ⟨fl, ρ2⟩ := z2
        cases fl with
        | nx => exact fun σ' H' B' e s f' => ⟨B', ρ2, e, s2.trans f2.trk0 s, f', hz2⟩
        | ct => exact fun σ' H' B' e s f' => ⟨B', ρ2, e, s2.trans f2.trk0 s, f', hz2⟩
        | bk => exact fun σ' H' B' e s f' => hz2 σ' H' B' e (s2.trans f2.trk0 s) f'
        | rt d => exact fun v H' g r o => hz2 v H' (s2.fra_trans g) r o
      · rw [if_neg hb] at hz
        exact ite_neg hb (hz σ1 H2 B1 hB1 s2 f2)
/-! ### for -/
def sFor (g : MG) (b : MS) : List D → MS
  | [] => fun ρ => .ok (.nx, ρ)
  | d :: ds => fun ρ => (g d ρ).nox.bind fun ρ1 => (b ρ1).bind fun z => match z.1 with
      | .nx => sFor g b ds z.2
      | .ct => sFor g b ds z.2
      | .bk => .ok (.nx, z.2)
      | .rt d => .ok (.rt d, z.2)
def sForE (i : MA) (g : MG) (b : MS) : MS := fun ρ => (i ρ).bind fun x => sFor g b x.1 x.2
theorem for_turn {K : Fg} {mg : Str → Option Value} {mi : MA} {g : MG} {mb : MS} {D : Ends} {σ : St} {H : Hp} (h : DTs K mg E Γ0 Γ Γ Γl (sForE mi g mb) D σ H) :
    tFor (DTi K mg E k (Γ ++ Γ0) mi) (DTg K (Γ ++ Γ0) vs g) (DTs K mg E Γ0 Γ Γ Γ mb) D σ H := by
    obtain ⟨M0, B, A0, ρ, hB, hA, dj, f, q⟩ := h
    refine ⟨_, _, ρ, by rw [List.map_append, hB, hA], f, pimp (post_bind q) (fun x hx J S H0 f0 g0 e0 src s0 _ => ?_) fun c hc => DX.eff hc⟩
    obtain ⟨ds, ρ0⟩ := x
    have st0 : Stp B A0 B H H0 := Stp.eff g0
    have src : Src K J ds S := src
    refine ⟨fun i m σ1 H1 => m = ds.length - i ∧ ∃ B1 ρ1, B1.map (·.1) = Γ ∧ Stp B A0 B1 H H1 ∧ Fit K (un M0 (B1 ++ A0)) (B1 ++ A0) σ1 H1 ρ1 ∧ S (un M0 (B1 ++ A0)) H1 ∧ (sFor g mb (ds.drop i) ρ1).post (Pst K M0 A0 Γ Γl D B H) (DX mg E (As.has (B ++ A0)) H),
      ⟨_, rfl, B, ρ0, hB, st0, f0, s0, by rw [List.drop_zero]; exact hx⟩, ?_⟩
    rintro i m σ1 H1 ⟨em, B1, ρ1, hB1, s1, f1, sr, q1⟩
    by_cases hi : i < ds.length
    · obtain ⟨d, hd⟩ : ∃ d, ds[i]? = some d := ⟨_, List.getElem?_eq_getElem hi⟩
      have ed : ds.drop i = d :: ds.drop (i + 1) := by
        rw [List.drop_eq_getElem_cons hi]
        rw [List.getElem?_eq_getElem hi] at hd
        rw [Option.some.inj hd]
      rw [ed] at q1
      refine .inr ⟨src.go _ i H1 sr hi, fun σ' H' => ∃ B' ρ', B'.map (·.1) = Γ ∧ Stp B A0 B' H H' ∧ Fit K (un M0 (B' ++ A0)) (B' ++ A0) σ' H' ρ' ∧ S (un M0 (B' ++ A0)) H' ∧ (sFor g mb (ds.drop (i + 1)) ρ').post (Pst K M0 A0 Γ Γl D B H) (DX mg E (As.has (B ++ A0)) H), fun σ' H' h => ⟨ds.length - (i + 1), by omega, rfl, h⟩, fun x H' hy => ?_⟩
      obtain ⟨rfl, d', hd', rx⟩ := src.yld _ i H1 x H' sr hi hy
      rw [hd] at hd'
      cases hd'
      refine DTg.of (by rw [List.map_append, hB1, hA]) f1 rx (pimp (post_noxbind (show ((g d ρ1).nox.bind _).post _ _ from q1)) (fun ρ2 h2 σ2 f2 => ?_) fun c hc => hc)
      refine ⟨M0, B1, A0, ρ2, hB1, hA, s1.apart dj f.trkM, f2, pimp (post_bind h2) (fun z hz => ?_) fun c hc => DX.step s1 hc⟩
      have cS : ∀ (B' : As) (H3 : Hp), Stp B1 A0 B' H' H3 → S (un M0 (B' ++ A0)) H3 := fun B' H3 s => src.carry _ _ _ _ _ sr s.fra (fun b z => .inr z) fun b z => by
        rcases z with z | z
        · exact .inl (.inl z)
        · rcases As.has_append.mp z with ⟨j, z⟩ | z
          · rcases s.new _ z with z | z
            · exact .inl (.inr (As.has_append.mpr (.inl z)))
            · exact .inr z
          · exact .inl (.inr (As.has_append.mpr (.inr z)))
      obtain ⟨fl, ρ3⟩ := z
      cases fl with
      | nx => exact fun σ' H3 B' e s f' => ⟨B', ρ3, e, s1.trans f1.trk0 s, f', cS B' H3 s, hz⟩
      | ct => exact fun σ' H3 B' e s f' => ⟨B', ρ3, e, s1.trans f1.trk0 s, f', cS B' H3 s, hz⟩
      | bk => exact fun σ' H3 B' e s f' => hz σ' H3 B' e (s1.trans f1.trk0 s) f'
      | rt d => exact fun v H3 g r o => hz v H3 (s1.fra_trans g) r o
    · have ed : ds.drop i = [] := List.drop_eq_nil_of_le (by omega)
      rw [ed] at q1
      exact .inl ⟨src.stop _ i H1 sr (by omega), q1 σ1 H1 B1 hB1 s1 f1⟩
theorem ds_for {iter : Expr} {body : List Stmt} {mi : MA} {g : MG} {mb : MS} (hp : PassesOwn (model X.prog X.w) X.A X.env X.xe) (hc : X.calm = true) (hi : DI X E k (Γ ++ Γ0) tg iter mi) (hg : DG X (Γ ++ Γ0) vs tg g) (hb : DSs X E Γ0 Γ Γ Γ body mb)
    (hs : ∀ x, foldedSetIterable iter X.env x = pure x := by intro _; rfl) : DS X E Γ0 Γ Γ Γl (.For tg iter body [] pos) (sForE mi g mb) :=
  PS.imp (ps_for hp hc hi hg hb hs) fun D σ H h => for_turn h

end
end Dt

set_option Elab.async false
set_option linter.all false
set_option maxRecDepth 100000
set_option autoImplicit false
/-! Own objects: made, changed. -/
namespace Dt
open PySem PySem.Spec PyProof.Rows L2 R

/-! ### fresh results -/
def DTf (K : Fg) (mg : Str → Option Value) (E : XK) (k : Bool) (Γ : List Nat) (m : ME) : TE := fun σ H Q =>
  ∃ (M : Av) (A : As) (ρ : Ev), A.map (·.1) = Γ ∧ Fit K M A σ H ρ ∧
    (m ρ).post (fun z => ∀ p H', H p = none → Fit K (M.add p) A σ H' z.2 → Fra (eff k A) H H' → (k = false → z.2 = ρ) → OwnAt K H' (M.add p) p z.1 → Q (.ref p) H') (DX mg E (eff k A) H)
def DF (X : Cx) (E : XK) (k : Bool) (Γ : List Nat) (e : Expr) (m : ME) : Prop := PE X e (DTf X.K X.mg E k Γ m)
theorem Fit.unadd {K : Fg} {M : Av} {A : As} {σ : St} {H H' : Hp} {ρ ρ' : Ev} {p : Addr} (f : Fit K (M.add p) A σ H' ρ') (f0 : Fit K M A σ H ρ) : Fit K M A σ H' ρ' := f.weakM (fun b z => .inl z) f0.sub
theorem OwnAt.rp {K : Fg} {M : Av} {H' : Hp} {p : Addr} {d : D} (h : OwnAt K H' (M.add p) p d) (n : ¬ M p) : Rp K H' M (.ref p) d := by
  have c : Carry K H' H' (M.add p) M := Carry.weak fun b z => .inl z
  cases h with
  | lst g1 g2 => exact .lst ⟨.inl g1, n⟩ (RpAll.carry c g2)
  | dcK g1 g2 => exact .dcK (.inl g1) n (RpK.carry c g2)
  | dcT g1 g2 => exact .dcT (.inl g1) n (RpT.carry c g2)
section
variable {X : Cx} {E : XK} {k r : Bool} {Γ0 Γ Γ' Γ1 Γ2 Γl : List Nat} {a b c e tg : Expr} {es : List Expr} {pos : Pos} {st : Stmt}
theorem de_fresh {m : ME} (h : DF X E k Γ e m) : DE X E k false Γ e m := PE.imp h fun σ H Q ⟨M, A, ρ, hΓ, f, q⟩ =>
  ⟨M, A, ρ, hΓ, f, pimp q (fun z hz p H' np f' g e' o => hz _ H' (f'.unadd f) g e' (o.rp (f.trk.ne np))) fun c hc => hc⟩
theorem df_up {m : ME} (h : DF X E false Γ e m) : DF X E true Γ e m := PE.imp h fun σ H Q ⟨M, A, ρ, hΓ, f, q⟩ =>
  ⟨M, A, ρ, hΓ, f, pimp q (fun z hz p H' np f' g e1 o => hz p H' np f' (g.mono fun b z => Bool.noConfusion z.1) (fun n => Bool.noConfusion n) o) fun c hc C H' e g => hc C H' e (g.mono fun b z => Bool.noConfusion z.1)⟩
def gOwn (i : Nat) : MG := fun d ρ => if i < ρ.length then .ok (ρ.set i (some d)) else .no
/-- a name gets a new object that is its own from then on -/
theorem ds_own0 {i : Nat} {m : ME} (h : PS X st (tAsg (DTf X.K X.mg E k (Γ ++ Γ0) m) (gName i))) (hΓ : (Γ ++ Γ0).contains i = false) : DS X E Γ0 Γ (i :: Γ) Γl st (sSet (gOwn i) m) :=
  PS.imp h fun D σ H ⟨M0, B, A0, ρ, hB, hA, dj, f, q⟩ => by
    have hΓ' : (B ++ A0).map (·.1) = Γ ++ Γ0 := by rw [List.map_append, hB, hA]
    refine ⟨_, _, ρ, hΓ', f, pimp (post_bind q) (fun z hz p H' np f' g' e' o => ?_) fun c hc => DX.eff hc⟩
    have ni := not_own hΓ' hΓ
    have np' : ∀ q ∈ B ++ A0, q.2 ≠ p := fun q hq e => by
      obtain ⟨o, eo⟩ := f.trk q.2 (.inr (As.has_of hq))
      rw [e, np] at eo; cases eo
    by_cases hl3 : i < z.2.length
    · have hz : (((if i < z.2.length then R.ok (z.2.set i (some z.1)) else R.no).nox).bind fun ρ' => R.ok (Fl.nx, ρ')).post (Pst X.K M0 A0 (i :: Γ) Γl D B H) (DX X.mg E (As.has (B ++ A0)) H) := hz
      rw [if_pos hl3] at hz
      have hsub : ∀ b, un M0 (((i, p) :: B) ++ A0) b → ((un M0 (B ++ A0)).add p) b := fun b z => by
        rcases z with z | ⟨j, z⟩
        · exact .inl (.inl z)
        · rcases List.mem_cons.mp z with z | z
          · exact .inr (congrArg Prod.snd z)
          · exact .inl (.inr ⟨j, z⟩)
      have c : Carry X.K H' H' ((un M0 (B ++ A0)).add p) (un M0 (((i, p) :: B) ++ A0)) := Carry.weak hsub
      refine hz _ H' ((i, p) :: B) (by rw [List.map_cons, hB]) ⟨g'.eff_has, fun q hq => ?_⟩ ⟨by rw [List.length_set, List.length_set]; exact f'.len, fun b mb => f'.trk b (hsub b mb), fun q hq => .inr (As.has_of hq), ?_, fun q hq => ?_, fun j d ej nj => ?_⟩
      · rcases List.mem_cons.mp hq with e | hq
        · rw [e]; exact .inr np
        · exact .inl (As.has_of hq)
      · show (p :: (B ++ A0).map (·.2)).Nodup
        refine List.nodup_cons.mpr ⟨fun hm => ?_, f.nd⟩
        obtain ⟨q, hq, e⟩ := List.mem_map.mp hm
        exact np' q hq e
      · rcases List.mem_cons.mp (show q ∈ (i, p) :: (B ++ A0) from hq) with e | hq
        · subst e
          exact ⟨List.getElem?_set_self (by rw [f'.len]; exact hl3), z.1, List.getElem?_set_self hl3, o.carry c fun _ e => e⟩
        · have ne : i ≠ q.1 := fun e => ni q.2 (by rw [e]; exact hq)
          obtain ⟨h1, d', h2, h3⟩ := f'.own q hq
          exact ⟨by rw [List.getElem?_set_ne ne]; exact h1, d', by rw [List.getElem?_set_ne ne]; exact h2, h3.carry c fun _ e => e⟩
      · by_cases ej' : i = j
        · subst ej'
          exact absurd (List.mem_cons_self (a := (i, p)) (l := B ++ A0)) (nj p)
        · rw [List.getElem?_set_ne ej'] at ej
          obtain ⟨w, h1, h2⟩ := f'.shr j d ej fun a hq => nj a (List.mem_cons_of_mem _ hq)
          exact ⟨w, by rw [List.getElem?_set_ne ej']; exact h1, Rp.carry c h2⟩
    · have hz : (((if i < z.2.length then R.ok (z.2.set i (some z.1)) else R.no).nox).bind fun ρ' => R.ok (Fl.nx, ρ')).post (Pst X.K M0 A0 (i :: Γ) Γl D B H) (DX X.mg E (As.has (B ++ A0)) H) := hz
      rw [if_neg hl3] at hz
      exact hz.elim

theorem ds_own {i : Nat} {x : Str} {m : ME} {pos' : Pos} (hN : X.N.Nodup) (hi : X.N[i]? = some x) (hx : Loc X.env.scope x) (he : DF X E k (Γ ++ Γ0) e m) (hs : swapsWith e (some (.Name x pos')) pos.line X.env = pure false := by rfl) (hf : X.fn x = true ∨ X.env.scope.names.lookup x = some .local := by first | exact .inl rfl | exact .inr rfl | assumption)
    (hΓ : (Γ ++ Γ0).contains i = false := by decide) : DS X E Γ0 Γ (i :: Γ) Γl (.Assign [.Name x pos'] e pos) (sSet (gOwn i) m) := ds_own0 (ps_set hN hi hx he hs hf) hΓ

/-! ### fresh things -/
def newL (m : MA) : ME := mLst m
theorem df_lst {m : MA} (h : DA X E k false Γ es m) : DF X E k Γ (.List es pos) (mLst m) :=
  PE.imp (pe_lst h) fun σ H Q ⟨M, A, ρ, hΓ, f, h⟩ => by
    refine ⟨M, A, ρ, hΓ, f, pimp (post_bind h) (fun z hz vs H1 f1 g1 e1 r1 => ?_) (fun c hc => hc)⟩
    by_cases hl : z.1.length ≤ 1000
    · rw [if_pos hl] at hz
      have ra := r1.all
      refine ⟨by rw [ra.length]; exact Nat.le_of_lt (small1000 hl), fun p np => ?_⟩
      have s' : Same H1 (upd H1 p (.lst vs)) := fun b u e => by rw [upd_ne (ne_of_none e np)]; exact e
      have c : Carry X.K H1 (upd H1 p (.lst vs)) M (M.add p) := (Carry.add np).trans (Carry.same s')
      have np0 : H p = none := by
        cases e : H p with
        | none => rfl
        | some o =>
          by_cases n : eff k A p
          · obtain ⟨o', e'⟩ := f1.trk p (f1.has p n.2)
            rw [np] at e'; cases e'
          · have := g1 p o e n
            rw [np] at this; cases this
      exact hz p _ np0 (f1.addM np) (g1.trans (Fra.of_eff s')) e1 (.lst upd_same (RpAll.carry c ra))
    · rw [if_neg hl] at hz; exact hz.elim
def mDict0 : ME := fun ρ => .ok (.dict [], ρ)
theorem df_dict : DF X E k Γ (.Dict [] [] pos) mDict0 :=
  PE.imp pe_dnewK fun σ H Q ⟨M, A, ρ, hΓ, f, h⟩ p np =>
    h p _ np (f.addM np) (Fra.of_eff fun b u e => by rw [upd_ne (ne_of_none e np)]; exact e) (fun _ => rfl) (.dcK upd_same .nil)
/-- list(x) -/
def rCf (K : Fg) (g : GA) : List V → Hp → VK → Prop := fun vs H Q => ∃ (M : Av) (ds : List D) (r : D), Trk M H ∧ RxAll true K H M vs ds ∧ g ds = some r ∧ ∀ p o, H p = none → OwnAt K (upd H p o) (M.add p) p r → Q (.ref p) (upd H p o)
theorem call_dListF : CallR X (.type "list") (rCf X.K dList) := by
  intro pins s σ H vs us Q I rv h
  obtain ⟨M, ds, r, tk, rx, eg, q⟩ := h
  have go : ∀ (xs : List V) (es : List D) (p : Addr), RpAll X.K H M xs es → H p = none → OwnAt X.K (upd H p (.lst xs)) (M.add p) p (.list es) := fun xs es p ra np =>
    .lst upd_same (RpAll.carry ((Carry.add np).trans (Carry.same fun b u e => by rw [upd_ne (ne_of_none e np)]; exact e)) ra)
  unfold dList at eg
  split at eg
  · cases eg
    obtain ⟨v, rfl, rd⟩ := rx1 rx
    obtain ⟨a, xs, e1, r1, a1⟩ := rd.list
    subst e1
    exact call_list_of pins s σ H _ us Q I rv ⟨a, xs, rfl, .inl (.inl r1), fun p np => q p _ np (go xs _ p a1 np)⟩
  · cases eg
    obtain ⟨v, rfl, rd⟩ := rx1 rx
    obtain ⟨a, xs, e1, r1, a1⟩ := rd.tuple
    subst e1
    exact call_list_of pins s σ H _ us Q I rv ⟨a, xs, rfl, .inr r1.sq, fun p np => q p _ np (go xs _ p a1 np)⟩
  · cases eg
theorem none_back {H H1 : Hp} {M : Av} {A : As} {σ : St} {ρ : Ev} {K : Fg} {p : Addr} (f1 : Fit K M A σ H1 ρ) (g : Fra (eff k A) H H1) (np : H1 p = none) : H p = none := by
  cases e : H p with
  | none => rfl
  | some o =>
    by_cases n : eff k A p
    · obtain ⟨o', e'⟩ := f1.trk p (f1.has p n.2)
      rw [np] at e'; cases e'
    · have := g p o e n
      rw [np] at this; cases this
theorem df_list {m : MA} {p : Pos} (hg : Gl X "list") (hm : X.mg "list" = none) (ha : DA X E k r Γ [e] m) (he : starEach [e] X.env = (false, eval e X.env) :: starEach [] X.env := by rfl) (hpl : (backTo pos (starEach [] X.env)).any (·.1) = false := by rfl) :
    DF X E k Γ (.Call (.Name "list" p) [e] [] pos) (mCall dList m) :=
  PE.imp (pe_callTy call_dListF hg hm (by decide +kernel) ha (by decide) (by decide) he hpl) fun σ H Q ⟨M, A, ρ, hΓ, f, h⟩ => by
    refine ⟨M, A, ρ, hΓ, f, pimp (post_bind h) (fun z hz vs H1 f1 g1 e1 r1 => ?_) (fun c hc => hc)⟩
    obtain ⟨w, ew, q⟩ := post_opt hz
    exact ⟨M, z.1, w, f1.trk, r1.ts, ew, fun u o np ow => q u _ (none_back f1 g1 np) (f1.addM np) (g1.trans (Fra.of_eff fun b u' e => by rw [upd_ne (ne_of_none e np)]; exact e)) e1 ow⟩

/-! ### changes -/
theorem nd_inj {A : As} {i j : Nat} {a : Addr} (nd : (A.map (·.2)).Nodup) (h1 : (i, a) ∈ A) (h2 : (j, a) ∈ A) : i = j := by
  obtain ⟨n1, g1⟩ := List.mem_iff_getElem.mp h1
  obtain ⟨n2, g2⟩ := List.mem_iff_getElem.mp h2
  have hn1 : n1 < (A.map (·.2)).length := by rw [List.length_map]; exact g1.1
  have hn2 : n2 < (A.map (·.2)).length := by rw [List.length_map]; exact g2.1
  have ee : (A.map (·.2))[n1] = (A.map (·.2))[n2] := by rw [List.getElem_map, List.getElem_map, g1.2, g2.2]
  have e3 := (List.getElem_inj nd).mp ee
  subst e3
  exact congrArg Prod.fst (g1.2.symm.trans g2.2)
theorem Carry.at {K : Fg} {H : Hp} {M : Av} {a : Addr} {o : HO} (ma : M a) : Carry K H (upd H a o) M M := ⟨fun b u r n => by
  have ne : b ≠ a := fun e => n (by rw [e]; exact ma)
  exact ⟨.inl (by rw [upd_ne ne]; exact r), n⟩⟩
theorem Fit.change {K : Fg} {M : Av} {A : As} {σ : St} {H : Hp} {ρ : Ev} {i : Nat} {a : Addr} {o : HO} {d : D} (f : Fit K M A σ H ρ) (h : (i, a) ∈ A) (ow : OwnAt K (upd H a o) M a d) :
    Fit K M A σ (upd H a o) (ρ.set i (some d)) := by
  have ma : M a := f.sub _ h
  have c : Carry K H (upd H a o) M M := Carry.at ma
  obtain ⟨h1, d0, h2, h3⟩ := f.own _ h
  have hl : i < ρ.length := (List.getElem?_eq_some_iff.mp h2).1
  refine ⟨by rw [List.length_set]; exact f.len, fun b mb => ?_, f.sub, f.nd, fun q hq => ?_, fun j d' ej nj => ?_⟩
  · by_cases e : b = a
    · subst e; exact ⟨o, upd_same⟩
    · rw [upd_ne e]; exact f.trk b mb
  · obtain ⟨g1, d', g2, g3⟩ := f.own q hq
    by_cases e : q.2 = a
    · have : q.1 = i := nd_inj f.nd (by rw [← e]; exact hq) h
      rw [this, e]
      exact ⟨h1, d, List.getElem?_set_self hl, ow⟩
    · have ne : i ≠ q.1 := fun e2 => by
        rw [← e2, h1] at g1
        cases g1
        exact e rfl
      exact ⟨g1, d', by rw [List.getElem?_set_ne ne]; exact g2, g3.carry c fun o' eo => by rw [upd_ne e]; exact eo⟩
  · have ne : i ≠ j := fun e => nj a (by rw [← e]; exact h)
    rw [List.getElem?_set_ne ne] at ej
    obtain ⟨v, g1, g2⟩ := f.shr j d' ej nj
    exact ⟨v, g1, Rp.carry c g2⟩
theorem Fra.change {A : As} {H : Hp} {i : Nat} {a : Addr} {o : HO} (h : (i, a) ∈ A) : Fra (eff true A) H (upd H a o) := fun b u e n => by
  have ne : b ≠ a := fun z => n ⟨rfl, i, by rw [z]; exact h⟩
  rw [upd_ne ne]; exact e
/-- the slot's own object -/
theorem Fit.ownL {K : Fg} {M : Av} {A : As} {σ : St} {H : Hp} {ρ : Ev} {i : Nat} {ds : List D} {Γ : List Nat} (f : Fit K M A σ H ρ) (hΓ : A.map (·.1) = Γ) (hi : Γ.contains i = true) (h : getv ρ i = some (.list ds)) :
    ∃ a xs, (i, a) ∈ A ∧ σ[i]? = some (some (.ref a)) ∧ H a = some (.lst xs) ∧ RpAll K H M xs ds := by
  have hm : i ∈ A.map (·.1) := by rw [hΓ]; exact List.contains_iff_mem.mp hi
  obtain ⟨⟨j, a⟩, hq, e⟩ := List.mem_map.mp hm
  obtain rfl : j = i := e
  obtain ⟨h1, d, h2, h3⟩ := f.own _ hq
  rw [getv_some h] at h2
  cases h2
  cases h3 with
  | lst g1 g2 => exact ⟨a, _, hq, h1, g1, g2⟩
theorem Fit.ownK {K : Fg} {M : Av} {A : As} {σ : St} {H : Hp} {ρ : Ev} {i : Nat} {ds : List (D × D)} {Γ : List Nat} (f : Fit K M A σ H ρ) (hΓ : A.map (·.1) = Γ) (hi : Γ.contains i = true) (h : getv ρ i = some (.dict ds)) :
    ∃ a, (i, a) ∈ A ∧ σ[i]? = some (some (.ref a)) ∧ OwnAt K H M a (.dict ds) := by
  have hm : i ∈ A.map (·.1) := by rw [hΓ]; exact List.contains_iff_mem.mp hi
  obtain ⟨⟨j, a⟩, hq, e⟩ := List.mem_map.mp hm
  obtain rfl : j = i := e
  obtain ⟨h1, d, h2, h3⟩ := f.own _ hq
  rw [getv_some h] at h2
  cases h2
  exact ⟨a, hq, h1, h3⟩
theorem Fit.at_same {K : Fg} {M : Av} {A : As} {σ : St} {H H' : Hp} {ρ ρ' : Ev} {i : Nat} {a b : Addr} (f : Fit K M A σ H ρ) (f' : Fit K M A σ H' ρ') (h : (i, a) ∈ A) (h' : σ[i]? = some (some (.ref b))) : a = b := by
  have := (f.own _ h).1
  rw [h'] at this
  cases this
  rfl
def asL : Option D → Option (List D)
  | some (.list ds) => some ds
  | _ => none
theorem asL_some {o : Option D} {ds : List D} (h : asL o = some ds) : o = some (.list ds) := by
  cases o with
  | none => cases h
  | some d => cases d with
    | list es => cases h; rfl
    | _ => cases h
/-- xs.append(e) -/
def eApp (i : Nat) (m : ME) : ME := fun ρ => (R.opt (asL (getv ρ i))).bind fun _ => (m ρ).bind fun z => (R.opt (asL (getv z.2 i))).bind fun ds =>
  if ds.length < sizeLine then .ok (.none, z.2.set i (some (.list (ds ++ [z.1])))) else .no
theorem de_app {i : Nat} {o : Expr} {m : ME} {apos cpos : Pos} (hp : PE X o (tVar i)) (ha : DE X E true false Γ e m) (hi : Γ.contains i = true := by decide)
    (hbase : attributeBase o "append" X.env (eval o X.env) = eval o X.env := by rfl)
    (hfew : ((backTo cpos (starEach [e] X.env)).all (fun x => !x.1) && (backToKw cpos (keywordEach [] X.env)).all (fun x => x.1.isSome)
      && decide (([e] : List Expr).length + ([] : List Keyword).length + (if ([] : List Keyword).isEmpty then 0 else 1) < 30)) = true := by rfl)
    (hline : (apos.endLine == cpos.line) = true := by rfl) (hs : starEach [e] X.env = (false, eval e X.env) :: starEach [] X.env := by rfl) (hplain : (backTo cpos (starEach [] X.env)).any (·.1) = false := by rfl) :
    DE X E true false Γ (.Call (.Attribute o "append" apos) [e] [] cpos) (eApp i m) :=
  PE.imp (pe_bm PySem.F.plainAttrs_list PySem.F.slot_list_append PySem.F.type_list_append mt_append hp (pa_cons ha pa_nil hs) hbase hfew hline hs hplain) fun σ H Q ⟨M, A, ρ, hΓ, f, h⟩ => by
    obtain ⟨ds0, e0, h⟩ := post_opt h
    obtain ⟨a, xs, ia, e1, e2, e3⟩ := f.ownL hΓ hi (asL_some e0)
    refine ⟨.ref a, e1, .inl ⟨rfl, xs, .inl (.inl e2)⟩, M, A, ρ, hΓ, f, pimp (post_bind h) (fun z hz v H1 f1 g1 _ r1 => ?_) fun c hc => hc⟩
    obtain ⟨ds, ed, hz⟩ := post_opt hz
    obtain ⟨b, ys, ib, e4, e5, e6⟩ := f1.ownL hΓ hi (asL_some ed)
    obtain rfl := Fit.at_same f f1 ib e1
    by_cases hl : ds.length < sizeLine
    · rw [if_pos hl] at hz
      have c : Carry X.K H1 (upd H1 b (.lst (ys ++ [v]))) M M := Carry.at (f1.sub _ ib)
      refine ⟨b, ys, v, rfl, rfl, e5, by rw [e6.length]; exact hl, ?_⟩
      exact hz .non _ (f1.change ib (.lst upd_same (RpAll.carry c (e6.append (.one r1))))) (g1.trans (Fra.change ib)) (fun n => Bool.noConfusion n) .non
    · rw [if_neg hl] at hz; exact hz.elim
/-- xs.pop() -/
def ePop (i : Nat) : ME := fun ρ => (R.opt (asL (getv ρ i))).bind fun ds => (R.opt ds.getLast?).bind fun d => .ok (d, ρ.set i (some (.list ds.dropLast)))
theorem de_pop {i : Nat} {o : Expr} {apos cpos : Pos} (hp : PE X o (tVar i)) (hi : Γ.contains i = true := by decide)
    (hbase : attributeBase o "pop" X.env (eval o X.env) = eval o X.env := by rfl) (hline : (apos.endLine == cpos.line) = true := by rfl) :
    DE X E true false Γ (.Call (.Attribute o "pop" apos) [] [] cpos) (ePop i) :=
  PE.imp (pe_bm0 PySem.F.plainAttrs_list PySem.F.slot_list_pop PySem.F.type_list_pop mt_pop hp hbase hline) fun σ H Q ⟨M, A, ρ, hΓ, f, h⟩ => by
    obtain ⟨ds, e0, h⟩ := post_opt h
    obtain ⟨a, xs, ia, e1, e2, e3⟩ := f.ownL hΓ hi (asL_some e0)
    obtain ⟨d, ed, h⟩ := post_opt h
    rw [List.getLast?_eq_getElem?] at ed
    obtain ⟨v, ev, rv⟩ := e3.get ed
    have c : Carry X.K H (upd H a (.lst xs.dropLast)) M M := Carry.at (f.sub _ ia)
    refine ⟨.ref a, e1, .inl ⟨rfl, xs, .inl (.inl e2)⟩, a, xs, v, rfl, rfl, e2, by rw [e3.length]; exact ev, ?_⟩
    exact h v _ (f.change ia (.lst upd_same (RpAll.carry c e3.dropLast))) (Fra.change ia) (fun n => Bool.noConfusion n) (Rp.carry c rv)
/-- xs.reverse() -/
def eRev (i : Nat) : ME := fun ρ => (R.opt (asL (getv ρ i))).bind fun ds => .ok (.none, ρ.set i (some (.list ds.reverse)))
theorem de_rev {i : Nat} {o : Expr} {apos cpos : Pos} (hp : PE X o (tVar i)) (hi : Γ.contains i = true := by decide)
    (hbase : attributeBase o "reverse" X.env (eval o X.env) = eval o X.env := by rfl) (hline : (apos.endLine == cpos.line) = true := by rfl) :
    DE X E true false Γ (.Call (.Attribute o "reverse" apos) [] [] cpos) (eRev i) :=
  PE.imp (pe_bm0 PySem.F.plainAttrs_list PySem.F.slot_list_reverse PySem.F.type_list_reverse mt_reverse hp hbase hline) fun σ H Q ⟨M, A, ρ, hΓ, f, h⟩ => by
    obtain ⟨ds, e0, h⟩ := post_opt h
    obtain ⟨a, xs, ia, e1, e2, e3⟩ := f.ownL hΓ hi (asL_some e0)
    have c : Carry X.K H (upd H a (.lst xs.reverse)) M M := Carry.at (f.sub _ ia)
    refine ⟨.ref a, e1, .inl ⟨rfl, xs, .inl (.inl e2)⟩, a, xs, rfl, rfl, e2, ?_⟩
    exact h .non _ (f.change ia (.lst upd_same (RpAll.carry c e3.reverse))) (Fra.change ia) (fun n => Bool.noConfusion n) .non
/-- xs.pop(e) -/
def ePopAt (i : Nat) (m : ME) : ME := fun ρ => (R.opt (asL (getv ρ i))).bind fun _ => (m ρ).bind fun z => (R.opt (asL (getv z.2 i))).bind fun ds => (R.opt (asI z.1)).bind fun n =>
  if small62 n then (R.opt (ixN ds.length n)).bind fun j => (R.opt (ds[j]?)).bind fun d => .ok (d, z.2.set i (some (.list (ds.eraseIdx j)))) else .no
theorem de_popAt {i : Nat} {o : Expr} {m : ME} {apos cpos : Pos} (hp : PE X o (tVar i)) (ha : DE X E true false Γ e m) (hi : Γ.contains i = true := by decide)
    (hbase : attributeBase o "pop" X.env (eval o X.env) = eval o X.env := by rfl)
    (hfew : ((backTo cpos (starEach [e] X.env)).all (fun x => !x.1) && (backToKw cpos (keywordEach [] X.env)).all (fun x => x.1.isSome)
      && decide (([e] : List Expr).length + ([] : List Keyword).length + (if ([] : List Keyword).isEmpty then 0 else 1) < 30)) = true := by rfl)
    (hline : (apos.endLine == cpos.line) = true := by rfl) (hs : starEach [e] X.env = (false, eval e X.env) :: starEach [] X.env := by rfl) (hplain : (backTo cpos (starEach [] X.env)).any (·.1) = false := by rfl) :
    DE X E true false Γ (.Call (.Attribute o "pop" apos) [e] [] cpos) (ePopAt i m) :=
  PE.imp (pe_bm PySem.F.plainAttrs_list PySem.F.slot_list_pop PySem.F.type_list_pop mt_popAt hp (pa_cons ha pa_nil hs) hbase hfew hline hs hplain) fun σ H Q ⟨M, A, ρ, hΓ, f, h⟩ => by
    obtain ⟨ds0, e0, h⟩ := post_opt h
    obtain ⟨a, xs, ia, e1, e2, e3⟩ := f.ownL hΓ hi (asL_some e0)
    refine ⟨.ref a, e1, .inl ⟨rfl, xs, .inl (.inl e2)⟩, M, A, ρ, hΓ, f, pimp (post_bind h) (fun z hz v H1 f1 g1 _ r1 => ?_) fun c hc => hc⟩
    obtain ⟨ds, ed, hz⟩ := post_opt hz
    obtain ⟨n, en, hz⟩ := post_opt hz
    obtain ⟨b, ys, ib, e4, e5, e6⟩ := f1.ownL hΓ hi (asL_some ed)
    obtain rfl := Fit.at_same f f1 ib e1
    by_cases hl : small62 n = true
    · rw [if_pos hl] at hz
      obtain ⟨j, ej, hz⟩ := post_opt hz
      obtain ⟨d, edj, hz⟩ := post_opt hz
      obtain ⟨w, ew, rw'⟩ := e6.get edj
      obtain ⟨l1, l2⟩ := small62_of hl
      obtain ⟨s1, _, _, _⟩ := ixN_seq ej
      have e7 := asI_some en
      rw [e7] at r1
      have c : Carry X.K H1 (upd H1 b (.lst (ys.eraseIdx j))) M M := Carry.at (f1.sub _ ib)
      refine ⟨b, ys, n, j, w, rfl, by rw [Rt.int (Rt.of r1)], e5, by omega, by omega, by rw [e6.length]; exact s1, ew, ?_⟩
      exact hz w _ (f1.change ib (.lst upd_same (RpAll.carry c (e6.eraseIdx j)))) (g1.trans (Fra.change ib)) (fun n => Bool.noConfusion n) (Rp.carry c rw')
    · rw [if_neg hl] at hz; exact hz.elim
/-- xs[i] = v, xs an own list -/
def sPutL (o : Nat) (mv mi : ME) : MS := fun ρ => (mv ρ).bind fun v => (mi v.2).bind fun i => (R.opt (asL (getv i.2 o))).bind fun ds => (R.opt (asI i.1)).bind fun n => (R.opt (ixN ds.length n)).bind fun j =>
  .ok (.nx, i.2.set o (some (.list (ds.set j v.1))))
theorem ds_putL {o : Nat} {oe ie : Expr} {mv mi : ME} {p2 : Pos} (hp : PE X oe (tVar o)) (hi : DE X E false false (Γ ++ Γ0) ie mi) (hv : DE X E k false (Γ ++ Γ0) e mv) (ho : (Γ ++ Γ0).contains o = true := by decide)
    (hs : swapsWithSole [.Subscript oe ie p2] e pos.line X.env = pure false := by rfl) (hw : swappedStores [.Subscript oe ie p2] e X.env = pure none := by rfl)
    (h1 : (assignEach [.Subscript oe ie p2] X.env).map (·.2) = [assign (.Subscript oe ie p2) X.env] := by rfl)
    (h2 : ∀ v, assign (.Subscript oe ie p2) X.env v = (do
      let ov ← holding [v] (eval oe X.env)
      let iv ← holding [v, ov] (eval ie X.env)
      standAt p2
      holding [v, ov, iv] (setItem ov iv v)
      release [v, ov, iv] []) := by intro _; rfl) : DS X E Γ0 Γ Γ Γl (.Assign [.Subscript oe ie p2] e pos) (sPutL o mv mi) :=
  PS.imp (ps_asg hv (pg_sub hp hi set_list h2) hs hw h1) fun D σ H ⟨M0, B, A0, ρ, hB, hA, dj, f, q⟩ => by
    have hΓ : (B ++ A0).map (·.1) = Γ ++ Γ0 := by rw [List.map_append, hB, hA]
    refine ⟨_, _, ρ, hΓ, f, pimp (post_bind q) (fun z hz v H1 f1 g1 _ r1 => ?_) fun c hc => DX.eff hc⟩
    -- the object
    have hm : o ∈ (B ++ A0).map (·.1) := by rw [hΓ]; exact List.contains_iff_mem.mp ho
    obtain ⟨⟨j0, a⟩, hq, e0⟩ := List.mem_map.mp hm
    obtain rfl : j0 = o := e0
    refine ⟨.ref a, (f1.own _ hq).1, _, _, z.2, hΓ, f1, pimp (post_bind hz) (fun y hy iv H2 f2 g2 _ r2 => ?_) fun c hc => DX.eff (DX.step (Stp.eff g1) hc)⟩
    obtain ⟨ds, ed, hy⟩ := post_opt hy
    obtain ⟨n, en, hy⟩ := post_opt hy
    obtain ⟨j, ej, hy⟩ := post_opt hy
    obtain ⟨b, ys, ib, e4, e5, e6⟩ := f2.ownL hΓ ho (asL_some ed)
    have eb : a = b := Fit.at_same f1 f2 hq e4
    subst eb
    have e7 := asI_some en
    rw [e7] at r2
    have s2 := eff_false g2
    have c : Carry X.K H2 (upd H2 a (.lst (ys.set j v))) (un M0 (B ++ A0)) (un M0 (B ++ A0)) := Carry.at (f2.sub _ ib)
    refine ⟨a, ys, n, j, rfl, Rt.int (Rt.of r2), e5, by rw [e6.length]; exact ej, ?_⟩
    have r1' : Rp X.K H2 (un M0 (B ++ A0)) v z.1 := Rp.carry (Carry.same s2) r1
    refine hy _ _ B hB ⟨(g1.eff_has.trans (Fra.of_same s2)).trans fun b' u eu n' => ?_, fun p hp => .inl (As.has_of hp)⟩ (f2.change ib (.lst upd_same (RpAll.carry c (e6.set j r1'))))
    have ne : b' ≠ a := fun z' => n' (by rw [z']; exact As.has_of ib)
    rw [upd_ne ne]; exact eu
/-! ### x += e -/
theorem post_opt2 {α β : Type} {o : Option α} {f : α → R β} {Q : β → Prop} {X : Str → Prop} (h : ((R.opt o).bind f).post Q X) : ∃ a, o = some a ∧ (f a).post Q X := post_opt h
/-- a name that owns nothing -/
def sAug (i : Nat) (g : G2) (m : ME) : MS := fun ρ => (R.opt (getv ρ i)).bind fun x => (m ρ).bind fun y => (R.opt (g x y.1)).bind fun r => .ok (.nx, y.2.set i (some r))
theorem ds_aug {i : Nat} {x : Str} {m : ME} {g : G2} {op : Operator} {pos' : Pos} (hN : X.N.Nodup) (hi : X.N[i]? = some x) (hx : Loc X.env.scope x) (he : DE X E k false (Γ ++ Γ0) e m) (ho : OpR X (inplaceOp op) (rD X.K g)) (hf : X.fn x = true ∨ X.env.scope.names.lookup x = some .local := by first | exact .inl rfl | exact .inr rfl | assumption)
    (hΓ : (Γ ++ Γ0).contains i = false := by decide) : DS X E Γ0 Γ Γ Γl (.AugAssign (.Name x pos') op e pos) (sAug i g m) :=
  PS.imp (ps_aug hN hi hx he ho hf) fun D σ H ⟨M0, B, A0, ρ, hB, hA, dj, f, q⟩ => by
    have hΓ' : (B ++ A0).map (·.1) = Γ ++ Γ0 := by rw [List.map_append, hB, hA]
    obtain ⟨d, ed, q⟩ := post_opt q
    obtain ⟨v, e1, rv⟩ := f.shr i d (getv_some ed) (not_own hΓ' hΓ)
    refine ⟨v, e1, _, _, ρ, hΓ', f, pimp (post_bind q) (fun z hz w H1 f1 g1 _ r1 => ?_) fun c hc => DX.eff hc⟩
    obtain ⟨u, eu, hz⟩ := post_opt hz
    refine ⟨_, d, z.1, u, f1.trk, .of (Rp.carry (Carry.fra g1 (eff_sub f)) rv), .of r1, eu, fun u' H' s' rp => ?_⟩
    exact hz _ H' B hB ((Stp.eff g1).trans f1.trk0 (Stp.eff (k := false) (Fra.of_eff s'))) ((f1.same s').set (not_own hΓ' hΓ) rp)
/-! ### += of ints, texts, tuples -/
theorem icat_tup {prog : Program} {w : World} {A : Around} {E : Value → Shared → Prop} {s : Shared} {t b : Addr} {vs ws : List Value} {Q : Value → Shared → Prop} (ht : IsTup s.heap t vs.toArray) (hb : IsTup s.heap b ws.toArray)
    (h0 : vs = [] → Q (.ref b) s) (h1 : vs ≠ [] → ws = [] → Q (.ref t) s) (h2 : vs ≠ [] → ws ≠ [] → Q (.ref s.heap.objs.size) { s with heap := s.heap.push { cls := .type "tuple", data := .seq (vs ++ ws).toArray } })
    (hsz : vs.length + ws.length ≤ sizeLine) : wpAny (model prog w) A (inplaceOp .Add (.ref t) (.ref b)) Q E s := by
  obtain ⟨⟨c1, d1, data1, sl1⟩, ho, hc, n, hd⟩ := id ht
  obtain ⟨⟨c2, d2, data2, sl2⟩, ho2, hc2, n2, hd2⟩ := id hb
  simp only at hc hd hc2 hd2
  subst hc hd hc2 hd2
  have hno : typeLookup (.type "tuple") (dunderI "add") = pure none := by rfl
  have go := fun {S : PySem.Spec} (g : Meets (Builtin.«tuple.__add__» ⟨[.ref t, .ref b], []⟩) S) (h : S A (PySem.wants Q E) s) =>
    PySem.wpAny_inplaceOp_concat (M := model prog w) (A := A) (E := E) (s := s) (a := .ref t) (b := .ref b) (Q := Q) ⟨_, ho, rfl⟩ ⟨_, ho2, rfl⟩ hno noFill_tuple_add seq_tuple_add (call_meets PySem.F.slot_tuple_add ⟨_, ho, rfl⟩ PySem.F.entry_tuple_add (PySem.F.args_tuple_add_2 _ _) g h)
  by_cases e1 : vs = []
  · exact go (tuple_addW0 t b vs.toArray ws.toArray n n2 d1 d2 sl1 sl2 (by simp [e1])) ⟨ho, ho2, h0 e1⟩
  · by_cases e2 : ws = []
    · exact go (tuple_addW1 t b vs.toArray ws.toArray n n2 d1 d2 sl1 sl2 (by simpa using e1) (by simp [e2])) ⟨ho, ho2, h1 e1 e2⟩
    · refine go (tuple_addW2 t b vs.toArray ws.toArray n n2 d1 d2 sl1 sl2 (by simpa using e1) (by simpa using e2) (by simp only [List.size_toArray]; exact hsz)) ⟨ho, ho2, ?_⟩
      have e : vs.toArray ++ ws.toArray = (vs ++ ws).toArray := by simp
      rw [e]
      exact h2 e1 e2
def dIAdd : G2
  | .int i, .int j => some (.int (i + j))
  | .str a, .str b => if a.length + b.length ≤ sizeLine then some (.str (a ++ b)) else none
  | .tuple xs, .tuple ys => if xs.length + ys.length ≤ sizeLine then some (.tuple (xs ++ ys)) else none
  | _, _ => none
theorem op_dIAdd : OpR X (inplaceOp .Add) (rD X.K dIAdd) := by
  intro pins s σ H x y v u Q I rx ry h
  obtain ⟨M, d, e, r, tk, rd, re, eg, q⟩ := h
  unfold dIAdd at eg
  split at eg
  · cases eg
    exact iop_add pins s σ H x y v u Q I rx ry ⟨_, _, rd.int, re.int, q _ H (Same.refl _) (.int _)⟩
  · split at eg
    · rename_i hz
      cases eg
      exact iop_add_str pins s σ H x y v u Q I rx ry ⟨_, _, rd.str, re.str, hz, q _ H (Same.refl _) (.str _)⟩
    · cases eg
  · split at eg
    · rename_i ds es hz
      cases eg
      obtain ⟨a, xs, e1, r1, a1⟩ := rd.tuple
      obtain ⟨b, ys, e2, r2, a2⟩ := re.tuple
      subst e1 e2
      cases rx
      cases ry
      obtain ⟨its, v1, p1, z1⟩ := I.tuple r1.sq
      obtain ⟨its2, v2, p2, z2⟩ := I.tuple r2.sq
      have hl : xs.length + ys.length ≤ sizeLine := by rw [a1.length, a2.length]; exact hz
      refine icat_tup p1 p2 (fun n => ?_) (fun _ n => ?_) (fun _ _ => ?_) (by rw [← v1.length, ← v2.length]; exact hl)
      · subst n
        cases v1
        cases a1
        exact ⟨.ref b, H, I, rfl, q _ H (Same.refl _) (.tup r2 a2)⟩
      · subst n
        cases v2
        cases a2
        rw [List.append_nil] at q
        exact ⟨.ref a, H, I, rfl, q _ H (Same.refl _) (.tup r1 a1)⟩
      · have I2 := tupLaid (t' := s.toks) (ys := xs ++ ys) (its := its ++ its2) (n := 0) (a := s.heap.objs.size) I (fun b o e => Heap.get?_push_of_some _ e) (Nat.le_refl _) (by rw [List.length_append]; exact hl) (v1.append v2) (Heap.get?_push_size _ rfl)
        obtain ⟨s', rp⟩ := new_tup (K := X.K) (o := tupObj (its ++ its2) 0) rfl tk I.fresh (a1.append a2)
        exact ⟨.ref s.heap.objs.size, _, I2, rfl, q _ _ s' rp⟩
    · cases eg
  · cases eg
def dISub : G2
  | .int i, .int j => some (.int (i - j))
  | _, _ => none
theorem op_dISub : OpR X (inplaceOp .Sub) (rD X.K dISub) := by
  intro pins s σ H x y v u Q I rx ry h
  obtain ⟨M, d, e, r, tk, rd, re, eg, q⟩ := h
  unfold dISub at eg
  split at eg
  · cases eg
    exact iop_sub pins s σ H x y v u Q I rx ry ⟨_, _, rd.int, re.int, q _ H (Same.refl _) (.int _)⟩
  · cases eg
/-- an own list -/
def sExt (i : Nat) (m : ME) : MS := fun ρ => (R.opt (asL (getv ρ i))).bind fun _ => (m ρ).bind fun y => (R.opt (asL (getv y.2 i))).bind fun xs => (R.opt (asL (some y.1))).bind fun ys =>
  if xs.length + ys.length ≤ sizeLine then .ok (.nx, y.2.set i (some (.list (xs ++ ys)))) else .no
theorem iop_extR : OpR X (inplaceOp .Add) (fun x y H Q => ∃ l b xs zs, x = .ref l ∧ y = .ref b ∧ H l = some (.lst xs) ∧ Rd H b (.lst zs) ∧ xs.length + zs.length ≤ sizeLine ∧ Q (.ref l) (upd H l (.lst (xs ++ zs)))) := by
  intro pins s σ H x y v u Q I rx ry h
  obtain ⟨l, b, xs, zs, rfl, rfl, hH, hB, hz, q⟩ := h
  cases rx
  cases ry
  obtain ⟨z, its, n, r, hl, e⟩ := I.lstM hH
  obtain ⟨z2, its2, n2, r2, hl2, e2⟩ := Inv.lstR I hB
  have hsz : its.toArray.size + its2.toArray.size ≤ sizeLine := by simp only [List.size_toArray]; omega
  have hlong : ¬ (!its.toArray.isEmpty && Builtin.List.listTooLong (its.toArray.size + its2.toArray.size)) = true := by
    simp only [notLongL hsz, Bool.and_false, Bool.false_eq_true, not_false_eq_true]
  refine iadd_road ⟨_, e, rfl⟩ ⟨_, e2, rfl⟩ (call_meets PySem.F.slot_list_iadd ⟨_, e, rfl⟩ PySem.F.entry_list_iadd (PySem.F.args_list_iadd_2 _ _)
    (AutoSeq1.list___iadd___list_list_0 l its.toArray n b its2.toArray n2 hlong (by simp only [List.size_toArray]; omega) (by omega)) ⟨e, e2, ?_⟩)
  exact ⟨.ref l, _, I.lset (its' := its ++ its2) (t' := s.toks) hH e (by simp) (r.append r2) (by simp only [List.length_append]; omega), rfl, q⟩
theorem ds_ext {i : Nat} {x : Str} {m : ME} {pos' : Pos} (hN : X.N.Nodup) (hi : X.N[i]? = some x) (hx : Loc X.env.scope x) (he : DE X E k false (Γ ++ Γ0) e m) (hf : X.fn x = true ∨ X.env.scope.names.lookup x = some .local := by first | exact .inl rfl | exact .inr rfl | assumption)
    (hΓ : (Γ ++ Γ0).contains i = true := by decide) : DS X E Γ0 Γ Γ Γl (.AugAssign (.Name x pos') .Add e pos) (sExt i m) :=
  PS.imp (ps_aug hN hi hx he iop_extR hf) fun D σ H ⟨M0, B, A0, ρ, hB, hA, dj, f, q⟩ => by
    have hΓ' : (B ++ A0).map (·.1) = Γ ++ Γ0 := by rw [List.map_append, hB, hA]
    obtain ⟨ds0, e0, q⟩ := post_opt q
    obtain ⟨a, xs0, ia, e1, e2, e3⟩ := f.ownL hΓ' hΓ (asL_some e0)
    refine ⟨.ref a, e1, _, _, ρ, hΓ', f, pimp (post_bind q) (fun z hz w H1 f1 g1 _ r1 => ?_) fun c hc => DX.eff hc⟩
    obtain ⟨xs, ex, hz⟩ := post_opt hz
    obtain ⟨ys, ey, hz⟩ := post_opt hz
    obtain ⟨b, vs, ib, e4, e5, e6⟩ := f1.ownL hΓ' hΓ (asL_some ex)
    have eb : b = a := Fit.at_same f f1 ib e1
    subst eb
    have e7 : z.1 = .list ys := Option.some.inj (asL_some ey)
    rw [e7] at r1
    obtain ⟨c, ws, ec, rc, ac⟩ := (Rt.of r1).list
    have r1' : RpAll X.K H1 (un M0 (B ++ A0)) ws ys := ac
    by_cases hl : xs.length + ys.length ≤ sizeLine
    · rw [if_pos hl] at hz
      have cc : Carry X.K H1 (upd H1 b (.lst (vs ++ ws))) (un M0 (B ++ A0)) (un M0 (B ++ A0)) := Carry.at (f1.sub _ ib)
      refine ⟨b, c, vs, ws, rfl, ec, e5, rc, by rw [e6.length, ac.length]; exact hl, ?_⟩
      have hσ : σ.set i (some (.ref b)) = σ := by
        apply List.ext_getElem?
        intro j
        by_cases ej : i = j
        · subst ej
          rw [List.getElem?_set_self (List.getElem?_eq_some_iff.mp e1).1, e1]
        · rw [List.getElem?_set_ne ej]
      show D.nx (σ.set i (some (.ref b))) _
      rw [hσ]
      refine hz _ _ B hB ⟨g1.eff_has.trans fun b' u eu n' => ?_, fun p hp => .inl (As.has_of hp)⟩ (f1.change ib (.lst upd_same (RpAll.carry cc (e6.append r1'))))
      have ne : b' ≠ b := fun z' => n' (by rw [z']; exact As.has_of ib)
      rw [upd_ne ne]; exact eu
    · rw [if_neg hl] at hz; exact hz.elim
end
end Dt

set_option Elab.async false
set_option linter.all false
set_option maxRecDepth 100000
set_option autoImplicit false
/-! Comprehensions. -/
namespace Dt
open PySem PySem.Spec PyProof.Rows L2 R

def wipeE (ρ : Ev) : List Nat → Ev
  | [] => ρ
  | v :: vs => (wipeE ρ vs).set v none
/-- the frame's own slots behind a comprehension: those of vs are as before -/
def mergeE (ρ ρ3 : Ev) : List Nat → Ev
  | [] => ρ3
  | v :: vs => match ρ[v]? with
    | some o => (mergeE ρ ρ3 vs).set v o
    | none => mergeE ρ ρ3 vs
def mrg (k : Bool) (ρ ρ3 : Ev) (vs : List Nat) : Ev := match k with
  | false => ρ
  | true => mergeE ρ ρ3 vs
section
variable {K : Fg} {M : Av} {A : As} {σ σ3 : St} {H H' : Hp} {ρ ρ3 : Ev}
theorem wipeE_len (ρ : Ev) : ∀ vs : List Nat, (wipeE ρ vs).length = ρ.length
  | [] => rfl
  | v :: vs => by unfold wipeE; rw [List.length_set]; exact wipeE_len ρ vs
theorem mergeE_len (ρ ρ3 : Ev) : ∀ vs : List Nat, (mergeE ρ ρ3 vs).length = ρ3.length
  | [] => rfl
  | v :: vs => by
    unfold mergeE
    split
    · rw [List.length_set]; exact mergeE_len ρ ρ3 vs
    · exact mergeE_len ρ ρ3 vs
theorem wipe_in {σ : St} {i : Nat} {x : V} : ∀ {vs : List Nat}, (wipe σ vs)[i]? = some (some x) → i ∉ vs := fun {vs} h => (wipe_some h).2
theorem wipeE_some {ρ : Ev} {i : Nat} {d : D} : ∀ {vs : List Nat}, (wipeE ρ vs)[i]? = some (some d) → ρ[i]? = some (some d) ∧ i ∉ vs
  | [], h => ⟨h, by simp⟩
  | v :: vs, h => by
    unfold wipeE at h
    by_cases e : v = i
    · subst e
      by_cases hl : v < (wipeE ρ vs).length
      · rw [List.getElem?_set_self hl] at h; cases h
      · rw [List.getElem?_eq_none (by rw [List.length_set]; omega)] at h; cases h
    · rw [List.getElem?_set_ne e] at h
      obtain ⟨h1, h2⟩ := wipeE_some h
      exact ⟨h1, fun z => (List.mem_cons.mp z).elim (fun z => e z.symm) h2⟩
theorem wipeE_out {ρ : Ev} {i : Nat} : ∀ {vs : List Nat}, i ∉ vs → (wipeE ρ vs)[i]? = ρ[i]?
  | [], _ => rfl
  | v :: vs, h => by
    unfold wipeE
    rw [List.getElem?_set_ne (fun e => h (by rw [e]; exact List.mem_cons_self))]
    exact wipeE_out fun z => h (List.mem_cons_of_mem _ z)
theorem mergeE_out {i : Nat} : ∀ {vs : List Nat}, i ∉ vs → (mergeE ρ ρ3 vs)[i]? = ρ3[i]?
  | [], _ => rfl
  | v :: vs, h => by
    have ih := mergeE_out (vs := vs) fun z => h (List.mem_cons_of_mem _ z)
    unfold mergeE
    split
    · rw [List.getElem?_set_ne (fun e => h (by rw [e]; exact List.mem_cons_self))]; exact ih
    · exact ih
theorem mergeE_in (hl : ρ.length = ρ3.length) {i : Nat} : ∀ {vs : List Nat}, i ∈ vs → (mergeE ρ ρ3 vs)[i]? = ρ[i]?
  | v :: vs, h => by
    unfold mergeE
    by_cases e : v = i
    · subst e
      split
      · rename_i o eo
        rw [List.getElem?_set_self (by rw [mergeE_len, ← hl]; exact (List.getElem?_eq_some_iff.mp eo).1), eo]
      · rename_i eo
        by_cases h2 : v ∈ vs
        · exact mergeE_in hl h2
        · rw [mergeE_out h2, eo]
          exact List.getElem?_eq_none (by rw [← hl]; exact List.getElem?_eq_none_iff.mp eo)
    · have h2 : i ∈ vs := (List.mem_cons.mp h).elim (fun z => absurd z.symm e) id
      split
      · rw [List.getElem?_set_ne e]; exact mergeE_in hl h2
      · exact mergeE_in hl h2
theorem Fit.wipe (f : Fit K M A σ H ρ) {vs : List Nat} (hv : ∀ p ∈ A, p.1 ∉ vs) : Fit K M A (L2.wipe σ vs) H (wipeE ρ vs) where
  len := by rw [wipe_length, wipeE_len]; exact f.len
  trk := f.trk
  sub := f.sub
  nd := f.nd
  own := fun p hp => by
    obtain ⟨h1, d, h2, h3⟩ := f.own p hp
    exact ⟨by rw [wipe_out (hv p hp)]; exact h1, d, by rw [wipeE_out (hv p hp)]; exact h2, h3⟩
  shr := fun i d e n => by
    obtain ⟨h1, h2⟩ := wipeE_some e
    obtain ⟨v, g1, g2⟩ := f.shr i d h1 n
    exact ⟨v, by rw [wipe_out h2]; exact g1, g2⟩
/-- the outer frame behind a turn -/
theorem Fit.merge {k : Bool} {vs : List Nat} (f : Fit K M A σ H ρ) (f3 : Fit K M A σ3 H' ρ3) (g : Fra (eff k A) H H') (hv : ∀ p ∈ A, p.1 ∉ vs) (hw : L2.wipe σ3 vs = L2.wipe σ vs) : Fit K M A σ H' (mrg k ρ ρ3 vs) := by
  cases k with
  | false => exact f.same (eff_false g)
  | true =>
    have hl : σ3.length = σ.length := by rw [← wipe_length σ3 vs, hw, wipe_length]
    have hl2 : ρ.length = ρ3.length := by rw [← f.len, ← f3.len, hl]
    have ho : ∀ i, i ∉ vs → σ3[i]? = σ[i]? := fun i h => by rw [← wipe_out (σ := σ3) h, hw, wipe_out h]
    refine ⟨by show σ.length = (mergeE ρ ρ3 vs).length; rw [mergeE_len, ← hl2]; exact f.len, f3.trk, f3.sub, f3.nd, fun p hp => ?_, fun i d e n => ?_⟩
    · obtain ⟨h1, d, h2, h3⟩ := f3.own p hp
      exact ⟨by rw [← ho _ (hv p hp)]; exact h1, d, by show (mergeE ρ ρ3 vs)[p.1]? = _; rw [mergeE_out (hv p hp)]; exact h2, h3⟩
    · have e' : (mergeE ρ ρ3 vs)[i]? = some (some d) := e
      by_cases h : i ∈ vs
      · rw [mergeE_in hl2 h] at e'
        obtain ⟨v, g1, g2⟩ := f.shr i d e' n
        exact ⟨v, g1, Rp.carry (Carry.fra g (eff_sub f)) g2⟩
      · rw [mergeE_out h] at e'
        obtain ⟨v, g1, g2⟩ := f3.shr i d e' n
        exact ⟨v, by rw [← ho i h]; exact g1, g2⟩
end

/-! ### tests of a clause -/
def DBs (X : Cx) (E : XK) (k : Bool) (Γ : List Nat) (es : List Expr) (m : MB) : Prop := PTs X es (DTb X.K X.mg E k Γ m)
theorem PTs.imp {X : Cx} {es : List Expr} {t t' : TT} (h : PTs X es t) (w : ∀ σ H Q, t' σ H Q → t σ H Q) : PTs X es t' := ⟨fun pins s σ H Q I q => h.run pins s σ H Q I (w σ H Q q)⟩
def bYes : MB := fun ρ => .ok (true, ρ)
section
variable {X : Cx} {E : XK} {k r : Bool} {Γ : List Nat} {a b c e tg elt iter : Expr} {es ifs : List Expr} {pos : Pos}
theorem dbs_nil : DBs X E k Γ [] bYes := PTs.imp pts_nil fun σ H Q ⟨M, A, ρ, _, f, q⟩ => q H f Fra.refl fun _ => rfl
theorem dbs_one {m : MB} (h : DB X E k Γ c m) : DBs X E k Γ [c] m := pts_one h

def slots (own : List (Str × Nat)) : List Nat := own.map Prod.snd
/-! ### one clause -/
def lcG (k : Bool) (vs : List Nat) (g : MG) (tt : MB) (me : ME) : List D → Ev → R (List D × Ev)
  | [], ρ => .ok ([], ρ)
  | d :: ds, ρ => (g d (wipeE ρ vs)).nox.bind fun ρ1 => (tt ρ1).nox.bind fun t =>
    if t.1 = true then (me t.2).nox.bind fun y => (lcG k vs g tt me ds (mrg k ρ y.2 vs)).bind fun r => .ok (y.1 :: r.1, r.2)
    else lcG k vs g tt me ds (mrg k ρ t.2 vs)
def mLc (k : Bool) (mi : MA) (vs : List Nat) (g : MG) (tt : MB) (me : ME) : ME := fun ρ => (mi ρ).bind fun x => (lcG k vs g tt me x.1 x.2).nox.bind fun r => .ok (.list r.1, r.2)
theorem noxp {α : Type} {m : R α} {Q : α → Prop} {X Y : Str → Prop} (h : m.nox.post Q X) : m.post Q Y := post_nox h
theorem lc_turn {K : Fg} {mg : Str → Option Value} {mi : MA} {g : MG} {tt : MB} {me : ME} {vs : List Nat} (hv : ∀ i ∈ vs, Γ.contains i = false) {σ : St} {H : Hp} {Q : VK}
    (h : DTf K mg E k Γ (mLc k mi vs g tt me) σ H Q) : tLc (DTi K mg E k Γ mi) (DTg K Γ vs g) (DTb K mg E0 k Γ tt) (DT K mg E0 k false Γ me) vs σ H Q := by
  obtain ⟨M, A, ρ, hΓ, f, q⟩ := h
  have hv' : ∀ p ∈ A, p.1 ∉ vs := fun p hp hm => by
    have := hv _ hm
    have hp' : p.1 ∈ Γ := hΓ ▸ List.mem_map.mpr ⟨p, hp, rfl⟩
    rw [List.contains_iff_mem.mpr hp'] at this
    cases this
  refine ⟨M, A, ρ, hΓ, f, pimp (post_bind q) (fun x hx J S H0 f0 g0 e0 src s0 hsz => ?_) fun c hc => hc⟩
  obtain ⟨ds, ρ0⟩ := x
  have src : Src K J ds S := src
  have hsz : ds.length ≤ sizeLine := hsz
  have hx := post_noxbind hx
  intro p np
  have np0 : H p = none := none_back f0 g0 np
  have sp : Same H0 (upd H0 p (.lst [])) := fun b u e => by rw [upd_ne (ne_of_none e np)]; exact e
  have ne0 : ∀ b, eff k A b → b ≠ p := fun b hb e => by
    obtain ⟨o, eo⟩ := f0.trk b (f0.has b hb.2)
    rw [e, np] at eo; cases eo
  refine ⟨fun i m H1 => m = ds.length - i ∧ ∃ acc dacc ρ1, Fit K (M.add p) A σ H1 ρ1 ∧ Fra (eff k A) H0 H1 ∧ (k = false → ρ1 = ρ0) ∧ S (M.add p) H1 ∧ H1 p = some (.lst acc) ∧ RpAll K H1 (M.add p) acc dacc ∧ acc.length ≤ i ∧
      (lcG k vs g tt me (ds.drop i) ρ1).nox.post (fun r => ∀ p' H', H p' = none → Fit K (M.add p') A σ H' r.2 → Fra (eff k A) H H' → (k = false → r.2 = ρ) → OwnAt K H' (M.add p') p' (.list (dacc ++ r.1)) → Q (.ref p') H') (fun _ => False),
    ⟨_, rfl, [], [], ρ0, f0.addM np, Fra.of_eff sp, fun _ => rfl, src.carry M (M.add p) (fun _ => False) H0 (upd H0 p (.lst [])) s0 (Fra.of_same sp) (fun _ z => z.elim) (fun b z => z.elim .inl fun e => .inr (by rw [e]; exact np)), upd_same, .nil, Nat.le_refl _, by
      rw [List.drop_zero]
      exact pimp hx (fun r hr p' H' np' f' g' e' o' => hr p' H' np' f' g' e' o') fun c hc => hc⟩, ?_⟩
  rintro i m H1 ⟨em, acc, dacc, ρ1, f1, g1, e1, s1, hp1, ra, hal, q1⟩
  by_cases hi : i < ds.length
  · obtain ⟨d, hd⟩ : ∃ d, ds[i]? = some d := ⟨_, List.getElem?_eq_getElem hi⟩
    have ed : ds.drop i = d :: ds.drop (i + 1) := by
      rw [List.drop_eq_getElem_cons hi]
      rw [List.getElem?_eq_getElem hi] at hd
      rw [Option.some.inj hd]
    rw [ed] at q1
    refine .inr ⟨src.go _ i H1 s1 hi, fun H2 => ∃ acc dacc ρ1, Fit K (M.add p) A σ H2 ρ1 ∧ Fra (eff k A) H0 H2 ∧ (k = false → ρ1 = ρ0) ∧ S (M.add p) H2 ∧ H2 p = some (.lst acc) ∧ RpAll K H2 (M.add p) acc dacc ∧ acc.length ≤ i + 1 ∧
      (lcG k vs g tt me (ds.drop (i + 1)) ρ1).nox.post (fun r => ∀ p' H', H p' = none → Fit K (M.add p') A σ H' r.2 → Fra (eff k A) H H' → (k = false → r.2 = ρ) → OwnAt K H' (M.add p') p' (.list (dacc ++ r.1)) → Q (.ref p') H') (fun _ => False), fun H2 h => ⟨ds.length - (i + 1), by omega, rfl, h⟩, fun x H2 hy => ?_⟩
    obtain ⟨rfl, d', hd', rx⟩ := src.yld _ i H1 x H2 s1 hi hy
    rw [hd] at hd'
    cases hd'
    have q1 := (show ((g d (wipeE ρ1 vs)).nox.bind _).post _ _ from by
      have e : (lcG k vs g tt me (d :: ds.drop (i + 1)) ρ1) = ((g d (wipeE ρ1 vs)).nox.bind fun ρ1' => (tt ρ1').nox.bind fun t =>
        if t.1 = true then (me t.2).nox.bind fun y => (lcG k vs g tt me (ds.drop (i + 1)) (mrg k ρ1 y.2 vs)).bind fun r => .ok (y.1 :: r.1, r.2)
        else lcG k vs g tt me (ds.drop (i + 1)) (mrg k ρ1 t.2 vs)) := rfl
      rw [e] at q1
      have : ∀ {m : R (List D × Ev)} {P : List D × Ev → Prop}, m.nox.post P (fun _ => False) → m.post P (fun _ => False) := fun h => post_nox h
      exact this q1)
    have wp := f1.wipe hv'
    refine ⟨M.add p, A, wipeE ρ1 vs, d, hΓ, wp, rx, ?_⟩
    cases hg : g d (wipeE ρ1 vs) with
    | exc c => rw [hg] at q1; exact q1.elim
    | no => rw [hg] at q1; exact q1.elim
    | ok ρ2 =>
      rw [hg] at q1
      intro σ2 f2 hw2
      have hw2' : wipe σ2 vs = wipe σ vs := by
        rw [hw2]
        have : ∀ vs : List Nat, ∀ σ : St, wipe (wipe σ vs) vs = wipe σ vs := by
          intro vs σ
          apply List.ext_getElem?
          intro j
          by_cases hj : j ∈ vs
          · have h0 : ∀ τ : St, τ.length = σ.length → (wipe τ vs)[j]? = if j < σ.length then some none else none := by
              intro τ hτ
              by_cases hl : j < σ.length
              · rw [if_pos hl]
                have hl2 : j < (wipe τ vs).length := by rw [wipe_length, hτ]; exact hl
                rw [List.getElem?_eq_getElem hl2]
                cases e : (wipe τ vs)[j] with
                | none => rfl
                | some x =>
                  have : (wipe τ vs)[j]? = some (some x) := by rw [List.getElem?_eq_getElem hl2, e]
                  exact absurd hj (wipe_some this).2
              · rw [if_neg hl]
                exact List.getElem?_eq_none (by rw [wipe_length, hτ]; omega)
            rw [h0 _ (wipe_length _ _), h0 _ rfl]
          · rw [wipe_out hj]
        exact this vs σ
      refine ⟨hw2', M.add p, A, ρ2, hΓ, f2, ?_⟩
      have q2 : ((tt ρ2).nox.bind _).post _ (fun _ => False) := q1
      refine noxp (X := fun _ => False) (pimp (post_noxbind q2) (fun t ht H3 f3 g3 e3 => ?_) fun c hc => hc)
      by_cases hb : t.1 = true
      · rw [if_pos hb] at ht
        refine ite_pos hb ⟨M.add p, A, t.2, hΓ, f3, noxp (X := fun _ => False) (pimp (post_noxbind ht) (fun y hy y4 H4 f4 g4 e4 r4 => ?_) fun c hc => hc)⟩
        have g14 : Fra (eff k A) H2 H4 := g3.trans g4
        have hp4 : H4 p = some (.lst acc) := g14 p _ hp1 fun z => ne0 p z rfl
        have mp : (M.add p) p := .inr rfl
        have cc : Carry K H4 (upd H4 p (.lst (acc ++ [y4]))) (M.add p) (M.add p) := Carry.at mp
        have fm := f1.merge (k := k) f4 g14 hv' hw2'
        have up : Fra (eff k A) H4 (upd H4 p (.lst (acc ++ [y4]))) → True := fun _ => trivial
        have pA : ∀ q ∈ A, q.2 ≠ p := fun q hq e => by
          obtain ⟨o, eo⟩ := f0.trk q.2 (f0.sub q hq)
          rw [e, np] at eo; cases eo
        have fu : Fit K (M.add p) A σ (upd H4 p (.lst (acc ++ [y4]))) (mrg k ρ1 y.2 vs) := ⟨fm.len, fun b mb => by
            by_cases e : b = p
            · subst e; exact ⟨_, upd_same⟩
            · rw [upd_ne e]; exact fm.trk b mb, fm.sub, fm.nd, fun q hq => let ⟨h1, d, h2, h3⟩ := fm.own q hq; ⟨h1, d, h2, h3.carry cc fun o eo => by rw [upd_ne (pA q hq)]; exact eo⟩,
          fun j d ej nj => let ⟨v, h1, h2⟩ := fm.shr j d ej nj; ⟨v, h1, Rp.carry cc h2⟩⟩
        have cr : Carry K H2 H4 (M.add p) (M.add p) := Carry.fra g14 fun b z => f1.has b z.2
        refine ⟨acc, hp4, by omega, acc ++ [y4], dacc ++ [y.1], mrg k ρ1 y.2 vs, fu, ?_, ?_, ?_, upd_same, ?_, by rw [List.length_append]; simpa using hal, ?_⟩
        · intro b o eo nb
          have nbp : b ≠ p := ne_of_none eo np
          rw [upd_ne nbp]
          exact (g1.trans g14) b o eo nb
        · intro n
          subst n
          exact e1 rfl
        · refine src.carry (M.add p) (M.add p) (M.add p) H2 _ s1 (fun b o eo nb => ?_) (fun b z => z) (fun b z => .inl z)
          have nbp : b ≠ p := fun e => nb (.inr e)
          rw [upd_ne nbp]
          exact g14 b o eo fun z => nb (f1.has b z.2)
        · exact RpAll.carry cc ((RpAll.carry cr ra).append (.one r4))
        · have hy : ((lcG k vs g tt me (ds.drop (i + 1)) (mrg k ρ1 y.2 vs)).bind fun r => R.ok (y.1 :: r.1, r.2)).post _ (fun _ => False) := hy
          have hy2 := post_bind hy
          cases hl : lcG k vs g tt me (ds.drop (i + 1)) (mrg k ρ1 y.2 vs) with
          | exc c => rw [hl] at hy2; exact hy2.elim
          | no => rw [hl] at hy2; exact hy2.elim
          | ok r =>
            rw [hl] at hy2
            intro p' H' a1 a2 a3 a4 a5
            rw [List.append_assoc] at a5
            exact hy2 p' H' a1 a2 a3 a4 a5
      · rw [if_neg hb] at ht
        have g13 : Fra (eff k A) H2 H3 := g3
        have hp3 : H3 p = some (.lst acc) := g13 p _ hp1 fun z => ne0 p z rfl
        have fm := f1.merge (k := k) f3 g13 hv' hw2'
        have cr : Carry K H2 H3 (M.add p) (M.add p) := Carry.fra g13 fun b z => f1.has b z.2
        refine ite_neg hb ⟨acc, dacc, mrg k ρ1 t.2 vs, fm, g1.trans g13, ?_, ?_, hp3, RpAll.carry cr ra, by omega, ?_⟩
        · intro n
          subst n
          exact e1 rfl
        · exact src.carry (M.add p) (M.add p) (eff k A) H2 H3 s1 g13 (fun b z => f1.has b z.2) (fun b z => .inl z)
        · cases hl : lcG k vs g tt me (ds.drop (i + 1)) (mrg k ρ1 t.2 vs) with
          | exc c => rw [hl] at ht; exact ht.elim
          | no => rw [hl] at ht; exact ht.elim
          | ok r => rw [hl] at ht; exact ht
  · have ed : ds.drop i = [] := List.drop_eq_nil_of_le (by omega)
    rw [ed] at q1
    have q1 : ∀ p' H', H p' = none → Fit K (M.add p') A σ H' ρ1 → Fra (eff k A) H H' → (k = false → ρ1 = ρ) → OwnAt K H' (M.add p') p' (.list (dacc ++ [])) → Q (.ref p') H' := q1
    rw [List.append_nil] at q1
    exact .inl ⟨src.stop _ i H1 s1 (by omega), q1 p H1 np0 f1 (g0.trans g1) (fun n => (e1 n).trans (e0 n)) (.lst hp1 ra)⟩
theorem df_lc {scope : Scope} {own : List (Str × Nat)} {mi : MA} {g : MG} {tt : MB} {me : ME} (hc : X.calm = true) (hN : X.N.Nodup) (hi : DI X E k Γ tg iter mi) (ok : BlkOk X.N X.env.scope scope own)
    (hg : ∀ (s : Shared) (H : Hp) (C : Addr) (cl : List (Str × Addr)) (fp : List Addr), DG (X.blk s H scope (compEnvC scope cl C X.env) fp) Γ (slots own) tg g) (ht : ∀ (s : Shared) (H : Hp) (C : Addr) (cl : List (Str × Addr)) (fp : List Addr), DBs (X.blk s H scope (compEnvC scope cl C X.env) fp) E0 k Γ ifs tt)
    (he : ∀ (s : Shared) (H : Hp) (C : Addr) (cl : List (Str × Addr)) (fp : List Addr), DE (X.blk s H scope (compEnvC scope cl C X.env) fp) E0 k false Γ elt me) (hv : (slots own).all (fun i => !Γ.contains i) = true := by decide) (hs : ∀ x, foldedSetIterable iter X.env x = pure x := by intro _; rfl) :
    DF X E k Γ (.ListComp elt [⟨tg, iter, ifs, 0⟩] scope pos) (mLc k mi (slots own) g tt me) :=
  PE.imp (pe_lc (wi := DTi X.K X.mg E k Γ mi) (g := DTg X.K Γ (slots own) g) (tt := DTb X.K X.mg E0 k Γ tt) (te := DT X.K X.mg E0 k false Γ me) hc hN hi ok hg ht he hs) fun σ H Q h => lc_turn (fun i hi => by have := List.all_eq_true.mp hv i hi; simpa using this) h
theorem ps_lcF {i : Nat} {y : Str} {py spos : Pos} {scope : Scope} {own : List (Str × Nat)} {mi : MA} {g : MG} {tt : MB} {me : ME} (hc : X.calm = true) (hN : X.N.Nodup) (hy : X.N[i]? = some y) (hyl : X.env.scope.names.lookup y = some .local)
    (hsw : swapsWith (.ListComp elt [⟨tg, iter, ifs, 0⟩] scope pos) (some (.Name y py)) spos.line X.env = pure true) (hi : DI X E k Γ tg iter mi) (ok : BlkOk X.N X.env.scope scope own)
    (hg : ∀ (s : Shared) (H : Hp) (C : Addr) (cl : List (Str × Addr)) (fp : List Addr), DG (X.blk s H scope (compEnvC scope cl C X.env) fp) Γ (slots own) tg g) (ht : ∀ (s : Shared) (H : Hp) (C : Addr) (cl : List (Str × Addr)) (fp : List Addr), DBs (X.blk s H scope (compEnvC scope cl C X.env) fp) E0 k Γ ifs tt)
    (he : ∀ (s : Shared) (H : Hp) (C : Addr) (cl : List (Str × Addr)) (fp : List Addr), DE (X.blk s H scope (compEnvC scope cl C X.env) fp) E0 k false Γ elt me) (hv : (slots own).all (fun i => !Γ.contains i) = true := by decide) (hs : ∀ x, foldedSetIterable iter X.env x = pure x := by intro _; rfl) :
    PS X (.Assign [.Name y py] (.ListComp elt [⟨tg, iter, ifs, 0⟩] scope pos) spos) (tAsg (DTf X.K X.mg E k Γ (mLc k mi (slots own) g tt me)) (gName i)) :=
  PS.imp (ps_setLc (i := i) (wi := DTi X.K X.mg E k Γ mi) (g := DTg X.K Γ (slots own) g) (tt := DTb X.K X.mg E0 k Γ tt) (te := DT X.K X.mg E0 k false Γ me) hc hN hy hyl hsw hi ok hg ht he hs) fun D σ H h => lc_turn (fun i hi => by have := List.all_eq_true.mp hv i hi; simpa using this) h
end
end Dt

set_option Elab.async false
set_option linter.all false
set_option maxRecDepth 100000
set_option autoImplicit false
/-! Defs and their calls. -/
namespace Dt
open PySem PySem.Spec PyProof.Rows L2 R

/-! ### what a def is worth -/
def spP (K : Fg) (mg : Str → Option Value) (fn : List D → R D) : Sp := fun vs H Q E => ∃ (M0 : Av) (ds : List D), Trk M0 H ∧ RpAll K H M0 vs ds ∧
  (fn ds).post (fun d => ∀ v H', Same H H' → Rp K H' M0 v d → Q v H') (fun c => ∀ C H', mg c = some (.ref C) → Same H H' → E (.ref C) none H')
/-- .. that changes the list which it gets at place j -/
def spI (K : Fg) (mg : Str → Option Value) (j : Nat) (fn : List D → R (D × D)) : Sp := fun vs H Q E => ∃ (M0 : Av) (ds : List D) (a : Addr) (dj : D), Trk M0 H ∧ ¬ M0 a ∧ vs.length = ds.length ∧
  vs[j]? = some (.ref a) ∧ ds[j]? = some dj ∧ OwnAt K H (M0.add a) a dj ∧ (∀ i d, i ≠ j → ds[i]? = some d → ∃ v, vs[i]? = some v ∧ Rp K H (M0.add a) v d) ∧
  (fn ds).nox.post (fun z => ∀ v H', Fra (fun b => b = a) H H' → Rp K H' (M0.add a) v z.1 → OwnAt K H' (M0.add a) a z.2 → Q v H') (fun _ => False)
def startE (n N : Nat) (ds : List D) : Ev := ds.map some ++ List.replicate (N - n) none
def runF (n N : Nat) (body : MS) (ds : List D) : R D := if ds.length = n then (body (startE n N ds)).bind fun z => match z.1 with
    | .nx => .ok .none
    | .rt d => .ok d
    | _ => .no
  else .no
def runI (n N j : Nat) (body : MS) (ds : List D) : R (D × D) := if ds.length = n then (body (startE n N ds)).bind fun z => match z.1 with
    | .nx => (R.opt (getv z.2 j)).bind fun x => .ok (.none, x)
    | .rt d => (R.opt (getv z.2 j)).bind fun x => .ok (d, x)
    | _ => .no
  else .no
def mCallF (fn : List D → R D) (m : MA) : ME := fun ρ => (m ρ).bind fun z => (fn z.1).bind fun d => .ok (d, z.2)
section
variable {X : Cx} {E : XK} {k r : Bool} {Γ Γ' : List Nat} {a b c e : Expr} {es : List Expr} {pos p : Pos} {x : Str} {f : Addr} {fd : FuncData} {ps : List Str} {kf : Nat}
theorem de_callF {fn : List D → R D} {m : MA} (F : FnOk X.prog X.w X.K X.mg X.base (L2.CX X.prog X.w) kf f fd ps (spP X.K X.mg fn)) (hr : Room kf X.A) (hg : Gl X x) (hm : X.mg x = some (.ref f)) (hk : PySem.W.keepIn X.K (.ref f) = true) (hb : Binds X.K fd ps []) (hx : Passes (L2.CX X.prog X.w) X E)
    (ha : DA X E k false Γ (e :: es) m) (hdb : (x == ("__debug__" : Str)) = false := by decide) (he : starEach (e :: es) X.env = (false, eval e X.env) :: starEach es X.env := by rfl) (hpl : (backTo pos (starEach es X.env)).any (·.1) = false := by rfl) :
    DE X E k false Γ (.Call (.Name x p) (e :: es) [] pos) (mCallF fn m) :=
  PE.imp (pe_call F hr hg hm hk hb .nil hx ha hdb he hpl) fun σ H Q ⟨M, A, ρ, hΓ, fi, h⟩ => by
    refine ⟨M, A, ρ, hΓ, fi, pimp (post_bind h) (fun z hz vs H1 f1 g1 e1 r1 => ?_) (fun c hc => hc)⟩
    show spP X.K X.mg fn (vs ++ []) H1 Q E
    rw [List.append_nil]
    refine ⟨M, z.1, f1.trk, r1.all, pimp (post_bind hz) (fun d hd v H' s' rp => ?_) fun c hc C H' hC s' => hc C H' hC (g1.trans (Fra.of_eff s'))⟩
    exact hd v H' (f1.same s') (g1.trans (Fra.of_eff s')) e1 rp
theorem de_call0 {fn : List D → R D} (F : FnOk X.prog X.w X.K X.mg X.base (L2.CX X.prog X.w) kf f fd ps (spP X.K X.mg fn)) (hr : Room kf X.A) (hg : Gl X x) (hm : X.mg x = some (.ref f)) (hk : PySem.W.keepIn X.K (.ref f) = true) (hb : Binds X.K fd ps []) (hx : Passes (L2.CX X.prog X.w) X E)
    (hdb : (x == ("__debug__" : Str)) = false := by decide) : DE X E k false Γ (.Call (.Name x p) [] [] pos) (mCallF fn aNil) :=
  PE.imp (pe_call0 F hr hg hm hk hb .nil hx hdb) fun σ H Q ⟨M, A, ρ, hΓ, fi, h⟩ => by
    refine ⟨M, [], fi.trk, .nil, pimp (post_bind (show ((fn []).bind _).post _ _ from h)) (fun d hd v H' s' rp => ?_) fun c hc C H' hC s' => hc C H' hC (Fra.of_eff s')⟩
    exact hd v H' (fi.same s') (Fra.of_eff s') (fun _ => rfl) rp

/-! ### a call that hands on an own list -/
inductive Ar where
  | val (d : D) | at (i : Nat)
abbrev MAr := Ev → R (List Ar × Ev)
def isVal : Ar → Bool
  | .val _ => true
  | .at _ => false
inductive RpAr (K : Fg) (H : Hp) (M : Av) (A : As) : List V → List Ar → Prop
  | nil : RpAr K H M A [] []
  | val {v : V} {d : D} {vs : List V} {as : List Ar} : Rp K H M v d → RpAr K H M A vs as → RpAr K H M A (v :: vs) (.val d :: as)
  | at {i : Nat} {a : Addr} {vs : List V} {as : List Ar} : (i, a) ∈ A → RpAr K H M A vs as → RpAr K H M A (.ref a :: vs) (.at i :: as)
def DTr (K : Fg) (mg : Str → Option Value) (E : XK) (k : Bool) (Γ : List Nat) (m : MAr) : TA := fun σ H Q =>
  ∃ (M : Av) (A : As) (ρ : Ev), A.map (·.1) = Γ ∧ Fit K M A σ H ρ ∧
    (m ρ).post (fun z => ∀ vs H', Fit K M A σ H' z.2 → Fra (eff k A) H H' → (k = false → z.2 = ρ) → RpAr K H' M A vs z.1 → Q vs H') (DX mg E (eff k A) H)
def DAr (X : Cx) (E : XK) (k : Bool) (Γ : List Nat) (es : List Expr) (m : MAr) : Prop := PA X es (DTr X.K X.mg E k Γ m)
def rNil : MAr := fun ρ => .ok ([], ρ)
def rVal (ma : ME) (mr : MAr) : MAr := fun ρ => (ma ρ).bind fun x => (mr x.2).bind fun xs => .ok (Ar.val x.1 :: xs.1, xs.2)
def rAt (i : Nat) (mr : MAr) : MAr := fun ρ => (R.opt (getv ρ i)).bind fun _ => (mr ρ).bind fun xs => .ok (Ar.at i :: xs.1, xs.2)
theorem dar_nil : DAr X E k Γ [] rNil := PA.imp pa_nil fun σ H Q ⟨M, A, ρ, _, f, q⟩ => q [] H f Fra.refl (fun _ => rfl) .nil
theorem dar_val {ma : ME} {mr : MAr} (ha : DE X E k false Γ e ma) (hr : DAr X E k Γ es mr) (hs : starEach (e :: es) X.env = (false, eval e X.env) :: starEach es X.env := by rfl) : DAr X E k Γ (e :: es) (rVal ma mr) :=
  PA.imp (pa_cons ha hr hs) fun σ H Q ⟨M, A, ρ, hΓ, f, h⟩ => by
    refine ⟨M, A, ρ, hΓ, f, pimp (post_bind h) (fun z hz v1 H1 f1 g1 e1 r1 => ?_) (fun c hc => hc)⟩
    refine ⟨M, A, z.2, hΓ, f1, pimp (post_bind hz) (fun z2 hz2 vs H2 f2 g2 e2 r2 => ?_) (fun c hc => DX.fra g1 hc)⟩
    exact hz2 (v1 :: vs) H2 f2 (g1.trans g2) (fun n => (e2 n).trans (e1 n)) (RpAr.val (Rp.carry (Carry.fra g2 (eff_sub f1)) r1) r2)
theorem dar_at {i : Nat} {mr : MAr} (ha : PE X e (tVar i)) (hr : DAr X E k Γ es mr) (hi : Γ.contains i = true := by decide) (hs : starEach (e :: es) X.env = (false, eval e X.env) :: starEach es X.env := by rfl) : DAr X E k Γ (e :: es) (rAt i mr) :=
  PA.imp (pa_cons ha hr hs) fun σ H Q ⟨M, A, ρ, hΓ, f, h⟩ => by
    obtain ⟨d, ed, h⟩ := post_opt h
    have hm : i ∈ A.map (·.1) := by rw [hΓ]; exact List.contains_iff_mem.mp hi
    obtain ⟨⟨j, a⟩, hq, e0⟩ := List.mem_map.mp hm
    obtain rfl : j = i := e0
    refine ⟨.ref a, (f.own _ hq).1, M, A, ρ, hΓ, f, pimp (post_bind h) (fun z2 hz2 vs H2 f2 g2 e2 r2 => ?_) (fun c hc => hc)⟩
    exact hz2 (.ref a :: vs) H2 f2 g2 e2 (RpAr.at hq r2)
def arD (ρ : Ev) : List Ar → Option (List D)
  | [] => some []
  | .val d :: r => (arD ρ r).map (d :: ·)
  | .at i :: r => (getv ρ i).bind fun d => (arD ρ r).map (d :: ·)
/-- fn: what the def is worth; j: the place of the list that it changes -/
def mCallI (j : Nat) (fn : List D → R (D × D)) (m : MAr) : ME := fun ρ => (m ρ).bind fun z => match z.1[j]? with
  | some (.at i) => if (z.1.eraseIdx j).all isVal = true then (R.opt (arD z.2 z.1)).bind fun ds => (fn ds).nox.bind fun y => .ok (y.1, z.2.set i (some y.2)) else .no
  | _ => .no
theorem arD_get {ρ : Ev} : ∀ {as : List Ar} {ds : List D}, arD ρ as = some ds → as.length = ds.length ∧ (∀ (i : Nat) (d : D), as[i]? = some (Ar.val d) → ds[i]? = some d) ∧ ∀ (i l : Nat), as[i]? = some (Ar.at l) → ∃ d, ds[i]? = some d ∧ getv ρ l = some d
  | [], _, h => by cases h; exact ⟨rfl, by simp, by simp⟩
  | .val d :: r, ds, h => by
    unfold arD at h
    cases q : arD ρ r with
    | none => rw [q] at h; cases h
    | some es =>
      rw [q] at h
      cases h
      obtain ⟨h1, h2, h3⟩ := arD_get q
      refine ⟨by simp [h1], fun i d' e => ?_, fun i l e => ?_⟩
      · cases i with
        | zero => simp at e; simp [e]
        | succ i => simpa using h2 i d' (by simpa using e)
      · cases i with
        | zero => simp at e
        | succ i => simpa using h3 i l (by simpa using e)
  | .at l0 :: r, ds, h => by
    unfold arD at h
    cases q0 : getv ρ l0 with
    | none => rw [q0] at h; cases h
    | some d0 =>
      rw [q0] at h
      cases q : arD ρ r with
      | none =>
        have : (Option.map (fun x => d0 :: x) (arD ρ r)) = some ds := h
        rw [q] at this; cases this
      | some es =>
        have h' : (Option.map (fun x => d0 :: x) (arD ρ r)) = some ds := h
        rw [q] at h'
        cases h'
        obtain ⟨h1, h2, h3⟩ := arD_get q
        refine ⟨by simp [h1], fun i d' e => ?_, fun i l e => ?_⟩
        · cases i with
          | zero => simp at e
          | succ i => simpa using h2 i d' (by simpa using e)
        · cases i with
          | zero => simp at e; subst e; exact ⟨d0, by simp, q0⟩
          | succ i => simpa using h3 i l (by simpa using e)
theorem RpAr.len {K : Fg} {H : Hp} {M : Av} {A : As} : ∀ {vs : List V} {as : List Ar}, RpAr K H M A vs as → vs.length = as.length
  | _, _, .nil => rfl
  | _, _, .val _ r => congrArg (· + 1) r.len
  | _, _, .at _ r => congrArg (· + 1) r.len
theorem RpAr.getVal {K : Fg} {H : Hp} {M : Av} {A : As} : ∀ {vs : List V} {as : List Ar} {i : Nat} {d : D}, RpAr K H M A vs as → as[i]? = some (Ar.val d) → ∃ v, vs[i]? = some v ∧ Rp K H M v d
  | _, _, i, _, .nil, e => by simp at e
  | _, _, 0, _, .val h _, e => by simp at e; subst e; exact ⟨_, rfl, h⟩
  | _, _, 0, _, .at h _, e => by simp at e
  | _, _, i + 1, d, .val _ r, e => by simpa using RpAr.getVal (i := i) (d := d) r (by simpa using e)
  | _, _, i + 1, d, .at _ r, e => by simpa using RpAr.getVal (i := i) (d := d) r (by simpa using e)
theorem RpAr.getAt {K : Fg} {H : Hp} {M : Av} {A : As} : ∀ {vs : List V} {as : List Ar} {i l : Nat}, RpAr K H M A vs as → as[i]? = some (Ar.at l) → ∃ a, vs[i]? = some (.ref a) ∧ (l, a) ∈ A
  | _, _, i, _, .nil, e => by simp at e
  | _, _, 0, _, .at h _, e => by simp at e; subst e; exact ⟨_, rfl, h⟩
  | _, _, 0, _, .val h _, e => by simp at e
  | _, _, i + 1, l, .val _ r, e => by simpa using RpAr.getAt (i := i) (l := l) r (by simpa using e)
  | _, _, i + 1, l, .at _ r, e => by simpa using RpAr.getAt (i := i) (l := l) r (by simpa using e)
theorem OwnAt.there {K : Fg} {H : Hp} {M : Av} {a : Addr} {d : D} (h : OwnAt K H M a d) : ∃ o, H a = some o := by
  cases h with
  | lst g1 _ => exact ⟨_, g1⟩
  | dcK g1 _ => exact ⟨_, g1⟩
  | dcT g1 _ => exact ⟨_, g1⟩
theorem de_callI {j : Nat} {fn : List D → R (D × D)} {m : MAr} (F : FnOk X.prog X.w X.K X.mg X.base (L2.CX X.prog X.w) kf f fd ps (spI X.K X.mg j fn)) (hr : Room kf X.A) (hg : Gl X x) (hm : X.mg x = some (.ref f)) (hk : PySem.W.keepIn X.K (.ref f) = true) (hb : Binds X.K fd ps []) (hx : Passes (L2.CX X.prog X.w) X E)
    (ha : DAr X E true Γ (e :: es) m) (hdb : (x == ("__debug__" : Str)) = false := by decide) (he : starEach (e :: es) X.env = (false, eval e X.env) :: starEach es X.env := by rfl) (hpl : (backTo pos (starEach es X.env)).any (·.1) = false := by rfl) :
    DE X E true false Γ (.Call (.Name x p) (e :: es) [] pos) (mCallI j fn m) :=
  PE.imp (pe_call F hr hg hm hk hb .nil hx ha hdb he hpl) fun σ H Q ⟨M, A, ρ, hΓ, fi, h⟩ => by
    refine ⟨M, A, ρ, hΓ, fi, pimp (post_bind h) (fun z hz vs H1 f1 g1 e1 r1 => ?_) (fun c hc => hc)⟩
    show spI X.K X.mg j fn (vs ++ []) H1 Q E
    rw [List.append_nil]
    cases hj : z.1[j]? with
    | none => rw [hj] at hz; exact hz.elim
    | some q =>
      cases q with
      | val d => rw [hj] at hz; exact hz.elim
      | «at» i =>
        rw [hj] at hz
        obtain ⟨a, ea, ia⟩ := r1.getAt hj
        by_cases hall : (z.1.eraseIdx j).all isVal = true
        · have hz : ((R.opt (arD z.2 z.1)).bind fun ds => (fn ds).nox.bind fun y => R.ok (y.1, z.2.set i (some y.2))).post _ _ := (by
            have : (if (z.1.eraseIdx j).all isVal = true then (R.opt (arD z.2 z.1)).bind fun ds => (fn ds).nox.bind fun y => R.ok (y.1, z.2.set i (some y.2)) else R.no).post _ _ := hz
            rw [if_pos hall] at this
            exact this)
          obtain ⟨ds, ed, hz⟩ := post_opt hz
          obtain ⟨l1, l2, l3⟩ := arD_get ed
          obtain ⟨dj, edj, gj⟩ := l3 j i hj
          have ma : M a := f1.sub _ ia
          have bk : ∀ b, (Av.add (fun b => M b ∧ b ≠ a) a) b ↔ M b := fun b => ⟨fun z => z.elim (·.1) fun e => by rw [e]; exact ma, fun z => by
            by_cases e : b = a
            · exact .inr e
            · exact .inl ⟨z, e⟩⟩
          have c1 : ∀ H, Carry X.K H H M (Av.add (fun b => M b ∧ b ≠ a) a) := fun H => Carry.weak fun b z => (bk b).mp z
          have c2 : ∀ H, Carry X.K H H (Av.add (fun b => M b ∧ b ≠ a) a) M := fun H => Carry.weak fun b z => (bk b).mpr z
          obtain ⟨o1, d1, o2, o3⟩ := f1.own _ ia
          rw [getv_some gj] at o2
          cases o2
          refine ⟨fun b => M b ∧ b ≠ a, ds, a, dj, fun b hb => f1.trk b hb.1, fun z => z.2 rfl, by rw [r1.len, l1], ea, edj, o3.carry (c1 H1) (fun _ e => e), fun i' d' ne hd' => ?_, pimp (post_noxbind hz) (fun y hy v H' g' rp ow => ?_) fun c hc => hc⟩
          · have hi' : i' < z.1.length := by rw [l1]; exact (List.getElem?_eq_some_iff.mp hd').1
            obtain ⟨q, hq⟩ : ∃ q, z.1[i']? = some q := ⟨_, List.getElem?_eq_getElem hi'⟩
            cases q with
            | val d2 =>
              obtain ⟨v, ev, rv⟩ := r1.getVal hq
              have := l2 i' d2 hq
              rw [hd'] at this
              cases this
              exact ⟨v, ev, Rp.carry (c1 H1) rv⟩
            | «at» l =>
              have hmem : Ar.at l ∈ z.1.eraseIdx j := List.mem_eraseIdx_iff_getElem?.mpr ⟨i', ne, hq⟩
              have := List.all_eq_true.mp hall _ hmem
              cases this
          · have gg : Fra (eff true A) H1 H' := g'.mono fun b z => ⟨rfl, i, by rw [z]; exact ia⟩
            have cc : Carry X.K H1 H' M M := Carry.fra gg (eff_sub f1)
            have hil : i < z.2.length := (List.getElem?_eq_some_iff.mp (getv_some gj)).1
            refine hy v H' ⟨by rw [List.length_set]; exact f1.len, fun b mb => ?_, f1.sub, f1.nd, fun q hq => ?_, fun l d' el nl => ?_⟩ (g1.trans gg) (fun n => Bool.noConfusion n) (Rp.carry (c2 H') rp)
            · by_cases e : b = a
              · rw [e]
                exact ow.there
              · obtain ⟨o, eo⟩ := f1.trk b mb
                exact ⟨o, g' b o eo e⟩
            · obtain ⟨h1, d', h2, h3⟩ := f1.own q hq
              by_cases e : q.2 = a
              · have : q.1 = i := nd_inj f1.nd (by rw [← e]; exact hq) ia
                rw [this, e]
                exact ⟨o1, y.2, List.getElem?_set_self hil, ow.carry (c2 H') fun _ e => e⟩
              · have ne : i ≠ q.1 := fun e2 => by
                  rw [← e2, o1] at h1
                  cases h1
                  exact e rfl
                exact ⟨h1, d', by rw [List.getElem?_set_ne ne]; exact h2, h3.carry cc fun o' eo => g' _ _ eo e⟩
            · have ne : i ≠ l := fun e => nl a (by rw [← e]; exact ia)
              rw [List.getElem?_set_ne ne] at el
              obtain ⟨w, h1, h2⟩ := f1.shr l d' el nl
              exact ⟨w, h1, Rp.carry cc h2⟩
        · have : (if (z.1.eraseIdx j).all isVal = true then (R.opt (arD z.2 z.1)).bind fun ds => (fn ds).nox.bind fun y => R.ok (y.1, z.2.set i (some y.2)) else R.no).post _ _ := hz
          rw [if_neg hall] at this
          exact this.elim
end

/-! ### a def keeps its promise -/
/-- where the bodies of defs run -/
structure Cz (X : Cx) (E : XK) (k : Nat) : Prop where
  calm : X.calm = true
  room : Room k X.A
  pass : Passes (L2.CX X.prog X.w) X E
theorem Cz.blk {X : Cx} {E : XK} {k : Nat} (z : Cz X E k) (s : Shared) (H : Hp) (scope : Scope) (env : Env) (fp : List Addr) : Cz (X.blk s H scope env fp) E0 k := ⟨z.calm, z.room, passL⟩
theorem Cz.hu {X : Cx} {E : XK} {k : Nat} (z : Cz X E k) : X.A.units + 110 < cLine := by have := z.room.un; omega
theorem Cz.hu1 {X : Cx} {E : XK} {k : Nat} (z : Cz X E k) : X.A.units + 1 < cLine := by have := z.room.un; omega
theorem Cz.r {X : Cx} {E : XK} {k j : Nat} (z : Cz X E k) (h : Nat.ble j k = true := by rfl) : Room j X.A := z.room.mono (Nat.le_of_ble_eq_true h)
structure Cs (X : Cx) (E : XK) (k : Nat) : Prop extends Cz X E k where
  own : PassesOwn (model X.prog X.w) X.A X.env X.xe
  takes : Takes X (fun cls d _ H => E cls d H)
section
variable {P : Program} {w : World} {K : Fg} {mg : Str → Option Value} {base : Heap} {x qual : Str} {params : Arguments} {body : List Stmt} {scope : Scope} {f : Addr} {fd : FuncData} {N ps : List Str} {k : Nat}
theorem cs_of {A : Around} {outer : List Env} {s : Shared} {H : Hp} {E : XK} {cdv : Value} (hr : Room k (A.deeper (envOfC qual scope s.heap.objs.size f cdv))) : Cs (cxOf (L2.CX P w) P w K mg base N qual scope f cdv A outer s H E) E k where
  calm := rfl
  room := hr
  pass := passes_call (takes_of rfl rfl rfl rfl) fun _ _ _ _ h => h
  own := passes_of rfl
  takes := takes_of rfl rfl rfl rfl
theorem startFit {H : Hp} {M0 : Av} {vs : List V} {ds : List D} {n : Nat} (hl : ds.length = n) (hN : n ≤ N.length) (tk : Trk M0 H) (r : RpAll K H M0 vs ds) : Fit K (un M0 []) [] (L2.start N vs) H (startE n N.length ds) := by
  have un0 : ∀ b, un M0 [] b → M0 b := fun b z => z.elim id fun ⟨i, z⟩ => (by cases z)
  have hv : vs.length = n := by rw [r.length, hl]
  refine ⟨?_, fun a m => tk a (un0 a m), fun p hp => (by cases hp), List.nodup_nil, fun p hp => (by cases hp), fun i d e _ => ?_⟩
  · unfold L2.start startE
    simp [hv, hl]
  · unfold startE at e
    by_cases hi : i < ds.length
    · rw [List.getElem?_append_left (by rw [List.length_map]; exact hi), List.getElem?_map] at e
      cases q : ds[i]? with
      | none => rw [q] at e; cases e
      | some d' =>
        rw [q] at e
        cases e
        obtain ⟨v, ev, rv⟩ := r.get q
        refine ⟨v, ?_, Rp.carry (Carry.weak un0) rv⟩
        unfold L2.start
        rw [List.getElem?_append_left (by rw [List.length_map, hv, ← hl]; exact hi), List.getElem?_map, ev]; rfl
    · rw [List.getElem?_append_right (by rw [List.length_map]; omega)] at e
      rw [List.getElem?_replicate] at e
      split at e <;> cases e
/-- a body, wherever it runs -/
def Bdy (P : Program) (w : World) (K : Fg) (mg : Str → Option Value) (base : Heap) (N : List Str) (qual : Str) (scope : Scope) (f : Addr) (k : Nat) (T : Cx → XK → Prop) : Prop :=
  ∀ (cdv : Value) (A : Around) (outer : List Env) (s : Shared) (H : Hp) (E : XK), Cs (cxOf (L2.CX P w) P w K mg base N qual scope f cdv A outer s H E) E k → T (cxOf (L2.CX P w) P w K mg base N qual scope f cdv A outer s H E) E
theorem fn_pure {mb : MS} {Γ' : List Nat} (F : FunD K x qual params body scope [] [] f fd) (S : FnScope N ps scope) (hN : ps.length ≤ N.length)
    (hb : Bdy P w K mg base N qual scope f k fun X E => DSs X E [] [] Γ' [] body mb) :
    FnOk P w K mg base (L2.CX P w) (k + 1) f fd ps (spP K mg (runF ps.length N.length mb)) := by
  refine F.ok S (fun vs H Q E h => ?_) (fun cdv A outer s H vs Q E hr h => ?_)
  · obtain ⟨M0, ds, tk, r, q⟩ := h
    unfold runF at q
    by_cases hl : ds.length = ps.length
    · rw [r.length, hl]
    · rw [if_neg hl] at q; exact q.elim
  · obtain ⟨M0, ds, tk, r, q⟩ := h
    refine ⟨_, hb cdv A outer s H E (cs_of hr), ?_⟩
    by_cases hl : ds.length = ps.length
    · unfold runF at q
      rw [if_pos hl] at q
      refine ⟨M0, [], [], _, rfl, rfl, fun p hp => (by cases hp), startFit hl hN tk r, pimp (post_bind q) (fun z hz => ?_) fun c hc C H' hC g => hc C H' hC fun b o e => g b o e fun ⟨i, z⟩ => (by cases z)⟩
      have un0 : ∀ b, M0 b → un M0 [] b := fun b z => .inl z
      have same : ∀ {H'}, Fra (As.has ([] ++ [])) H H' → Same H H' := fun g b o e => g b o e fun ⟨i, z⟩ => (by cases z)
      obtain ⟨fl, ρ'⟩ := z
      cases fl with
      | nx => exact fun σ' H' B' _ s' f' => hz .non H' (same s'.fra) .non
      | rt d => exact fun v H' g rp _ => hz v H' (same g) (Rp.carry (Carry.weak un0) rp)
      | bk => exact hz.elim
      | ct => exact hz.elim
    · unfold runF at q
      rw [if_neg hl] at q; exact q.elim
theorem fn_own {j : Nat} {mb : MS} {Γ' : List Nat} (F : FunD K x qual params body scope [] [] f fd) (S : FnScope N ps scope) (hN : ps.length ≤ N.length) (hj : j < ps.length)
    (hb : Bdy P w K mg base N qual scope f k fun X E => DSs X E [j] [] Γ' [] body mb) :
    FnOk P w K mg base (L2.CX P w) (k + 1) f fd ps (spI K mg j (runI ps.length N.length j mb)) := by
  refine F.ok S (fun vs H Q E h => ?_) (fun cdv A outer s H vs Q E hr h => ?_)
  · obtain ⟨M0, ds, a, dj, tk, na, hlv, e1, e2, ow, ot, q⟩ := h
    by_cases hl : ds.length = ps.length
    · rw [hlv, hl]
    · unfold runI at q
      rw [if_neg hl] at q; exact q.elim
  · obtain ⟨M0, ds, a, dj, tk, na, hlv, e1, e2, ow, ot, q⟩ := h
    refine ⟨_, hb cdv A outer s H E (cs_of hr), ?_⟩
    by_cases hl : ds.length = ps.length
    · unfold runI at q
      rw [if_pos hl] at q
      have u1 : ∀ b, un M0 ([] ++ [(j, a)]) b → (M0.add a) b := fun b z => z.elim .inl fun ⟨i, z⟩ => .inr (by
        have := List.mem_singleton.mp z
        exact congrArg Prod.snd this)
      have u2 : ∀ b, (M0.add a) b → un M0 ([] ++ [(j, a)]) b := fun b z => z.elim .inl fun e => .inr ⟨j, by rw [e]; exact List.mem_singleton.mpr rfl⟩
      have c1 : ∀ H, Carry K H H (M0.add a) (un M0 ([] ++ [(j, a)])) := fun H => Carry.weak u1
      have c2 : ∀ H, Carry K H H (un M0 ([] ++ [(j, a)])) (M0.add a) := fun H => Carry.weak u2
      have hjd : j < ds.length := by rw [hl]; exact hj
      have ta : ∃ o, H a = some o := ow.there
      have gs : ∀ (i : Nat) (d : D), (startE ps.length N.length ds)[i]? = some (some d) → ds[i]? = some d := fun i d e => by
        unfold startE at e
        by_cases hi : i < ds.length
        · rw [List.getElem?_append_left (by rw [List.length_map]; exact hi), List.getElem?_map] at e
          cases q : ds[i]? with
          | none => rw [q] at e; cases e
          | some d' => rw [q] at e; cases e; rfl
        · rw [List.getElem?_append_right (by rw [List.length_map]; omega), List.getElem?_replicate] at e
          split at e <;> cases e
      have gv : ∀ (i : Nat) (v : V), vs[i]? = some v → (L2.start N vs)[i]? = some (some v) := fun i v e => by
        unfold L2.start
        rw [List.getElem?_append_left (by rw [List.length_map]; exact (List.getElem?_eq_some_iff.mp e).1), List.getElem?_map, e]; rfl
      have ft : Fit K (un M0 ([] ++ [(j, a)])) ([] ++ [(j, a)]) (L2.start N vs) H (startE ps.length N.length ds) := by
        refine ⟨?_, fun b mb => (u1 b mb).elim (tk b) fun e => by rw [e]; exact ta, fun p hp => .inr (As.has_of hp), by simp, fun p hp => ?_, fun i d e ni => ?_⟩
        · unfold L2.start startE
          simp [hlv, hl]
        · have hp := List.mem_singleton.mp hp
          subst hp
          refine ⟨gv _ _ e1, dj, ?_, ow.carry (c1 H) fun _ e => e⟩
          unfold startE
          rw [List.getElem?_append_left (by rw [List.length_map]; exact hjd), List.getElem?_map, e2]; rfl
        · have ne : i ≠ j := fun e => ni a (by rw [e]; exact List.mem_singleton.mpr rfl)
          obtain ⟨v, ev, rv⟩ := ot i d ne (gs i d e)
          exact ⟨v, gv _ _ ev, Rp.carry (c1 H) rv⟩
      refine ⟨M0, [], [(j, a)], _, rfl, rfl, fun p hp => by rw [List.mem_singleton.mp hp]; exact na, ft, ?_⟩
      have fin : ∀ {H'}, Fra (As.has ([] ++ [(j, a)])) H H' → Fra (fun b => b = a) H H' := fun g => g.mono fun b ⟨i, z⟩ => congrArg Prod.snd (List.mem_singleton.mp z)
      have cu : ∀ H', Carry K H' H' (un M0 [(j, a)]) (M0.add a) := fun H' => c2 H'
      cases hm : mb (startE ps.length N.length ds) with
      | exc c => rw [hm] at q; exact q.elim
      | no => rw [hm] at q; exact q.elim
      | ok z =>
        rw [hm] at q
        obtain ⟨fl, ρ'⟩ := z
        cases fl with
        | nx =>
          intro σ' H' B' eB s' f'
          have q : ((R.opt (getv ρ' j)).bind fun x => R.ok (PyData.none, x)).nox.post (fun z => ∀ v H', Fra (fun b => b = a) H H' → Rp K H' (M0.add a) v z.1 → OwnAt K H' (M0.add a) a z.2 → Q v H') (fun _ => False) := q
          obtain ⟨o1, d, o2, o3⟩ := f'.own (j, a) (List.mem_append_right _ (List.mem_singleton.mpr rfl))
          have eg : getv ρ' j = some d := by
            unfold getv
            rw [o2]
          rw [eg] at q
          have c3 : Carry K H' H' (un M0 (B' ++ [(j, a)])) (M0.add a) := Carry.weak fun b z => z.elim .inl fun e => .inr ⟨j, by rw [e]; exact List.mem_append_right _ (List.mem_singleton.mpr rfl)⟩
          exact q .non H' (fin s'.fra) .non (o3.carry c3 fun _ e => e)
        | rt d =>
          intro v H' g rp ow'
          have q : ((R.opt (getv ρ' j)).bind fun x => R.ok (d, x)).nox.post (fun z => ∀ v H', Fra (fun b => b = a) H H' → Rp K H' (M0.add a) v z.1 → OwnAt K H' (M0.add a) a z.2 → Q v H') (fun _ => False) := q
          obtain ⟨d2, o2, o3⟩ := ow' (j, a) (List.mem_singleton.mpr rfl)
          have eg : getv ρ' j = some d2 := by
            unfold getv
            rw [o2]
          rw [eg] at q
          exact q v H' (fin g) (Rp.carry (cu H') rp) (o3.carry (cu H') fun _ e => e)
        | bk => exact q.elim
        | ct => exact q.elim
    · unfold runI at q
      rw [if_neg hl] at q; exact q.elim
end
end Dt

set_option Elab.async false
set_option linter.all false
set_option maxRecDepth 100000
set_option autoImplicit false
/-! sorted(xs), sorted(xs, key=f). -/
namespace Dt
open PySem PySem.Spec PyProof.Rows L2 R
open PySem.W (alike AllAlike Sortable dataLe EachIs)

def isTup1 : D → Bool
  | .tuple (_ :: _) => true
  | _ => false
def noTupN : D → Bool
  | .none => false
  | .tuple _ => false
  | _ => true
def keysOk (kz : List D) : Bool := (kz.all fun d => kz.all fun e => alike d e) && (kz.all isTup1 || kz.all noTupN) && kz.all (fun d => d.plain && decide (d.depth ≤ 60))
theorem keysOk_of {kz : List D} (h : keysOk kz = true) : AllAlike kz ∧ Sortable kz ∧ ∀ d ∈ kz, d.plain = true ∧ d.depth ≤ 60 := by
  have h1 := Bool.and_eq_true_iff.mp h
  have h2 := Bool.and_eq_true_iff.mp h1.1
  refine ⟨fun d hd e he => List.all_eq_true.mp (List.all_eq_true.mp h2.1 d hd) e he, ?_, fun d hd => ?_⟩
  · rcases Bool.or_eq_true_iff.mp h2.2 with z | z
    · refine .inl fun d hd => ?_
      have := List.all_eq_true.mp z d hd
      unfold isTup1 at this
      split at this
      · exact ⟨_, _, rfl⟩
      · cases this
    · refine .inr fun d hd => ?_
      have := List.all_eq_true.mp z d hd
      unfold noTupN at this
      split at this
      · cases this
      · cases this
      · rename_i a b; exact ⟨a, b⟩
  · have := Bool.and_eq_true_iff.mp (List.all_eq_true.mp h1.2 d hd)
    exact ⟨this.1, of_decide_eq_true this.2⟩
def sortK (ds kz : List D) : List D := ((ds.zip kz).mergeSort (dataLe false (·.2))).map (·.1)
theorem sort3 {xs : List V} {ds kz : List D} (h1 : xs.length = ds.length) (h2 : ds.length = kz.length) :
    ((xs.zip (ds.zip kz)).mergeSort (dataLe false fun b : V × D × D => b.2.2)).map (fun b => b.2.1) = sortK ds kz := by
  have e : ((xs.zip (ds.zip kz)).mergeSort (dataLe false fun b : V × D × D => b.2.2)).map (fun b => b.2) = (((xs.zip (ds.zip kz)).map (fun b => b.2)).mergeSort (dataLe false fun q : D × D => q.2)) :=
    PySem.W.sort_maps (fun b : V × D × D => b.2) fun a _ b _ => rfl
  have e2 : (xs.zip (ds.zip kz)).map (fun b => b.2) = ds.zip kz := List.map_snd_zip (by rw [List.length_zip, ← h2, Nat.min_self]; omega)
  rw [e2] at e
  unfold sortK
  rw [← e, List.map_map]; rfl

/-- an untracked list and a key store, the rest of the state -/
abbrev Cx.srt (X : Cx) : Cx := { X with A := X.A.in1.in1, xe := fun _ _ => False }
theorem Inv.srt {X : Cx} {pins : List (Addr × Obj)} {σ : St} {H : Hp} {s : Shared} (I : Inv X pins σ H s) : Inv (Cx.srt X) pins σ H s :=
  ⟨⟨I.ok.mod, I.ok.kind, I.ok.glob, I.ok.blt, I.ok.above, I.ok.inj, I.ok.has, I.ok.cab, I.ok.hd, I.ok.frames, I.ok.stk, I.ok.exf, I.ok.bs, I.ok.bsz, I.ok.noex, I.ok.exfs, I.ok.funs, I.ok.frf⟩, I.os, I.bare, I.base, I.loc, I.cell, I.free, I.freeC, I.pin, I.hok, I.len⟩
theorem Inv.unsrt {X : Cx} {pins : List (Addr × Obj)} {σ : St} {H : Hp} {s : Shared} (ok : X.Ok) (I : Inv (Cx.srt X) pins σ H s) : Inv X pins σ H s :=
  ⟨ok, I.os, I.bare, I.base, I.loc, I.cell, I.free, I.freeC, I.pin, I.hok, I.len⟩
/-- one more pin -/
theorem Inv.pinMore {X : Cx} {pins pl : List (Addr × Obj)} {σ : St} {H : Hp} {s : Shared} (I : Inv X pins σ H s) (h : ∀ p ∈ pl, s.heap.get? p.1 = some p.2 ∧ H p.1 = none ∧ p.1 ≠ X.env.locals ∧ p.1 ∉ X.fs ∧ ∀ v, p.2.data ≠ .cell v) : Inv X (pins ++ pl) σ H s :=
  I.pins_of fun p hp => (List.mem_append.mp hp).elim (fun z => I.pin p (List.mem_append_right _ z)) (h p)
theorem Inv.pinLess {X : Cx} {pins pl : List (Addr × Obj)} {σ : St} {H : Hp} {s : Shared} (I : Inv X (pins ++ pl) σ H s) : Inv X pins σ H s := I.unpinned

section
variable {X : Cx} {pins : List (Addr × Obj)} {σ : St} {H : Hp} {s : Shared} {f : Addr} {fd : FuncData} {ps : List Str} {kf : Nat} {M : Av}
/-- the objects at work: the list that is sorted, empty meanwhile, the store of the keys -/
abbrev lo (xs : List Value) (n : Nat) : Obj := PyProof.Rows.seqObj "list" xs.toArray n
structure Work (X : Cx) (pins : List (Addr × Obj)) (σ : St) (H : Hp) (M : Av) (a kS : Addr) (e1 : Nat) (kz : List D) (s' : Shared) : Prop where
  ex : ∃ (H' : Hp) (us : List Value) (ws : List V) (e : Nat), Inv (Cx.srt X) (pins ++ [(a, lo [] e1), (kS, lo us e)]) σ H' s' ∧ Same H H' ∧ Vals ws us ∧ RpAll X.K H' M ws kz
/-- an address that is the sort's own -/
structure Apart (X : Cx) (pins : List (Addr × Obj)) (b : Addr) : Prop where
  big : b ∈ X.ex ∨ X.s_0.heap.objs.size ≤ b
  loc : b ≠ X.env.locals
  cel : ∀ x c, X.env.cells.lookup x = some c → c ≠ b
  pn : ∀ p ∈ X.pn ++ pins, p.1 ≠ b
  nf : b ∉ X.fs
theorem FpOk.apart {b : Addr} (h : FpOk X pins H b) : Apart X pins b := ⟨h.2.2.2.1, h.2.1, h.2.2.2.2.1, h.2.2.2.2.2, h.2.2.1⟩
theorem work_turn {fn : List D → R D} (F : FnOk X.prog X.w X.K X.mg X.base (L2.CX X.prog X.w) kf f fd ps (spP X.K X.mg fn)) (hr : Room (kf + 2) X.A) (hb : Binds X.K fd ps []) {a kS : Addr} {e1 : Nat} {kz : List D} {s' : Shared} {v : V} {u : Value} {d k : D}
    (tk : Trk M H) (W : Work X pins σ H M a kS e1 kz s') (hka : kS ≠ a) (ap : Apart X pins kS) (ru : RelV v u) (rd : Rp X.K H M v d) (hk : fn [d] = .ok k) (hsz : kz.length < sizeLine) {Q : PUnit → Shared → Prop} {E : Value → Shared → Prop}
    (q : ∀ s'', Work X pins σ H M a kS e1 (kz ++ [k]) s'' → Q ⟨⟩ s'') :
    wpAny (model X.prog X.w) X.A.in1.in1 (call (.ref f) [u]) (fun w s1 => wpAny (model X.prog X.w) X.A.in1.in1 (Builtin.List.listUpdate (.ref kS) (·.push w)) Q E s1) (fun _ _ => False) s' := by
  obtain ⟨H', us, ws, e, I, sm, vu, rk⟩ := W.ex
  have hr' : Room kf (Cx.srt X).A := (Room.in1 (k := kf) (Room.in1 (k := kf + 1) hr))
  have tk' : Trk M H' := tk.same sm
  refine thn (run_fn (X := Cx.srt X) (E := E0) (dvs := []) (ds := []) (Q := fun w H2 => Same H' H2 ∧ Rp X.K H2 M w k) F hr' hb .nil passL I (.cons ru .nil) ?_) fun w s1 h => ?_
  · show spP X.K X.mg fn ([v] ++ []) H' _ _
    refine ⟨M, [d], tk', .one (Rp.carry (Carry.same sm) rd), ?_⟩
    rw [hk]
    exact fun w H2 s2 rp => ⟨s2, rp⟩
  · obtain ⟨w', H2, I2, rw', s2, rp⟩ := h
    obtain ⟨g1, g2, g3, g4, g5⟩ := I2.pin (kS, lo us e) (List.mem_append_right _ (List.mem_append_right _ (List.mem_cons_of_mem _ List.mem_cons_self)))
    have hlu : us.length = kz.length := by rw [← vu.length, rk.length]
    refine PyProof.Rows.listUpdate_at (xs := us.toArray) (n := e) g1 rfl (q _ ?_) (by rw [List.size_toArray]; omega) (by simp only [Array.size_push, List.size_toArray]; omega)
    have sb := Heap.SameBut.update s1.heap kS (Obj.mapSeq (·.push w))
    have ek := get?_update_seq (c := "list") g1 (·.push w)
    have I3 : Inv (Cx.srt X) (pins ++ [(a, lo [] e1)]) σ H2 s1 := Inv.unpinned (pl := [(kS, lo us e)]) (by rw [List.append_assoc]; exact I2)
    have I4 := I3.turned (it := kS) (t' := s1.toks) (h' := s1.heap.update kS (Obj.mapSeq (·.push w))) (fun b o hb e => (sb.2 b hb).trans e) g2 ap.loc ap.big ap.cel (fun p hp => by
      rw [← List.append_assoc] at hp
      rcases List.mem_append.mp hp with z | z
      · exact ap.pn p z
      · rw [List.mem_singleton.mp z]; exact hka.symm)
    have ep : us.toArray.push w = (us ++ [w]).toArray := by simp
    have e3 : (s1.heap.update kS (Obj.mapSeq (·.push w))).get? kS = some (lo (us ++ [w]) (if (us.toArray.push w).size == us.toArray.size then e else e + 1)) := by
      rw [ek]
      show some (PyProof.Rows.seqObj "list" (us.toArray.push w) _) = _
      rw [ep]
    refine ⟨⟨H2, us ++ [w], ws ++ [w'], (if (us.toArray.push w).size == us.toArray.size then e else e + 1), ?_, sm.trans s2, vu.append (.cons rw' .nil), (RpAll.carry (Carry.same s2) rk).append (.one rp)⟩⟩
    have I5 := Inv.pinMore (pl := [(kS, lo (us ++ [w]) (if (us.toArray.push w).size == us.toArray.size then e else e + 1))]) I4 fun p hp => by
      rw [List.mem_singleton.mp hp]
      exact ⟨e3, g2, g3, g4, fun v z => by cases z⟩
    rw [List.append_assoc] at I5
    exact I5
/-- the keys are made, the sort, its end -/
theorem work_rest {fn : List D → R D} (F : FnOk X.prog X.w X.K X.mg X.base (L2.CX X.prog X.w) kf f fd ps (spP X.K X.mg fn)) (hr : Room (kf + 2) X.A) (hb : Binds X.K fd ps []) {a kS : Addr} {e1 : Nat} {s' : Shared} {xs : List V} {us : List Value} {ds kz : List D}
    (ok : X.Ok) (tk : Trk M H) (W : Work X pins σ H M a kS e1 [] s') (hka : kS ≠ a) (ap : Apart X pins kS) (aa : Apart X pins a) (rv : Vals xs us) (rd : RpAll X.K H M xs ds) (hl : xs.length ≤ sizeLine)
    (hk : ds.length = kz.length ∧ ∀ (i : Nat) (d k : D), ds[i]? = some d → kz[i]? = some k → fn [d] = .ok k) (ko : keysOk kz = true) {P : PySem.Fin → Shared → Prop} {E : Value → Shared → Prop}
    (q : ∀ (s'' : Shared) (H' : Hp) (ys : List V), Inv X pins σ (upd H' a (.lst ys)) s'' → Same H H' → H' a = none → RpAll X.K H' M ys (sortK ds kz) → P (.done (.ret .none)) s'') :
    wpAny (model X.prog X.w) X.A.in1.in1 (ksk_rest a (.ref f) false us.toArray e1 (.ref kS)) P E s' := by
  obtain ⟨al, so, pl⟩ := keysOk_of ko
  have hlen : us.length = kz.length := by rw [← rv.length, rd.length, hk.1]
  unfold ksk_rest
  refine wpAny_bind (wpAny_rule ?_)
  first
    | rw [List.forIn_toArray]
    | (rw [← Array.forIn_toList]; simp only [List.toList_toArray])
  refine wpAny_bind (ksk_fold (fun i s1 => Work X pins σ H M a kS e1 (kz.take i) s1) us 0 s' (by rw [List.take_zero]; exact W) (fun j u s1 hu W1 => ?_) fun s1 W1 => ?_)
  · rw [Nat.zero_add] at W1 ⊢
    have hj : j < us.length := (List.getElem?_eq_some_iff.mp hu).1
    obtain ⟨k, hkj⟩ : ∃ k, kz[j]? = some k := ⟨_, List.getElem?_eq_getElem (by omega)⟩
    obtain ⟨d, hd⟩ : ∃ d, ds[j]? = some d := ⟨_, List.getElem?_eq_getElem (by rw [hk.1]; omega)⟩
    obtain ⟨v, hv, rvd⟩ := rd.get hd
    have ruv : RelV v u := by
      obtain ⟨u', e', r'⟩ := rv.get hv
      rw [hu] at e'
      cases e'
      exact r'
    refine wpAny_bind (wpAny_attempt (wpAny_mono (work_turn F hr hb tk W1 hka ap ruv rvd (hk.2 j d k hd hkj) (by rw [List.length_take]; have := rv.length; omega) (Q := fun _ s2 => Work X pins σ H M a kS e1 (kz.take (j + 1)) s2) (E := E) (fun s2 W2 => ?_)) (fun w s2 h2 => ?_) fun _ _ hF => hF.elim))
    · rw [List.take_add_one, hkj]; exact W2
    · exact wpAny_bind (wpAny_mono h2 (fun _ s3 W3 => wpAny_pure ⟨rfl, W3⟩) fun _ _ e => e)
  · have et : kz.take (0 + us.length) = kz := List.take_of_length_le (by omega)
    rw [et] at W1
    obtain ⟨H', ks, ws, e, I, sm, vu, rk⟩ := W1.ex
    obtain ⟨g1, g2, g3, g4, g5⟩ := I.pin (kS, lo ks e) (List.mem_append_right _ (List.mem_append_right _ (List.mem_cons_of_mem _ List.mem_cons_self)))
    obtain ⟨a1, a2, a3, a4, a5⟩ := I.pin (a, lo [] e1) (List.mem_append_right _ (List.mem_append_right _ List.mem_cons_self))
    refine wpAny_bind (PyProof.Rows.listItems_at g1 rfl ?_)
    have rds : EachIs (fun v k => ∃ as, Reads s1.heap v k as) ks kz := by
      have go : ∀ (ws : List V) (ks : List Value) (kz : List D), Vals ws ks → RpAll X.K H' M ws kz → (∀ d ∈ kz, d.plain = true) → EachIs (fun v k => ∃ as, Reads s1.heap v k as) ks kz := by
        intro ws
        induction ws with
        | nil => intro ks kz h1 h2 _; cases h1; cases h2; exact .nil
        | cons w ws ih =>
          intro ks kz h1 h2 h3
          cases h1 with
          | cons r1 r2 =>
            cases h2 with
            | cons p1 p2 => exact .cons (Dp.reads I _ _ _ (p1.dp (h3 _ List.mem_cons_self)) r1) (ih _ _ r2 p2 fun d hd => h3 d (List.mem_cons_of_mem _ hd))
      exact go ws ks kz vu rk fun d hd => (pl d hd).1
    obtain ⟨G, G1, G2⟩ := restrict s1.heap fun b => decide (b ≠ kS)
    have hu : ∀ d, d ∈ kz → X.A.in1.in1.units + d.depth < cLine := fun d hd => by
      have h1 := (pl d hd).2
      have h2 := hr.un
      show X.A.units + 1 + 1 + d.depth < cLine
      omega
    have hks : ks.length = us.length := by rw [← vu.length, rk.length]; omega
    refine PySem.W.keyH_end (κ := PySem.W.dataKind s1.heap kz) (h₁ := G) (keys := ks.toArray) (vs := us) (b := false) (fun b o hb e => ?_) (G2 kS (by simp)) g1 a1 hka (PySem.W.SortsAt.data (s := s1) (by simpa using rds) al so hu) (by simpa using hks) (by rw [← rv.length]; exact hl) fun h3 tk3 c k3 n3 => ?_
    · by_cases hbk : b = kS
      · rw [hbk, G2 kS (by simp)] at e; cases e
      · rw [G1 b (by simpa using hbk)] at e; exact e
    · -- the values in their new order
      have vals3 : EachIs (fun (u : Value) (b : V × D × D) => RelV b.1 u ∧ Rp X.K H' M b.1 b.2.1) us (xs.zip (ds.zip kz)) := by
        have go : ∀ (us : List Value) (xs : List V) (ds kz : List D), Vals xs us → RpAll X.K H' M xs ds → ds.length = kz.length → EachIs (fun (u : Value) (b : V × D × D) => RelV b.1 u ∧ Rp X.K H' M b.1 b.2.1) us (xs.zip (ds.zip kz)) := by
          intro us
          induction us with
          | nil => intro xs ds kz h1 h2 _; cases h1; exact .nil
          | cons u us ih =>
            intro xs ds kz h1 h2 h3
            cases h1 with
            | cons r1 r2 =>
              cases h2 with
              | cons p1 p2 =>
                cases kz with
                | nil => simp at h3
                | cons k kz => exact .cons ⟨r1, p1⟩ (ih _ _ _ r2 p2 (by simpa using h3))
        exact go us xs ds kz rv (RpAll.carry (Carry.same sm) rd) hk.1
      have ez : (xs.zip (ds.zip kz)).map (fun b => b.2.2) = kz := by
        have e1 : (xs.zip (ds.zip kz)).map (fun b => b.2) = ds.zip kz := List.map_snd_zip (by rw [List.length_zip, ← hk.1, Nat.min_self, rd.length]; omega)
        have e2 : (ds.zip kz).map (fun b => b.2) = kz := List.map_snd_zip (by rw [hk.1]; omega)
        rw [← e1, List.map_map] at e2
        exact e2
      have ko2 : PySem.W.KeyedOut false ((xs.zip (ds.zip kz)).map fun b => b.2.2) us (PySem.W.sortVals (PySem.W.dataKind s1.heap kz) false ks us) := by
        rw [ez]
        exact ⟨s1.heap, ks, al, rfl, rds⟩
      have out := PySem.W.keyedOut_each (fun b : V × D × D => b.2.2) ko2 vals3
      have fin : ∀ (us : List Value) (bs : List (V × D × D)), EachIs (fun (u : Value) (b : V × D × D) => RelV b.1 u ∧ Rp X.K H' M b.1 b.2.1) us bs → Vals (bs.map (·.1)) us ∧ RpAll X.K H' M (bs.map (·.1)) (bs.map fun b => b.2.1) := by
        intro us
        induction us with
        | nil => intro bs h; cases h; exact ⟨.nil, .nil⟩
        | cons u us ih =>
          intro bs h
          cases h with
          | cons h1 h2 => exact ⟨.cons h1.1 (ih _ h2).1, .cons h1.2 (ih _ h2).2⟩
      obtain ⟨fv, fr⟩ := fin _ _ out
      rw [sort3 (by rw [rd.length]) hk.1] at fr
      have n3' : h3.get? a = some (lo (PySem.W.sortVals (PySem.W.dataKind s1.heap kz) false ks us) c) := by
        have : ks.toArray.toList = ks := by simp
        rw [this] at n3
        exact n3
      have hyl : ((List.mergeSort (xs.zip (ds.zip kz)) (dataLe false fun b : V × D × D => b.2.2)).map (·.1)).length ≤ sizeLine := by
        rw [List.length_map, List.length_mergeSort, List.length_zip]
        omega
      refine q _ H' _ ?_ sm a2 fr
      have I3 : Inv X pins σ H' s1 := Inv.unsrt ok (Inv.unpinned I)
      have kk : ∀ b o, b ≠ a → b ≠ kS → s1.heap.get? b = some o → h3.get? b = some o := fun b o h1 h2 e => k3 b o h1 (by rw [G1 b (by simpa using h2)]; exact e)
      have nt : ∀ b u, H' b = some u → b ≠ a ∧ b ≠ kS := fun b u e => ⟨fun z => (by rw [z, a2] at e; cases e), fun z => (by rw [z, g2] at e; cases e)⟩
      refine I3.step (g' := s1.gens) (d' := s1.drawn) (ch := [kS, a]) (fun b hb => ?_) (fun b o _ _ hc e _ => kk b o (fun z => hc (by simp [z])) (fun z => hc (by simp [z])) e) (fun b o _ _ hc e _ => ⟨o.slots, kk b o (fun z => hc (by simp [z])) (fun z => hc (by simp [z])) e⟩)
        (fun b o hc e n => by rw [upd_ne (fun z => hc (by simp [z]))]; exact n) (fun b o hc e => ⟨o, kk b o (fun z => hc (by simp [z])) (fun z => hc (by simp [z])) e⟩) (fun b zs e => by rw [upd_ne (nt b _ e).1]; exact e) (fun b o u e => by rw [upd_ne (nt b _ e).1]; exact e)
        (fun b zs e => ⟨#[], by rw [upd_ne (nt b _ e).1, e]; simp⟩) (fun m hm => ?_) (fun b u e => ?_) I3.bare
      · rcases List.mem_cons.mp hb with z | z
        · rw [z]; exact ⟨ap.big, ap.loc, ap.cel, ap.pn⟩
        · rw [List.mem_singleton.mp z]; exact ⟨aa.big, aa.loc, aa.cel, aa.pn⟩
      · obtain ⟨o, es, ep, ho, r⟩ := hm
        exact ⟨o, es, ep, kk _ o (Ne.symm aa.loc) (Ne.symm ap.loc) ho, r⟩
      · by_cases hb : b = a
        · subst hb
          rw [upd_same] at e
          cases e
          exact ⟨hyl, _, c, fv, n3'⟩
        · rw [upd_ne hb] at e
          refine (I3.hok b u e).stay (fun x v hx z => ?_) (fun x z => by rw [upd_ne (nt x _ z).1]; exact z) fun x zs z => by rw [upd_ne (nt x _ z).1]; exact z
          have hx2 : x ≠ a ∧ x ≠ kS := by
            rcases hx with rfl | hx
            · exact nt x _ e
            · exact nt x _ hx
          exact kk x v hx2.1 hx2.2 z

/-- sorted(xs, key=f), from the arguments on -/
theorem sorted_key_run {fn : List D → R D} (F : FnOk X.prog X.w X.K X.mg X.base (L2.CX X.prog X.w) kf f fd ps (spP X.K X.mg fn)) (hr : Room (kf + 2) X.A) (hb : Binds X.K fd ps []) {T : String} {a0 : Addr} {o : Obj} {n : Nat} {s' : Shared} {xs : List V} {us : List Value} {ds kz : List D}
    (hT : T = "list" ∨ T = "tuple") (ho : s'.heap.get? a0 = some o) (hc : o.cls = .type T) (hd : o.data = .seq us.toArray n) (I : Inv X pins σ H s') (tk : Trk M H) (rv : Vals xs us) (rd : RpAll X.K H M xs ds) (hl : xs.length ≤ sizeLine)
    (hk : ds.length = kz.length ∧ ∀ (i : Nat) (d k : D), ds[i]? = some d → kz[i]? = some k → fn [d] = .ok k) (ko : keysOk kz = true) {Q : VK}
    (q : ∀ (p : Addr) (ys : List V) (H' : Hp), Same H H' → H' p = none → RpAll X.K H' M ys (sortK ds kz) → Q (.ref p) (upd H' p (.lst ys))) :
    wpAny (model X.prog X.w) X.A (call (.builtin "sorted") [.ref a0] [(Str.ofString "key", .ref f)]) (EP X pins σ Q) X.xe s' := by
  have hz : us.length ≤ sizeLine := by rw [← rv.length]; exact hl
  refine call_function_entry_kw kind_sorted plain_sorted entry_sorted (ksk_s1 _ _) ?_
  unfold Builtin.«sorted»
  refine wpAny_bind (m := checkCount "sorted" 1 1 _) (wpAny_pure ?_)
  refine wpAny_bind (wpAny_collect_seq a0 hT ho hc hd (fun h1 k1 => ?_) (by rw [List.size_toArray]; exact hz))
  have et : us.toArray.toList = us := by simp
  rw [et]
  refine wpAny_bind (wpAny_newList ?_ hz)
  refine wpAny_bind (wpAny_holding (wpAny_call_entry_kw slot_list_sort ⟨_, Heap.get?_push_size _ rfl, rfl⟩ entry_list_sort ?body (ksk_l1 _ _)))
  case body =>
    show wpAny (model X.prog X.w) X.A.in1.in1 (Builtin.«list.sort» ⟨[.ref h1.objs.size], _⟩) _ _ _
    rw [ksk_t1]
    have I0 : Inv X pins σ H { s' with heap := h1 } := I.kept (t' := s'.toks) k1
    have ho1 : (h1.push (PyProof.Rows.seqObj "list" us.toArray 0)).get? h1.objs.size = some (PyProof.Rows.seqObj "list" us.toArray 0) := Heap.get?_push_size _ rfl
    obtain ⟨e1, ho2⟩ : ∃ e1, ((h1.push (PyProof.Rows.seqObj "list" us.toArray 0)).update h1.objs.size (Obj.mapSeq fun _ => (#[] : Array Value))).get? h1.objs.size = some (lo [] e1) := ⟨_, get?_update_seq ho1 fun _ => #[]⟩
    have hkS : (((h1.push (PyProof.Rows.seqObj "list" us.toArray 0)).update h1.objs.size (Obj.mapSeq fun _ => (#[] : Array Value))).push (PyProof.Rows.seqObj "tuple" us.toArray 0)).objs.size = h1.objs.size + 2 := by rw [size_push', Heap.size_update, size_push']
    unfold ksk_tree
    refine wpAny_bind (listItems_at ho1 rfl ?_)
    refine wpAny_bind (PyProof.Rows.listUpdate_at ho1 rfl ?_ (by rw [List.size_toArray]; exact hz) (Nat.zero_le _))
    refine wpAny_bind (PyProof.Rows.seqEpoch_at ho2 rfl ?_)
    refine wpAny_bind (wpAny_newTuple ?_ (by show us.length ≤ _; exact hz))
    refine wpAny_bind (wpAny_newList ?_ (Nat.zero_le _))
    refine wpAny_holding ?_
    rw [hkS]
    have sb := Heap.SameBut.update (h1.push (PyProof.Rows.seqObj "list" us.toArray 0)) h1.objs.size (Obj.mapSeq fun _ => (#[] : Array Value))
    have kk : ∀ b o', h1.get? b = some o' → ((((h1.push (PyProof.Rows.seqObj "list" us.toArray 0)).update h1.objs.size (Obj.mapSeq fun _ => (#[] : Array Value))).push (PyProof.Rows.seqObj "tuple" us.toArray 0)).push (PyProof.Rows.seqObj "list" #[] 0)).get? b = some o' := fun b o' e =>
      Heap.get?_push_of_some _ (Heap.get?_push_of_some _ ((sb.2 b (Nat.ne_of_lt (Heap.lt_size e))).trans (Heap.get?_push_of_some _ e)))
    have f1 : ∀ b, h1.objs.size ≤ b → FpOk X pins H b := fun b hb => I0.fpOk hb (I0.hok.fresh hb)
    have fa := f1 h1.objs.size (Nat.le_refl _)
    have fk := f1 (h1.objs.size + 2) (by omega)
    have I2 : Inv X pins σ H { s' with heap := ((((h1.push (PyProof.Rows.seqObj "list" us.toArray 0)).update h1.objs.size (Obj.mapSeq fun _ => (#[] : Array Value))).push (PyProof.Rows.seqObj "tuple" us.toArray 0)).push (PyProof.Rows.seqObj "list" #[] 0)) } := I0.kept (t' := s'.toks) kk
    have I3 := Inv.pinMore (pl := [(h1.objs.size, lo [] e1), (h1.objs.size + 2, lo [] 0)]) (Inv.srt I2) fun p hp => by
      rcases List.mem_cons.mp hp with z | z
      · subst z
        exact ⟨Heap.get?_push_of_some _ (Heap.get?_push_of_some _ ho2), fa.1, fa.2.1, fa.2.2.1, fun v z => by cases z⟩
      · obtain rfl := List.mem_singleton.mp z
        exact ⟨by rw [← hkS]; exact Heap.get?_push_size _ rfl, fk.1, fk.2.1, fk.2.2.1, fun v z => by cases z⟩
    refine work_rest (H := H) (a := h1.objs.size) (kS := h1.objs.size + 2) F hr hb I.ok tk ⟨⟨H, [], [], 0, I3, Same.refl _, .nil, .nil⟩⟩ (Nat.ne_of_gt (Nat.lt_add_of_pos_right (by decide))) (FpOk.apart fk) (FpOk.apart fa) rv rd hl hk ko fun s'' H' ys I4 sm hn rp => ?_
    exact ⟨_, rfl, wpAny_pure ⟨_, rfl, ⟨.ref h1.objs.size, _, I4, rfl, q _ _ _ sm hn rp⟩⟩⟩
end
end Dt

set_option Elab.async false
set_option linter.all false
set_option maxRecDepth 100000
set_option autoImplicit false
/-! sorted, as calls. -/
namespace Dt
open PySem PySem.Spec PyProof.Rows L2 R
open PySem.W (alike AllAlike Sortable dataLe EachIs)

def sortP (ds : List D) : List D := ds.mergeSort (dataLe false fun d => d)
section
variable {X : Cx} {pins : List (Addr × Obj)} {σ : St} {H : Hp} {s' : Shared} {M : Av}
theorem eachPair {K : Fg} {h : Heap} : ∀ {xs : List V} {us : List Value} {ds : List D}, Vals xs us → RpAll K H M xs ds → EachIs (fun (u : Value) (b : V × D) => RelV b.1 u ∧ Rp K H M b.1 b.2) us (xs.zip ds)
  | _, _, _, .nil, h2 => by cases h2; exact .nil
  | _, _, _, .cons r1 r2, h2 => by
    cases h2 with
    | cons p1 p2 => exact .cons ⟨r1, p1⟩ (eachPair (h := h) r2 p2)
theorem eachPairOut {K : Fg} : ∀ {us : List Value} {bs : List (V × D)}, EachIs (fun (u : Value) (b : V × D) => RelV b.1 u ∧ Rp K H M b.1 b.2) us bs → Vals (bs.map (·.1)) us ∧ RpAll K H M (bs.map (·.1)) (bs.map (·.2))
  | _, _, .nil => ⟨.nil, .nil⟩
  | _, _, .cons h1 h2 => ⟨.cons h1.1 (eachPairOut h2).1, .cons h1.2 (eachPairOut h2).2⟩
theorem sorted_run2 (hu : X.A.units + 70 < cLine) {T : String} {a0 : Addr} {o : Obj} {n : Nat} {xs : List V} {us : List Value} {ds : List D}
    (hT : T = "list" ∨ T = "tuple") (ho : s'.heap.get? a0 = some o) (hc : o.cls = .type T) (hd : o.data = .seq us.toArray n) (I : Inv X pins σ H s') (tk : Trk M H) (rv : Vals xs us) (rd : RpAll X.K H M xs ds) (hl : xs.length ≤ sizeLine)
    (ko : keysOk ds = true) {Q : VK}
    (q : ∀ (p : Addr) (ys : List V), H p = none → RpAll X.K H M ys (sortP ds) → Q (.ref p) (upd H p (.lst ys))) :
    wpAny (model X.prog X.w) X.A (call (.builtin "sorted") [.ref a0]) (EP X pins σ Q) X.xe s' := by
  obtain ⟨al, so, pl⟩ := keysOk_of ko
  have hz : us.length ≤ sizeLine := by rw [← rv.length]; exact hl
  refine call_function_entry_kw kind_sorted plain_sorted entry_sorted (args_sorted1 _) ?_
  unfold Builtin.«sorted»
  refine wpAny_bind (m := checkCount "sorted" 1 1 _) (wpAny_pure ?_)
  refine wpAny_bind (wpAny_collect_seq a0 hT ho hc hd (fun h1 k1 => ?_) (by rw [List.size_toArray]; exact hz))
  have et : us.toArray.toList = us := by simp
  rw [et]
  refine wpAny_bind (wpAny_newList ?_ hz)
  refine wpAny_bind (wpAny_holding (wpAny_call_entry_kw slot_list_sort ⟨_, Heap.get?_push_size _ rfl, rfl⟩ entry_list_sort ?body (args_list_sort _)))
  case body =>
    show wpAny (model X.prog X.w) X.A.in1.in1 (Builtin.«list.sort» ⟨[.ref h1.objs.size], _⟩) _ _ _
    have I0 : Inv X pins σ H { s' with heap := h1 } := I.kept (t' := s'.toks) k1
    have ho1 : (h1.push (PyProof.Rows.seqObj "list" us.toArray 0)).get? h1.objs.size = some (PyProof.Rows.seqObj "list" us.toArray 0) := Heap.get?_push_size _ rfl
    have hn : H h1.objs.size = none := I0.hok.fresh (Nat.le_refl _)
    have old : ∀ b o', h1.get? b = some o' → (h1.push (PyProof.Rows.seqObj "list" us.toArray 0)).get? b = some o' := fun b o' e => Heap.get?_push_of_some _ e
    have pairs : EachIs (fun (u : Value) (b : V × D) => RelV b.1 u ∧ Rp X.K H M b.1 b.2) us (xs.zip ds) := eachPair (h := h1) rv rd
    have ez : (xs.zip ds).map (fun b => b.2) = ds := List.map_snd_zip (by rw [rd.length]; exact Nat.le_refl _)
    have er : EachIs (fun (v : Value) (b : V × D) => ∃ as, Reads (PySem.W.sortingHeap (h1.push (PyProof.Rows.seqObj "list" us.toArray 0)) h1.objs.size us) v b.2 as) us (xs.zip ds) := by
      have m := PySem.W.each_mem pairs
      refine m.mono fun v b hb => ?_
      have hm : b.2 ∈ ds := by
        have := List.mem_map_of_mem (f := fun b : V × D => b.2) hb.2
        rw [ez] at this; exact this
      obtain ⟨as, r⟩ := Dp.reads I0 _ _ _ (hb.1.2.dp (pl _ hm).1) hb.1.1
      exact ⟨as, PyProof.Rows.Reads.keeps (fun b o e => PySem.W.sortingHeap_old (Nat.ne_of_lt (Heap.lt_size e)) (old b o e)) r⟩
    have al' : AllAlike ((xs.zip ds).map fun b => b.2) := by rw [ez]; exact al
    have hlen : (PySem.W.sortVals (PySem.W.dataKind (PySem.W.sortingHeap (h1.push (PyProof.Rows.seqObj "list" us.toArray 0)) h1.objs.size us) ((xs.zip ds).map fun b => b.2)) false us us).length = us.length := PySem.W.sortVals_length false rfl
    refine PySem.W.list_sort_vals (κ := PySem.W.dataKind (PySem.W.sortingHeap (h1.push (PyProof.Rows.seqObj "list" us.toArray 0)) h1.objs.size us) ((xs.zip ds).map fun b => b.2)) ho1
      (PySem.W.SortsAt.data (s := { s' with heap := PySem.W.sortingHeap (h1.push (PyProof.Rows.seqObj "list" us.toArray 0)) h1.objs.size us }) (PySem.W.each_map (R := fun v d => ∃ as, Reads (PySem.W.sortingHeap (h1.push (PyProof.Rows.seqObj "list" us.toArray 0)) h1.objs.size us) v d as) (fun b : V × D => b.2) er) al' (by rw [ez]; exact so) (by
        rw [ez]; intro d hd
        have h1 := (pl d hd).2
        show X.A.units + 1 + 1 + d.depth < cLine
        omega)) hz ?_
    have out := PySem.W.sortVals_data false pairs er al'
    obtain ⟨fv, fr⟩ := eachPairOut out
    have em : ((xs.zip ds).mergeSort (dataLe false fun b : V × D => b.2)).map (fun b => b.2) = sortP ds := by
      have := PySem.W.sort_maps (s := dataLe false fun d : D => d) (fun b : V × D => b.2) (l := xs.zip ds) (r := dataLe false fun b : V × D => b.2) fun a _ b _ => rfl
      rw [ez] at this
      exact this
    rw [em] at fr
    obtain ⟨ep, he'⟩ := PyProof.Rows.sortedHeap_at (out := (PySem.W.sortVals (PySem.W.dataKind (PySem.W.sortingHeap (h1.push (PyProof.Rows.seqObj "list" us.toArray 0)) h1.objs.size us) ((xs.zip ds).map fun b => b.2)) false us us).toArray) ho1
    refine ⟨_, rfl, wpAny_pure ⟨_, rfl, ⟨.ref h1.objs.size, _, I0.laid (t' := s'.toks) (a := h1.objs.size) (o := .lst (((xs.zip ds).mergeSort (dataLe false fun b : V × D => b.2)).map (·.1))) (fun b o e => ?_) (Nat.le_refl _) ⟨?_, _, ep, fv, he'⟩, rfl, q _ _ hn fr⟩⟩⟩
    · exact (PyProof.Rows.sortedHeap_old (Nat.ne_of_lt (Heap.lt_size e)) (by rw [size_push']; exact Nat.lt_succ_of_lt (Heap.lt_size e))).trans (old b o e)
    · rw [List.length_map, List.length_mergeSort, List.length_zip]
      omega
end
theorem sizeN : sizeLine = 16777216 := sizeLine_eq
/-- what sorted gives -/
def dSorted : GA
  | [.list ds] => if keysOk ds then some (.list (sortP ds)) else none
  | [.tuple ds] => if keysOk ds then some (.list (sortP ds)) else none
  | _ => none
section
variable {X : Cx} {E : XK} {k r : Bool} {Γ : List Nat} {e : Expr} {es : List Expr} {pos p : Pos}
theorem call_dSorted (hu : X.A.units + 110 < cLine) : CallR X (.builtin "sorted") (rC X.K dSorted) := by
  intro pins s σ H vs us Q I rv h
  obtain ⟨M, ds, r, tk, rx, eg, q⟩ := h
  unfold dSorted at eg
  split at eg
  · rename_i ds
    obtain ⟨v, rfl, rd⟩ := rx1 rx
    obtain ⟨a, xs, e1, r1, a1⟩ := rd.list
    subst e1
    obtain rfl := Vals.ref1 rv
    by_cases ko : keysOk ds = true
    · rw [if_pos ko] at eg
      cases eg
      obtain ⟨hl, its, n, rvv, _, ho⟩ := Inv.lstR I r1
      exact sorted_run2 (by omega) (.inl rfl) ho rfl rfl I tk rvv a1 hl ko fun p ys np rp => let ⟨s', rp'⟩ := new_lst tk np rp; q _ _ s' rp'
    · rw [if_neg ko] at eg; cases eg
  · rename_i ds
    obtain ⟨v, rfl, rd⟩ := rx1 rx
    obtain ⟨a, xs, e1, r1, a1⟩ := rd.tuple
    subst e1
    obtain rfl := Vals.ref1 rv
    by_cases ko : keysOk ds = true
    · rw [if_pos ko] at eg
      cases eg
      obtain ⟨its, rvv, ⟨o, ho, hc, n, hd⟩, hl⟩ := I.tuple r1.sq
      exact sorted_run2 (by omega) (.inr rfl) ho hc hd I tk rvv a1 hl ko fun p ys np rp => let ⟨s', rp'⟩ := new_lst tk np rp; q _ _ s' rp'
    · rw [if_neg ko] at eg; cases eg
  · cases eg
theorem de_sorted {m : MA} (hu : X.A.units + 110 < cLine) (hg : Gl X "sorted") (hm : X.mg "sorted" = none) (ha : DA X E k r Γ [e] m) (he : starEach [e] X.env = (false, eval e X.env) :: starEach [] X.env := by rfl) (hpl : (backTo pos (starEach [] X.env)).any (·.1) = false := by rfl) :
    DE X E k false Γ (.Call (.Name "sorted" p) [e] [] pos) (mCall dSorted m) :=
  de_callB (call_dSorted hu) hg hm (by decide +kernel) ha (by decide) (by decide) he hpl
/-- what sorted gives with a key -/
def mapR (fn : List D → R D) : List D → R (List D)
  | [] => .ok []
  | d :: ds => (fn [d]).bind fun x => (mapR fn ds).bind fun xs => .ok (x :: xs)
theorem mapR_ok {fn : List D → R D} : ∀ {ds kz : List D}, mapR fn ds = .ok kz → ds.length = kz.length ∧ ∀ (i : Nat) (d k : D), ds[i]? = some d → kz[i]? = some k → fn [d] = .ok k
  | [], kz, h => by
    cases h
    exact ⟨rfl, fun i d k h => by simp at h⟩
  | d :: ds, kz, h => by
    unfold mapR at h
    cases e1 : fn [d] with
    | ok x =>
      rw [e1] at h
      cases e2 : mapR fn ds with
      | ok xs =>
        rw [e2] at h
        have h' : R.ok (x :: xs) = R.ok kz := h
        cases h'
        obtain ⟨h1, h2⟩ := mapR_ok e2
        refine ⟨by simp [h1], fun i d' k' a b => ?_⟩
        cases i with
        | zero =>
          have a' : some d = some d' := a
          have b' : some x = some k' := b
          cases a'; cases b'
          exact e1
        | succ i => exact h2 i d' k' a b
      | exc c => rw [e2] at h; cases h
      | no => rw [e2] at h; cases h
    | exc c => rw [e1] at h; cases h
    | no => rw [e1] at h; cases h
def dSortK (fn : List D → R D) : List D → R D
  | [.list ds] => (mapR fn ds).nox.bind fun kz => if keysOk kz then .ok (.list (sortK ds kz)) else .no
  | [.tuple ds] => (mapR fn ds).nox.bind fun kz => if keysOk kz then .ok (.list (sortK ds kz)) else .no
  | _ => .no
theorem dSortK_ok {fn : List D → R D} {ds : List D} {Q : D → Prop} (h : ((mapR fn ds).nox.bind fun kz => if keysOk kz then .ok (.list (sortK ds kz)) else .no).post Q fun _ => False) :
    ∃ kz, mapR fn ds = .ok kz ∧ keysOk kz = true ∧ Q (.list (sortK ds kz)) := by
  cases e1 : mapR fn ds with
  | ok kz =>
    rw [e1] at h
    have h' : (if keysOk kz then (.ok (.list (sortK ds kz)) : R D) else .no).post Q fun _ => False := h
    by_cases ko : keysOk kz = true
    · rw [if_pos ko] at h'; exact ⟨kz, rfl, ko, h'⟩
    · rw [if_neg ko] at h'; exact h'.elim
  | exc c => rw [e1] at h; exact h.elim
  | no => rw [e1] at h; exact h.elim
variable {f : Addr} {fd : FuncData} {ps : List Str} {kf : Nat} {fn : List D → R D}
def rSrt (K : Fg) (f : Addr) (fn : List D → R D) : List V → List V → Hp → VK → Prop := fun vs zs H Q => ∃ (M : Av) (ds : List D), Trk M H ∧ RxAll true K H M vs ds ∧ zs = [.ref f] ∧ (dSortK fn ds).post (fun d => ∀ v H', Same H H' → Rp K H' M v d → Q v H') fun _ => False
theorem call_dSortK (F : FnOk X.prog X.w X.K X.mg X.base (L2.CX X.prog X.w) kf f fd ps (spP X.K X.mg fn)) (hr : Room (kf + 2) X.A) (hb : Binds X.K fd ps []) : CallRK X (.builtin "sorted") [Str.ofString "key"] (rSrt X.K f fn) := by
  intro pins s σ H vs zs us ws Q I rv rz h
  obtain ⟨M, ds, tk, rx, rfl, q⟩ := h
  obtain rfl := Vals.ref1 rz
  have fin : ∀ {H' : Hp} {ys : List V} {p : Addr} {es : List D}, Same H H' → H' p = none → RpAll X.K H' M ys es → Same H (upd H' p (.lst ys)) ∧ Rp X.K (upd H' p (.lst ys)) M (.ref p) (.list es) := fun sm np rp =>
    let ⟨s', rp'⟩ := new_lst (tk.same sm) np rp; ⟨sm.trans s', rp'⟩
  unfold dSortK at q
  split at q
  · rename_i ds
    obtain ⟨v, rfl, rd⟩ := rx1 rx
    obtain ⟨a, xs, e1, r1, a1⟩ := rd.list
    subst e1
    obtain rfl := Vals.ref1 rv
    obtain ⟨kz, ek, ko, qq⟩ := dSortK_ok q
    obtain ⟨hl, its, n, rvv, _, ho⟩ := Inv.lstR I r1
    exact sorted_key_run F hr hb (.inl rfl) ho rfl rfl I tk rvv a1 hl (mapR_ok ek) ko fun p ys H' sm np rp => let ⟨s', rp'⟩ := fin sm np rp; qq _ _ s' rp'
  · rename_i ds
    obtain ⟨v, rfl, rd⟩ := rx1 rx
    obtain ⟨a, xs, e1, r1, a1⟩ := rd.tuple
    subst e1
    obtain rfl := Vals.ref1 rv
    obtain ⟨kz, ek, ko, qq⟩ := dSortK_ok q
    obtain ⟨its, rvv, ⟨o, ho, hc, n, hd⟩, hl⟩ := I.tuple r1.sq
    exact sorted_key_run F hr hb (.inr rfl) ho hc hd I tk rvv a1 hl (mapR_ok ek) ko fun p ys H' sm np rp => let ⟨s', rp'⟩ := fin sm np rp; qq _ _ s' rp'
  · exact q.elim
theorem de_sortK {m : MA} {p2 kpos : Pos} {y : Str} (F : FnOk X.prog X.w X.K X.mg X.base (L2.CX X.prog X.w) kf f fd ps (spP X.K X.mg fn)) (hr : Room (kf + 2) X.A) (hb : Binds X.K fd ps []) (hg : Gl X "sorted") (hm : X.mg "sorted" = none) (hgy : Gl X y) (hmy : X.mg y = some (.ref f)) (ha : DA X E k r Γ [e] m)
    (hdb : (y == ("__debug__" : Str)) = false := by decide)
    (he : backTo pos (starEach [e] X.env) = (false, eval e X.env) :: backTo pos (starEach [] X.env) := by rfl) (hpl : (backTo pos (starEach [e] X.env)).any (·.1) = false := by rfl)
    (hall : (backToKw pos (keywordEach [⟨some (Str.ofString "key"), .Name y p2, kpos⟩] X.env)).all (·.1.isSome) = true := by rfl) (hnone : (backToKw pos (keywordEach [⟨some (Str.ofString "key"), .Name y p2, kpos⟩] X.env)).any (·.1.isNone) = false := by rfl) (hks : (backToKw pos (keywordEach [⟨some (Str.ofString "key"), .Name y p2, kpos⟩] X.env)).filterMap (·.1) = [Str.ofString "key"] := by rfl) :
    DE X E k false Γ (.Call (.Name "sorted" p) [e] [⟨some (Str.ofString "key"), .Name y p2, kpos⟩] pos) (mCallF (fun ds => (dSortK fn ds).nox) m) :=
  PE.imp (pe_callBK (call_dSortK F hr hb) hg hm (by decide +kernel) ha (pk_cons (pe_glob hgy hmy (show RelV (V.ref f) (Value.ref f) from rfl) hdb) pk_nil) (by decide) (by decide) he hpl hall hnone hks) fun σ H Q ⟨M, A, ρ, hΓ, fi, h⟩ => by
    refine ⟨M, A, ρ, hΓ, fi, pimp (post_bind h) (fun z hz vs H1 f1 g1 e1 r1 => ?_) (fun c hc => hc)⟩
    refine ⟨M, z.1, f1.trk, r1.ts, rfl, ?_⟩
    have hz2 := post_bind hz
    revert hz2
    show (dSortK fn z.1).nox.post _ _ → _
    generalize dSortK fn z.1 = q
    intro hz2
    cases q with
    | ok d => exact fun v H' s' rp => hz2 v H' (f1.same s') (g1.trans (Fra.of_eff s')) e1 rp
    | exc c => exact hz2.elim
    | no => exact hz2.elim
end
end Dt

set_option Elab.async false
set_option linter.all false
set_option maxRecDepth 100000
set_option autoImplicit false
/-! Dicts whose keys are numbers and texts. -/
namespace Dt
open PySem PySem.Spec PyProof.Rows L2 R

def flatK (es : List (D × D)) : Bool := es.all fun e => (keyOf e.1).isSome
def dput (es : List (D × D)) (k : Key) (d : D) : List (D × D) :=
  if (es.any fun e => decide (keyOf e.1 = some k)) = true then es.map (fun e => if keyOf e.1 = some k then (e.1, d) else e) else es ++ [(kD k, d)]
def dmerge (es more : List (D × D)) : List (D × D) := more.foldl (fun acc e => match keyOf e.1 with | some k => dput acc k e.2 | none => acc) es
section
variable {K : Fg} {H : Hp} {M : Av} {v : V} {d : D}
theorem rpK_flat : ∀ {kvs : List (Key × V)} {es : List (D × D)}, RpK K H M kvs es → flatK es = true
  | _, _, .nil => rfl
  | _, _, .cons (k := k) h r => by
    unfold flatK
    rw [List.all_cons, keyOf_kD]
    exact rpK_flat r
theorem flat_tH (es : List (D × D)) : flatK (tH :: es) = false := rfl
theorem rpK_length : ∀ {kvs : List (Key × V)} {es : List (D × D)}, RpK K H M kvs es → kvs.length = es.length
  | _, _, .nil => rfl
  | _, _, .cons h r => congrArg (· + 1) (rpK_length r)
theorem rpK_any {k : Key} : ∀ {kvs : List (Key × V)} {es : List (D × D)}, RpK K H M kvs es → (kvs.any fun kv => decide (kv.1 = k)) = (es.any fun e => decide (keyOf e.1 = some k))
  | _, _, .nil => rfl
  | _, _, .cons (k := k') h r => by
    rw [List.any_cons, List.any_cons, rpK_any r, keyOf_kD]
    congr 1
    by_cases e : k' = k
    · simp [e]
    · rw [decide_eq_false e, decide_eq_false fun z => e (Option.some.inj z)]
theorem rpK_repl {k : Key} (hv : Rp K H M v d) : ∀ {kvs : List (Key × V)} {es : List (D × D)}, RpK K H M kvs es → RpK K H M (kvs.map fun kv => if kv.1 = k then (kv.1, v) else kv) (es.map fun e => if keyOf e.1 = some k then (e.1, d) else e)
  | _, _, .nil => .nil
  | _, _, .cons (k := k') (v := v') (d := d') h r => by
    have ih := rpK_repl (k := k) hv r
    rw [List.map_cons, List.map_cons, keyOf_kD]
    by_cases e : k' = k
    · rw [if_pos e, if_pos (congrArg some e)]; exact .cons hv ih
    · rw [if_neg e, if_neg fun z => e (Option.some.inj z)]; exact .cons h ih
theorem rpK_snoc {k : Key} (hv : Rp K H M v d) : ∀ {kvs : List (Key × V)} {es : List (D × D)}, RpK K H M kvs es → RpK K H M (kvs ++ [(k, v)]) (es ++ [(kD k, d)])
  | _, _, .nil => .cons hv .nil
  | _, _, .cons h r => .cons h (rpK_snoc hv r)
theorem rpK_put {k : Key} {kvs : List (Key × V)} {es : List (D × D)} (r : RpK K H M kvs es) (hv : Rp K H M v d) : RpK K H M (putK kvs k v) (dput es k d) := by
  unfold putK dput
  rw [rpK_any r]
  split
  · exact rpK_repl hv r
  · exact rpK_snoc hv r
theorem rpK_merge : ∀ {more : List (Key × V)} {ms : List (D × D)}, RpK K H M more ms → ∀ {kvs : List (Key × V)} {es : List (D × D)}, RpK K H M kvs es → RpK K H M (mergeK kvs more) (dmerge es ms)
  | _, _, .nil, _, _, r => r
  | _, _, .cons (k := k) h q, kvs, es, r => by
    have e1 : ∀ (m : List (Key × V)) (v : V), mergeK kvs ((k, v) :: m) = mergeK (putK kvs k v) m := fun _ _ => rfl
    have e2 : ∀ (m : List (D × D)) (d : D), dmerge es ((kD k, d) :: m) = dmerge (dput es k d) m := fun m d => by
      unfold dmerge
      rw [List.foldl_cons, keyOf_kD]
    rw [e1, e2]
    exact rpK_merge q (rpK_put r h)
theorem Rt.dict {es : List (D × D)} (h : Rt K H M v (.dict es)) (fl : flatK es = true) : ∃ a kvs, v = .ref a ∧ Rd H a (.dK kvs) ∧ RpK K H M kvs es := by
  cases h with
  | of h => cases h with
    | dcK h1 h2 h3 => exact ⟨_, _, rfl, h1, h3⟩
    | dcT h1 h2 h3 => rw [flat_tH] at fl; cases fl
    | scr h => cases fl
  | dcK h1 h2 => exact ⟨_, _, rfl, h1, h2⟩
  | dcT h1 h2 => rw [flat_tH] at fl; cases fl
theorem Rp.dict {es : List (D × D)} (h : Rp K H M v (.dict es)) (fl : flatK es = true) : ∃ a kvs, v = .ref a ∧ Rd H a (.dK kvs) ∧ ¬ M a ∧ RpK K H M kvs es := by
  cases h with
  | dcK h1 h2 h3 => exact ⟨_, _, rfl, h1, h2, h3⟩
  | dcT h1 h2 h3 => rw [flat_tH] at fl; cases fl
  | scr h => cases fl
theorem kD_rt {k : D} {key : Key} (e : keyOf k = some key) (h : Rt K H M v k) : v = kV key := by
  rw [keyOf_some e] at h
  cases key with
  | inl i => exact h.int
  | inr x => exact h.str
end

section
variable {X : Cx} {E : XK} {k r : Bool} {Γ0 Γ Γ' Γl : List Nat} {a b c e o tg : Expr} {es : List Expr} {pos : Pos} {st : Stmt}
/-! ### d[k], k in d, len(d) -/
def dIxA : G2
  | .dict es, x => if flatK es then (keyOf x).bind (dlook es) else dIx (.dict es) x
  | a, b => dIx a b
theorem op_dIxA (hu : X.A.units + 1 < cLine) : IxR X (rD X.K dIxA) := by
  intro value slice pins s σ H x y v u Q I rx ry h hs
  obtain ⟨M, d, e, rr, tk, rd, re, eg, q⟩ := h
  by_cases hd : ∃ es, d = .dict es
  · obtain ⟨es, rfl⟩ := hd
    have eg' : (if flatK es then (keyOf e).bind (dlook es) else dIx (.dict es) e) = some rr := eg
    by_cases fl : flatK es = true
    · rw [if_pos fl] at eg'
      cases ek : keyOf e with
      | none => rw [ek] at eg'; cases eg'
      | some key =>
        rw [ek] at eg'
        have eg' : dlook es key = some rr := eg'
        obtain ⟨a, kvs, e1, r1, r2⟩ := rd.dict fl
        subst e1
        obtain rfl : v = Value.ref a := rx
        have ey := kD_rt ek re
        cases el : valV kvs key with
        | none =>
          have := (rpK_look (k := key) r2).2 el
          rw [this] at eg'; cases eg'
        | some w =>
          obtain ⟨d', ed', rw'⟩ := (rpK_look (k := key) r2).1 w el
          rw [ed'] at eg'
          cases eg'
          have g : DGet H a y (some w) := .inl ⟨kvs, key, r1, ey, el.symm⟩
          exact tail_any (dict_typeIs I g) PySem.F.slot_dict_getitem.lookup (d_getItem hu I g ry fun w' s' I' rw2 => ⟨w, H, I', rw2, q _ H (Same.refl _) rw'⟩) hs
    · rw [if_neg fl] at eg'
      exact op_dIx value slice pins s σ H x y v u Q I rx ry ⟨M, _, e, rr, tk, rd, re, eg', q⟩ hs
  · have eg' : dIx d e = some rr := by
      rw [← eg]
      cases d with
      | dict es => exact absurd ⟨_, rfl⟩ hd
      | _ => cases e <;> rfl
    exact op_dIx value slice pins s σ H x y v u Q I rx ry ⟨M, d, e, rr, tk, rd, re, eg', q⟩ hs
theorem de_subA {ma mb : ME} {ra rb : Bool} (hu : X.A.units + 1 < cLine) (ha : DE X E k ra Γ a ma) (hb : DE X E k rb Γ b mb) (hs : PlainIx b) (hk : (k && ra) = false := by rfl) : DE X E k false Γ (.Subscript a b pos) (mOp dIxA ma mb) := de_ix (op_dIxA hu) ha hb hs hk
def inDict (x : D) (es : List (D × D)) : Option Bool := if flatK es then (keyOf x).map fun key => (dlook es key).isSome else none
def dInA : G2
  | x, .dict es => (inDict x es).map .bool
  | x, y => dIn x y
def dNotInA : G2
  | x, .dict es => (inDict x es).map fun b => .bool !b
  | x, y => dNotIn x y
theorem inDict_at {K : Fg} {H : Hp} {M : Av} {x y : V} {d : D} {es : List (D × D)} {b : Bool} (h : inDict d es = some b) (rd : Rt K H M x d) (re : Rt K H M y (.dict es)) : ∃ a ov, y = .ref a ∧ DGet H a x ov ∧ ov.isSome = b := by
  unfold inDict at h
  by_cases fl : flatK es = true
  · rw [if_pos fl] at h
    cases ek : keyOf d with
    | none => rw [ek] at h; cases h
    | some key =>
      rw [ek] at h
      cases h
      obtain ⟨a, kvs, e1, r1, r2⟩ := re.dict fl
      refine ⟨a, valV kvs key, e1, .inl ⟨kvs, key, r1, kD_rt ek rd, rfl⟩, ?_⟩
      cases el : valV kvs key with
      | none =>
        show _ = (dlook es key).isSome
        rw [(rpK_look (k := key) r2).2 el]; rfl
      | some w =>
        obtain ⟨d', ed', _⟩ := (rpK_look (k := key) r2).1 w el
        show _ = (dlook es key).isSome
        rw [ed']; rfl
  · rw [if_neg fl] at h; cases h
theorem op_dInA (hu : X.A.units + 110 < cLine) : OpR X (compareOp .In) (rD X.K dInA) := by
  intro pins s σ H x y v u Q I rx ry h
  obtain ⟨M, d, e, r, tk, rd, re, eg, q⟩ := h
  by_cases hd : ∃ es, e = .dict es
  · obtain ⟨es, rfl⟩ := hd
    have eg' : (inDict d es).map PyData.bool = some r := by
      rw [← eg]; cases d <;> rfl
    cases ei : inDict d es with
    | none => rw [ei] at eg'; cases eg'
    | some b =>
      rw [ei] at eg'
      cases eg'
      obtain ⟨a, ov, e1, g, eb⟩ := inDict_at ei rd re
      subst e1
      obtain rfl : u = Value.ref a := ry
      exact d_in (by omega) I g rx fun s' I' => ⟨.bl ov.isSome, H, I', rfl, by rw [eb]; exact q _ H (Same.refl _) (.bl _)⟩
  · have eg' : dIn d e = some r := by
      rw [← eg]
      cases e with
      | dict es => exact absurd ⟨_, rfl⟩ hd
      | _ => cases d <;> rfl
    exact op_dIn hu pins s σ H x y v u Q I rx ry ⟨M, d, e, r, tk, rd, re, eg', q⟩
theorem op_dNotInA (hu : X.A.units + 110 < cLine) : OpR X (compareOp .NotIn) (rD X.K dNotInA) := by
  intro pins s σ H x y v u Q I rx ry h
  obtain ⟨M, d, e, r, tk, rd, re, eg, q⟩ := h
  by_cases hd : ∃ es, e = .dict es
  · obtain ⟨es, rfl⟩ := hd
    have eg' : ((inDict d es).map fun b => PyData.bool !b) = some r := by
      rw [← eg]; cases d <;> rfl
    cases ei : inDict d es with
    | none => rw [ei] at eg'; cases eg'
    | some b =>
      rw [ei] at eg'
      cases eg'
      obtain ⟨a, ov, e1, g, eb⟩ := inDict_at ei rd re
      subst e1
      obtain rfl : u = Value.ref a := ry
      exact d_notIn (by omega) I g rx fun s' I' => ⟨.bl (!ov.isSome), H, I', rfl, by rw [eb]; exact q _ H (Same.refl _) (.bl _)⟩
  · have eg' : dNotIn d e = some r := by
      rw [← eg]
      cases e with
      | dict es => exact absurd ⟨_, rfl⟩ hd
      | _ => cases d <;> rfl
    exact op_dNotIn hu pins s σ H x y v u Q I rx ry ⟨M, d, e, r, tk, rd, re, eg', q⟩
def dLenA : GA
  | [.dict es] => if flatK es then some (.int es.length) else dLen [.dict es]
  | xs => dLen xs
theorem call_dLenA : CallR X (.builtin "len") (rC X.K dLenA) := by
  intro pins s σ H vs us Q I rv h
  obtain ⟨M, ds, r, tk, rx, eg, q⟩ := h
  by_cases hd : ∃ es, ds = [.dict es]
  · obtain ⟨es, rfl⟩ := hd
    have eg' : (if flatK es then some (PyData.int es.length) else dLen [.dict es]) = some r := eg
    by_cases fl : flatK es = true
    · rw [if_pos fl] at eg'
      cases eg'
      obtain ⟨v, rfl, rd⟩ := rx1 rx
      obtain ⟨a, kvs, e1, r1, r2⟩ := rd.dict fl
      subst e1
      obtain rfl := Vals.ref1 rv
      exact d_len I r1 fun t s' I' => ⟨.int kvs.length, H, I', ⟨t, rfl⟩, by rw [rpK_length r2]; exact q _ H (Same.refl _) (.int _)⟩
    · rw [if_neg fl] at eg'
      exact call_dLen pins s σ H vs us Q I rv ⟨M, _, r, tk, rx, eg', q⟩
  · have eg' : dLen ds = some r := by
      rw [← eg]
      unfold dLenA
      split
      · exact absurd ⟨_, rfl⟩ hd
      · rfl
    exact call_dLen pins s σ H vs us Q I rv ⟨M, ds, r, tk, rx, eg', q⟩
/-! ### d.get(k), d.get(k, x) -/
def dGet1 (es : List (D × D)) (k : D) : Option D := if flatK es then (keyOf k).map fun key => (dlook es key).getD .none else none
def dGet2 (es : List (D × D)) (k x : D) : Option D := if flatK es then (keyOf k).map fun key => (dlook es key).getD x else none
def asDict : D → Option (List (D × D))
  | .dict es => if flatK es then some es else none
  | _ => none
theorem asDict_some {d : D} {es : List (D × D)} (h : asDict d = some es) : d = .dict es ∧ flatK es = true := by
  cases d with
  | dict l =>
    have h : (if flatK l then some l else none) = some es := h
    by_cases fl : flatK l = true
    · rw [if_pos fl] at h; cases h; exact ⟨rfl, fl⟩
    · rw [if_neg fl] at h; cases h
  | _ => cases h
def eGet1 (mo mk : ME) : ME := fun ρ => (mo ρ).bind fun o => (R.opt (asDict o.1)).bind fun es => (mk o.2).bind fun y => (R.opt (dGet1 es y.1)).bind fun d => .ok (d, y.2)
def eGet2 (mo mk mx : ME) : ME := fun ρ => (mo ρ).bind fun o => (R.opt (asDict o.1)).bind fun es => (mk o.2).bind fun y => (mx y.2).bind fun x => (R.opt (dGet2 es y.1 x.1)).bind fun d => .ok (d, x.2)
theorem dget_rp {K : Fg} {H : Hp} {M : Av} {kvs : List (Key × V)} {es : List (D × D)} {key : Key} {z : V} {x : D} (r : RpK K H M kvs es) (hz : Rp K H M z x) : Rp K H M ((valV kvs key).getD z) ((dlook es key).getD x) := by
  cases el : valV kvs key with
  | none => rw [(rpK_look (k := key) r).2 el]; exact hz
  | some w =>
    obtain ⟨d', ed', rw'⟩ := (rpK_look (k := key) r).1 w el
    rw [ed']; exact rw'
theorem de_get1 {mo mk : ME} {apos cpos : Pos} (hu : X.A.units + 1 < cLine) (ho : DE X E k r Γ o mo) (he : DE X E k false Γ e mk) (m : M1 X o "get" apos e cpos) (hk : (k && r) = false := by rfl) :
    DE X E k false Γ (.Call (.Attribute o "get" apos) [e] [] cpos) (eGet1 mo mk) :=
  PE.imp (pe_dget1 hu ho he m) fun σ H Q ⟨M, A, ρ, hΓ, f, h⟩ => by
    refine ⟨M, A, ρ, hΓ, f, pimp (post_bind h) (fun z hz v H1 f1 g1 e1 r1 => ?_) fun c hc => hc⟩
    obtain ⟨es, ees, hz⟩ := post_opt hz
    obtain ⟨ez, fl⟩ := asDict_some ees
    rw [ez] at r1
    obtain ⟨a, kvs, ev, d1, d2⟩ := Rt.dict r1.t fl
    refine ⟨a, ev, .inl ⟨kvs, d1⟩, M, A, z.2, hΓ, f1, pimp (post_bind hz) (fun y hy w H2 f2 g2 e2 r2 => ?_) fun c hc => DX.fra g1 hc⟩
    obtain ⟨d, ed, hy⟩ := post_opt hy
    unfold dGet1 at ed
    rw [if_pos fl] at ed
    cases ek : keyOf y.1 with
    | none => rw [ek] at ed; cases ed
    | some key =>
      rw [ek] at ed
      cases ed
      have r1' := Rx.fra hk f1 g2 r1
      obtain ⟨a', kvs', ev', d1', d2'⟩ := Rt.dict r1'.t fl
      rw [ev] at ev'
      cases ev'
      exact ⟨valV kvs' key, .inl ⟨kvs', key, d1', kD_rt ek (.of r2), rfl⟩, hy _ H2 f2 (g1.trans g2) (fun n => (e2 n).trans (e1 n)) (dget_rp d2' .non)⟩
theorem de_get2 {mo mk mx : ME} {f : Expr} {apos cpos : Pos} (hu : X.A.units + 1 < cLine) (ho : DE X E k r Γ o mo) (he : DE X E k false Γ e mk) (hf : DE X E k false Γ f mx) (m : M2 X o "get" apos e f cpos) (hk : (k && r) = false := by rfl) :
    DE X E k false Γ (.Call (.Attribute o "get" apos) [e, f] [] cpos) (eGet2 mo mk mx) :=
  PE.imp (pe_dget2 hu ho he hf m) fun σ H Q ⟨M, A, ρ, hΓ, f, h⟩ => by
    refine ⟨M, A, ρ, hΓ, f, pimp (post_bind h) (fun z hz v H1 f1 g1 e1 r1 => ?_) fun c hc => hc⟩
    obtain ⟨es, ees, hz⟩ := post_opt hz
    obtain ⟨ez, fl⟩ := asDict_some ees
    rw [ez] at r1
    obtain ⟨a, kvs, ev, d1, d2⟩ := Rt.dict r1.t fl
    refine ⟨a, ev, .inl ⟨kvs, d1⟩, M, A, z.2, hΓ, f1, pimp (post_bind hz) (fun y hy w H2 f2 g2 e2 r2 => ?_) fun c hc => DX.fra g1 hc⟩
    refine ⟨M, A, y.2, hΓ, f2, pimp (post_bind hy) (fun x hx w3 H3 f3 g3 e3 r3 => ?_) fun c hc => DX.fra (g1.trans g2) hc⟩
    obtain ⟨d, ed, hx⟩ := post_opt hx
    unfold dGet2 at ed
    rw [if_pos fl] at ed
    cases ek : keyOf y.1 with
    | none => rw [ek] at ed; cases ed
    | some key =>
      rw [ek] at ed
      cases ed
      have r1' := Rx.fra hk f2 g3 (Rx.fra hk f1 g2 r1)
      have r2' : Rp X.K H3 M w y.1 := Rx.fra (r := false) (by cases k <;> rfl) f2 g3 r2
      obtain ⟨a', kvs', ev', d1', d2'⟩ := Rt.dict r1'.t fl
      rw [ev] at ev'
      cases ev'
      exact ⟨valV kvs' key, .inl ⟨kvs', key, d1', kD_rt ek (.of r2'), rfl⟩, hx _ H3 f3 (g1.trans (g2.trans g3)) (fun n => (e3 n).trans ((e2 n).trans (e1 n))) (dget_rp d2' r3)⟩
/-! ### dict(pairs) -/
def pairsOf : List D → Option (List (D × D))
  | [] => some []
  | .tuple [a, b] :: ds => if (keyOf a).isSome then (pairsOf ds).map fun r => (a, b) :: r else none
  | _ => none
def dDict : GA
  | [.list ds] => (pairsOf ds).map fun ps => .dict (dmerge [] ps)
  | _ => none
theorem pairsOf_rp {K : Fg} {H : Hp} {M : Av} : ∀ {ds : List D} {xs : List V} {ps : List (D × D)}, RpAll K H M xs ds → pairsOf ds = some ps →
    ∃ (as : List Addr) (kvs : List (Key × V)), xs = as.map V.ref ∧ Paired (fun p kv => SqT K H p [kV kv.1, kv.2]) as kvs ∧ RpK K H M kvs ps
  | [], _, ps, .nil, h => by cases h; exact ⟨[], [], rfl, .nil, .nil⟩
  | d :: ds, _, ps, .cons (v := v) h1 h2, h => by
    unfold pairsOf at h
    split at h
    · rename_i e; cases e
    · rename_i a b ds' e
      cases e
      cases ek : keyOf a with
      | none => rw [ek] at h; cases h
      | some key =>
        rw [ek] at h
        have h : (pairsOf ds).map (fun r => (a, b) :: r) = some ps := h
        cases er : pairsOf ds with
        | none => rw [er] at h; cases h
        | some qs =>
          rw [er] at h
          cases h
          obtain ⟨as, kvs, e1, e2, e3⟩ := pairsOf_rp h2 er
          cases h1 with
          | tup t1 t2 =>
            rename_i p xs'
            cases t2 with
            | cons c1 c2 => cases c2 with
              | cons c3 c4 =>
                cases c4
                rename_i v1 v2
                have ev := kD_rt ek (.of c1)
                subst ev
                refine ⟨p :: as, (key, v2) :: kvs, by rw [e1]; rfl, .cons t1.sq e2, ?_⟩
                rw [keyOf_some ek]
                exact .cons c3 e3
    · cases h
theorem call_dDict (hc : X.calm = true) : CallR X (.type "dict") (rC X.K dDict) := by
  intro pins s σ H vs us Q I rv h
  obtain ⟨M, ds, r, tk, rx, eg, q⟩ := h
  unfold dDict at eg
  split at eg
  · rename_i ds
    cases ep : pairsOf ds with
    | none => rw [ep] at eg; cases eg
    | some ps =>
      rw [ep] at eg
      cases eg
      obtain ⟨v, rfl, rd⟩ := rx1 rx
      obtain ⟨a, xs, e1, r1, a1⟩ := rd.list
      subst e1
      obtain ⟨as, kvs, e1, e2, e3⟩ := pairsOf_rp a1 ep
      subst e1
      refine call_dictP hc pins s σ H _ us Q I rv ⟨a, as, kvs, rfl, .inl r1, e2, fun p np => ?_⟩
      have s' : Same H (upd H p (.dK (mergeK [] kvs))) := fun b u e => by rw [upd_ne (ne_of_none e np)]; exact e
      exact q _ _ s' (.dcK (.inl upd_same) (tk.ne np) (rpK_merge (RpK.carry (Carry.same s') e3) .nil))
  · cases eg
/-! ### own dicts changed -/
def asK : Option D → Option (List (D × D))
  | some d => asDict d
  | none => none
theorem Fit.ownD {K : Fg} {M : Av} {A : As} {σ : St} {H : Hp} {ρ : Ev} {i : Nat} {es : List (D × D)} {Γ : List Nat} (f : Fit K M A σ H ρ) (hΓ : A.map (·.1) = Γ) (hi : Γ.contains i = true) (h : asK (getv ρ i) = some es) :
    ∃ a kvs, (i, a) ∈ A ∧ σ[i]? = some (some (.ref a)) ∧ H a = some (.dK kvs) ∧ RpK K H M kvs es := by
  cases hg : getv ρ i with
  | none => rw [hg] at h; cases h
  | some d =>
    rw [hg] at h
    obtain ⟨e1, fl⟩ := asDict_some h
    rw [e1] at hg
    obtain ⟨a, ia, h1, ow⟩ := f.ownK hΓ hi hg
    cases ow with
    | dcK g1 g2 => exact ⟨a, _, ia, h1, g1, g2⟩
    | dcT g1 g2 => rw [flat_tH] at fl; cases fl
theorem mt_setdefault : MtR X "dict.setdefault" (fun x vs H Q => ∃ (a : Addr) (kvs : List (Key × V)) (key : Key) (v : V), x = .ref a ∧ vs = [kV key, v] ∧ H a = some (.dK kvs) ∧ kvs.length < sizeLine ∧
    (∀ w, valV kvs key = some w → Q w H) ∧ (valV kvs key = none → Q v (upd H a (.dK (putK kvs key v))))) := by
  intro pins s σ H x vs w us Q I rx rv h
  obtain ⟨a, kvs, key, v, rfl, rfl, e, l, q1, q2⟩ := h
  obtain rfl : w = Value.ref a := rx
  obtain ⟨u1, u2, rfl, r1, r2⟩ := vals2 rv
  obtain ⟨z, hd, vs, rel, dd⟩ := dk_of I.hok e
  have hz : vs.length ≤ sizeLine := by rw [← rel.length]; exact z
  refine call_meetsIn PySem.F.slot_dict_setdefault dd.typeIs PySem.F.entry_dict_setdefault (PySem.F.args_dict_setdefault_3 _ _ _) (kt_meets_setdefault (mixKind X.prog X.w) a (kV_is r1) hd u2) ⟨vs, dd, hz, fun v' hv' => ?_, fun hn h' dd' hs => ?_⟩
  · have rl := rel.val key
    rw [hv'] at rl
    cases el : valV kvs key with
    | none => rw [el] at rl; exact rl.elim
    | some w =>
      rw [el] at rl
      exact ⟨w, H, I.tok _, rl, q1 w el⟩
  · have rl := rel.val key
    rw [hn] at rl
    cases el : valV kvs key with
    | some w => rw [el] at rl; exact rl.elim
    | none =>
      have he : ∃ q, h'.get? a = some q := let ⟨q, _, _, hq, _⟩ := dd'; ⟨q, hq⟩
      have hl : (putK kvs key v).length ≤ sizeLine := by have := length_putK kvs key v; omega
      exact ⟨v, _, d_write I (by rw [e]; exact True.intro) hs he (dk_new hl hd (rel.put key r2) dd'), r2, q2 el⟩
theorem mt_update : MtR X "dict.update" (fun x vs H Q => ∃ (a b : Addr) (kvs more : List (Key × V)), x = .ref a ∧ vs = [.ref b] ∧ a ≠ b ∧ H a = some (.dK kvs) ∧ Rd H b (.dK more) ∧ kvs.length + more.length ≤ sizeLine ∧ Q .non (upd H a (.dK (mergeK kvs more)))) := by
  intro pins s σ H x vs w us Q I rx rv h
  obtain ⟨a, b, kvs, more, rfl, rfl, ne, e, e2, l, q⟩ := h
  obtain rfl : w = Value.ref a := rx
  obtain rfl := Vals.ref1 rv
  obtain ⟨z, hd, vs, rel, dd⟩ := dk_of I.hok e
  obtain ⟨z2, hd2, vs2, rel2, dd2⟩ := dk_rd I.hok e2
  refine call_meetsIn PySem.F.slot_dict_update dd.typeIs PySem.F.entry_dict_update (PySem.F.args_dict_update_2 _ _) (meets_dict_update (mixKind X.prog X.w) a b ne hd2) ⟨vs, vs2, dd, dd2, by rw [← rel.length, ← rel2.length]; exact l, fun h' dd' _ hs => ?_⟩
  have he : ∃ q, h'.get? a = some q := let ⟨q, _, _, hq, _⟩ := dd'; ⟨q, hq⟩
  have hl : (mergeK kvs more).length ≤ sizeLine := Nat.le_trans (length_mergeK more kvs) l
  exact ⟨.non, _, d_write (t' := s.toks) I (by rw [e]; exact True.intro) hs he (dk_new hl hd (KV.merge rel2 rel) dd'), rfl, q⟩
def keyVal : List D → Option (Key × D)
  | [a, d] => (keyOf a).map fun x => (x, d)
  | _ => none
/-- d.setdefault(k, v) -/
def eSetD (i : Nat) (ma : MA) : ME := fun ρ => (R.opt (asK (getv ρ i))).bind fun _ => (ma ρ).bind fun z => (R.opt (asK (getv z.2 i))).bind fun es => (R.opt (keyVal z.1)).bind fun kd =>
  if es.length < sizeLine then match dlook es kd.1 with
    | some d => .ok (d, z.2)
    | none => .ok (kd.2, z.2.set i (some (.dict (dput es kd.1 kd.2))))
  else .no
theorem de_setdef {i : Nat} {m : MA} {apos cpos : Pos} (hp : PE X o (tVar i)) (ha : DA X E true false Γ (e :: es) m) (hi : Γ.contains i = true := by decide)
    (hbase : attributeBase o "setdefault" X.env (eval o X.env) = eval o X.env := by rfl)
    (hfew : ((backTo cpos (starEach (e :: es) X.env)).all (fun x => !x.1) && (backToKw cpos (keywordEach [] X.env)).all (fun x => x.1.isSome)
      && decide ((e :: es).length + ([] : List Keyword).length + (if ([] : List Keyword).isEmpty then 0 else 1) < 30)) = true := by rfl)
    (hline : (apos.endLine == cpos.line) = true := by rfl) (hs : starEach (e :: es) X.env = (false, eval e X.env) :: starEach es X.env := by rfl) (hplain : (backTo cpos (starEach es X.env)).any (·.1) = false := by rfl) :
    DE X E true false Γ (.Call (.Attribute o "setdefault" apos) (e :: es) [] cpos) (eSetD i m) :=
  PE.imp (pe_bm PySem.F.plainAttrs_dict PySem.F.slot_dict_setdefault PySem.F.type_dict_setdefault mt_setdefault hp ha hbase hfew hline hs hplain) fun σ H Q ⟨M, A, ρ, hΓ, f, h⟩ => by
    obtain ⟨ds0, e0, h⟩ := post_opt h
    obtain ⟨a, xs, ia, e1, e2, e3⟩ := f.ownD hΓ hi e0
    refine ⟨.ref a, e1, .inr (.inr (.inl ⟨rfl, .inl ⟨xs, e2⟩⟩)), M, A, ρ, hΓ, f, pimp (post_bind h) (fun z hz vs H1 f1 g1 _ r1 => ?_) fun c hc => hc⟩
    obtain ⟨ds, ed, hz⟩ := post_opt hz
    obtain ⟨⟨key, d⟩, ek, hz⟩ := post_opt hz
    obtain ⟨b, ys, ib, e4, e5, e6⟩ := f1.ownD hΓ hi ed
    obtain rfl := Fit.at_same f f1 ib e1
    by_cases hl : ds.length < sizeLine
    · rw [if_pos hl] at hz
      unfold keyVal at ek
      split at ek
      · rename_i ka da ez
        cases ekk : keyOf ka with
        | none => rw [ekk] at ek; cases ek
        | some key' =>
          rw [ekk] at ek
          cases ek
          rw [ez] at r1
          cases r1 with
          | cons c1 c2 => cases c2 with
            | cons c3 c4 =>
              cases c4
              rename_i v1 v2
              have ev := kD_rt ekk (.of c1)
              subst ev
              have c3 : Rp X.K H1 M v2 d := c3
              refine ⟨b, ys, key, v2, rfl, rfl, e5, by rw [rpK_length e6]; exact hl, fun w hw => ?_, fun hn => ?_⟩
              · obtain ⟨d', ed', rw'⟩ := (rpK_look (k := key) e6).1 w hw
                rw [ed'] at hz
                exact hz w H1 f1 g1 (fun n => Bool.noConfusion n) rw'
              · rw [(rpK_look (k := key) e6).2 hn] at hz
                have c : Carry X.K H1 (upd H1 b (.dK (putK ys key v2))) M M := Carry.at (f1.sub _ ib)
                exact hz v2 _ (f1.change ib (.dcK upd_same (RpK.carry c (rpK_put e6 c3)))) (g1.trans (Fra.change ib)) (fun n => Bool.noConfusion n) (Rp.carry c c3)
      · cases ek
    · rw [if_neg hl] at hz; exact hz.elim
/-- d.update(m) -/
def eUpd (i : Nat) (m : ME) : ME := fun ρ => (R.opt (asK (getv ρ i))).bind fun _ => (m ρ).bind fun z => (R.opt (asDict z.1)).bind fun ms => (R.opt (asK (getv z.2 i))).bind fun es =>
  if es.length + ms.length ≤ sizeLine then .ok (.none, z.2.set i (some (.dict (dmerge es ms)))) else .no
theorem de_upd {i : Nat} {m : ME} {apos cpos : Pos} (hp : PE X o (tVar i)) (ha : DE X E true false Γ e m) (hi : Γ.contains i = true := by decide)
    (hbase : attributeBase o "update" X.env (eval o X.env) = eval o X.env := by rfl)
    (hfew : ((backTo cpos (starEach [e] X.env)).all (fun x => !x.1) && (backToKw cpos (keywordEach [] X.env)).all (fun x => x.1.isSome)
      && decide (([e] : List Expr).length + ([] : List Keyword).length + (if ([] : List Keyword).isEmpty then 0 else 1) < 30)) = true := by rfl)
    (hline : (apos.endLine == cpos.line) = true := by rfl) (hs : starEach [e] X.env = (false, eval e X.env) :: starEach [] X.env := by rfl) (hplain : (backTo cpos (starEach [] X.env)).any (·.1) = false := by rfl) :
    DE X E true false Γ (.Call (.Attribute o "update" apos) [e] [] cpos) (eUpd i m) :=
  PE.imp (pe_bm PySem.F.plainAttrs_dict PySem.F.slot_dict_update PySem.F.type_dict_update mt_update hp (pa_cons ha pa_nil hs) hbase hfew hline hs hplain) fun σ H Q ⟨M, A, ρ, hΓ, f, h⟩ => by
    obtain ⟨ds0, e0, h⟩ := post_opt h
    obtain ⟨a, xs, ia, e1, e2, e3⟩ := f.ownD hΓ hi e0
    refine ⟨.ref a, e1, .inr (.inr (.inl ⟨rfl, .inl ⟨xs, e2⟩⟩)), M, A, ρ, hΓ, f, pimp (post_bind h) (fun z hz v H1 f1 g1 _ r1 => ?_) fun c hc => hc⟩
    obtain ⟨ms, em, hz⟩ := post_opt hz
    obtain ⟨ds, ed, hz⟩ := post_opt hz
    obtain ⟨b, ys, ib, e4, e5, e6⟩ := f1.ownD hΓ hi ed
    obtain rfl := Fit.at_same f f1 ib e1
    obtain ⟨ez, fl⟩ := asDict_some em
    rw [ez] at r1
    obtain ⟨b2, more, ev, d1, nm, d2⟩ := Rp.dict (show Rp X.K H1 M v (.dict ms) from r1) fl
    by_cases hl : ds.length + ms.length ≤ sizeLine
    · rw [if_pos hl] at hz
      have c : Carry X.K H1 (upd H1 b (.dK (mergeK ys more))) M M := Carry.at (f1.sub _ ib)
      refine ⟨b, b2, ys, more, rfl, by rw [ev], fun e => nm (by rw [← e]; exact f1.sub _ ib), e5, d1, by rw [rpK_length e6, rpK_length d2]; exact hl, ?_⟩
      exact hz .non _ (f1.change ib (.dcK upd_same (RpK.carry c (rpK_merge d2 e6)))) (g1.trans (Fra.change ib)) (fun n => Bool.noConfusion n) .non
    · rw [if_neg hl] at hz; exact hz.elim
/-- d[k] = v, d an own dict -/
def sPutD (o : Nat) (mv mi : ME) : MS := fun ρ => (mv ρ).bind fun v => (mi v.2).bind fun i => (R.opt (asK (getv i.2 o))).bind fun es => (R.opt (keyOf i.1)).bind fun key =>
  if es.length < sizeLine then .ok (.nx, i.2.set o (some (.dict (dput es key v.1)))) else .no
theorem ds_putD {o : Nat} {oe ie : Expr} {mv mi : ME} {p2 : Pos} (hu : X.A.units + 1 < cLine) (hp : PE X oe (tVar o)) (hi : DE X E false false (Γ ++ Γ0) ie mi) (hv : DE X E k false (Γ ++ Γ0) e mv) (ho : (Γ ++ Γ0).contains o = true := by decide)
    (hs : swapsWith e (some (.Subscript oe ie p2)) pos.line X.env = pure false := by rfl) : DS X E Γ0 Γ Γ Γl (.Assign [.Subscript oe ie p2] e pos) (sPutD o mv mi) :=
  PS.imp (ps_dput hu hp hi hv hs) fun D σ H ⟨M0, B, A0, ρ, hB, hA, dj, f, q⟩ => by
    have hΓ : (B ++ A0).map (·.1) = Γ ++ Γ0 := by rw [List.map_append, hB, hA]
    refine ⟨_, _, ρ, hΓ, f, pimp (post_bind q) (fun z hz v H1 f1 g1 _ r1 => ?_) fun c hc => DX.eff hc⟩
    have hm : o ∈ (B ++ A0).map (·.1) := by rw [hΓ]; exact List.contains_iff_mem.mp ho
    obtain ⟨⟨j0, a⟩, hq, e0⟩ := List.mem_map.mp hm
    obtain rfl : j0 = o := e0
    refine ⟨.ref a, (f1.own _ hq).1, _, _, z.2, hΓ, f1, pimp (post_bind hz) (fun y hy iv H2 f2 g2 _ r2 => ?_) fun c hc => DX.eff (DX.step (Stp.eff g1) hc)⟩
    obtain ⟨es, ed, hy⟩ := post_opt hy
    obtain ⟨key, ek, hy⟩ := post_opt hy
    obtain ⟨b, ys, ib, e4, e5, e6⟩ := f2.ownD hΓ ho ed
    have eb : a = b := Fit.at_same f1 f2 hq e4
    subst eb
    by_cases hl : es.length < sizeLine
    · rw [if_pos hl] at hy
      have s2 := eff_false g2
      have c : Carry X.K H2 (upd H2 a (.dK (putK ys key v))) (un M0 (B ++ A0)) (un M0 (B ++ A0)) := Carry.at (f2.sub _ ib)
      refine ⟨a, _, rfl, .inl ⟨ys, key, e5, kD_rt ek (.of r2), by rw [rpK_length e6]; exact hl, rfl⟩, ?_⟩
      have r1' : Rp X.K H2 (un M0 (B ++ A0)) v z.1 := Rp.carry (Carry.same s2) r1
      refine hy _ _ B hB ⟨(g1.eff_has.trans (Fra.of_same s2)).trans fun b' u eu n' => ?_, fun p hp => .inl (As.has_of hp)⟩ (f2.change ib (.dcK upd_same (RpK.carry c (rpK_put e6 r1'))))
      have ne : b' ≠ a := fun z' => n' (by rw [z']; exact As.has_of ib)
      rw [upd_ne ne]; exact eu
    · rw [if_neg hl] at hy; exact hy.elim
end
end Dt

set_option Elab.async false
set_option linter.all false
set_option maxRecDepth 100000
set_option autoImplicit false
/-! Comprehensions with two clauses. -/
namespace Dt
open PySem PySem.Spec PyProof.Rows L2 R

theorem Fit.merge2 {K : Fg} {M F : Av} {A : As} {σ σ3 : St} {H H' : Hp} {ρ ρ3 : Ev} {k : Bool} {vs : List Nat} (f : Fit K M A σ H ρ) (f3 : Fit K M A σ3 H' ρ3) (g : Fra F H H') (hF : ∀ b, F b → M b) (hk : k = false → ∀ q ∈ A, ¬ F q.2)
    (hv : ∀ p ∈ A, p.1 ∉ vs) (hw : L2.wipe σ3 vs = L2.wipe σ vs) : Fit K M A σ H' (mrg k ρ ρ3 vs) := by
  have c : Carry K H H' M M := Carry.fra g hF
  cases k with
  | false => exact ⟨f.len, f3.trk, f.sub, f.nd, fun p hp => let ⟨h1, d, h2, h3⟩ := f.own p hp; ⟨h1, d, h2, h3.carry c fun o e => g _ o e (hk rfl p hp)⟩, fun i d e n => let ⟨v, h1, h2⟩ := f.shr i d e n; ⟨v, h1, Rp.carry c h2⟩⟩
  | true =>
    have hl : σ3.length = σ.length := by rw [← wipe_length σ3 vs, hw, wipe_length]
    have hl2 : ρ.length = ρ3.length := by rw [← f.len, ← f3.len, hl]
    have ho : ∀ i, i ∉ vs → σ3[i]? = σ[i]? := fun i h => by rw [← wipe_out (σ := σ3) h, hw, wipe_out h]
    refine ⟨by show σ.length = (mergeE ρ ρ3 vs).length; rw [mergeE_len, ← hl2]; exact f.len, f3.trk, f3.sub, f3.nd, fun p hp => ?_, fun i d e n => ?_⟩
    · obtain ⟨h1, d, h2, h3⟩ := f3.own p hp
      exact ⟨by rw [← ho _ (hv p hp)]; exact h1, d, by show (mergeE ρ ρ3 vs)[p.1]? = _; rw [mergeE_out (hv p hp)]; exact h2, h3⟩
    · have e' : (mergeE ρ ρ3 vs)[i]? = some (some d) := e
      by_cases h : i ∈ vs
      · rw [mergeE_in hl2 h] at e'
        obtain ⟨v, g1, g2⟩ := f.shr i d e' n
        exact ⟨v, g1, Rp.carry c g2⟩
      · rw [mergeE_out h] at e'
        obtain ⟨v, g1, g2⟩ := f3.shr i d e' n
        exact ⟨v, by rw [← ho i h]; exact g1, g2⟩
theorem wipe_wipe (σ : St) (vs : List Nat) : wipe (wipe σ vs) vs = wipe σ vs := by
  apply List.ext_getElem?
  intro j
  by_cases hj : j ∈ vs
  · have h0 : ∀ τ : St, τ.length = σ.length → (wipe τ vs)[j]? = if j < σ.length then some none else none := by
      intro τ hτ
      by_cases hl : j < σ.length
      · rw [if_pos hl]
        have hl2 : j < (wipe τ vs).length := by rw [wipe_length, hτ]; exact hl
        rw [List.getElem?_eq_getElem hl2]
        cases e : (wipe τ vs)[j] with
        | none => rfl
        | some x =>
          have : (wipe τ vs)[j]? = some (some x) := by rw [List.getElem?_eq_getElem hl2, e]
          exact absurd hj (wipe_some this).2
      · rw [if_neg hl]
        exact List.getElem?_eq_none (by rw [wipe_length, hτ]; omega)
    rw [h0 _ (wipe_length _ _), h0 _ rfl]
  · rw [wipe_out hj]
/-- the list that grows -/
structure Gr (K : Fg) (M : Av) (p : Addr) (A : As) (σ : St) (H : Hp) (ρ : Ev) (acc : List V) (dacc : List D) : Prop where
  fit : Fit K (M.add p) A σ H ρ
  at_ : H p = some (.lst acc)
  rp : RpAll K H (M.add p) acc dacc
def effp (k : Bool) (A : As) (p : Addr) : Av := fun b => eff k A b ∨ b = p
theorem effp_sub {K : Fg} {M : Av} {A : As} {σ : St} {H : Hp} {ρ : Ev} {p : Addr} {k : Bool} (f : Fit K (M.add p) A σ H ρ) : ∀ b, effp k A p b → (M.add p) b := fun b z => z.elim (fun z => f.has b z.2) .inr
theorem lc_loop {K : Fg} {mg : Str → Option Value} {Γ : List Nat} {k : Bool} {g : MG} {tt : MB} {me : ME} {vs : List Nat} {J : It} {S : Av → Hp → Prop} {ds : List D} {M : Av} {A : As} {σ : St} {p : Addr} {Hs : Hp} {ρ0 : Ev} {acc0 : List V} {dacc0 : List D}
    (hΓ : A.map (·.1) = Γ) (hv' : ∀ q ∈ A, q.1 ∉ vs) (src : Src K J ds S) (nA : ∀ q ∈ A, q.2 ≠ p) (fin : Hp → Prop) (g0 : Gr K M p A σ Hs ρ0 acc0 dacc0) (s0 : S (M.add p) Hs) (hz : acc0.length + ds.length ≤ sizeLine)
    (q0 : (lcG k vs g tt me ds ρ0).nox.post (fun r => ∀ H' acc, Gr K M p A σ H' r.2 acc (dacc0 ++ r.1) → acc.length ≤ acc0.length + ds.length → Fra (effp k A p) Hs H' → (k = false → r.2 = ρ0) → fin H') (fun _ => False)) :
    ∃ W : Nat → Nat → Hp → Prop, (∃ m, W 0 m Hs) ∧ ∀ i m H, W i m H → (J.stop i H ∧ fin H) ∨ (J.go i H ∧ ∃ Nx : Hp → Prop, (∀ H', Nx H' → ∃ m', m' < m ∧ W (i + 1) m' H') ∧ ∀ x H', J.yld i H x H' → DTg K Γ vs g x (wipe σ vs) H' fun σ2 H2 => wipe σ2 vs = wipe σ vs ∧ DTb K mg E0 k Γ tt σ2 H2 fun b H3 =>
      if b = true then DT K mg E0 k false Γ me σ2 H3 fun y H4 => ∃ acc, H4 p = some (.lst acc) ∧ acc.length < sizeLine ∧ Nx (upd H4 p (.lst (acc ++ [y]))) else Nx H3) := by
  refine ⟨fun i m H1 => m = ds.length - i ∧ i ≤ ds.length ∧ ∃ acc dacc ρ1, Gr K M p A σ H1 ρ1 acc dacc ∧ Fra (effp k A p) Hs H1 ∧ (k = false → ρ1 = ρ0) ∧ S (M.add p) H1 ∧ acc.length ≤ acc0.length + i ∧
      (lcG k vs g tt me (ds.drop i) ρ1).nox.post (fun r => ∀ H' acc', Gr K M p A σ H' r.2 acc' (dacc ++ r.1) → acc'.length ≤ acc0.length + ds.length → Fra (effp k A p) Hs H' → (k = false → r.2 = ρ0) → fin H') (fun _ => False),
    ⟨_, rfl, Nat.zero_le _, acc0, dacc0, ρ0, g0, Fra.refl, fun _ => rfl, s0, by omega, by rw [List.drop_zero]; exact q0⟩, ?_⟩
  rintro i m H1 ⟨em, hle, acc, dacc, ρ1, gr, fr, e1, s1, hal, q1⟩
  have f1 := gr.fit
  have hp1 := gr.at_
  have ra := gr.rp
  by_cases hi : i < ds.length
  · obtain ⟨d, hd⟩ : ∃ d, ds[i]? = some d := ⟨_, List.getElem?_eq_getElem hi⟩
    have ed : ds.drop i = d :: ds.drop (i + 1) := by
      rw [List.drop_eq_getElem_cons hi]
      rw [List.getElem?_eq_getElem hi] at hd
      rw [Option.some.inj hd]
    rw [ed] at q1
    refine .inr ⟨src.go _ i H1 s1 hi, fun H2 => i + 1 ≤ ds.length ∧ ∃ acc dacc ρ1, Gr K M p A σ H2 ρ1 acc dacc ∧ Fra (effp k A p) Hs H2 ∧ (k = false → ρ1 = ρ0) ∧ S (M.add p) H2 ∧ acc.length ≤ acc0.length + (i + 1) ∧
      (lcG k vs g tt me (ds.drop (i + 1)) ρ1).nox.post (fun r => ∀ H' acc', Gr K M p A σ H' r.2 acc' (dacc ++ r.1) → acc'.length ≤ acc0.length + ds.length → Fra (effp k A p) Hs H' → (k = false → r.2 = ρ0) → fin H') (fun _ => False), fun H2 h => ⟨ds.length - (i + 1), by omega, rfl, h⟩, fun x H2 hy => ?_⟩
    obtain ⟨rfl, d', hd', rx⟩ := src.yld _ i H1 x H2 s1 hi hy
    rw [hd] at hd'
    cases hd'
    have q1 := (show ((g d (wipeE ρ1 vs)).nox.bind _).post _ _ from by
      have e : (lcG k vs g tt me (d :: ds.drop (i + 1)) ρ1) = ((g d (wipeE ρ1 vs)).nox.bind fun ρ1' => (tt ρ1').nox.bind fun t =>
        if t.1 = true then (me t.2).nox.bind fun y => (lcG k vs g tt me (ds.drop (i + 1)) (mrg k ρ1 y.2 vs)).bind fun r => .ok (y.1 :: r.1, r.2)
        else lcG k vs g tt me (ds.drop (i + 1)) (mrg k ρ1 t.2 vs)) := rfl
      rw [e] at q1
      have : ∀ {m : R (List D × Ev)} {P : List D × Ev → Prop}, m.nox.post P (fun _ => False) → m.post P (fun _ => False) := fun h => post_nox h
      exact this q1)
    have wp := f1.wipe hv'
    refine ⟨M.add p, A, wipeE ρ1 vs, d, hΓ, wp, rx, ?_⟩
    cases hg : g d (wipeE ρ1 vs) with
    | exc c => rw [hg] at q1; exact q1.elim
    | no => rw [hg] at q1; exact q1.elim
    | ok ρ2 =>
      rw [hg] at q1
      intro σ2 f2 hw2
      have hw2' : wipe σ2 vs = wipe σ vs := by rw [hw2]; exact wipe_wipe σ vs
      refine ⟨hw2', M.add p, A, ρ2, hΓ, f2, ?_⟩
      have q2 : ((tt ρ2).nox.bind _).post _ (fun _ => False) := q1
      refine noxp (X := fun _ => False) (pimp (post_noxbind q2) (fun t ht H3 f3 g3 e3 => ?_) fun c hc => hc)
      have ne0 : ∀ b, eff k A b → b ≠ p := fun b ⟨_, j, hb⟩ => nA (j, b) hb
      by_cases hb : t.1 = true
      · rw [if_pos hb] at ht
        refine ite_pos hb ⟨M.add p, A, t.2, hΓ, f3, noxp (X := fun _ => False) (pimp (post_noxbind ht) (fun y hy y4 H4 f4 g4 e4 r4 => ?_) fun c hc => hc)⟩
        have g14 : Fra (eff k A) H2 H4 := g3.trans g4
        have hp4 : H4 p = some (.lst acc) := g14 p _ hp1 fun z => ne0 p z rfl
        have mp : (M.add p) p := .inr rfl
        have cc : Carry K H4 (upd H4 p (.lst (acc ++ [y4]))) (M.add p) (M.add p) := Carry.at mp
        have fm := f1.merge (k := k) f4 g14 hv' hw2'
        have fu : Fit K (M.add p) A σ (upd H4 p (.lst (acc ++ [y4]))) (mrg k ρ1 y.2 vs) := ⟨fm.len, fun b mb => by
            by_cases e : b = p
            · subst e; exact ⟨_, upd_same⟩
            · rw [upd_ne e]; exact fm.trk b mb, fm.sub, fm.nd, fun q hq => let ⟨h1, d, h2, h3⟩ := fm.own q hq; ⟨h1, d, h2, h3.carry cc fun o eo => by rw [upd_ne (nA q hq)]; exact eo⟩,
          fun j d ej nj => let ⟨v, h1, h2⟩ := fm.shr j d ej nj; ⟨v, h1, Rp.carry cc h2⟩⟩
        have cr : Carry K H2 H4 (M.add p) (M.add p) := Carry.fra g14 fun b z => f1.has b z.2
        refine ⟨acc, hp4, by omega, by omega, acc ++ [y4], dacc ++ [y.1], mrg k ρ1 y.2 vs, ⟨fu, upd_same, RpAll.carry cc ((RpAll.carry cr ra).append (.one r4))⟩, ?_, ?_, ?_, by rw [List.length_append, List.length_singleton]; omega, ?_⟩
        · intro b o eo nb
          have nbp : b ≠ p := fun e => nb (.inr e)
          rw [upd_ne nbp]
          exact (g14.mono (fun b z => (.inl z : effp k A p b))) b o (fr b o eo nb) nb
        · intro n
          subst n
          exact e1 rfl
        · refine src.carry (M.add p) (M.add p) (M.add p) H2 _ s1 (fun b o eo nb => ?_) (fun b z => z) (fun b z => .inl z)
          have nbp : b ≠ p := fun e => nb (.inr e)
          rw [upd_ne nbp]
          exact g14 b o eo fun z => nb (f1.has b z.2)
        · have hy : ((lcG k vs g tt me (ds.drop (i + 1)) (mrg k ρ1 y.2 vs)).bind fun r => R.ok (y.1 :: r.1, r.2)).post _ (fun _ => False) := hy
          have hy2 := post_bind hy
          cases hl : lcG k vs g tt me (ds.drop (i + 1)) (mrg k ρ1 y.2 vs) with
          | exc c => rw [hl] at hy2; exact hy2.elim
          | no => rw [hl] at hy2; exact hy2.elim
          | ok r =>
            rw [hl] at hy2
            intro H' acc' a1 a2 a3 a4
            rw [List.append_assoc] at a1
            exact hy2 H' acc' a1 a2 a3 a4
      · rw [if_neg hb] at ht
        have g13 : Fra (eff k A) H2 H3 := g3
        have hp3 : H3 p = some (.lst acc) := g13 p _ hp1 fun z => ne0 p z rfl
        have fm := f1.merge (k := k) f3 g13 hv' hw2'
        have cr : Carry K H2 H3 (M.add p) (M.add p) := Carry.fra g13 fun b z => f1.has b z.2
        refine ite_neg hb ⟨by omega, acc, dacc, mrg k ρ1 t.2 vs, ⟨fm, hp3, RpAll.carry cr ra⟩, ?_, ?_, ?_, by omega, ?_⟩
        · exact fr.trans (g13.mono fun b z => .inl z)
        · intro n
          subst n
          exact e1 rfl
        · exact src.carry (M.add p) (M.add p) (eff k A) H2 H3 s1 g13 (fun b z => f1.has b z.2) (fun b z => .inl z)
        · cases hl : lcG k vs g tt me (ds.drop (i + 1)) (mrg k ρ1 t.2 vs) with
          | exc c => rw [hl] at ht; exact ht.elim
          | no => rw [hl] at ht; exact ht.elim
          | ok r => rw [hl] at ht; exact ht
  · have ed : ds.drop i = [] := List.drop_eq_nil_of_le (by omega)
    rw [ed] at q1
    have q1 : ∀ H' acc', Gr K M p A σ H' ρ1 acc' (dacc ++ []) → acc'.length ≤ acc0.length + ds.length → Fra (effp k A p) Hs H' → (k = false → ρ1 = ρ0) → fin H' := q1
    rw [List.append_nil] at q1
    exact .inl ⟨src.stop _ i H1 s1 (by omega), q1 H1 acc gr (by omega) fr e1⟩

/-! ### two clauses -/
def lcG2 (k : Bool) (vs vs1 : List Nat) (g : MG) (tt : MB) (mi1 : MA) (g1 : MG) (tt1 : MB) (me : ME) : Nat → List D → Ev → R (List D × Ev)
  | _, [], ρ => .ok ([], ρ)
  | c, d :: ds, ρ => (g d (wipeE ρ vs)).nox.bind fun ρ1 => (tt ρ1).nox.bind fun t =>
    if t.1 = true then (mi1 t.2).nox.bind fun x => if c + x.1.length ≤ sizeLine then (lcG k vs1 g1 tt1 me x.1 x.2).nox.bind fun r1 => (lcG2 k vs vs1 g tt mi1 g1 tt1 me (c + x.1.length) ds (mrg k ρ r1.2 vs)).bind fun r => .ok (r1.1 ++ r.1, r.2) else .no
    else lcG2 k vs vs1 g tt mi1 g1 tt1 me c ds (mrg k ρ t.2 vs)
def mLc2 (k : Bool) (mi : MA) (vs vs1 : List Nat) (g : MG) (tt : MB) (mi1 : MA) (g1 : MG) (tt1 : MB) (me : ME) : ME := fun ρ => (mi ρ).bind fun x => (lcG2 k vs vs1 g tt mi1 g1 tt1 me 0 x.1 x.2).nox.bind fun r => .ok (.list r.1, r.2)
theorem lc2_turn {K : Fg} {mg : Str → Option Value} {Γ : List Nat} {k : Bool} {E : XK} {mi mi1 : MA} {g g1 : MG} {tt tt1 : MB} {me : ME} {vs vs1 : List Nat} (hv : ∀ i ∈ vs, Γ.contains i = false) (hs : ∀ i ∈ vs1, i ∈ vs) {σ : St} {H : Hp} {Q : VK}
    (h : DTf K mg E k Γ (mLc2 k mi vs vs1 g tt mi1 g1 tt1 me) σ H Q) :
    tLc2 (DTi K mg E k Γ mi) (DTg K Γ vs g) (DTb K mg E0 k Γ tt) (DTi K mg E0 k Γ mi1) (DTg K Γ vs1 g1) (DTb K mg E0 k Γ tt1) (DT K mg E0 k false Γ me) vs vs1 σ H Q := by
  obtain ⟨M, A, ρ, hΓ, f, q⟩ := h
  have hv' : ∀ p ∈ A, p.1 ∉ vs := fun p hp hm => by
    have := hv _ hm
    have hp' : p.1 ∈ Γ := hΓ ▸ List.mem_map.mpr ⟨p, hp, rfl⟩
    rw [List.contains_iff_mem.mpr hp'] at this
    cases this
  have hv1 : ∀ p ∈ A, p.1 ∉ vs1 := fun p hp hm => hv' p hp (hs _ hm)
  refine ⟨M, A, ρ, hΓ, f, pimp (post_bind q) (fun x hx J S H0 f0 g0 e0 src s0 hsz => ?_) fun c hc => hc⟩
  obtain ⟨ds, ρ0⟩ := x
  have src : Src K J ds S := src
  have hx := post_noxbind hx
  intro p np
  have np0 : H p = none := none_back f0 g0 np
  have sp : Same H0 (upd H0 p (.lst [])) := fun b u e => by rw [upd_ne (ne_of_none e np)]; exact e
  have nA : ∀ q ∈ A, q.2 ≠ p := fun q hq e => by
    obtain ⟨o, eo⟩ := f0.trk q.2 (f0.sub q hq)
    rw [e, np] at eo; cases eo
  have ne0 : ∀ b, eff k A b → b ≠ p := fun b ⟨_, j, hb⟩ => nA (j, b) hb
  refine ⟨fun i m H1 => m = ds.length - i ∧ ∃ acc dacc ρ1 c, Gr K M p A σ H1 ρ1 acc dacc ∧ Fra (effp k A p) H0 H1 ∧ (k = false → ρ1 = ρ0) ∧ S (M.add p) H1 ∧ acc.length ≤ c ∧
      (lcG2 k vs vs1 g tt mi1 g1 tt1 me c (ds.drop i) ρ1).nox.post (fun r => ∀ p' H', H p' = none → Fit K (M.add p') A σ H' r.2 → Fra (eff k A) H H' → (k = false → r.2 = ρ) → OwnAt K H' (M.add p') p' (.list (dacc ++ r.1)) → Q (.ref p') H') (fun _ => False),
    ⟨_, rfl, [], [], ρ0, 0, ⟨f0.addM np, upd_same, .nil⟩, (fun b o eo nb => by rw [upd_ne (ne_of_none eo np)]; exact eo), fun _ => rfl, src.carry M (M.add p) (fun _ => False) H0 (upd H0 p (.lst [])) s0 (Fra.of_same sp) (fun _ z => z.elim) (fun b z => z.elim .inl fun e => .inr (by rw [e]; exact np)), Nat.le_refl _, by
      rw [List.drop_zero]
      exact pimp hx (fun r hr p' H' np' f' g' e' o' => hr p' H' np' f' g' e' o') fun c hc => hc⟩, ?_⟩
  rintro i m H1 ⟨em, acc, dacc, ρ1, c, gr, fr, e1, s1, hal, q1⟩
  have f1 := gr.fit
  have hp1 := gr.at_
  have ra := gr.rp
  by_cases hi : i < ds.length
  · obtain ⟨d, hd⟩ : ∃ d, ds[i]? = some d := ⟨_, List.getElem?_eq_getElem hi⟩
    have ed : ds.drop i = d :: ds.drop (i + 1) := by
      rw [List.drop_eq_getElem_cons hi]
      rw [List.getElem?_eq_getElem hi] at hd
      rw [Option.some.inj hd]
    rw [ed] at q1
    refine .inr ⟨src.go _ i H1 s1 hi, fun H2 => ∃ acc dacc ρ1 c, Gr K M p A σ H2 ρ1 acc dacc ∧ Fra (effp k A p) H0 H2 ∧ (k = false → ρ1 = ρ0) ∧ S (M.add p) H2 ∧ acc.length ≤ c ∧
      (lcG2 k vs vs1 g tt mi1 g1 tt1 me c (ds.drop (i + 1)) ρ1).nox.post (fun r => ∀ p' H', H p' = none → Fit K (M.add p') A σ H' r.2 → Fra (eff k A) H H' → (k = false → r.2 = ρ) → OwnAt K H' (M.add p') p' (.list (dacc ++ r.1)) → Q (.ref p') H') (fun _ => False), fun H2 h => ⟨ds.length - (i + 1), by omega, rfl, h⟩, fun x H2 hy => ?_⟩
    obtain ⟨rfl, d', hd', rx⟩ := src.yld _ i H1 x H2 s1 hi hy
    rw [hd] at hd'
    cases hd'
    have q1 := (show ((g d (wipeE ρ1 vs)).nox.bind _).post _ _ from by
      have e : (lcG2 k vs vs1 g tt mi1 g1 tt1 me c (d :: ds.drop (i + 1)) ρ1) = ((g d (wipeE ρ1 vs)).nox.bind fun ρ1' => (tt ρ1').nox.bind fun t =>
        if t.1 = true then (mi1 t.2).nox.bind fun x => if c + x.1.length ≤ sizeLine then (lcG k vs1 g1 tt1 me x.1 x.2).nox.bind fun r1 => (lcG2 k vs vs1 g tt mi1 g1 tt1 me (c + x.1.length) (ds.drop (i + 1)) (mrg k ρ1 r1.2 vs)).bind fun r => .ok (r1.1 ++ r.1, r.2) else .no
        else lcG2 k vs vs1 g tt mi1 g1 tt1 me c (ds.drop (i + 1)) (mrg k ρ1 t.2 vs)) := rfl
      rw [e] at q1
      have : ∀ {m : R (List D × Ev)} {P : List D × Ev → Prop}, m.nox.post P (fun _ => False) → m.post P (fun _ => False) := fun h => post_nox h
      exact this q1)
    have wp := f1.wipe hv'
    refine ⟨M.add p, A, wipeE ρ1 vs, d, hΓ, wp, rx, ?_⟩
    cases hg : g d (wipeE ρ1 vs) with
    | exc c => rw [hg] at q1; exact q1.elim
    | no => rw [hg] at q1; exact q1.elim
    | ok ρ2 =>
      rw [hg] at q1
      intro σ2 f2 hw2
      have hw2' : wipe σ2 vs = wipe σ vs := by rw [hw2]; exact wipe_wipe σ vs
      refine ⟨hw2', M.add p, A, ρ2, hΓ, f2, ?_⟩
      have q2 : ((tt ρ2).nox.bind _).post _ (fun _ => False) := q1
      refine noxp (X := fun _ => False) (pimp (post_noxbind q2) (fun t ht H3 f3 g3 e3 => ?_) fun c hc => hc)
      by_cases hb : t.1 = true
      · rw [if_pos hb] at ht
        refine ite_pos hb ⟨M.add p, A, t.2, hΓ, f3, noxp (X := fun _ => False) (pimp (post_noxbind ht) (fun y hy J1 S1 H4 f4 g4 e4 src1 s4 _ => ?_) fun c hc => hc)⟩
        obtain ⟨ds1, ρ4⟩ := y
        have src1 : Src K J1 ds1 S1 := src1
        by_cases hcl : c + ds1.length ≤ sizeLine
        · have hy : (if c + ds1.length ≤ sizeLine then (lcG k vs1 g1 tt1 me ds1 ρ4).nox.bind fun r1 => (lcG2 k vs vs1 g tt mi1 g1 tt1 me (c + ds1.length) (ds.drop (i + 1)) (mrg k ρ1 r1.2 vs)).bind fun r => R.ok (r1.1 ++ r.1, r.2) else .no).post _ (fun _ => False) := hy
          rw [if_pos hcl] at hy
          have g14 : Fra (eff k A) H2 H4 := g3.trans g4
          have hp4 : H4 p = some (.lst acc) := g14 p _ hp1 fun z => ne0 p z rfl
          have cr : Carry K H2 H4 (M.add p) (M.add p) := Carry.fra g14 fun b z => f1.has b z.2
          refine lc_loop (M := M) (A := A) (acc0 := acc) (dacc0 := dacc) (ρ0 := ρ4) hΓ hv1 src1 nA _ ⟨f4, hp4, RpAll.carry cr ra⟩ s4 (by omega) ?_
          have hy2 := post_noxbind hy
          cases hl1 : lcG k vs1 g1 tt1 me ds1 ρ4 with
          | exc c => rw [hl1] at hy2; exact hy2.elim
          | no => rw [hl1] at hy2; exact hy2.elim
          | ok r1 =>
            rw [hl1] at hy2
            intro H5 acc5 gr5 hl5 fr5 e5
            have g15 : Fra (effp k A p) H2 H5 := (g14.mono (fun b z => (.inl z : effp k A p b))).trans fr5
            refine ⟨acc5, dacc ++ r1.1, mrg k ρ1 r1.2 vs, c + ds1.length, ⟨f1.merge2 gr5.fit g15 (effp_sub f1) (fun n q hq z => ?_) hv' hw2', gr5.at_, gr5.rp⟩, fr.trans g15, fun n => ?_, src.carry (M.add p) (M.add p) (effp k A p) H2 H5 s1 g15 (effp_sub f1) (fun b z => .inl z), by omega, ?_⟩
            · rcases z with z | z
              · rw [n] at z; exact Bool.noConfusion z.1
              · exact nA q hq z
            · subst n; exact e1 rfl
            · have hy3 := post_bind hy2
              cases hl : lcG2 k vs vs1 g tt mi1 g1 tt1 me (c + ds1.length) (ds.drop (i + 1)) (mrg k ρ1 r1.2 vs) with
              | exc c => rw [hl] at hy3; exact hy3.elim
              | no => rw [hl] at hy3; exact hy3.elim
              | ok r =>
                rw [hl] at hy3
                intro p' H' a1 a2 a3 a4 a5
                rw [List.append_assoc] at a5
                exact hy3 p' H' a1 a2 a3 a4 a5
        · have hy : (if c + ds1.length ≤ sizeLine then (lcG k vs1 g1 tt1 me ds1 ρ4).nox.bind fun r1 => (lcG2 k vs vs1 g tt mi1 g1 tt1 me (c + ds1.length) (ds.drop (i + 1)) (mrg k ρ1 r1.2 vs)).bind fun r => R.ok (r1.1 ++ r.1, r.2) else .no).post _ (fun _ => False) := hy
          rw [if_neg hcl] at hy
          exact hy.elim
      · rw [if_neg hb] at ht
        have g13 : Fra (eff k A) H2 H3 := g3
        have hp3 : H3 p = some (.lst acc) := g13 p _ hp1 fun z => ne0 p z rfl
        have fm := f1.merge (k := k) f3 g13 hv' hw2'
        have cr : Carry K H2 H3 (M.add p) (M.add p) := Carry.fra g13 fun b z => f1.has b z.2
        refine ite_neg hb ⟨acc, dacc, mrg k ρ1 t.2 vs, c, ⟨fm, hp3, RpAll.carry cr ra⟩, fr.trans (g13.mono fun b z => .inl z), ?_, ?_, hal, ?_⟩
        · intro n
          subst n
          exact e1 rfl
        · exact src.carry (M.add p) (M.add p) (eff k A) H2 H3 s1 g13 (fun b z => f1.has b z.2) (fun b z => .inl z)
        · cases hl : lcG2 k vs vs1 g tt mi1 g1 tt1 me c (ds.drop (i + 1)) (mrg k ρ1 t.2 vs) with
          | exc c => rw [hl] at ht; exact ht.elim
          | no => rw [hl] at ht; exact ht.elim
          | ok r => rw [hl] at ht; exact ht
  · have ed : ds.drop i = [] := List.drop_eq_nil_of_le (by omega)
    rw [ed] at q1
    have q1 : ∀ p' H', H p' = none → Fit K (M.add p') A σ H' ρ1 → Fra (eff k A) H H' → (k = false → ρ1 = ρ) → OwnAt K H' (M.add p') p' (.list (dacc ++ [])) → Q (.ref p') H' := q1
    rw [List.append_nil] at q1
    have fr0 : Fra (eff k A) H0 H1 := fun b o eo nb => fr b o eo fun z => z.elim nb fun e => by rw [e, np] at eo; cases eo
    exact .inl ⟨src.stop _ i H1 s1 (by omega), q1 p H1 np0 f1 (g0.trans fr0) (fun n => (e1 n).trans (e0 n)) (.lst hp1 ra)⟩
section
variable {X : Cx} {E : XK} {k r : Bool} {Γ : List Nat} {a b c e tg elt iter tg1 iter1 : Expr} {es ifs ifs1 : List Expr} {pos : Pos}
abbrev Blk (X : Cx) (scope : Scope) (P : Cx → Prop) : Prop := ∀ (s : Shared) (H : Hp) (C : Addr) (cl : List (Str × Addr)) (fp : List Addr), P (X.blk s H scope (compEnvC scope cl C X.env) fp)
theorem df_lc2 {scope : Scope} {own : List (Str × Nat)} {vs1 : List Nat} {mi mi1 : MA} {g g1 : MG} {tt tt1 : MB} {me : ME} (hc : X.calm = true) (hN : X.N.Nodup) (hi : DI X E k Γ tg iter mi) (ok : BlkOk X.N X.env.scope scope own)
    (hg : Blk X scope fun Y => DG Y Γ (slots own) tg g) (ht : Blk X scope fun Y => DBs Y E0 k Γ ifs tt) (hi1 : Blk X scope fun Y => DI Y E0 k Γ tg1 iter1 mi1) (hg1 : Blk X scope fun Y => DG Y Γ vs1 tg1 g1) (ht1 : Blk X scope fun Y => DBs Y E0 k Γ ifs1 tt1)
    (he : Blk X scope fun Y => DE Y E0 k false Γ elt me) (hv : (slots own).all (fun i => !Γ.contains i) = true := by decide) (hv1 : ∀ i ∈ vs1, i ∈ slots own := by decide) (hs : ∀ x, foldedSetIterable iter X.env x = pure x := by intro _; rfl) (hs1 : ∀ env x, foldedSetIterable iter1 env x = pure x := by intro _ _; rfl) :
    DF X E k Γ (.ListComp elt [⟨tg, iter, ifs, 0⟩, ⟨tg1, iter1, ifs1, 0⟩] scope pos) (mLc2 k mi (slots own) vs1 g tt mi1 g1 tt1 me) :=
  PE.imp (pe_lc2 (wi := DTi X.K X.mg E k Γ mi) (g := DTg X.K Γ (slots own) g) (tt := DTb X.K X.mg E0 k Γ tt) (wi1 := DTi X.K X.mg E0 k Γ mi1) (g1 := DTg X.K Γ vs1 g1) (tt1 := DTb X.K X.mg E0 k Γ tt1) (te := DT X.K X.mg E0 k false Γ me) hc hN hi ok hv1 hg ht hi1 hg1 ht1 he hs hs1)
    fun σ H Q h => lc2_turn (fun i hi => by have := List.all_eq_true.mp hv i hi; simpa using this) hv1 h
theorem ps_lcF2 {i : Nat} {y : Str} {py spos : Pos} {scope : Scope} {own : List (Str × Nat)} {vs1 : List Nat} {mi mi1 : MA} {g g1 : MG} {tt tt1 : MB} {me : ME} (hc : X.calm = true) (hN : X.N.Nodup) (hy : X.N[i]? = some y) (hyl : X.env.scope.names.lookup y = some .local)
    (hsw : swapsWith (.ListComp elt [⟨tg, iter, ifs, 0⟩, ⟨tg1, iter1, ifs1, 0⟩] scope pos) (some (.Name y py)) spos.line X.env = pure true) (hi : DI X E k Γ tg iter mi) (ok : BlkOk X.N X.env.scope scope own)
    (hg : Blk X scope fun Y => DG Y Γ (slots own) tg g) (ht : Blk X scope fun Y => DBs Y E0 k Γ ifs tt) (hi1 : Blk X scope fun Y => DI Y E0 k Γ tg1 iter1 mi1) (hg1 : Blk X scope fun Y => DG Y Γ vs1 tg1 g1) (ht1 : Blk X scope fun Y => DBs Y E0 k Γ ifs1 tt1)
    (he : Blk X scope fun Y => DE Y E0 k false Γ elt me) (hv : (slots own).all (fun i => !Γ.contains i) = true := by decide) (hv1 : ∀ i ∈ vs1, i ∈ slots own := by decide) (hs : ∀ x, foldedSetIterable iter X.env x = pure x := by intro _; rfl) (hs1 : ∀ env x, foldedSetIterable iter1 env x = pure x := by intro _ _; rfl) :
    PS X (.Assign [.Name y py] (.ListComp elt [⟨tg, iter, ifs, 0⟩, ⟨tg1, iter1, ifs1, 0⟩] scope pos) spos) (tAsg (DTf X.K X.mg E k Γ (mLc2 k mi (slots own) vs1 g tt mi1 g1 tt1 me)) (gName i)) :=
  PS.imp (ps_setLc2 (i := i) (wi := DTi X.K X.mg E k Γ mi) (g := DTg X.K Γ (slots own) g) (tt := DTb X.K X.mg E0 k Γ tt) (wi1 := DTi X.K X.mg E0 k Γ mi1) (g1 := DTg X.K Γ vs1 g1) (tt1 := DTb X.K X.mg E0 k Γ tt1) (te := DT X.K X.mg E0 k false Γ me) hc hN hy hyl hsw hi ok hv1 hg ht hi1 hg1 ht1 he hs hs1)
    fun D σ H h => lc2_turn (fun i hi => by have := List.all_eq_true.mp hv i hi; simpa using this) hv1 h
end
end Dt

set_option Elab.async false
set_option linter.all false
set_option maxRecDepth 100000
set_option autoImplicit false
/-! A dict walked: locked meanwhile. -/
namespace Dt
open PySem PySem.Spec PyProof.Rows L2 R

def NFb (b : Bool) : HO → Bool
  | .frz _ _ => false
  | .dK _ => !b
  | .dT _ => !b
  | _ => true
structure Mv (b : Bool) (H H' : Hp) (M M' : Av) : Prop where
  rd : ∀ a u, Rd H a u → ¬ M a → NFb b u = true → Rd H' a u ∧ ¬ M' a
  tp : ∀ a xs, Tp H a xs → ¬ M a → Tp H' a xs ∧ ¬ M' a
section
variable {K : Fg} {H H' : Hp} {M M' : Av} {b : Bool}
mutual
theorem Rp.mv (c : Mv b H H' M M') : ∀ {v : V} {d : D}, Rp K H M v d → (b = true → d.plain = true) → Rp K H' M' v d
  | _, _, .non, _ => .non
  | _, _, .bl b, _ => .bl b
  | _, _, .int i, _ => .int i
  | _, _, .str x, _ => .str x
  | _, _, .lst h r, p => .lst (c.rd _ _ h.1 h.2 rfl) (RpAll.mv c r p)
  | _, _, .tup h r, p => .tup (h.imp (fun z => c.tp _ _ z.1 z.2) id) (RpAll.mv c r p)
  | _, _, .dcK h n r, p =>
    have hb : b = false := Bool.eq_false_iff.mpr fun z => Bool.noConfusion (p z)
    have nf : ∀ kvs, NFb b (.dK kvs) = true := fun _ => by rw [hb]; rfl
    .dcK (c.rd _ _ h n (nf _)).1 (c.rd _ _ h n (nf _)).2 (RpK.mv c hb r)
  | _, _, .dcT h n r, p =>
    have hb : b = false := Bool.eq_false_iff.mpr fun z => Bool.noConfusion (p z)
    have nf : ∀ kvs, NFb b (.dT kvs) = true := fun _ => by rw [hb]; rfl
    .dcT (c.rd _ _ h n (nf _)).1 (c.rd _ _ h n (nf _)).2 (RpT.mv c hb r)
  | _, _, .scr h, _ => .scr (h.imp (fun z => c.rd _ _ z.1 z.2 rfl) id)
theorem RpAll.mv (c : Mv b H H' M M') : ∀ {xs : List V} {ds : List D}, RpAll K H M xs ds → (b = true → PyData.plainAll ds = true) → RpAll K H' M' xs ds
  | _, _, .nil, _ => .nil
  | _, _, .cons h r, p => .cons (Rp.mv c h fun z => (Bool.and_eq_true_iff.mp (p z)).1) (RpAll.mv c r fun z => (Bool.and_eq_true_iff.mp (p z)).2)
theorem RpK.mv (c : Mv b H H' M M') (hb : b = false) : ∀ {kvs : List (Key × V)} {es : List (D × D)}, RpK K H M kvs es → RpK K H' M' kvs es
  | _, _, .nil => .nil
  | _, _, .cons h r => .cons (Rp.mv c h fun z => Bool.noConfusion (hb.symm.trans z)) (RpK.mv c hb r)
theorem RpT.mv (c : Mv b H H' M M') (hb : b = false) : ∀ {kvs : List (List Key × V)} {es : List (D × D)}, RpT K H M kvs es → RpT K H' M' kvs es
  | _, _, .nil => .nil
  | _, _, .cons h r => .cons (Rp.mv c h fun z => Bool.noConfusion (hb.symm.trans z)) (RpT.mv c hb r)
end
theorem OwnAt.mv {a : Addr} {d : D} (h : OwnAt K H M a d) (c : Mv false H H' M M') (e : ∀ o, H a = some o → H' a = some o) : OwnAt K H' M' a d := by
  cases h with
  | lst h r => exact .lst (e _ h) (RpAll.mv c r fun z => Bool.noConfusion z)
  | dcK h r => exact .dcK (e _ h) (RpK.mv c rfl r)
  | dcT h r => exact .dcT (e _ h) (RpT.mv c rfl r)
theorem OwnAt.nofrz {a : Addr} {d : D} {o : Obj} {u : HO} (h : OwnAt K H M a d) (e : H a = some (.frz o u)) : False := by
  cases h with
  | lst h _ => rw [h] at e; cases e
  | dcK h _ => rw [h] at e; cases e
  | dcT h _ => rw [h] at e; cases e
variable {A : As} {σ : St} {ρ : Ev} {d : Addr} {o : Obj} {u0 : HO}
/-- unlocking -/
theorem nf_lk {u : HO} (h : Lkb u = true) : NFb true u = false := by
  cases u <;> first | rfl | cases h
theorem Mv.un (hL : Lkb u0 = true) (e : H d = some (.frz o u0)) : Mv false H (upd H d u0) M M := ⟨fun a u r n f => by
  refine ⟨?_, n⟩
  by_cases ea : a = d
  · subst ea
    rcases r with r | ⟨o', r⟩
    · rw [e] at r; cases r; cases f
    · rw [e] at r; cases r; exact .inl upd_same
  · rcases r with r | ⟨o', r⟩
    · exact .inl (by rw [upd_ne ea]; exact r)
    · exact .inr ⟨o', by rw [upd_ne ea]; exact r⟩, fun a xs ⟨o', r, hd⟩ n => by
  refine ⟨⟨o', ?_, hd⟩, n⟩
  rw [upd_ne (fun ea => by rw [ea, e] at r; cases r; cases hL)]; exact r⟩
theorem Mv.unO (hL : Lkb u0 = true) (e : H d = some (.frz o u0)) : Mv true H (upd H d u0) (fun b => M b ∧ b ≠ d) M := ⟨fun a u r n f => by
  by_cases ea : a = d
  · subst ea
    rcases r with r | ⟨o', r⟩
    · rw [e] at r; cases r; cases f
    · rw [e] at r; cases r; rw [nf_lk hL] at f; cases f
  · refine ⟨?_, fun m => n ⟨m, ea⟩⟩
    rcases r with r | ⟨o', r⟩
    · exact .inl (by rw [upd_ne ea]; exact r)
    · exact .inr ⟨o', by rw [upd_ne ea]; exact r⟩, fun a xs ⟨o', r, hd⟩ n => by
  have ea : a ≠ d := fun ea => by rw [ea, e] at r; cases r; cases hL
  exact ⟨⟨o', by rw [upd_ne ea]; exact r, hd⟩, fun m => n ⟨m, ea⟩⟩⟩
/-- locking -/
theorem Carry.lock (hL : Lkb u0 = true) (e : H d = some u0) : Carry K H (upd H d (.frz o u0)) M M := ⟨fun a u r n => by
  refine ⟨?_, n⟩
  by_cases ea : a = d
  · subst ea
    rw [e] at r; cases r; exact .inr ⟨o, hL, upd_same⟩
  · exact .inl (by rw [upd_ne ea]; exact r)⟩
theorem trk_upd {o : HO} (tk : Trk M H) : Trk M (upd H d o) := fun b m => by
  by_cases e : b = d
  · subst e; exact ⟨_, upd_same⟩
  · rw [upd_ne e]; exact tk b m
theorem Fit.lock (hL : Lkb u0 = true) (f : Fit K M A σ H ρ) (e : H d = some u0) (n : ¬ M d) : Fit K M A σ (upd H d (.frz o u0)) ρ where
  len := f.len
  trk := trk_upd f.trk
  sub := f.sub
  nd := f.nd
  own := fun p hp => let ⟨h1, d', h2, h3⟩ := f.own p hp; ⟨h1, d', h2, h3.carry (Carry.lock hL e) fun o' eo => by rw [upd_ne (fun z => n (by rw [← z]; exact f.sub p hp))]; exact eo⟩
  shr := fun i d' e' n' => let ⟨v, h1, h2⟩ := f.shr i d' e' n'; ⟨v, h1, Rp.carry (Carry.lock hL e) h2⟩
theorem Fit.unlk (hL : Lkb u0 = true) (f : Fit K M A σ H ρ) (e : H d = some (.frz o u0)) : Fit K M A σ (upd H d u0) ρ where
  len := f.len
  trk := trk_upd f.trk
  sub := f.sub
  nd := f.nd
  own := fun p hp => let ⟨h1, d', h2, h3⟩ := f.own p hp; ⟨h1, d', h2, h3.mv (Mv.un hL e) fun o' eo => by rw [upd_ne (fun z => h3.nofrz (by rw [z]; exact e))]; exact eo⟩
  shr := fun i d' e' n' => let ⟨v, h1, h2⟩ := f.shr i d' e' n'; ⟨v, h1, Rp.mv (Mv.un hL e) h2 fun z => Bool.noConfusion z⟩
theorem Fra.unlk {F : Av} {H1 : Hp} (g : Fra F (upd H d (.frz o u0)) H1) (e : H d = some u0) : Fra F H (upd H1 d u0) := fun b u eb n => by
  by_cases z : b = d
  · subst z; rw [e] at eb; cases eb; exact upd_same
  · rw [upd_ne z]; exact g b u (by rw [upd_ne z]; exact eb) n
end

def FrzAt (j : Nat) (σ : St) (H : Hp) : Prop := ∃ (d : Addr) (o : Obj) (kvs : List (Key × V)), σ[j]? = some (some (.ref d)) ∧ H d = some (.frz o (.dK kvs))
def keysD (es : List (D × D)) : List D := es.map (·.1)
def iKy (j : Nat) : MA := fun ρ => (R.opt (asK (getv ρ j))).bind fun es => if es.length ≤ sizeLine then .ok (keysD es, ρ) else .no
theorem PS.or {X : Cx} {st : Stmt} {t1 t2 : TS} (h1 : PS X st t1) (h2 : PS X st t2) : PS X st (fun D σ H => t1 D σ H ∨ t2 D σ H) := ⟨fun pins s σ H D I q => q.elim (h1.run pins s σ H D I) (h2.run pins s σ H D I)⟩
theorem PE.or {X : Cx} {e : Expr} {t1 t2 : TE} (h1 : PE X e t1) (h2 : PE X e t2) : PE X e (fun σ H Q => t1 σ H Q ∨ t2 σ H Q) := ⟨fun pins s σ H Q I q => q.elim (h1.run pins s σ H Q I) (h2.run pins s σ H Q I)⟩
theorem rpK_keyAt {K : Fg} {H : Hp} {M : Av} : ∀ {kvs : List (Key × V)} {es : List (D × D)} {i : Nat} {k : Key} {v : V}, RpK K H M kvs es → kvs[i]? = some (k, v) → (keysD es)[i]? = some (kD k)
  | _, _, 0, _, _, .cons _ _, e => by cases e; rfl
  | _, _, i + 1, _, _, .cons _ r, e => rpK_keyAt (i := i) r e
theorem rp_key {K : Fg} {H : Hp} {M : Av} (k : Key) : Rp K H M (kV k) (kD k) := by
  cases k with
  | inl i => exact .int i
  | inr x => exact .str x
theorem src_keys {K : Fg} (d : Addr) (o : Obj) (kvs : List (Key × V)) (es : List (D × D)) (hl : kvs.length = es.length) (hk : ∀ (i : Nat) (k : Key) (v : V), kvs[i]? = some (k, v) → (keysD es)[i]? = some (kD k)) :
    Src K (Itk d o kvs) (keysD es) (fun M H => H d = some (.frz o (.dK kvs)) ∧ ¬ M d) where
  carry := fun M M' F H H' ⟨h1, h2⟩ g hF hM => ⟨g d _ h1 fun z => h2 (hF d z), fun z => (hM d z).elim h2 fun e => by rw [h1] at e; cases e⟩
  go := fun M i H ⟨h1, h2⟩ hi => ⟨h1, by rw [hl]; simpa [keysD] using hi⟩
  stop := fun M i H ⟨h1, h2⟩ hi => ⟨h1, by rw [hl]; simpa [keysD] using hi⟩
  yld := fun M i H x H' ⟨h1, h2⟩ _ ⟨e, k, v, hx, ex⟩ => ⟨e, kD k, hk i k v hx, by rw [ex]; exact rp_key k⟩
section
variable {X : Cx} {E : XK} {k r : Bool} {Γ0 Γ Γ' Γl vs : List Nat} {a b c e tg o : Expr} {es : List Expr} {pos : Pos} {st : Stmt}
theorem di_keys {j : Nat} (hp : PE X o (tVar j)) (hj : Γ.contains j = false) : PI X tg o (fun σ H R => FrzAt j σ H ∧ DTi X.K X.mg E k Γ (iKy j) σ H R) :=
  PI.imp (pi_keys hp) fun σ H R ⟨fz, M, A, ρ, hΓ, f, q⟩ => by
    obtain ⟨es, ees, q⟩ := post_opt q
    obtain ⟨d, ob, kvs, e1, e2⟩ := fz
    cases hg : getv ρ j with
    | none => rw [hg] at ees; cases ees
    | some x =>
      rw [hg] at ees
      obtain ⟨ex, fl⟩ := asDict_some ees
      rw [ex] at hg
      obtain ⟨v, ev, rv⟩ := f.shr j _ (getv_some hg) (not_own hΓ hj)
      rw [e1] at ev
      cases ev
      obtain ⟨d', kvs', ed, rd, nd, rk⟩ := Rp.dict rv fl
      cases ed
      have ek : kvs' = kvs := by
        rcases rd with rd | ⟨o', rd⟩
        · rw [e2] at rd; cases rd
        · rw [e2] at rd; cases rd; rfl
      subst ek
      by_cases hl : es.length ≤ sizeLine
      · rw [if_pos hl] at q
        exact ⟨.ref d, e1, d, ob, rfl, .inl ⟨kvs', e2, q _ _ H f Fra.refl (fun _ => rfl) (src_keys d ob kvs' es (rpK_length rk) fun i k v h => rpK_keyAt rk h) ⟨e2, nd⟩ (by simpa [keysD] using hl)⟩⟩
      · rw [if_neg hl] at q; exact q.elim
/-! ### statements -/
def sLk (j : Nat) (m : MS) : MS := fun ρ => (R.opt (asK (getv ρ j))).bind fun _ => (m ρ).nox
theorem slot_dict {K : Fg} {M : Av} {A : As} {σ : St} {H : Hp} {ρ : Ev} {Γ : List Nat} {j : Nat} {es : List (D × D)} (hΓ : A.map (·.1) = Γ) (f : Fit K M A σ H ρ) (hj : Γ.contains j = false) (ees : asK (getv ρ j) = some es) :
    ∃ d kvs, σ[j]? = some (some (.ref d)) ∧ Rd H d (.dK kvs) ∧ ¬ M d ∧ RpK K H M kvs es := by
  cases hg : getv ρ j with
  | none => rw [hg] at ees; cases ees
  | some x =>
    rw [hg] at ees
    obtain ⟨ex, fl⟩ := asDict_some ees
    rw [ex] at hg
    obtain ⟨v, ev, rv⟩ := f.shr j _ (getv_some hg) (not_own hΓ hj)
    obtain ⟨d', kvs', ed, rd, nd, rk⟩ := Rp.dict rv fl
    subst ed
    exact ⟨d', kvs', ev, rd, nd, rk⟩
theorem ds_lockS {j : Nat} {m : MS} (h : PS X st (fun D σ H => FrzAt j σ H ∧ DTs X.K X.mg E Γ0 Γ Γ' Γl m D σ H)) (hj : (Γ ++ Γ0).contains j = false) : DS X E Γ0 Γ Γ' Γl st (sLk j m) :=
  PS.imp (PS.or h (ps_lock h)) fun D σ H ⟨M0, B, A0, ρ, hB, hA, dj, f, q⟩ => by
    have hΓ : (B ++ A0).map (·.1) = Γ ++ Γ0 := by rw [List.map_append, hB, hA]
    obtain ⟨es, ees, q⟩ := post_opt q
    obtain ⟨d, kvs, ev, rd, nd, rk⟩ := slot_dict hΓ f hj ees
    have q : (m ρ).nox.post _ _ := q
    rcases rd with rd | ⟨o', rd⟩
    · refine .inr ⟨d, .dK kvs, rd, True.intro, fun od => ⟨⟨d, od, kvs, ev, upd_same⟩, M0, B, A0, ρ, hB, hA, dj, Fit.lock rfl f rd nd, ?_⟩⟩
      have nh : ¬ As.has (B ++ A0) d := fun z => nd (.inr z)
      cases hm : m ρ with
      | exc c => rw [hm] at q; exact q.elim
      | no => rw [hm] at q; exact q.elim
      | ok z =>
        rw [hm] at q
        obtain ⟨fl, ρ'⟩ := z
        have stp : ∀ {B' : As} {H' : Hp}, Stp B A0 B' (upd H d (.frz od (.dK kvs))) H' → H' d = some (.frz od (.dK kvs)) ∧ Stp B A0 B' H (upd H' d (.dK kvs)) := fun s => by
          refine ⟨s.fra d _ upd_same nh, s.fra.unlk rd, fun p hp => (s.new p hp).imp id fun e => ?_⟩
          by_cases z : p.2 = d
          · rw [z, upd_same] at e; cases e
          · rw [upd_ne z] at e; exact e
        cases fl with
        | nx => exact fun σ' H' B' e s f' => let ⟨e1, s1⟩ := stp s; ⟨e1, q σ' _ B' e s1 (Fit.unlk rfl f' e1)⟩
        | bk => exact fun σ' H' B' e s f' => let ⟨e1, s1⟩ := stp s; ⟨e1, q σ' _ B' e s1 (Fit.unlk rfl f' e1)⟩
        | ct => exact fun σ' H' B' e s f' => let ⟨e1, s1⟩ := stp s; ⟨e1, q σ' _ B' e s1 (Fit.unlk rfl f' e1)⟩
        | rt d2 =>
          intro v H' g r ow
          have e1 : H' d = some (.frz od (.dK kvs)) := g d _ upd_same nh
          refine ⟨e1, q v _ (g.unlk rd) (Rp.mv (Mv.un rfl e1) r fun z => Bool.noConfusion z) fun p hp => ?_⟩
          obtain ⟨d', h1, h2⟩ := ow p hp
          exact ⟨d', h1, h2.mv (Mv.un rfl e1) fun o eo => by rw [upd_ne (fun z => h2.nofrz (by rw [z]; exact e1))]; exact eo⟩
    · exact .inl ⟨⟨d, o', kvs, ev, rd⟩, M0, B, A0, ρ, hB, hA, dj, f, post_nox q⟩
/-- for x in d -/
theorem ds_forK {j : Nat} {iter : Expr} {body : List Stmt} {g : MG} {mb : MS} (hp : PassesOwn (model X.prog X.w) X.A X.env X.xe) (hc : X.calm = true) (hi : PE X iter (tVar j)) (hg : DG X (Γ ++ Γ0) vs tg g) (hb : DSs X E Γ0 Γ Γ Γ body mb) (hj : (Γ ++ Γ0).contains j = false := by decide)
    (hs : ∀ x, foldedSetIterable iter X.env x = pure x := by intro _; rfl) : DS X E Γ0 Γ Γ Γl (.For tg iter body [] pos) (sLk j (sForE (iKy j) g mb)) :=
  ds_lockS (PS.imp (ps_for hp hc (di_keys (E := E) (k := false) hi hj) hg hb hs) fun D σ H h => ⟨h.1, for_turn h.2⟩) hj
/-! ### comprehensions -/
def mLk (j : Nat) (m : ME) : ME := fun ρ => (R.opt (asK (getv ρ j))).bind fun _ => (m ρ).nox
theorem lock_turn {K : Fg} {mg : Str → Option Value} {j : Nat} {m : ME} {σ : St} {H : Hp} {Q : VK} (hj : Γ.contains j = false) (h : DTf K mg E k Γ (mLk j m) σ H Q) :
    (FrzAt j σ H ∧ DTf K mg E k Γ m σ H Q) ∨ tLockE (fun σ H Q => FrzAt j σ H ∧ DTf K mg E k Γ m σ H Q) σ H Q := by
  obtain ⟨M, A, ρ, hΓ, f, q⟩ := h
  obtain ⟨es, ees, q⟩ := post_opt q
  obtain ⟨d, kvs, ev, rd, nd, rk⟩ := slot_dict hΓ f hj ees
  have q : (m ρ).nox.post _ _ := q
  rcases rd with rd | ⟨o', rd⟩
  · refine .inr ⟨d, .dK kvs, rd, True.intro, fun od => ⟨⟨d, od, kvs, ev, upd_same⟩, M, A, ρ, hΓ, Fit.lock rfl f rd nd, ?_⟩⟩
    have nh : ¬ eff k A d := fun z => nd (f.has d z.2)
    cases hm : m ρ with
    | exc c => rw [hm] at q; exact q.elim
    | no => rw [hm] at q; exact q.elim
    | ok z =>
      rw [hm] at q
      intro p H' np f' g e1 ow
      have ed : H' d = some (.frz od (.dK kvs)) := g d _ upd_same nh
      have np0 : H p = none := by
        by_cases z : p = d
        · rw [z, upd_same] at np; cases np
        · rw [upd_ne z] at np; exact np
      exact ⟨ed, q p _ np0 (Fit.unlk rfl f' ed) (g.unlk rd) e1 (ow.mv (Mv.un rfl ed) fun o eo => by rw [upd_ne (fun z => ow.nofrz (by rw [z]; exact ed))]; exact eo)⟩
  · exact .inl ⟨⟨d, o', kvs, ev, rd⟩, M, A, ρ, hΓ, f, post_nox q⟩
/-- .. over an own dict: what comes has no dict -/
def mLkO (j : Nat) (m : ME) : ME := fun ρ => (R.opt (asK (getv ρ j))).bind fun _ => (m ρ).nox.bind fun z => if z.1.plain then .ok z else .no
theorem lockO_turn {K : Fg} {mg : Str → Option Value} {j : Nat} {m : ME} {σ : St} {H : Hp} {Q : VK} (hj : Γ.contains j = true) (hΓ' : Γ' = Γ.filter (fun i => !(i == j))) (h : DT K mg E false false Γ (mLkO j m) σ H Q) :
    tLockE (fun σ H Q => FrzAt j σ H ∧ DTf K mg E false Γ' m σ H Q) σ H Q := by
  obtain ⟨M, A, ρ, hΓ, f, q⟩ := h
  obtain ⟨es, ees, q⟩ := post_opt q
  obtain ⟨d, kvs, ia, ev, hd, rk⟩ := f.ownD hΓ hj ees
  have md : M d := f.sub _ ia
  refine ⟨d, .dK kvs, hd, True.intro, fun od => ⟨⟨d, od, kvs, ev, upd_same⟩, (fun b => M b ∧ b ≠ d), A.filter (fun q => !(q.1 == j)), ρ, ?_, ?_, ?_⟩⟩
  · rw [hΓ', ← hΓ, List.filter_map]; rfl
  · have ne : ∀ q ∈ A.filter (fun q => !(q.1 == j)), q.2 ≠ d ∧ q ∈ A := fun q hq => by
      obtain ⟨h1, h2⟩ := List.mem_filter.mp hq
      refine ⟨fun e => ?_, h1⟩
      have := nd_inj f.nd (i := q.1) (j := j) (a := d) (by rw [← e]; exact h1) ia
      simp [this] at h2
    have c : Carry K H (upd H d (.frz od (.dK kvs))) M (fun b => M b ∧ b ≠ d) := ⟨fun a u r n => by
      have na : a ≠ d := fun e => n (by rw [e]; exact md)
      exact ⟨.inl (by rw [upd_ne na]; exact r), fun z => n z.1⟩⟩
    refine ⟨f.len, fun b mb => trk_upd f.trk b mb.1, fun q hq => ⟨f.sub _ (ne q hq).2, (ne q hq).1⟩, ?_, fun q hq => ?_, fun i d' e n => ?_⟩
    · exact f.nd.sublist (List.Sublist.map _ List.filter_sublist)
    · obtain ⟨h1, d', h2, h3⟩ := f.own q (ne q hq).2
      exact ⟨h1, d', h2, h3.carry c fun o eo => by rw [upd_ne (ne q hq).1]; exact eo⟩
    · by_cases ei : i = j
      · subst ei
        cases hg : getv ρ i with
        | none => rw [hg] at ees; cases ees
        | some x =>
          rw [hg] at ees
          obtain ⟨ex, fl⟩ := asDict_some ees
          rw [ex] at hg
          rw [getv_some hg] at e
          cases e
          exact ⟨.ref d, ev, .dcK (.inr ⟨od, upd_same⟩) (fun z => z.2 rfl) (RpK.carry c rk)⟩
      · obtain ⟨v, h1, h2⟩ := f.shr i d' e fun a ha => n a (List.mem_filter.mpr ⟨ha, by simp [ei]⟩)
        exact ⟨v, h1, Rp.carry c h2⟩
  · have q : ((m ρ).nox.bind fun z => if z.1.plain then R.ok z else .no).post _ _ := q
    cases hm : m ρ with
    | exc c => rw [hm] at q; exact q.elim
    | no => rw [hm] at q; exact q.elim
    | ok z =>
      rw [hm] at q
      have q : (if z.1.plain then R.ok z else R.no).post _ _ := q
      by_cases hp : z.1.plain = true
      · rw [if_pos hp] at q
        intro p H' np f' g e1 ow
        have ed : H' d = some (.frz od (.dK kvs)) := g d _ upd_same fun z => Bool.noConfusion z.1
        have g2 : Same H (upd H' d (.dK kvs)) := eff_false (A := A) (Fra.mono (g.unlk hd) fun b z => Bool.noConfusion z.1)
        have ez : z.2 = ρ := e1 rfl
        have np1 : ¬ (fun b => M b ∧ b ≠ d) p := fun z => by
          obtain ⟨o', eo⟩ := f.trk p z.1
          rw [upd_ne z.2, eo] at np; cases np
        exact ⟨ed, q _ _ (by rw [ez]; exact f.same g2) (Fra.of_eff g2) (fun _ => ez) (Rp.mv (Mv.unO rfl ed) (ow.rp np1) fun _ => hp)⟩
      · rw [if_neg hp] at q; exact q.elim
end
end Dt

set_option Elab.async false
set_option linter.all false
set_option maxRecDepth 100000
set_option autoImplicit false
/-! index, count, isinstance, constants, two names at once. -/
namespace Dt
open PySem PySem.Spec PyProof.Rows L2 R

/-! ### a method of lists and tuples -/
def isSq : D → Option (Bool × List D)
  | .list ds => some (false, ds)
  | .tuple ds => some (true, ds)
  | _ => none
def Sqo (K : Fg) (H : Hp) (M : Av) (x : V) (b : Bool) (ds : List D) : Prop := ∃ a xs, x = .ref a ∧ (match b with | false => Rd H a (.lst xs) | true => STm K H M a xs) ∧ RpAll K H M xs ds
theorem Rt.sqo {K : Fg} {H : Hp} {M : Av} {x : V} {d : D} {b : Bool} {ds : List D} (h : Rt K H M x d) (e : isSq d = some (b, ds)) : Sqo K H M x b ds := by
  cases d with
  | list l => cases e; obtain ⟨a, xs, e1, r1, a1⟩ := h.list; exact ⟨a, xs, e1, r1, a1⟩
  | tuple l => cases e; obtain ⟨a, xs, e1, r1, a1⟩ := h.tuple; exact ⟨a, xs, e1, r1, a1⟩
  | _ => cases e
section
variable {X : Cx} {pins : List (Addr × Obj)} {σ : St} {H : Hp} {s : Shared} {M : Av}
theorem sqo_at {x : V} {v : Value} {b : Bool} {ds : List D} (I : Inv X pins σ H s) (rx : RelV x v) (h : Sqo X.K H M x b ds) :
    s.TypeIs v (if b then "tuple" else "list") ∧ (∀ a, v = .ref a → ∃ ob, s.heap.get? a = some ob ∧ ob.dict = none) ∧
    ∃ (a : Addr) (its : List Value) (xs : List V) (n : Nat) (sl : Array (Option Value)), v = .ref a ∧ Vals xs its ∧ RpAll X.K H M xs ds ∧ xs.length ≤ sizeLine ∧ s.heap.get? a = some { cls := .type (if b then "tuple" else "list"), dict := none, data := .seq its.toArray n, slots := sl } := by
  obtain ⟨a, xs, rfl, hb, ra⟩ := h
  obtain rfl : v = Value.ref a := rx
  cases b with
  | false =>
    obtain ⟨hl, its, n, rv, _, ho⟩ := Inv.lstR I (show Rd H a (.lst xs) from hb)
    exact ⟨⟨_, ho, rfl⟩, fun c e => by cases e; exact ⟨_, ho, rfl⟩, a, its, xs, n, #[], rfl, rv, ra, hl, ho⟩
  | true =>
    suffices fin : ∃ (o : Obj) (its : List Value) (n : Nat), s.heap.get? a = some o ∧ o.dict = none ∧ o.cls = .type "tuple" ∧ o.data = .seq its.toArray n ∧ Vals xs its ∧ xs.length ≤ sizeLine by
      obtain ⟨⟨cls, dd, dt, sl⟩, its, n, ho, hd, hc, hs, rv, hl⟩ := fin
      simp only at hd hc hs
      subst hd hc hs
      exact ⟨⟨_, ho, rfl⟩, fun c e => by cases e; exact ⟨_, ho, rfl⟩, a, its, xs, n, sl, rfl, rv, ra, hl, ho⟩
    rcases (show STm X.K H M a xs from hb) with ⟨⟨o, e, hd⟩, _⟩ | ⟨o, its, n, e, hd, hc, hs, hz, rv⟩
    · obtain ⟨ho, hz, its, rv, o2, h2, hc, n, hs⟩ := I.hok a _ e
      rw [ho] at h2
      cases h2
      exact ⟨o, its, n, ho, hd, hc, hs, rv, hz⟩
    · exact ⟨o, its.toList, n, I.kIn a o e, hd, hc, by rw [Array.toArray_toList]; exact hs, rv, by rw [rv.length, Array.length_toList]; exact hz⟩
end
def dPlace (ds : List D) (d : D) : Option Nat := ds.findIdx? fun y => PyData.eqv y d
def dIndex : G2 := fun x d => match isSq x with
  | some (_, ds) => if inOk d ds then (dPlace ds d).map fun j => .int (j : Nat) else none
  | none => none
def dCount : G2 := fun x d => match isSq x with
  | some (_, ds) => if inOk d ds then some (.int ((ds.countP fun y => PyData.eqv y d : Nat) : Int)) else none
  | none => none
section
variable {X : Cx} {E : XK} {k r : Bool} {Γ0 Γ Γ' Γl : List Nat} {a b c e o tg : Expr} {es : List Expr} {pos : Pos} {st : Stmt}
/-- o.m(e), o a list or a tuple -/
def rQ (K : Fg) (g : G2) (b : Bool) (x : V) (ys : List V) (H : Hp) (Q : VK) : Prop := ∃ (M : Av) (dd d : D) (ds : List D) (r : D) (y : V), Trk M H ∧ ys = [y] ∧ Sqo K H M x b ds ∧ isSq dd = some (b, ds) ∧ Rp K H M y d ∧ g dd d = some r ∧ ∀ w H', Same H H' → Rp K H' M w r → Q w H'
def MtQ (X : Cx) (m : Str) (g : G2) : Prop := ∀ b : Bool, ∃ id, Slot (if b then "tuple" else "list") m id ∧ typeOf (.builtin id) = pure (.type "method_descriptor") ∧ MtR X id (rQ X.K g b)
def tMQ (K : Fg) (g : G2) (to : TE) (ta : TA) : TE := fun σ H Q => to σ H fun x H1 => ∃ b, (∃ (M : Av) (ds : List D), Sqo K H1 M x b ds) ∧ ta σ H1 fun ys H2 => rQ K g b x ys H2 Q
theorem pe_mq {m : Str} {g : G2} {apos cpos : Pos} {to : TE} {t : TA} (hm : MtQ X m g) (ho : PE X o to) (ha : PA X [e] t)
    (hbase : attributeBase o m X.env (eval o X.env) = eval o X.env := by rfl)
    (hfew : ((backTo cpos (starEach [e] X.env)).all (fun x => !x.1) && (backToKw cpos (keywordEach [] X.env)).all (fun x => x.1.isSome)
      && decide (([e] : List Expr).length + ([] : List Keyword).length + (if ([] : List Keyword).isEmpty then 0 else 1) < 30)) = true := by rfl)
    (hline : (apos.endLine == cpos.line) = true := by rfl) (hs : starEach [e] X.env = (false, eval e X.env) :: starEach [] X.env := by rfl) (hplain : (backTo cpos (starEach [] X.env)).any (·.1) = false := by rfl) :
    PE X (.Call (.Attribute o m apos) [e] [] cpos) (tMQ X.K g to t) := by
  refine ⟨fun pins s σ H Q I h => ?_⟩
  refine wpAny_Call_method_late hbase hfew hline rfl (thn (ho.run pins s σ H _ I h) fun v s1 ⟨x, H1, I1, r1, b, ⟨M, ds, sq⟩, q1⟩ => ?_)
  obtain ⟨h1, h2, _⟩ := sqo_at I1 r1 sq
  obtain ⟨id, slot, hty, run⟩ := hm b
  refine ⟨_, id, by cases b; exact PySem.F.plainAttrs_list; exact PySem.F.plainAttrs_tuple, slot, hty, h1, h2, ?_⟩
  have hA := ha.run cpos pins s1 σ H1 _ I1 q1
  rw [hs] at hA ⊢
  refine Calls.callWith_builtin (by show (false || (backTo cpos (starEach [] X.env)).any (·.1)) = false; rw [hplain] <;> rfl) (Calls.evalArgs_plain ?_)
  exact thn hA fun us s2 ⟨vs, H2, I2, r2, q2⟩ => run pins s2 σ H2 x vs v us Q I2 r1 r2 q2
def eMQ (g : G2) (mo : ME) (ma : MA) : ME := fun ρ => (mo ρ).bind fun x => (R.opt (isSq x.1)).bind fun _ => (ma x.2).bind fun y => (R.opt (match y.1 with | [d] => g x.1 d | _ => none)).bind fun r => .ok (r, y.2)
theorem de_mq {m : Str} {g : G2} {apos cpos : Pos} {mo : ME} {ma : MA} (hm : MtQ X m g) (ho : DE X E k r Γ o mo) (ha : DA X E k false Γ [e] ma) (hk : (k && r) = false := by rfl)
    (hbase : attributeBase o m X.env (eval o X.env) = eval o X.env := by rfl)
    (hfew : ((backTo cpos (starEach [e] X.env)).all (fun x => !x.1) && (backToKw cpos (keywordEach [] X.env)).all (fun x => x.1.isSome)
      && decide (([e] : List Expr).length + ([] : List Keyword).length + (if ([] : List Keyword).isEmpty then 0 else 1) < 30)) = true := by rfl)
    (hline : (apos.endLine == cpos.line) = true := by rfl) (hs : starEach [e] X.env = (false, eval e X.env) :: starEach [] X.env := by rfl) (hplain : (backTo cpos (starEach [] X.env)).any (·.1) = false := by rfl) :
    DE X E k false Γ (.Call (.Attribute o m apos) [e] [] cpos) (eMQ g mo ma) :=
  PE.imp (pe_mq hm ho ha hbase hfew hline hs hplain) fun σ H Q ⟨M, A, ρ, hΓ, f, h⟩ => by
    refine ⟨M, A, ρ, hΓ, f, pimp (post_bind h) (fun z hz x H1 f1 g1 e1 r1 => ?_) fun c hc => hc⟩
    obtain ⟨⟨b, ds⟩, eb, hz⟩ := post_opt hz
    refine ⟨b, ⟨M, ds, r1.t.sqo eb⟩, M, A, z.2, hΓ, f1, pimp (post_bind hz) (fun y hy ys H2 f2 g2 e2 r2 => ?_) fun c hc => DX.fra g1 hc⟩
    obtain ⟨w, ew, hy⟩ := post_opt hy
    have r1' := (Rx.fra hk f1 g2 r1).t.sqo eb
    split at ew
    · rename_i d ed
      rw [ed] at r2
      cases r2 with
      | cons c1 c2 =>
        cases c2
        exact ⟨M, z.1, d, ds, w, _, f2.trk, rfl, r1', eb, c1, ew, fun u H' s' rp => hy u H' (f2.same s') ((g1.trans g2).trans (Fra.of_eff s')) (fun n => (e2 n).trans (e1 n)) rp⟩
    · cases ew
theorem sq_reads {pins : List (Addr × Obj)} {σ : St} {H : Hp} {s : Shared} {M : Av} {xs : List V} {its : List Value} {ds : List D} (I : Inv X pins σ H s) (rv : Vals xs its) (ra : RpAll X.K H M xs ds) (p : PyData.plainAll ds = true) : ∃ as, ReadsAll s.heap its.toArray.toList ds as := by
  obtain ⟨as, h⟩ := Dp.readsAll I ds _ its (RpAll.dp ra p) rv
  exact ⟨as, by simpa using h⟩
theorem mt_index (hu : X.A.units + 110 < cLine) : MtQ X "index" dIndex := by
  intro b
  refine ⟨if b then "tuple.index" else "list.index", by cases b; exact PySem.F.slot_list_index; exact PySem.F.slot_tuple_index, by cases b; exact PySem.F.type_list_index; exact PySem.F.type_tuple_index, ?_⟩
  intro pins s σ H x ys v us Q I rx rv h
  obtain ⟨M, dd, d, ds, r, y, tk, rfl, sq, ed, rp, eg, q⟩ := h
  obtain ⟨u, rfl, ru⟩ := vals1 rv
  obtain ⟨_, _, a, its, xs, n, sl, rfl, rvv, ra, hl, ho⟩ := sqo_at I rx sq
  unfold dIndex at eg
  rw [ed] at eg
  have eg : (if inOk d ds then (dPlace ds d).map fun j => PyData.int (j : Nat) else none) = some r := eg
  by_cases hz : inOk d ds = true
  · rw [if_pos hz] at eg
    obtain ⟨h1, h2, h3⟩ := inOk_of hz
    cases ep : dPlace ds d with
    | none => rw [ep] at eg; cases eg
    | some j =>
      rw [ep] at eg
      cases eg
      obtain ⟨as, rs⟩ := sq_reads I rvv ra h1
      obtain ⟨bs, r2⟩ := Dp.reads I d y u (rp.dp h2) ru
      obtain ⟨hj, hit, hno⟩ := SeqAt.hit_at (d := d) rs h1 ep
      have hsz : its.toArray.size ≤ sizeLine := by rw [List.size_toArray, ← rvv.length]; exact hl
      have hsl := sizeLine_eq
      have items := SeqAt.items_plain (A := X.A) rs r2 h1 h2 (by omega)
      cases b with
      | false =>
        exact call_meets PySem.F.slot_list_index ⟨_, ho, rfl⟩ PySem.F.entry_list_index (PySem.F.args_list_index_2 _ _)
          (SeqAt.list_indexAt a its.toArray n none sl u (fun u => PyData.eqv (SeqAt.readOf s.heap u) d) j hj (by omega) hit hno) ⟨ho, items, ⟨.int (j : Nat), H, I.tok _, ⟨_, rfl⟩, q _ H (Same.refl _) (.int _)⟩⟩
      | true =>
        exact call_meets PySem.F.slot_tuple_index ⟨_, ho, rfl⟩ PySem.F.entry_tuple_index (PySem.F.args_tuple_index_2 _ _)
          (TI.tuple_indexAt a its.toArray n none sl u (fun u => PyData.eqv (SeqAt.readOf s.heap u) d) j hj hit hno) ⟨ho, items, ⟨.int (j : Nat), H, I.tok _, ⟨_, rfl⟩, q _ H (Same.refl _) (.int _)⟩⟩
  · rw [if_neg hz] at eg; cases eg
theorem mt_count (hu : X.A.units + 110 < cLine) : MtQ X "count" dCount := by
  intro b
  refine ⟨if b then "tuple.count" else "list.count", by cases b; exact PySem.F.slot_list_count; exact PySem.F.slot_tuple_count, by cases b; exact PySem.F.type_list_count; exact PySem.F.type_tuple_count, ?_⟩
  intro pins s σ H x ys v us Q I rx rv h
  obtain ⟨M, dd, d, ds, r, y, tk, rfl, sq, ed, rp, eg, q⟩ := h
  obtain ⟨u, rfl, ru⟩ := vals1 rv
  obtain ⟨_, _, a, its, xs, n, sl, rfl, rvv, ra, hl, ho⟩ := sqo_at I rx sq
  unfold dCount at eg
  rw [ed] at eg
  have eg : (if inOk d ds then some (PyData.int ((ds.countP fun y => PyData.eqv y d : Nat) : Int)) else none) = some r := eg
  by_cases hz : inOk d ds = true
  · rw [if_pos hz] at eg
    obtain ⟨h1, h2, h3⟩ := inOk_of hz
    cases eg
    obtain ⟨as, rs⟩ := sq_reads I rvv ra h1
    obtain ⟨bs, r2⟩ := Dp.reads I d y u (rp.dp h2) ru
    cases b with
    | false => exact SeqAt.count_list_data ⟨_, ho, rfl, _, rfl⟩ rs r2 h1 h2 (by omega) ⟨.int _, H, I.tok _, ⟨_, rfl⟩, q _ H (Same.refl _) (.int _)⟩
    | true => exact SeqAt.count_tuple_data ⟨_, ho, rfl, _, rfl⟩ rs r2 h1 h2 (by omega) ⟨.int _, H, I.tok _, ⟨_, rfl⟩, q _ H (Same.refl _) (.int _)⟩
  · rw [if_neg hz] at eg; cases eg

/-! ### isinstance -/
def dIsi (T : String) : D → Bool
  | .none => T == "NoneType"
  | .bool _ => T == "bool" || T == "int"
  | .int _ => T == "int"
  | .str _ => T == "str"
  | .list _ => T == "list"
  | .tuple _ => T == "tuple"
  | .dict _ => T == "dict"
def tyD : D → String
  | .none => "NoneType"
  | .bool _ => "bool"
  | .int _ => "int"
  | .str _ => "str"
  | .list _ => "list"
  | .tuple _ => "tuple"
  | .dict _ => "dict"
def isiTys : List String := ["int", "str", "bool", "tuple", "list", "dict"]
theorem isi_all : (["NoneType", "bool", "int", "str", "list", "tuple", "dict"].all fun a => isiTys.all fun T => decide (kitB a T = some (match a with | "NoneType" => T == "NoneType" | "bool" => T == "bool" || T == "int" | s => T == s))) = true := by decide +kernel
theorem isi_kit {T : String} (hT : isiTys.contains T = true) (d : D) : kitB (tyD d) T = some (dIsi T d) := by
  have h : ∀ a ∈ ["NoneType", "bool", "int", "str", "list", "tuple", "dict"], kitB a T = some (match a with | "NoneType" => T == "NoneType" | "bool" => T == "bool" || T == "int" | s => T == s) := fun a ha =>
    of_decide_eq_true (List.all_eq_true.mp (List.all_eq_true.mp isi_all a ha) T (List.contains_iff_mem.mp hT))
  cases d with
  | none => exact h _ (by decide)
  | bool _ => exact h "bool" (by decide)
  | int _ => exact h "int" (by decide)
  | str _ => exact h "str" (by decide)
  | list _ => exact h "list" (by decide)
  | tuple _ => exact h "tuple" (by decide)
  | dict _ => exact h "dict" (by decide)
theorem Rt.ty {K : Fg} {H : Hp} {M : Av} {v : V} {d : D} (h : Rt K H M v d) (hd : ∀ es, d = .dict es → flatK es = true) : TyX K H v (.type (tyD d)) := by
  have lst : ∀ {a : Addr} {xs : List V}, Rd H a (.lst xs) → TyX K H (.ref a) (.type "list") := fun h => by
    rcases h with h | ⟨o, h⟩
    · exact .base (.lst h)
    · exact .base (.frz h)
  have dic : ∀ {a : Addr} {kvs : List (Key × V)}, Rd H a (.dK kvs) → TyX K H (.ref a) (.type "dict") := fun h => by
    rcases h with h | ⟨o, h⟩
    · exact .base (.dK h)
    · exact .fDict h
  cases d with
  | none => obtain rfl := h.non; exact .base .non
  | bool b => obtain rfl := h.bl; exact .base (.bl b)
  | int i => obtain rfl := h.int; exact .base (.int i)
  | str x => obtain rfl := h.str; exact .base (.str x)
  | list ds => obtain ⟨a, xs, e, r, _⟩ := h.list; subst e; exact lst r
  | tuple ds =>
    obtain ⟨a, xs, e, r, _⟩ := h.tuple
    subst e
    rcases r with ⟨⟨o, e, _⟩, _⟩ | ⟨o, its, n, e, _, hc, _⟩
    · exact .fTuple e
    · exact .kTuple e hc
  | dict es =>
    obtain ⟨a, kvs, e, r, _⟩ := h.dict (hd es rfl)
    subst e
    exact dic r
def mIsi (T : String) (m : ME) : ME := fun ρ => (m ρ).bind fun x => if (match x.1 with | .dict es => flatK es | _ => true) then .ok (.bool (dIsi T x.1), x.2) else .no
theorem de_isi {m : ME} {p p2 : Pos} {T : String} {y : Str} (hT : isiTys.contains T = true) (hg : Gl X "isinstance") (hm : X.mg "isinstance" = none) (hgT : Gl X y) (hmT : X.mg y = none) (hv : bootBuiltins y = some (.type T)) (he : DE X E k r Γ e m) (hn : y ≠ "__name__" := by decide) (hdb : (y == ("__debug__" : Str)) = false := by decide)
    (hs : starEach [e, .Name y p2] X.env = (false, eval e X.env) :: starEach [.Name y p2] X.env := by rfl) (hs2 : starEach [.Name y p2] X.env = (false, eval (.Name y p2) X.env) :: starEach [] X.env := by rfl)
    (hpl : (backTo pos (starEach [.Name y p2] X.env)).any (·.1) = false := by rfl) :
    DE X E k false Γ (.Call (.Name "isinstance" p) [e, .Name y p2] [] pos) (mIsi T m) :=
  PE.imp (pe_callB call_isi hg hm (by decide +kernel) (pa_cons he (pa_cons (pe_bltn hgT hmT hv (show RelV (V.ty T) (Value.type T) from rfl) hn hdb) pa_nil hs2) hs) (by decide) (by decide) hs hpl) fun σ H Q ⟨M, A, ρ, hΓ, f, h⟩ => by
    refine ⟨M, A, ρ, hΓ, f, pimp (post_bind h) (fun z hz v H1 f1 g1 e1 r1 => ?_) fun c hc => hc⟩
    by_cases hd : (match z.1 with | .dict es => flatK es | _ => true) = true
    · rw [if_pos hd] at hz
      refine ⟨v, .ty T, .type (tyD z.1), .type T, dIsi T z.1, rfl, .ty T, r1.t.ty (fun es ee => by rw [ee] at hd; exact hd), kit_ty (isi_kit hT z.1), ?_⟩
      exact hz _ H1 f1 g1 e1 (.bl _)
    · rw [if_neg hd] at hz; exact hz.elim

/-! ### names of the module -/
theorem de_glob {x : Str} {v : V} {u : Value} {d : D} (hg : Gl X x) (hm : X.mg x = some u) (hr : RelV v u) (hp : ∀ H M, Rp X.K H M v d) (hd : (x == ("__debug__" : Str)) = false := by decide) : DE X E k false Γ (.Name x pos) (fun ρ => .ok (d, ρ)) :=
  PE.imp (pe_glob hg hm hr hd) fun σ H Q ⟨M, A, ρ, hΓ, f, h⟩ => h v H f Fra.refl (fun _ => rfl) (hp H M)

/-! ### two names at once -/
def sPar (i j : Nat) (ma : MA) : MS := fun ρ => (ma ρ).bind fun x => match x.1 with
  | [a, b] => .ok (.nx, (x.2.set i (some a)).set j (some b))
  | _ => .no
theorem ds_par {i j : Nat} {x y : Str} {ma : MA} {px py pt : Pos} {kt k2 pt2} (hc : X.calm = true) (hN : X.N.Nodup) (hi : X.N[i]? = some x) (hj : X.N[j]? = some y) (hx : X.env.scope.names.lookup x = some .local) (hy : X.env.scope.names.lookup y = some .local) (ha : DA X E k false (Γ ++ Γ0) [a, b] ma)
    (hw : swappedStores [.Tuple [.Name x px, .Name y py] kt pt] (.Tuple [a, b] k2 pt2) X.env = pure (some [x, y])) (hij : i ≠ j := by decide) (hΓi : (Γ ++ Γ0).contains i = false := by decide) (hΓj : (Γ ++ Γ0).contains j = false := by decide)
    (hs : swapsWithSole [.Tuple [.Name x px, .Name y py] kt pt] (.Tuple [a, b] k2 pt2) pos.line X.env = pure false := by rfl) :
    DS X E Γ0 Γ Γ Γl (.Assign [.Tuple [.Name x px, .Name y py] kt pt] (.Tuple [a, b] k2 pt2) pos) (sPar i j ma) :=
  PS.imp (ps_par hc hN hi hj hij hx hy ha hw hs) fun D σ H ⟨M0, B, A0, ρ, hB, hA, dj, f, q⟩ => by
    have hΓ' : (B ++ A0).map (·.1) = Γ ++ Γ0 := by rw [List.map_append, hB, hA]
    refine ⟨_, _, ρ, hΓ', f, pimp (post_bind q) (fun z hz vs H' f' g' e' r' => ?_) fun c hc => DX.eff hc⟩
    obtain ⟨ds, ρ'⟩ := z
    cases r' with
    | nil => exact hz.elim
    | cons r1 r2 =>
      cases r2 with
      | nil => exact hz.elim
      | cons r3 r4 =>
        cases r4 with
        | cons _ _ => exact hz.elim
        | nil => exact ⟨_, _, rfl, hz _ H' B hB (Stp.eff g') ((f'.set (not_own hΓ' hΓi) r1).set (not_own hΓ' hΓj) r3)⟩
end
end Dt

set_option Elab.async false
set_option linter.all false
set_option maxRecDepth 100000
set_option autoImplicit false
/-! Defs that give a new object. -/
namespace Dt
open PySem PySem.Spec PyProof.Rows L2 R

theorem Fit.to {K : Fg} {M M' : Av} {A : As} {σ : St} {H H' : Hp} {ρ : Ev} (f : Fit K M A σ H ρ) (c : Carry K H H' M M') (s : ∀ q ∈ A, ∀ o, H q.2 = some o → H' q.2 = some o) (hM : ∀ q ∈ A, M' q.2) (tk : Trk M' H') : Fit K M' A σ H' ρ :=
  ⟨f.len, tk, hM, f.nd, fun q hq => let ⟨h1, d, h2, h3⟩ := f.own q hq; ⟨h1, d, h2, h3.carry c (s q hq)⟩, fun i d e n => let ⟨v, h1, h2⟩ := f.shr i d e n; ⟨v, h1, Rp.carry c h2⟩⟩
def runFr (n N : Nat) (body : MS) (ds : List D) : R D := if ds.length = n then (body (startE n N ds)).bind fun z => match z.1 with
    | .rt d => .ok d
    | _ => .no
  else .no
def spFr (K : Fg) (mg : Str → Option Value) (fn : List D → R D) : Sp := fun vs H Q E => ∃ (M0 : Av) (ds : List D), Trk M0 H ∧ RpAll K H M0 vs ds ∧
  (fn ds).post (fun d => ∀ p H', H p = none → Same H H' → OwnAt K H' (M0.add p) p d → Q (.ref p) H') (fun c => ∀ C H', mg c = some (.ref C) → Same H H' → E (.ref C) none H')
section
variable {X : Cx} {E : XK} {k r : Bool} {Γ0 Γ Γ' Γ1 Γ2 Γl : List Nat} {a b c e : Expr} {es : List Expr} {pos p : Pos} {x : Str} {f : Addr} {fd : FuncData} {ps : List Str} {kf : Nat} {st : Stmt} {rest : List Stmt}
theorem fr_turn {K : Fg} {mg : Str → Option Value} {fn : List D → R D} {σ : St} {H : Hp} {Q : VK} {M : Av} {A : As} {ρ : Ev} {z : List D × Ev} {vs : List V} {H1 : Hp} (fi : Fit K M A σ H ρ) (f1 : Fit K M A σ H1 z.2) (g1 : Fra (eff k A) H H1) (e1 : k = false → z.2 = ρ) (r1 : RpAll K H1 M vs z.1)
    (hz : ((fn z.1).bind fun d => R.ok (d, z.2)).post (fun z => ∀ p H', H p = none → Fit K (M.add p) A σ H' z.2 → Fra (eff k A) H H' → (k = false → z.2 = ρ) → OwnAt K H' (M.add p) p z.1 → Q (.ref p) H') (DX mg E (eff k A) H)) : spFr K mg fn vs H1 Q E := by
  refine ⟨M, z.1, f1.trk, r1, pimp (post_bind hz) (fun d hd p H' np s' ow => ?_) fun c hc C H' hC s' => hc C H' hC (g1.trans (Fra.of_eff s'))⟩
  have c : Carry K H1 H' M (M.add p) := (Carry.add np).trans (Carry.same s')
  have tk : Trk (M.add p) H' := fun b mb => mb.elim (f1.trk.same s' b) fun e => by rw [e]; exact ow.there
  exact hd p H' (none_back f1 g1 np) (f1.to c (fun q hq o eo => s' _ _ eo) (fun q hq => .inl (f1.sub q hq)) tk) (g1.trans (Fra.of_eff s')) e1 ow
theorem df_callF {fn : List D → R D} {m : MA} (F : FnOk X.prog X.w X.K X.mg X.base (L2.CX X.prog X.w) kf f fd ps (spFr X.K X.mg fn)) (hr : Room kf X.A) (hg : Gl X x) (hm : X.mg x = some (.ref f)) (hk : PySem.W.keepIn X.K (.ref f) = true) (hb : Binds X.K fd ps []) (hx : Passes (L2.CX X.prog X.w) X E)
    (ha : DA X E k false Γ (e :: es) m) (hdb : (x == ("__debug__" : Str)) = false := by decide) (he : starEach (e :: es) X.env = (false, eval e X.env) :: starEach es X.env := by rfl) (hpl : (backTo pos (starEach es X.env)).any (·.1) = false := by rfl) :
    DF X E k Γ (.Call (.Name x p) (e :: es) [] pos) (mCallF fn m) :=
  PE.imp (pe_call F hr hg hm hk hb .nil hx ha hdb he hpl) fun σ H Q ⟨M, A, ρ, hΓ, fi, h⟩ => by
    refine ⟨M, A, ρ, hΓ, fi, pimp (post_bind h) (fun z hz vs H1 f1 g1 e1 r1 => ?_) (fun c hc => hc)⟩
    show spFr X.K X.mg fn (vs ++ []) H1 Q E
    rw [List.append_nil]
    exact fr_turn fi f1 g1 e1 r1.all hz
/-! ### the block of such a def -/
def DTsF (K : Fg) (mg : Str → Option Value) (E : XK) (Γ : List Nat) (m : MS) : TS := fun D σ H =>
  ∃ (M0 : Av) (B : As) (ρ : Ev), B.map (·.1) = Γ ∧ (∀ p ∈ B ++ [], ¬ M0 p.2) ∧ Fit K (un M0 (B ++ [])) (B ++ []) σ H ρ ∧
    (m ρ).post (fun z => match z.1 with | .rt d => ∀ p H', (As.has B p ∨ H p = none) → Fra (As.has B) H H' → OwnAt K H' (M0.add p) p d → D.rt (.ref p) H' | _ => False) (DX mg E (As.has B) H)
def DSf (X : Cx) (E : XK) (Γ : List Nat) (sts : List Stmt) (m : MS) : Prop := PSs X sts (DTsF X.K X.mg E Γ m)
def sSeqF (m m' : MS) : MS := fun ρ => (m ρ).bind fun z => match z.1 with
  | .nx => m' z.2
  | _ => .no
theorem hasNil {B : As} : ∀ b, As.has (B ++ []) b ↔ As.has B b := fun b => by rw [List.append_nil]
theorem dsf_cons {m m' : MS} (h1 : DS X E [] Γ Γ1 [] st m) (h2 : DSf X E Γ1 rest m') : DSf X E Γ (st :: rest) (sSeqF m m') :=
  PSs.imp (pss_cons h1 h2) fun D σ H ⟨M0, B, ρ, hB, dj, f, q⟩ => by
    refine ⟨M0, B, [], ρ, hB, rfl, dj, f, pimp (post_bind q) (fun z hz => ?_) fun c hc C H' e g => hc C H' e (g.mono fun b z => (hasNil b).mp z)⟩
    obtain ⟨fl, ρ'⟩ := z
    cases fl with
    | nx =>
      intro σ' H' B' e s f'
      have hz : (m' ρ').post _ _ := hz
      refine ⟨M0, B', ρ', e, s.apart dj f.trkM, f', pimp hz (fun z2 h => ?_) fun c hc C H2 e2 g => hc C H2 e2 ((s.fra_trans (g.mono fun b z => (hasNil b).mpr z)).mono fun b z => (hasNil b).mp z)⟩
      obtain ⟨fl2, ρ2⟩ := z2
      cases fl2 with
      | rt d =>
        intro p H2 hp g ow
        refine h p H2 ?_ ((s.fra_trans (g.mono fun b z => (hasNil b).mpr z)).mono fun b z => (hasNil b).mp z) ow
        rcases hp with ⟨i, hp⟩ | hp
        · exact (s.new (i, p) hp)
        · cases e3 : H p with
          | none => exact .inr rfl
          | some o =>
            by_cases n : As.has (B ++ []) p
            · exact .inl ((hasNil p).mp n)
            · have := s.fra p o e3 n
              rw [hp] at this; cases this
      | nx => exact h.elim
      | bk => exact h.elim
      | ct => exact h.elim
    | rt d => exact hz.elim
    | bk => exact hz.elim
    | ct => exact hz.elim
theorem dsf_free {sts : List Stmt} {m : MS} (h : DSf X E Γ1 sts m) (hs : Γ1.Sublist Γ := by decide) : DSf X E Γ sts m :=
  PSs.imp h fun D σ H ⟨M0, B, ρ, hB, dj, f, q⟩ => by
    obtain ⟨B', s1, s2⟩ := sublist_of_map (B := B) (by rw [hB]; exact hs)
    have hh : ∀ b, As.has B' b → As.has B b := fun b ⟨i, z⟩ => ⟨i, s1.subset z⟩
    have st : Stp B [] B' H H := ⟨Fra.refl, fun p hp => .inl (As.has_of (s1.subset hp))⟩
    refine ⟨M0, B', ρ, s2, st.apart dj f.trkM, f.less dj s1, pimp q (fun z hz => ?_) fun c hc C H2 e2 g => hc C H2 e2 (g.mono hh)⟩
    obtain ⟨fl, ρ'⟩ := z
    cases fl with
    | rt d => exact fun p H2 hp g ow => hz p H2 (hp.imp (hh p) id) (g.mono hh) ow
    | nx => exact hz
    | bk => exact hz
    | ct => exact hz
/-- return x, an own object -/
theorem dsf_ret {i : Nat} (he : PE X e (tVar i)) (hi : Γ.contains i = true := by decide) : DSf X E Γ [.Return (some e) pos] (sRet (var i)) :=
  PSs.imp (pss_one (ps_ret he)) fun D σ H ⟨M0, B, ρ, hB, dj, f, q⟩ => by
    have e0 : sRet (var i) ρ = ((R.opt (getv ρ i)).bind fun d => R.ok (Fl.rt d, ρ)) := by
      unfold sRet var
      cases getv ρ i <;> rfl
    rw [e0] at q
    obtain ⟨d, ed, q2⟩ := post_opt q
    have q3 : ∀ p H', (As.has B p ∨ H p = none) → Fra (As.has B) H H' → OwnAt X.K H' (M0.add p) p d → D.rt (.ref p) H' := q2
    have hm : i ∈ B.map (·.1) := by rw [hB]; exact List.contains_iff_mem.mp hi
    obtain ⟨⟨j, a⟩, hq, e0⟩ := List.mem_map.mp hm
    obtain rfl : j = i := e0
    obtain ⟨o1, d1, o2, o3⟩ := f.own (j, a) (List.mem_append_left _ hq)
    rw [getv_some ed] at o2
    cases o2
    refine ⟨.ref a, o1, q3 a H (.inl (As.has_of hq)) Fra.refl (o3.carry (Carry.weak fun b z => z.elim .inl fun e => .inr ?_) fun _ e => e)⟩
    rw [e]
    exact (hasNil a).mpr (As.has_of hq)
/-- return of a new thing -/
theorem dsf_retE {m : ME} (he : DF X E k Γ e m) : DSf X E Γ [.Return (some e) pos] (sRet m) :=
  PSs.imp (pss_one (ps_ret he)) fun D σ H ⟨M0, B, ρ, hB, dj, f, q⟩ => by
    refine ⟨_, _, ρ, by rw [List.map_append, hB]; exact List.append_nil _, f, pimp (post_bind q) (fun z hz p H' np f' g e' ow => ?_) fun c hc C H' e' g => hc C H' e' (g.mono fun b z => (hasNil b).mp z.2)⟩
    refine hz p H' (.inr np) (g.mono fun b z => (hasNil b).mp z.2) (ow.carry (Carry.weak fun b z => z.elim (fun z => .inl (.inl z)) .inr) fun _ e => e)
end
section
variable {P : Program} {w : World} {K : Fg} {mg : Str → Option Value} {base : Heap} {x qual : Str} {params : Arguments} {body : List Stmt} {scope : Scope} {f : Addr} {fd : FuncData} {N ps : List Str} {k : Nat}
theorem fn_fresh {mb : MS} (F : FunD K x qual params body scope [] [] f fd) (S : FnScope N ps scope) (hN : ps.length ≤ N.length) (hb : Bdy P w K mg base N qual scope f k fun X E => DSf X E [] body mb) :
    FnOk P w K mg base (L2.CX P w) (k + 1) f fd ps (spFr K mg (runFr ps.length N.length mb)) := by
  refine F.ok S (fun vs H Q E h => ?_) (fun cdv A outer s H vs Q E hr h => ?_)
  · obtain ⟨M0, ds, tk, r, q⟩ := h
    unfold runFr at q
    by_cases hl : ds.length = ps.length
    · rw [r.length, hl]
    · rw [if_neg hl] at q; exact q.elim
  · obtain ⟨M0, ds, tk, r, q⟩ := h
    refine ⟨_, hb cdv A outer s H E (cs_of hr), ?_⟩
    by_cases hl : ds.length = ps.length
    · unfold runFr at q
      rw [if_pos hl] at q
      refine ⟨M0, [], _, rfl, fun p hp => (by cases hp), startFit hl hN tk r, pimp (post_bind q) (fun z hz => ?_) fun c hc C H' hC g => hc C H' hC fun b o e => g b o e fun ⟨i, z⟩ => (by cases z)⟩
      obtain ⟨fl, ρ'⟩ := z
      cases fl with
      | rt d =>
        intro p H' hp g ow
        exact hz p H' (hp.elim (fun ⟨i, z⟩ => by cases z) id) (fun b o e => g b o e fun ⟨i, z⟩ => (by cases z)) ow
      | nx => exact hz.elim
      | bk => exact hz.elim
      | ct => exact hz.elim
    · unfold runFr at q
      rw [if_neg hl] at q; exact q.elim
end
end Dt

set_option Elab.async false
set_option linter.all false
set_option maxRecDepth 100000
set_option autoImplicit false
/-! Constants of the module, the end. -/
namespace Dt
open PySem PySem.Spec PyProof.Rows L2 R

def datB (K : Fg) : Nat → Value → D → Bool
  | 0, _, _ => false
  | _ + 1, .none, .none => true
  | _ + 1, .bool b, .bool c => b == c
  | _ + 1, .int i _, .int j => decide (i = j)
  | _ + 1, .str x _, .str y => decide (x = y)
  | n + 1, .ref a, .tuple ds => match K.lookup a with
    | some ⟨.type c, none, .seq its _, _⟩ => decide (c = "tuple") && (decide (its.size ≤ sizeLine) && ((its.toList.length == ds.length) && ((its.toList.zip ds).all fun p => datB K n p.1 p.2)))
    | _ => false
  | _ + 1, _, _ => false
theorem datB_ok {K : Fg} : ∀ (n : Nat) (u : Value) (d : D), datB K n u d = true → ∃ v, RelV v u ∧ ∀ H M, Rp K H M v d := by
  intro n
  induction n with
  | zero => intro u d h; cases h
  | succ n ih =>
    have all : ∀ (us : List Value) (ds : List D), (us.length == ds.length) = true → ((us.zip ds).all fun p => datB K n p.1 p.2) = true → ∃ vs, Vals vs us ∧ ∀ H M, RpAll K H M vs ds := by
      intro us
      induction us with
      | nil =>
        intro ds h1 _
        cases ds with
        | nil => exact ⟨[], .nil, fun _ _ => .nil⟩
        | cons _ _ => simp at h1
      | cons u us ih2 =>
        intro ds h1 h2
        cases ds with
        | nil => simp at h1
        | cons d ds =>
          rw [List.zip_cons_cons, List.all_cons] at h2
          obtain ⟨h3, h4⟩ := Bool.and_eq_true_iff.mp h2
          obtain ⟨v, r, p⟩ := ih u d h3
          obtain ⟨vs, rs, ps⟩ := ih2 ds (by simpa using h1) h4
          exact ⟨v :: vs, .cons r rs, fun H M => .cons (p H M) (ps H M)⟩
    intro u d h
    cases u with
    | none => cases d with
      | none => exact ⟨.non, (show RelV V.non Value.none from rfl), fun _ _ => .non⟩
      | _ => cases h
    | bool b => cases d with
      | bool c =>
        have h : (b == c) = true := h
        have e : b = c := by simpa using h
        subst e
        exact ⟨.bl b, (show RelV (V.bl b) (Value.bool b) from rfl), fun _ _ => .bl _⟩
      | _ => cases h
    | int i t => cases d with
      | int j =>
        have e : i = j := of_decide_eq_true h
        subst e
        exact ⟨.int i, (show RelV (V.int i) (Value.int i t) from ⟨t, rfl⟩), fun _ _ => .int _⟩
      | _ => cases h
    | str x t => cases d with
      | str y =>
        have e : x = y := of_decide_eq_true h
        subst e
        exact ⟨.str x, (show RelV (V.str x) (Value.str x t) from ⟨t, rfl⟩), fun _ _ => .str _⟩
      | _ => cases h
    | ref a => cases d with
      | tuple ds =>
        have h : (match K.lookup a with
          | some ⟨.type c, none, .seq its _, _⟩ => decide (c = "tuple") && (decide (its.size ≤ sizeLine) && ((its.toList.length == ds.length) && ((its.toList.zip ds).all fun p => datB K n p.1 p.2)))
          | _ => false) = true := h
        split at h
        · rename_i c its m sl q
          obtain ⟨h1, h⟩ := Bool.and_eq_true_iff.mp h
          obtain ⟨h2, h⟩ := Bool.and_eq_true_iff.mp h
          obtain ⟨h3, h4⟩ := Bool.and_eq_true_iff.mp h
          obtain ⟨vs, rs, ps⟩ := all _ _ h3 h4
          have hc := of_decide_eq_true h1
          subst hc
          exact ⟨.ref a, (show RelV (V.ref a) (Value.ref a) from rfl), fun H M => .tup (.inr ⟨_, its, m, q, rfl, rfl, rfl, of_decide_eq_true h2, rs⟩) (ps H M)⟩
        · cases h
      | _ => cases h
    | _ => cases d <;> cases h
def conB (K : Fg) (x : Str) (d : D) : Bool := match PySem.W.nsIn K mainGlobals x with
  | some (some u) => datB K 12 u d
  | _ => false
/-- a name of the module that stands for data -/
def Con (K : Fg) (mg : Str → Option Value) (x : Str) (d : D) : Prop := ∃ u v, mg x = some u ∧ RelV v u ∧ ∀ H M, Rp K H M v d
theorem conB_ok {K : Fg} {h : Heap} {mg : Str → Option Value} {x : Str} {d : D} (X : K.In h) (G : h.Ns mainGlobals mg) (c : conB K x d = true) : Con K mg x d := by
  unfold conB at c
  split at c
  · rename_i u e
    obtain ⟨v, r, p⟩ := datB_ok _ _ _ c
    exact ⟨u, v, PySem.W.mg_of X G e, r, p⟩
  · cases c
section
variable {X : Cx} {E : XK} {k r : Bool} {Γ0 Γ Γ' Γl : List Nat} {a b c e : Expr} {es : List Expr} {pos : Pos} {st : Stmt}
theorem de_con {x : Str} {d : D} (h : Con X.K X.mg x d) (hg : Gl X x) (hd : (x == ("__debug__" : Str)) = false := by decide) : DE X E k false Γ (.Name x pos) (cst d) := by
  obtain ⟨u, v, hm, hr, hp⟩ := h
  exact de_glob hg hm hr hp hd
/-- name = [..] on one line -/
theorem ds_setF0 {i : Nat} {m : ME} (h : PS X st (tAsg (DTf X.K X.mg E k (Γ ++ Γ0) m) (gName i))) (hΓ : (Γ ++ Γ0).contains i = false := by decide) : DS X E Γ0 Γ Γ Γl st (sSet (gSet i) m) :=
  ds_set0 (PS.imp h fun D σ H ⟨M, A, ρ, hA, f, q⟩ => ⟨M, A, ρ, hA, f, pimp q (fun z hz p H' np f' g e' o => hz _ H' (f'.unadd f) g e' (o.rp (f.trk.ne np))) fun c hc => hc⟩) hΓ
/-- .. over a dict, shared, own -/
theorem ds_setLk {i j : Nat} {m : ME} (h : PS X st (tAsg (fun σ H Q => FrzAt j σ H ∧ DTf X.K X.mg E k (Γ ++ Γ0) m σ H Q) (gName i))) (hj : (Γ ++ Γ0).contains j = false := by decide) (hΓ : (Γ ++ Γ0).contains i = false := by decide) : DS X E Γ0 Γ Γ Γl st (sSet (gSet i) (mLk j m)) :=
  ds_setF0 (k := k) (PS.imp (PS.or h (ps_lock h)) fun D σ H h => lock_turn (Q := fun x H1 => gName i x σ H1 D.nx) hj h) hΓ
theorem ds_setLkO {i j : Nat} {m : ME} (h : PS X st (tAsg (fun σ H Q => FrzAt j σ H ∧ DTf X.K X.mg E false Γ' m σ H Q) (gName i))) (hj : (Γ ++ Γ0).contains j = true := by decide) (hΓ' : Γ' = (Γ ++ Γ0).filter (fun i => !(i == j)) := by rfl) (hΓ : (Γ ++ Γ0).contains i = false := by decide) :
    DS X E Γ0 Γ Γ Γl st (sSet (gSet i) (mLkO j m)) :=
  ds_set0 (E := E) (k := false) (PS.imp (ps_lock h) fun D σ H h => lockO_turn (Q := fun x H1 => gName i x σ H1 D.nx) hj hΓ' h) hΓ
theorem df_lk {j : Nat} {m : ME} (h : PE X e (fun σ H Q => FrzAt j σ H ∧ DTf X.K X.mg E k Γ m σ H Q)) (hj : Γ.contains j = false := by decide) : DF X E k Γ e (mLk j m) := PE.imp (PE.or h (pe_lock h)) fun σ H Q h => lock_turn hj h
theorem de_lkO {j : Nat} {m : ME} (h : PE X e (fun σ H Q => FrzAt j σ H ∧ DTf X.K X.mg E false Γ' m σ H Q)) (hj : Γ.contains j = true := by decide) (hΓ' : Γ' = Γ.filter (fun i => !(i == j)) := by rfl) : DE X E false false Γ e (mLkO j m) := PE.imp (pe_lock h) fun σ H Q h => lockO_turn hj hΓ' h
/-! a comprehension over a dict's keys -/
theorem pf_lcK {j : Nat} {tg elt iter : Expr} {ifs : List Expr} {scope : Scope} {own : List (Str × Nat)} {g : MG} {tt : MB} {me : ME} (hc : X.calm = true) (hN : X.N.Nodup) (hi : PE X iter (tVar j)) (ok : BlkOk X.N X.env.scope scope own)
    (hg : Blk X scope fun Y => DG Y Γ (slots own) tg g) (ht : Blk X scope fun Y => DBs Y E0 k Γ ifs tt) (he : Blk X scope fun Y => DE Y E0 k false Γ elt me) (hj : Γ.contains j = false := by decide) (hv : (slots own).all (fun i => !Γ.contains i) = true := by decide) (hs : ∀ x, foldedSetIterable iter X.env x = pure x := by intro _; rfl) :
    PE X (.ListComp elt [⟨tg, iter, ifs, 0⟩] scope pos) (fun σ H Q => FrzAt j σ H ∧ DTf X.K X.mg E k Γ (mLc k (iKy j) (slots own) g tt me) σ H Q) :=
  PE.imp (pe_lc (g := DTg X.K Γ (slots own) g) (tt := DTb X.K X.mg E0 k Γ tt) (te := DT X.K X.mg E0 k false Γ me) hc hN (di_keys (E := E) (k := k) hi hj) ok hg ht he hs) fun σ H Q h => ⟨h.1, lc_turn (fun i hi => by have := List.all_eq_true.mp hv i hi; simpa using this) h.2⟩
theorem ps_lcK {i j : Nat} {y : Str} {py spos : Pos} {tg elt iter : Expr} {ifs : List Expr} {scope : Scope} {own : List (Str × Nat)} {g : MG} {tt : MB} {me : ME} (hc : X.calm = true) (hN : X.N.Nodup) (hy : X.N[i]? = some y) (hyl : X.env.scope.names.lookup y = some .local)
    (hsw : swapsWith (.ListComp elt [⟨tg, iter, ifs, 0⟩] scope pos) (some (.Name y py)) spos.line X.env = pure true) (hi : PE X iter (tVar j)) (ok : BlkOk X.N X.env.scope scope own)
    (hg : Blk X scope fun Y => DG Y Γ (slots own) tg g) (ht : Blk X scope fun Y => DBs Y E0 k Γ ifs tt) (he : Blk X scope fun Y => DE Y E0 k false Γ elt me) (hj : Γ.contains j = false := by decide) (hv : (slots own).all (fun i => !Γ.contains i) = true := by decide) (hs : ∀ x, foldedSetIterable iter X.env x = pure x := by intro _; rfl) :
    PS X (.Assign [.Name y py] (.ListComp elt [⟨tg, iter, ifs, 0⟩] scope pos) spos) (tAsg (fun σ H Q => FrzAt j σ H ∧ DTf X.K X.mg E k Γ (mLc k (iKy j) (slots own) g tt me) σ H Q) (gName i)) :=
  PS.imp (ps_setLc (i := i) (g := DTg X.K Γ (slots own) g) (tt := DTb X.K X.mg E0 k Γ tt) (te := DT X.K X.mg E0 k false Γ me) hc hN hy hyl hsw (di_keys (E := E) (k := k) hi hj) ok hg ht he hs) fun D σ H h => ⟨h.1, lc_turn (fun i hi => by have := List.all_eq_true.mp hv i hi; simpa using this) h.2⟩
theorem gl {x : Str} (h : X.env.kindOf x = some .globalImplicit) : Gl X x := h
end
def blkB (N : List Str) (sc scope : Scope) (own : List (Str × Nat)) : Bool :=
  decide (scope.kind = .function) && (scope.names.all (fun y => decide (scope.names.lookup y.1 = some y.2)) && (own.all (fun p => decide (N[p.2]? = some p.1)) &&
    (scope.names.all (fun y => decide (y.2 ≠ .free) || (decide (sc.names.lookup y.1 = some .cell) || decide (sc.names.lookup y.1 = some .free))) &&
     scope.names.all (fun y => (decide (y.2 ≠ .local) && decide (y.2 ≠ .cell)) || ((own.map (·.1)).contains y.1 || !(N.contains y.1))))))
theorem blk_ok {N : List Str} {sc scope : Scope} {own : List (Str × Nat)} (h : blkB N sc scope own = true) : BlkOk N sc scope own := by
  obtain ⟨h1, h⟩ := Bool.and_eq_true_iff.mp h
  obtain ⟨h2, h⟩ := Bool.and_eq_true_iff.mp h
  obtain ⟨h3, h⟩ := Bool.and_eq_true_iff.mp h
  obtain ⟨h4, h5⟩ := Bool.and_eq_true_iff.mp h
  refine ⟨of_decide_eq_true h1, fun y hy => of_decide_eq_true (List.all_eq_true.mp h2 y hy), fun p hp => of_decide_eq_true (List.all_eq_true.mp h3 p hp), fun y hy e => ?_, fun y hy e => ?_⟩
  · have := List.all_eq_true.mp h4 y hy
    rcases Bool.or_eq_true_iff.mp this with z | z
    · exact absurd e (of_decide_eq_true z)
    · exact (Bool.or_eq_true_iff.mp z).imp of_decide_eq_true of_decide_eq_true
  · have := List.all_eq_true.mp h5 y hy
    rcases Bool.or_eq_true_iff.mp this with z | z
    · obtain ⟨z1, z2⟩ := Bool.and_eq_true_iff.mp z
      exact e.elim (fun e => absurd e (of_decide_eq_true z1)) fun e => absurd e (of_decide_eq_true z2)
    · rcases Bool.or_eq_true_iff.mp z with z | z
      · exact .inl (List.contains_iff_mem.mp z)
      · exact .inr fun hm => by
          rw [List.contains_iff_mem.mpr hm] at z
          cases z
/-! ### the facts of a top -/
structure Fx (fa : List He.Fa) (fn : List He.DefD) (K : Fg) (mg : Str → Option Value) : Prop where
  h : ∃ h : Heap, K.In h ∧ h.Ns mainGlobals mg
  c : He.SaysD fa fn K
section
variable {fa : List He.Fa} {fn : List He.DefD} {K : Fg} {mg : Str → Option Value}
theorem Fx.free (Z : Fx fa fn K mg) (i : Nat) {x : Str} (h : fa[i]? = some (.free x) := by rfl) : mg x = none := let ⟨_, a, b⟩ := Z.h; He.free_ok a b (Z.c.fact i h)
theorem Fx.glo (Z : Fx fa fn K mg) (i : Nat) {x : Str} (h : fa[i]? = some (.glo x) := by rfl) : mg x = some (.ref (He.ga K x)) := let ⟨_, a, b⟩ := Z.h; He.glo_ok a b (Z.c.fact i h)
/-- the law's script at the start -/
theorem law_start {K : Fg} {mg : Str → Option Value} {fn : List D → R D} {H : Hp} {a : Addr} {ns : List Int} (hS : SqL K H a (ns.map V.int)) (h : fn [scrD ns] = .ok (.bool true)) : spP K mg fn [.ref a] H (fun v _ => v = .bl true) fun _ _ _ => False := by
  refine ⟨fun _ => False, [scrD ns], fun _ z => z.elim, .one (.scr (hS.imp (fun z => ⟨z, id⟩) id)), ?_⟩
  rw [h]
  exact fun v H' _ r => (Rt.of r).bl
end
end Dt
namespace Dt
open PySem PySem.Spec PyProof.Rows L2 R
theorem Cz.rm {X : Cx} {E : XK} {k j : Nat} (z : Cz X E k) (h : j ≤ k := by omega) : Room j X.A := z.room.mono h
theorem fn_none {P : Program} {w : World} {K : Fg} {mg : Str → Option Value} {base : Heap} {k : Nat} {f : Addr} {fd : FuncData} {ps : List Str} {CX : CXT} : FnOk P w K mg base CX k f fd ps (spP K mg fun _ => .no) :=
  ⟨fun vs H Q E ⟨_, _, _, _, q⟩ => q.elim, fun A outer s H args us vs Q E _ _ _ _ ⟨_, _, _, _, q⟩ => q.elim⟩
end Dt
namespace Dt
open PySem PySem.Spec PyProof.Rows L2 R
/-- the law is walked: what it may let out hangs on the world -/
theorem walkW {l : PySem.W.OpenLaw} {m k : Nat} {pq : Program} {ls : List Str} {XP : (Str → Option Value) → Heap → Prop} {YP : World → Heap → Prop} {dr : DefRec} {C : World → CXT} {y : Str} (h1 : l.most = some m) (h2 : m ≤ sizeLine) (h3 : dr.params.defaults = []) (hr : Room k callerA)
    (F : ∀ (w : World) (g : Str → Option Value) (fa : Addr) (hp : Heap), YP w hp → hp.Ns mainGlobals g → g dr.name = some (.ref fa) → ∃ (K : Fg) (fd : FuncData) (sp : Sp), K.In hp ∧ (∀ (s : Shared) (u : Value), BindsTo s fd ⟨[u], []⟩ [(y, u)]) ∧
      (∀ (H : Hp) (a : Addr) (ns : List Int), ns.length ≤ m → SqL K H a (ns.map V.int) → sp [.ref a] H (fun v _ => v = .bl true) fun _ _ _ => False) ∧ ∀ base : Heap, K.In base → base.Ns mainGlobals g → FnOk l.prog w K g base (C w) k fa fd [y] sp)
    (hC : ∀ (w : World) (H : Hp) (s : Shared) (e : Value) (s' : Shared), C w [] H s (fun _ _ _ => False) e s' → False) : PySem.W.WalkO pq ls XP YP l.row.toRowW dr [] (fun f vs => PySem.call f vs) := by
  refine Att.attach_call h1 h3 fun w _ s1 g _ fa _ _ _ _ a us zs G Y _ _ _ k1 k2 k3 k4 k5 => ?_
  obtain ⟨K, fd, sp, X, b, q1, q2⟩ := F w g fa _ Y G.T.g k1
  refine law_call X G.T.g G.T.b G.T.builtins G.T.nolimit k5 k2 k3 (Nat.le_trans k4 h2) hr q2 b (fun H _ S => q1 H a zs k4 S) fun H e s' => hC w H s1 e s'
theorem cx_no {P : Program} {w : World} (H : Hp) (s : Shared) (e : Value) (s' : Shared) (h : L2.CX P w [] H s (fun _ _ _ => False) e s') : False := by
  obtain ⟨_, _, _, _, _, _, _, _, _, _, _, _, z⟩ := h
  exact z
end Dt

set_option Elab.async false
set_option linter.all false
set_option maxRecDepth 100000
set_option autoImplicit false
/-! More rules: new lists by +, own lists read among effects, list(d), min, max, chains. -/
namespace Dt
open PySem PySem.Spec PyProof.Rows L2 R

/-! ### xs + ys, new -/
def dCat : G2
  | .list xs, .list ys => if xs.length + ys.length ≤ sizeLine then some (.list (xs ++ ys)) else none
  | _, _ => none
def rFr (K : Fg) (g : G2) : R2 := fun x y H Q => ∃ (M : Av) (d e r : D), Trk M H ∧ Rt K H M x d ∧ Rt K H M y e ∧ g d e = some r ∧ ∀ p o, H p = none → OwnAt K (upd H p o) (M.add p) p r → Q (.ref p) (upd H p o)
theorem op_dCat {X : Cx} : OpR X (binaryOp .Add) (rFr X.K dCat) := by
  intro pins s σ H x y v u Q I rx ry h
  obtain ⟨M, d, e, r, tk, rd, re, eg, q⟩ := h
  unfold dCat at eg
  split at eg
  · split at eg
    · rename_i hz
      cases eg
      obtain ⟨a, xs, e1, r1, a1⟩ := rd.list
      obtain ⟨b, ys, e2, r2, a2⟩ := re.list
      refine op_catR pins s σ H x y v u Q I rx ry ⟨a, b, xs, ys, e1, e2, r1, r2, by rw [a1.length, a2.length]; exact hz, fun p np => q p _ np (.lst upd_same ?_)⟩
      exact RpAll.carry ((Carry.add np).trans (Carry.same fun b u e => by rw [upd_ne (ne_of_none e np)]; exact e)) (a1.append a2)
    · cases eg
  · cases eg
section
variable {X : Cx} {E : XK} {k r : Bool} {Γ0 Γ Γ' Γl : List Nat} {a b c e o tg : Expr} {es : List Expr} {pos : Pos} {st : Stmt}
theorem df_cat {ma mb : ME} {ra rb : Bool} (ha : DE X E k ra Γ a ma) (hb : DE X E k rb Γ b mb) (hk : (k && ra) = false := by rfl) : DF X E k Γ (.BinOp a .Add b pos) (mOp dCat ma mb) :=
  PE.imp (pe_op op_dCat ha hb) fun σ H Q ⟨M, A, ρ, hΓ, f, h⟩ => by
    refine ⟨M, A, ρ, hΓ, f, pimp (post_bind h) (fun z hz v1 H1 f1 g1 e1 r1 => ?_) (fun c hc => hc)⟩
    refine ⟨M, A, z.2, hΓ, f1, pimp (post_bind hz) (fun z2 hz2 v2 H2 f2 g2 e2 r2 => ?_) (fun c hc => DX.fra g1 hc)⟩
    obtain ⟨w, ew, q⟩ := post_opt hz2
    refine ⟨M, z.1, z2.1, w, f2.trk, (r1.fra hk f1 g2).t, r2.t, ew, fun p o np ow => ?_⟩
    have np1 : H1 p = none := none_back f2 g2 np
    exact q p _ (none_back f1 g1 np1) (f2.addM np) ((g1.trans g2).trans (Fra.of_eff fun b u e => by rw [upd_ne (ne_of_none e np)]; exact e)) (fun n => (e2 n).trans (e1 n)) ow
/-! ### xs[e], xs an own list or dict, e with effects -/
def mSubO (i : Nat) (g : G2) (mb : ME) : ME := fun ρ => (R.opt (getv ρ i)).bind fun _ => (mb ρ).bind fun y => (R.opt (getv y.2 i)).bind fun d => (R.opt (g d y.1)).bind fun r => .ok (r, y.2)
theorem de_subO {i : Nat} {mb : ME} {rb : Bool} (hu : X.A.units + 1 < cLine) (ho : PE X o (tVar i)) (hb : DE X E k rb Γ b mb) (hs : PlainIx b) (hi : Γ.contains i = true := by decide) : DE X E k false Γ (.Subscript o b pos) (mSubO i dIxA mb) :=
  PE.imp (pe_ix (op_dIxA hu) ho hb hs) fun σ H Q ⟨M, A, ρ, hΓ, f, h⟩ => by
    obtain ⟨d0, e0, h⟩ := post_opt h
    have hm : i ∈ A.map (·.1) := by rw [hΓ]; exact List.contains_iff_mem.mp hi
    obtain ⟨⟨j, a⟩, hq, e⟩ := List.mem_map.mp hm
    obtain rfl : j = i := e
    refine ⟨.ref a, (f.own _ hq).1, M, A, ρ, hΓ, f, pimp (post_bind h) (fun z hz v H1 f1 g1 e1 r1 => ?_) fun c hc => hc⟩
    obtain ⟨d, ed, hz⟩ := post_opt hz
    obtain ⟨w, ew, hz⟩ := post_opt hz
    obtain ⟨o1, d', o2, o3⟩ := f1.own _ hq
    rw [getv_some ed] at o2
    cases o2
    exact ⟨M, d, z.1, w, f1.trk, o3.t, r1.t, ew, fun u H' s' rp => hz u H' (f1.same s') (g1.trans (Fra.of_eff s')) e1 rp⟩
/-! ### list(d) -/
def dListA : GA
  | [.dict es] => if flatK es then some (.list (keysD es)) else none
  | xs => dList xs
theorem rpK_keys {K : Fg} {H : Hp} {M : Av} : ∀ {kvs : List (Key × V)} {es : List (D × D)}, RpK K H M kvs es → RpAll K H M (kvs.map fun kv => kV kv.1) (keysD es)
  | _, _, .nil => .nil
  | _, _, .cons h r => .cons (rp_key _) (rpK_keys r)
theorem dListA_or (ds : List D) : (∃ es, ds = [.dict es]) ∨ dListA ds = dList ds := by
  unfold dListA
  split
  · exact .inl ⟨_, rfl⟩
  · exact .inr rfl
theorem call_dListA (hc : X.calm = true) : CallR X (.type "list") (rC X.K dListA) := by
  intro pins s σ H vs us Q I rv h
  obtain ⟨M, ds, r, tk, rx, eg, q⟩ := h
  rcases dListA_or ds with ⟨es, rfl⟩ | e
  · have eg : (if flatK es then some (PyData.list (keysD es)) else none) = some r := eg
    by_cases fl : flatK es = true
    · rw [if_pos fl] at eg
      cases eg
      obtain ⟨v, rfl, rd⟩ := rx1 rx
      obtain ⟨a, kvs, e1, r1, r2⟩ := rd.dict fl
      subst e1
      exact call_listD hc pins s σ H _ us Q I rv ⟨a, kvs, rfl, r1, fun p np => let ⟨s', rp⟩ := new_lst tk np (rpK_keys r2); q _ _ s' rp⟩
    · rw [if_neg fl] at eg; cases eg
  · exact call_dList pins s σ H vs us Q I rv ⟨M, ds, r, tk, rx, e ▸ eg, q⟩
/-! ### max, min of whole numbers -/
def imax : List Int → Option Int
  | [] => none
  | x :: xs => some (xs.foldl max x)
def imin : List Int → Option Int
  | [] => none
  | x :: xs => some (xs.foldl min x)
theorem foldl_max (xs : List Int) : ∀ x : Int, (xs.foldl max x = x ∨ xs.foldl max x ∈ xs) ∧ x ≤ xs.foldl max x ∧ ∀ a ∈ xs, a ≤ xs.foldl max x := by
  induction xs with
  | nil => intro x; exact ⟨.inl rfl, Int.le_refl _, by simp⟩
  | cons y ys ih =>
    intro x
    rw [List.foldl_cons]
    obtain ⟨h1, h2, h3⟩ := ih (max x y)
    have m1 : max x y = x ∨ max x y = y := by omega
    have m2 : x ≤ max x y ∧ y ≤ max x y := by omega
    refine ⟨?_, Int.le_trans m2.1 h2, fun a ha => ?_⟩
    · rcases h1 with h1 | h1
      · rcases m1 with m | m
        · exact .inl (by rw [h1, m])
        · exact .inr (by rw [h1, m]; exact List.mem_cons_self)
      · exact .inr (List.mem_cons_of_mem _ h1)
    · rcases List.mem_cons.mp ha with e | ha
      · subst e; exact Int.le_trans m2.2 h2
      · exact h3 a ha
theorem foldl_min (xs : List Int) : ∀ x : Int, (xs.foldl min x = x ∨ xs.foldl min x ∈ xs) ∧ xs.foldl min x ≤ x ∧ ∀ a ∈ xs, xs.foldl min x ≤ a := by
  induction xs with
  | nil => intro x; exact ⟨.inl rfl, Int.le_refl _, by simp⟩
  | cons y ys ih =>
    intro x
    rw [List.foldl_cons]
    obtain ⟨h1, h2, h3⟩ := ih (min x y)
    have m1 : min x y = x ∨ min x y = y := by omega
    have m2 : min x y ≤ x ∧ min x y ≤ y := by omega
    refine ⟨?_, Int.le_trans h2 m2.1, fun a ha => ?_⟩
    · rcases h1 with h1 | h1
      · rcases m1 with m | m
        · exact .inl (by rw [h1, m])
        · exact .inr (by rw [h1, m]; exact List.mem_cons_self)
      · exact .inr (List.mem_cons_of_mem _ h1)
    · rcases List.mem_cons.mp ha with e | ha
      · subst e; exact Int.le_trans h2 m2.2
      · exact h3 a ha

theorem int_list {K : Fg} {H : Hp} {M : Av} : ∀ {xs : List V} {ns : List Int}, RpAll K H M xs (ns.map .int) → xs = ns.map V.int
  | [], [], _ => rfl
  | [], _ :: _, h => by cases h
  | _ :: _, [], h => by cases h
  | x :: xs, n :: ns, h => by
    cases h with
    | cons h r => rw [int_list r, (Rt.of h).int]; rfl
def dMax : GA
  | [.int i, .int j] => some (.int (if j > i then j else i))
  | [.list ds] => ((asInts ds).bind imax).map .int
  | _ => none
def dMin : GA
  | [.int i, .int j] => some (.int (if j < i then j else i))
  | [.list ds] => ((asInts ds).bind imin).map .int
  | _ => none
def dSum : GA
  | [.list ds] => (asInts ds).map fun ns => .int ns.sum
  | _ => none
theorem call_dMax (hc : X.calm = true) : CallR X (.builtin "max") (rC X.K dMax) := by
  intro pins s σ H vs us Q I rv h
  obtain ⟨M, ds, r, tk, rx, eg, q⟩ := h
  unfold dMax at eg
  split at eg
  · cases eg
    obtain ⟨v, w, rfl, r1, r2⟩ := rx2 rx
    exact call_max2 hc pins s σ H _ us Q I rv ⟨_, _, by rw [r1.int, r2.int], q _ H (Same.refl _) (.int _)⟩
  · rename_i ds
    cases ei : asInts ds with
    | none => rw [ei] at eg; cases eg
    | some ns =>
      rw [ei] at eg
      obtain ⟨v, rfl, rd⟩ := rx1 rx
      obtain ⟨a, xs, e1, r1, a1⟩ := rd.list
      subst e1
      rw [asInts_some ei] at a1
      have ex := int_list a1
      subst ex
      cases ns with
      | nil => cases eg
      | cons n ns =>
        cases eg
        obtain ⟨h1, h2, h3⟩ := foldl_max ns n
        refine cr_max hc pins s σ H _ us Q I rv ⟨a, n :: ns, rfl, .inl r1, Nat.succ_pos _, fun m hm hy => ?_⟩
        have e : m = ns.foldl max n := by
          have l1 : ns.foldl max n ≤ m := hy _ (h1.elim (fun e => by rw [e]; exact List.mem_cons_self) fun z => List.mem_cons_of_mem _ z)
          have l2 : m ≤ ns.foldl max n := (List.mem_cons.mp hm).elim (fun e => by rw [e]; exact h2) fun z => h3 m z
          omega
        rw [e]
        exact q _ H (Same.refl _) (.int _)
  · cases eg
theorem call_dMin (hc : X.calm = true) : CallR X (.builtin "min") (rC X.K dMin) := by
  intro pins s σ H vs us Q I rv h
  obtain ⟨M, ds, r, tk, rx, eg, q⟩ := h
  unfold dMin at eg
  split at eg
  · cases eg
    obtain ⟨v, w, rfl, r1, r2⟩ := rx2 rx
    exact call_min2 hc pins s σ H _ us Q I rv ⟨_, _, by rw [r1.int, r2.int], q _ H (Same.refl _) (.int _)⟩
  · rename_i ds
    cases ei : asInts ds with
    | none => rw [ei] at eg; cases eg
    | some ns =>
      rw [ei] at eg
      obtain ⟨v, rfl, rd⟩ := rx1 rx
      obtain ⟨a, xs, e1, r1, a1⟩ := rd.list
      subst e1
      rw [asInts_some ei] at a1
      have ex := int_list a1
      subst ex
      cases ns with
      | nil => cases eg
      | cons n ns =>
        cases eg
        obtain ⟨h1, h2, h3⟩ := foldl_min ns n
        refine cr_min hc pins s σ H _ us Q I rv ⟨a, n :: ns, rfl, .inl r1, Nat.succ_pos _, fun m hm hy => ?_⟩
        have e : m = ns.foldl min n := by
          have l1 : m ≤ ns.foldl min n := hy _ (h1.elim (fun e => by rw [e]; exact List.mem_cons_self) fun z => List.mem_cons_of_mem _ z)
          have l2 : ns.foldl min n ≤ m := (List.mem_cons.mp hm).elim (fun e => by rw [e]; exact h2) fun z => h3 m z
          omega
        rw [e]
        exact q _ H (Same.refl _) (.int _)
  · cases eg
theorem call_dSum (hc : X.calm = true) : CallR X (.builtin "sum") (rC X.K dSum) := by
  intro pins s σ H vs us Q I rv h
  obtain ⟨M, ds, r, tk, rx, eg, q⟩ := h
  unfold dSum at eg
  split at eg
  · rename_i ds
    cases ei : asInts ds with
    | none => rw [ei] at eg; cases eg
    | some ns =>
      rw [ei] at eg
      cases eg
      obtain ⟨v, rfl, rd⟩ := rx1 rx
      obtain ⟨a, xs, e1, r1, a1⟩ := rd.list
      subst e1
      rw [asInts_some ei] at a1
      have ex := int_list a1
      subst ex
      exact cr_sum hc pins s σ H _ us Q I rv ⟨a, ns, rfl, .inl r1, q _ H (Same.refl _) (.int _)⟩
  · cases eg
/-! ### a < b < c -/
def mChain (g1 g2 : G2) (ma mb mc : ME) : ME := fun ρ => (ma ρ).bind fun x => (mb x.2).bind fun y => (R.opt (g1 x.1 y.1)).bind fun t => match t with
  | .bool true => (mc y.2).bind fun z => (R.opt (g2 y.1 z.1)).bind fun r => .ok (r, z.2)
  | .bool false => .ok (.bool false, y.2)
  | _ => .no

theorem Rx.same {K : Fg} {H H' : Hp} {M : Av} {v : V} {d : D} {r : Bool} (s : Same H H') (h : Rx r K H M v d) : Rx r K H' M v d := by
  cases r with
  | true => exact Rt.same s h
  | false => exact Rp.carry (Carry.same s) h
theorem de_chain {op op' : CmpOp} {g1 g2 : G2} {ma mb mc : ME} {ra rb rc : Bool} (ho : OpR X (compareOp op) (rD X.K g1)) (ho' : OpR X (compareOp op') (rD X.K g2)) (ha : DE X E k ra Γ a ma) (hb : DE X E k rb Γ b mb) (hc : DE X E k rc Γ c mc)
    (hk : (k && ra) = false := by rfl) (hk2 : (k && rb) = false := by rfl) (hm : lastMarks [op, op'] [b, c] = false := by with_unfolding_all rfl) : DE X E k false Γ (.Compare a [op, op'] [b, c] pos) (mChain g1 g2 ma mb mc) :=
  PE.imp (pe_chain ho ho' ha hb hc hm) fun σ H Q ⟨M, A, ρ, hΓ, f, h⟩ => by
    refine ⟨M, A, ρ, hΓ, f, pimp (post_bind h) (fun z hz v1 H1 f1 g1' e1 r1 => ?_) (fun c hc => hc)⟩
    refine ⟨M, A, z.2, hΓ, f1, pimp (post_bind hz) (fun z2 hz2 v2 H2 f2 g2' e2 r2 => ?_) (fun c hc => DX.fra g1' hc)⟩
    obtain ⟨w, ew, q⟩ := post_opt hz2
    refine ⟨M, z.1, z2.1, w, f2.trk, (r1.fra hk f1 g2').t, r2.t, ew, fun u H' s' rp => ?_⟩
    have g3 : Fra (eff k A) H H' := (g1'.trans g2').trans (Fra.of_eff s')
    cases w with
    | bool t =>
      have eu := (Rt.of rp).bl
      refine ⟨t, eu, ?_⟩
      cases t with
      | false =>
        rw [if_neg (by decide)]
        exact q _ H' (f2.same s') g3 (fun n => (e2 n).trans (e1 n)) (.bl _)
      | true =>
        rw [if_pos rfl]
        refine ⟨M, A, z2.2, hΓ, f2.same s', pimp (post_bind q) (fun z3 hz3 v3 H3 f3 g4 e3 r3 => ?_) (fun c hc => DX.fra g3 hc)⟩
        obtain ⟨w3, ew3, q3⟩ := post_opt hz3
        exact ⟨M, z2.1, z3.1, w3, f3.trk, (Rx.fra hk2 (f2.same s') g4 (Rx.same s' r2)).t, r3.t, ew3, fun u H4 s4 rp4 => q3 u H4 (f3.same s4) ((g3.trans g4).trans (Fra.of_eff s4)) (fun n => (e3 n).trans ((e2 n).trans (e1 n))) rp4⟩
    | _ => exact q.elim
end
end Dt

set_option Elab.async false
set_option linter.all false
set_option maxRecDepth 100000
set_option autoImplicit false
/-! Dicts with tuples of ints and texts as keys. -/
namespace Dt
open PySem PySem.Spec PyProof.Rows L2 R

def asT : D → Option (List (D × D))
  | .dict ((.bool true, .none) :: es) => some es
  | _ => none
theorem asT_some {d : D} {es : List (D × D)} (h : asT d = some es) : d = .dict (tH :: es) := by
  unfold asT at h
  split at h
  · cases h; rfl
  · cases h
def keysOf : List D → Option (List Key)
  | [] => some []
  | d :: ds => (keyOf d).bind fun k => (keysOf ds).map (k :: ·)
theorem keysOf_cons {d : D} {ds : List D} {ks : List Key} (h : keysOf (d :: ds) = some ks) : ∃ k ks', keyOf d = some k ∧ keysOf ds = some ks' ∧ ks = k :: ks' := by
  unfold keysOf at h
  cases e : keyOf d with
  | none => rw [e] at h; cases h
  | some k =>
    rw [e] at h
    cases e2 : keysOf ds with
    | none => rw [e2] at h; cases h
    | some ks' =>
      rw [e2] at h
      cases h
      exact ⟨k, ks', rfl, rfl, rfl⟩
theorem keysOf_kD : ∀ ks : List Key, keysOf (ks.map kD) = some ks
  | [] => rfl
  | k :: ks => by
    rw [List.map_cons]
    unfold keysOf
    rw [keyOf_kD, keysOf_kD ks]; rfl
def tkey : D → Option (List Key)
  | .tuple ds => keysOf ds
  | _ => none
theorem tkey_kT (k : List Key) : tkey (kT k) = some k := keysOf_kD k
def tlook (es : List (D × D)) (k : List Key) : Option D := (es.find? fun e => decide (tkey e.1 = some k)).map (·.2)
def tput (es : List (D × D)) (k : List Key) (d : D) : List (D × D) :=
  if (es.any fun e => decide (tkey e.1 = some k)) = true then es.map (fun e => if tkey e.1 = some k then (e.1, d) else e) else es ++ [(kT k, d)]
section
variable {K : Fg} {H : Hp} {M : Av} {v : V} {d : D}
theorem rpAll_keys : ∀ {vs : List V} {ds : List D} {ks : List Key}, RpAll K H M vs ds → keysOf ds = some ks → vs = ks.map kV
  | _, _, _, .nil, e => by cases e; rfl
  | _, _, _, .cons h r, e => by
    obtain ⟨k, ks', e1, e2, rfl⟩ := keysOf_cons e
    rw [List.map_cons, ← rpAll_keys r e2, kD_rt e1 (.of h)]
theorem rpT_length : ∀ {kvs : List (List Key × V)} {es : List (D × D)}, RpT K H M kvs es → kvs.length = es.length
  | _, _, .nil => rfl
  | _, _, .cons _ r => congrArg Nat.succ (rpT_length r)
theorem rpT_any {k : List Key} : ∀ {kvs : List (List Key × V)} {es : List (D × D)}, RpT K H M kvs es → (kvs.any fun kv => decide (kv.1 = k)) = (es.any fun e => decide (tkey e.1 = some k))
  | _, _, .nil => rfl
  | _, _, .cons (k := k') h r => by
    rw [List.any_cons, List.any_cons, rpT_any r, tkey_kT]
    congr 1
    by_cases e : k' = k
    · simp [e]
    · rw [decide_eq_false e, decide_eq_false fun z => e (Option.some.inj z)]
theorem rpT_repl {k : List Key} (hv : Rp K H M v d) : ∀ {kvs : List (List Key × V)} {es : List (D × D)}, RpT K H M kvs es → RpT K H M (kvs.map fun kv => if kv.1 = k then (kv.1, v) else kv) (es.map fun e => if tkey e.1 = some k then (e.1, d) else e)
  | _, _, .nil => .nil
  | _, _, .cons (k := k') (v := v') (d := d') h r => by
    have ih := rpT_repl (k := k) hv r
    rw [List.map_cons, List.map_cons, tkey_kT]
    by_cases e : k' = k
    · rw [if_pos e, if_pos (congrArg some e)]; exact .cons hv ih
    · rw [if_neg e, if_neg fun z => e (Option.some.inj z)]; exact .cons h ih
theorem rpT_snoc {k : List Key} (hv : Rp K H M v d) : ∀ {kvs : List (List Key × V)} {es : List (D × D)}, RpT K H M kvs es → RpT K H M (kvs ++ [(k, v)]) (es ++ [(kT k, d)])
  | _, _, .nil => .cons hv .nil
  | _, _, .cons h r => .cons h (rpT_snoc hv r)
theorem rpT_put {k : List Key} {kvs : List (List Key × V)} {es : List (D × D)} (r : RpT K H M kvs es) (hv : Rp K H M v d) : RpT K H M (putK kvs k v) (tput es k d) := by
  unfold putK tput
  rw [rpT_any r]
  split
  · exact rpT_repl hv r
  · exact rpT_snoc hv r
theorem rpT_look {k : List Key} : ∀ {kvs : List (List Key × V)} {es : List (D × D)} {d : D}, RpT K H M kvs es → tlook es k = some d → ∃ v, valV kvs k = some v ∧ Rp K H M v d
  | _, _, _, .nil, h => by cases h
  | _, _, d, .cons (k := k') (v := v') (kvs := kvs) (d := d') (es := es) h r, hh => by
    unfold tlook at hh
    unfold valV
    rw [List.find?_cons, tkey_kT] at hh
    rw [List.find?_cons]
    by_cases e : k' = k
    · subst e
      simp only [decide_true, Option.map_some] at hh ⊢
      exact ⟨v', rfl, by cases hh; exact h⟩
    · have e1 : decide ((k', v').1 = k) = false := decide_eq_false e
      have e2 : decide (some k' = some k) = false := decide_eq_false fun z => e (Option.some.inj z)
      rw [e2] at hh
      rw [e1]
      exact rpT_look r hh
theorem Rt.dictT {es : List (D × D)} (h : Rt K H M v (.dict (tH :: es))) : ∃ a kvs, v = .ref a ∧ Rd H a (.dT kvs) ∧ RpT K H M kvs es := by
  generalize e : (PyData.dict (tH :: es)) = d at h
  cases h with
  | of h => cases h with
    | dcK h1 h2 h3 =>
      cases e
      have := rpK_flat h3
      rw [flat_tH] at this; cases this
    | dcT h1 h2 h3 => cases e; exact ⟨_, _, rfl, h1, h3⟩
    | scr h => cases e
    | _ => cases e
  | dcK h1 h2 =>
    cases e
    have := rpK_flat h2
    rw [flat_tH] at this; cases this
  | dcT h1 h2 => cases e; exact ⟨_, _, rfl, h1, h2⟩
  | lst _ _ => cases e
theorem Rp.dictT {es : List (D × D)} (h : Rp K H M v (.dict (tH :: es))) : ∃ a kvs, v = .ref a ∧ Rd H a (.dT kvs) ∧ ¬ M a ∧ RpT K H M kvs es := by
  generalize e : (PyData.dict (tH :: es)) = d at h
  cases h with
  | dcK h1 h2 h3 =>
    cases e
    have := rpK_flat h3
    rw [flat_tH] at this; cases this
  | dcT h1 h2 h3 => cases e; exact ⟨_, _, rfl, h1, h2, h3⟩
  | scr h => cases e
  | _ => cases e
end
section
variable {X : Cx} {E : XK} {k r : Bool} {Γ0 Γ Γ' Γl vs : List Nat} {a b c e tg o : Expr} {es : List Expr} {pos : Pos} {st : Stmt}
def mDictT : ME := fun ρ => .ok (.dict [tH], ρ)
theorem df_dictT : DF X E k Γ (.Dict [] [] pos) mDictT :=
  PE.imp pe_dnewT fun σ H Q ⟨M, A, ρ, hΓ, f, h⟩ p np =>
    h p _ np (f.addM np) (Fra.of_eff fun b u e => by rw [upd_ne (ne_of_none e np)]; exact e) (fun _ => rfl) (.dcT upd_same .nil)
/-- d[(x, y)] -/
def eGetT (mo : ME) (mk : MA) : ME := fun ρ => (mo ρ).bind fun o => (R.opt (asT o.1)).bind fun es => (mk o.2).bind fun z => (R.opt (keysOf z.1)).bind fun ks =>
  if z.1.length ≤ 1000 then (R.opt (tlook es ks)).bind fun d => .ok (d, z.2) else .no
def rGetT : R2 := fun x y H Q => ∃ a v, x = .ref a ∧ DGet H a y (some v) ∧ Q v H
theorem op_getT (hu : X.A.units + 1 < cLine) : IxR X rGetT := by
  intro value slice pins s σ H x y v u Q I rx ry h hs
  obtain ⟨a, w, e1, g, q⟩ := h
  subst e1
  obtain rfl : v = Value.ref a := rx
  exact tail_any (dict_typeIs I g) PySem.F.slot_dict_getitem.lookup (d_getItem hu I g ry fun w' s' I' rw2 => ⟨w, H, I', rw2, q⟩) hs
theorem de_getT {mo : ME} {mk : MA} {x1 : Nat} {p2 : Pos} (hu : X.A.units + 1 < cLine) (ho : DE X E k r Γ o mo) (he : DA X E k false Γ es mk) (hs : PlainIx (.Tuple es x1 p2)) (hk : (k && r) = false := by rfl) :
    DE X E k false Γ (.Subscript o (.Tuple es x1 p2) pos) (eGetT mo mk) :=
  PE.imp (pe_ix (op_getT hu) ho (pe_tup he) hs) fun σ H Q ⟨M, A, ρ, hΓ, f, h⟩ => by
    refine ⟨M, A, ρ, hΓ, f, pimp (post_bind h) (fun z hz v H1 f1 g1 e1 r1 => ?_) fun c hc => hc⟩
    obtain ⟨ds, ees, hz⟩ := post_opt hz
    have ez := asT_some ees
    rw [ez] at r1
    refine ⟨M, A, z.2, hΓ, f1, pimp (post_bind hz) (fun y hy ws H2 f2 g2 e2 r2 => ?_) fun c hc => DX.fra g1 hc⟩
    obtain ⟨ks, ek, hy⟩ := post_opt hy
    by_cases hl : y.1.length ≤ 1000
    · rw [if_pos hl] at hy
      obtain ⟨d, ed, hy⟩ := post_opt hy
      have ra := r2.all
      have ew := rpAll_keys ra ek
      refine ⟨by rw [ra.length]; exact Nat.le_of_lt (small1000 hl), fun p np => ?_⟩
      have sm : Same H2 (upd H2 p (.tup ws)) := fun b u eb => by rw [upd_ne (ne_of_none eb np)]; exact eb
      have r1' := Rx.fra hk f1 g2 r1
      obtain ⟨a', kvs', ev', d1', d2'⟩ := Rt.dictT r1'.t
      obtain ⟨w, ew2, rw2⟩ := rpT_look d2' ed
      refine ⟨a', w, ev', .inr ⟨kvs', ks, p, rd_same sm d1', rfl, by rw [upd_same, ew], ew2.symm⟩, ?_⟩
      exact hy _ _ (f2.same sm) ((g1.trans g2).trans (Fra.of_eff sm)) (fun n => (e2 n).trans (e1 n)) (Rp.carry (Carry.same sm) rw2)
    · rw [if_neg hl] at hy; exact hy.elim
/-- d[(x, y)] = v -/
def asTo (o : Option D) : Option (List (D × D)) := o.bind asT
def sPutT (o : Nat) (mv : ME) (mk : MA) : MS := fun ρ => (mv ρ).bind fun v => (mk v.2).bind fun z => (R.opt (asTo (getv z.2 o))).bind fun es => (R.opt (keysOf z.1)).bind fun ks =>
  if es.length < sizeLine ∧ z.1.length ≤ 1000 then .ok (.nx, z.2.set o (some (.dict (tH :: tput es ks v.1)))) else .no
theorem Fit.ownT {K : Fg} {M : Av} {A : As} {σ : St} {H : Hp} {ρ : Ev} {i : Nat} {es : List (D × D)} {Γ : List Nat} (f : Fit K M A σ H ρ) (hΓ : A.map (·.1) = Γ) (hi : Γ.contains i = true) (h : asTo (getv ρ i) = some es) :
    ∃ a kvs, (i, a) ∈ A ∧ σ[i]? = some (some (.ref a)) ∧ H a = some (.dT kvs) ∧ RpT K H M kvs es := by
  cases hg : getv ρ i with
  | none => rw [hg] at h; cases h
  | some d =>
    rw [hg] at h
    have e1 := asT_some h
    rw [e1] at hg
    obtain ⟨a, ia, h1, ow⟩ := f.ownK hΓ hi hg
    generalize e : (PyData.dict (tH :: es)) = d at ow
    cases ow with
    | dcK g1 g2 =>
      cases e
      have := rpK_flat g2
      rw [flat_tH] at this; cases this
    | dcT g1 g2 => cases e; exact ⟨a, _, ia, h1, g1, g2⟩
    | lst _ _ => cases e
theorem ds_putT {o : Nat} {oe : Expr} {mv : ME} {mk : MA} {x1 : Nat} {p2 p3 : Pos} (hu : X.A.units + 1 < cLine) (hp : PE X oe (tVar o)) (hi : DA X E false false (Γ ++ Γ0) es mk) (hv : DE X E k false (Γ ++ Γ0) e mv) (ho : (Γ ++ Γ0).contains o = true := by decide)
    (hs : swapsWith e (some (.Subscript oe (.Tuple es x1 p3) p2)) pos.line X.env = pure false := by rfl) : DS X E Γ0 Γ Γ Γl (.Assign [.Subscript oe (.Tuple es x1 p3) p2] e pos) (sPutT o mv mk) :=
  PS.imp (ps_dput hu hp (pe_tup hi) hv hs) fun D σ H ⟨M0, B, A0, ρ, hB, hA, dj, f, q⟩ => by
    have hΓ : (B ++ A0).map (·.1) = Γ ++ Γ0 := by rw [List.map_append, hB, hA]
    refine ⟨_, _, ρ, hΓ, f, pimp (post_bind q) (fun z hz v H1 f1 g1 _ r1 => ?_) fun c hc => DX.eff hc⟩
    have hm : o ∈ (B ++ A0).map (·.1) := by rw [hΓ]; exact List.contains_iff_mem.mp ho
    obtain ⟨⟨j0, a⟩, hq, e0⟩ := List.mem_map.mp hm
    obtain rfl : j0 = o := e0
    refine ⟨.ref a, (f1.own _ hq).1, _, _, z.2, hΓ, f1, pimp (post_bind hz) (fun y hy ws H2 f2 g2 _ r2 => ?_) fun c hc => DX.eff (DX.step (Stp.eff g1) hc)⟩
    obtain ⟨es', ed, hy⟩ := post_opt hy
    obtain ⟨ks, ek, hy⟩ := post_opt hy
    by_cases hl : es'.length < sizeLine ∧ y.1.length ≤ 1000
    · rw [if_pos hl] at hy
      have ra := r2.all
      have ew := rpAll_keys ra ek
      refine ⟨by rw [ra.length]; exact Nat.le_of_lt (small1000 hl.2), fun p np => ?_⟩
      have sm : Same H2 (upd H2 p (.tup ws)) := fun b u eb => by rw [upd_ne (ne_of_none eb np)]; exact eb
      have f3 := f2.same sm
      obtain ⟨b, ys, ib, e4, e5, e6⟩ := f3.ownT hΓ ho ed
      have eb : a = b := Fit.at_same f1 f3 hq e4
      subst eb
      have s2 : Same H1 H2 := eff_false g2
      have s3 : Same H1 (upd H2 p (.tup ws)) := fun b' u eu => sm _ _ (s2 _ _ eu)
      have c : Carry X.K (upd H2 p (.tup ws)) (upd (upd H2 p (.tup ws)) a (.dT (putK ys ks v))) (un M0 (B ++ A0)) (un M0 (B ++ A0)) := Carry.at (f3.sub _ ib)
      refine ⟨a, _, rfl, .inr ⟨ys, ks, p, e5, rfl, by rw [upd_same, ew], by rw [rpT_length e6]; exact hl.1, rfl⟩, ?_⟩
      have r1' : Rp X.K (upd H2 p (.tup ws)) (un M0 (B ++ A0)) v z.1 := Rp.carry (Carry.same s3) r1
      refine hy _ _ B hB ⟨(g1.eff_has.trans (Fra.of_same s3)).trans fun b' u eu n' => ?_, fun p hp => .inl (As.has_of hp)⟩ (f3.change ib (.dcT upd_same (RpT.carry c (rpT_put e6 r1'))))
      have ne : b' ≠ a := fun z' => n' (by rw [z']; exact As.has_of ib)
      rw [upd_ne ne]; exact eu
    · rw [if_neg hl] at hy; exact hy.elim
end
end Dt

set_option Elab.async false
set_option linter.all false
set_option maxRecDepth 100000
set_option autoImplicit false
/-! A dict with tuples as keys walked: for x, y in d. -/
namespace Dt
open PySem PySem.Spec PyProof.Rows L2 R

def FrzAtT (j : Nat) (σ : St) (H : Hp) : Prop := ∃ (d : Addr) (o : Obj) (kvs : List (List Key × V)), σ[j]? = some (some (.ref d)) ∧ H d = some (.frz o (.dT kvs))
def iKyT (j : Nat) : MA := fun ρ => (R.opt (asTo (getv ρ j))).bind fun es => if es.length ≤ sizeLine then .ok (keysD es, ρ) else .no
theorem rpT_keyAt {K : Fg} {H : Hp} {M : Av} : ∀ {kvs : List (List Key × V)} {es : List (D × D)} {i : Nat} {k : List Key} {v : V}, RpT K H M kvs es → kvs[i]? = some (k, v) → (keysD es)[i]? = some (kT k)
  | _, _, 0, _, _, .cons _ _, e => by cases e; rfl
  | _, _, i + 1, _, _, .cons _ r, e => rpT_keyAt (i := i) r e
theorem rpAll_kD {K : Fg} {H : Hp} {M : Av} : ∀ ks : List Key, RpAll K H M (ks.map kV) (ks.map kD)
  | [] => .nil
  | k :: ks => .cons (rp_key k) (rpAll_kD ks)
def DTgT (K : Fg) (Γ vs : List Nat) (m : MG) : TG := fun v σ H Q => ∃ (M : Av) (A : As) (ρ : Ev) (q : Addr) (ks : List Key), A.map (·.1) = Γ ∧ Fit K M A σ H ρ ∧ v = .ref q ∧ H q = some (.tup (ks.map kV)) ∧
  (m (kT ks) ρ).post (fun ρ' => ∀ σ', Fit K M A σ' H ρ' → wipe σ' vs = wipe σ vs → Q σ' H) (fun _ => False)
def DGT (X : Cx) (Γ vs : List Nat) (tg : Expr) (m : MG) : Prop := PG X tg (DTgT X.K Γ vs m)
theorem DTgT.of {K : Fg} {Γ vs : List Nat} {g : MG} {M : Av} {A : As} {ρ : Ev} {v : V} {qa : Addr} {ks : List Key} {σ : St} {H : Hp} {Q : St → Hp → Prop} (h1 : A.map (·.1) = Γ) (f : Fit K M A σ H ρ) (ev : v = .ref qa) (hq : H qa = some (.tup (ks.map kV)))
    (h : (g (kT ks) ρ).nox.post (fun ρ' => ∀ σ', Fit K M A σ' H ρ' → Q σ' H) (fun _ => False)) : DTgT K Γ vs g v σ H Q := ⟨M, A, ρ, qa, ks, h1, f, ev, hq, by
  cases q : g (kT ks) ρ with
  | ok a => rw [q] at h; exact fun σ' f' _ => h σ' f'
  | exc c => rw [q] at h; exact h
  | no => rw [q] at h; exact h⟩
theorem slot_dictT {K : Fg} {M : Av} {A : As} {σ : St} {H : Hp} {ρ : Ev} {Γ : List Nat} {j : Nat} {es : List (D × D)} (hΓ : A.map (·.1) = Γ) (f : Fit K M A σ H ρ) (hj : Γ.contains j = false) (ees : asTo (getv ρ j) = some es) :
    ∃ d kvs, σ[j]? = some (some (.ref d)) ∧ Rd H d (.dT kvs) ∧ ¬ M d ∧ RpT K H M kvs es := by
  cases hg : getv ρ j with
  | none => rw [hg] at ees; cases ees
  | some x =>
    rw [hg] at ees
    have ex := asT_some ees
    rw [ex] at hg
    obtain ⟨v, ev, rv⟩ := f.shr j _ (getv_some hg) (not_own hΓ hj)
    obtain ⟨d', kvs', ed, rd, nd, rk⟩ := Rp.dictT rv
    subst ed
    exact ⟨d', kvs', ev, rd, nd, rk⟩
theorem cfz {M M' F : Av} {H H' : Hp} {d0 : Addr} {u : HO} (h1 : H d0 = some u) (h2 : ¬ M d0) (g : Fra F H H') (hF : ∀ b, F b → M b) (hM : ∀ b, M' b → M b ∨ H b = none) : H' d0 = some u ∧ ¬ M' d0 :=
  ⟨g d0 _ h1 fun z => h2 (hF d0 z), fun z => (hM d0 z).elim h2 fun e => by rw [h1] at e; cases e⟩
section
variable {X : Cx} {E : XK} {k r : Bool} {Γ0 Γ Γ' Γl vs : List Nat} {a b c e tg o : Expr} {es : List Expr} {pos : Pos} {st : Stmt}
theorem dgT_tup {es : List Expr} {k n : Nat} {gs : MGs} (hc : X.calm = true) (h : DGs X Γ vs es gs) (hn : (assignEach es X.env).length = n := by rfl) (hst : (assignEach es X.env).findIdx? (·.1) = none := by rfl) : DGT X Γ vs (.Tuple es k pos) (gTpl n gs) :=
  PG.imp (pg_tup hc h hn hst) fun v σ H Q ⟨M, A, ρ, qa, ks, h1, f, ev, hq, p⟩ => by
    have p' : (if (ks.map kD).length = n then gs (ks.map kD) ρ else R.no).post (fun ρ' => ∀ σ', Fit X.K M A σ' H ρ' → wipe σ' vs = wipe σ vs → Q σ' H) (fun _ => False) := p
    by_cases hl : (ks.map kD).length = n
    · rw [if_pos hl] at p'
      exact ⟨qa, ks.map kV, ev, .inl (.inl hq), by rw [List.length_map] at hl ⊢; exact hl, M, A, ρ, ks.map kD, h1, f, rpAll_kD ks, p'⟩
    · rw [if_neg hl] at p'; exact p'.elim
def sLkT (j : Nat) (m : MS) : MS := fun ρ => (R.opt (asTo (getv ρ j))).bind fun _ => (m ρ).nox
theorem ds_lockST {j : Nat} {m : MS} (h : PS X st (fun D σ H => FrzAtT j σ H ∧ DTs X.K X.mg E Γ0 Γ Γ' Γl m D σ H)) (hj : (Γ ++ Γ0).contains j = false) : DS X E Γ0 Γ Γ' Γl st (sLkT j m) :=
  PS.imp (PS.or h (ps_lock h)) fun D σ H ⟨M0, B, A0, ρ, hB, hA, dj, f, q⟩ => by
    have hΓ : (B ++ A0).map (·.1) = Γ ++ Γ0 := by rw [List.map_append, hB, hA]
    obtain ⟨es, ees, q⟩ := post_opt q
    obtain ⟨d, kvs, ev, rd, nd, rk⟩ := slot_dictT hΓ f hj ees
    have q : (m ρ).nox.post _ _ := q
    rcases rd with rd | ⟨o', rd⟩
    · refine .inr ⟨d, .dT kvs, rd, True.intro, fun od => ⟨⟨d, od, kvs, ev, upd_same⟩, M0, B, A0, ρ, hB, hA, dj, Fit.lock rfl f rd nd, ?_⟩⟩
      have nh : ¬ As.has (B ++ A0) d := fun z => nd (.inr z)
      cases hm : m ρ with
      | exc c => rw [hm] at q; exact q.elim
      | no => rw [hm] at q; exact q.elim
      | ok z =>
        rw [hm] at q
        obtain ⟨fl, ρ'⟩ := z
        have stp : ∀ {B' : As} {H' : Hp}, Stp B A0 B' (upd H d (.frz od (.dT kvs))) H' → H' d = some (.frz od (.dT kvs)) ∧ Stp B A0 B' H (upd H' d (.dT kvs)) := fun s => by
          refine ⟨s.fra d _ upd_same nh, s.fra.unlk rd, fun p hp => (s.new p hp).imp id fun e => ?_⟩
          by_cases z : p.2 = d
          · rw [z, upd_same] at e; cases e
          · rw [upd_ne z] at e; exact e
        cases fl with
        | nx => exact fun σ' H' B' e s f' => let ⟨e1, s1⟩ := stp s; ⟨e1, q σ' _ B' e s1 (Fit.unlk rfl f' e1)⟩
        | bk => exact fun σ' H' B' e s f' => let ⟨e1, s1⟩ := stp s; ⟨e1, q σ' _ B' e s1 (Fit.unlk rfl f' e1)⟩
        | ct => exact fun σ' H' B' e s f' => let ⟨e1, s1⟩ := stp s; ⟨e1, q σ' _ B' e s1 (Fit.unlk rfl f' e1)⟩
        | rt d2 =>
          intro v H' g r ow
          have e1 : H' d = some (.frz od (.dT kvs)) := g d _ upd_same nh
          refine ⟨e1, q v _ (g.unlk rd) (Rp.mv (Mv.un rfl e1) r fun z => Bool.noConfusion z) fun p hp => ?_⟩
          obtain ⟨d', h1, h2⟩ := ow p hp
          exact ⟨d', h1, h2.mv (Mv.un rfl e1) fun o eo => by rw [upd_ne (fun z => h2.nofrz (by rw [z]; exact e1))]; exact eo⟩
    · exact .inl ⟨⟨d, o', kvs, ev, rd⟩, M0, B, A0, ρ, hB, hA, dj, f, post_nox q⟩
theorem for_turnT {K : Fg} {mg : Str → Option Value} {j : Nat} {g : MG} {mb : MS} {D : Ends} {σ : St} {H : Hp} (hj : (Γ ++ Γ0).contains j = false) (h : FrzAtT j σ H ∧ DTs K mg E Γ0 Γ Γ Γl (sForE (iKyT j) g mb) D σ H) :
    tFor (iKeys (tVar j)) (DTgT K (Γ ++ Γ0) vs g) (DTs K mg E Γ0 Γ Γ Γ mb) D σ H := by
    obtain ⟨fz, M0, B, A0, ρ, hB, hA, dj, f, q⟩ := h
    have hΓ : (B ++ A0).map (·.1) = Γ ++ Γ0 := by rw [List.map_append, hB, hA]
    have q : (((R.opt (asTo (getv ρ j))).bind fun es => if es.length ≤ sizeLine then R.ok (keysD es, ρ) else .no).bind fun x => sFor g mb x.1 x.2).post (Pst K M0 A0 Γ Γl D B H) (DX mg E (As.has (B ++ A0)) H) := q
    cases ees : asTo (getv ρ j) with
    | none => rw [ees] at q; exact q.elim
    | some es =>
    rw [ees] at q
    have q : ((if es.length ≤ sizeLine then R.ok (keysD es, ρ) else .no).bind fun x => sFor g mb x.1 x.2).post (Pst K M0 A0 Γ Γl D B H) (DX mg E (As.has (B ++ A0)) H) := q
    obtain ⟨d0, ob, kvs, e1, e2⟩ := fz
    obtain ⟨d', kvs', ev, rd, nd, rk⟩ := slot_dictT hΓ f hj ees
    rw [e1] at ev
    cases ev
    have ek : kvs' = kvs := by
      rcases rd with rd | ⟨o', rd⟩
      · rw [e2] at rd; cases rd
      · rw [e2] at rd; cases rd; rfl
    subst ek
    have hlen := rpT_length rk
    have hl : es.length ≤ sizeLine := by
      by_cases hl : es.length ≤ sizeLine
      · exact hl
      · rw [if_neg hl] at q; exact q.elim
    rw [if_pos hl] at q
    have hx : (sFor g mb (keysD es) ρ).post (Pst K M0 A0 Γ Γl D B H) (DX mg E (As.has (B ++ A0)) H) := q
    have kl : (keysD es).length = kvs'.length := by unfold keysD; rw [List.length_map, hlen]
    refine ⟨.ref d0, e1, d0, ob, rfl, .inr ⟨kvs', e2, ?_⟩⟩
    have s0 : H d0 = some (.frz ob (.dT kvs')) ∧ ¬ (un M0 (B ++ A0)) d0 := ⟨e2, nd⟩
    generalize hds : keysD es = ds at hx kl
    refine ⟨fun i m σ1 H1 => m = ds.length - i ∧ ∃ B1 ρ1, B1.map (·.1) = Γ ∧ Stp B A0 B1 H H1 ∧ Fit K (un M0 (B1 ++ A0)) (B1 ++ A0) σ1 H1 ρ1 ∧ (H1 d0 = some (.frz ob (.dT kvs')) ∧ ¬ (un M0 (B1 ++ A0)) d0) ∧ (sFor g mb (ds.drop i) ρ1).post (Pst K M0 A0 Γ Γl D B H) (DX mg E (As.has (B ++ A0)) H),
      ⟨_, rfl, B, ρ, hB, Stp.refl, f, s0, by rw [List.drop_zero]; exact hx⟩, ?_⟩
    rintro i m σ1 H1 ⟨em, B1, ρ1, hB1, s1, f1, sr, q1⟩
    by_cases hi : i < ds.length
    · obtain ⟨d, hd⟩ : ∃ d, ds[i]? = some d := ⟨_, List.getElem?_eq_getElem hi⟩
      have ed : ds.drop i = d :: ds.drop (i + 1) := by
        rw [List.drop_eq_getElem_cons hi]
        rw [List.getElem?_eq_getElem hi] at hd
        rw [Option.some.inj hd]
      rw [ed] at q1
      refine .inr ⟨⟨sr.1, by rw [← kl]; exact hi⟩, fun σ' H' => ∃ B' ρ', B'.map (·.1) = Γ ∧ Stp B A0 B' H H' ∧ Fit K (un M0 (B' ++ A0)) (B' ++ A0) σ' H' ρ' ∧ (H' d0 = some (.frz ob (.dT kvs')) ∧ ¬ (un M0 (B' ++ A0)) d0) ∧ (sFor g mb (ds.drop (i + 1)) ρ').post (Pst K M0 A0 Γ Γl D B H) (DX mg E (As.has (B ++ A0)) H), fun σ' H' h => ⟨ds.length - (i + 1), by omega, rfl, h⟩, fun x H' hy => ?_⟩
      obtain ⟨rfl, ks, vk, qa, hk, ex, hq⟩ := hy
      have hd' : ds[i]? = some (kT ks) := by rw [← hds]; exact rpT_keyAt rk hk
      rw [hd] at hd'
      cases hd'
      refine DTgT.of (by rw [List.map_append, hB1, hA]) f1 ex hq (pimp (post_noxbind (show ((g (kT ks) ρ1).nox.bind _).post _ _ from q1)) (fun ρ2 h2 σ2 f2 => ?_) fun c hc => hc)
      refine ⟨M0, B1, A0, ρ2, hB1, hA, s1.apart dj f.trkM, f2, pimp (post_bind h2) (fun z hz => ?_) fun c hc => DX.step s1 hc⟩
      have cS : ∀ (B' : As) (H3 : Hp), Stp B1 A0 B' H' H3 → (H3 d0 = some (.frz ob (.dT kvs')) ∧ ¬ (un M0 (B' ++ A0)) d0) := fun B' H3 s => cfz sr.1 sr.2 s.fra (fun b z => .inr z) fun b z => by
        rcases z with z | z
        · exact .inl (.inl z)
        · rcases As.has_append.mp z with ⟨j, z⟩ | z
          · rcases s.new _ z with z | z
            · exact .inl (.inr (As.has_append.mpr (.inl z)))
            · exact .inr z
          · exact .inl (.inr (As.has_append.mpr (.inr z)))
      obtain ⟨fl, ρ3⟩ := z
      cases fl with
      | nx => exact fun σ' H3 B' e s f' => ⟨B', ρ3, e, s1.trans f1.trk0 s, f', cS B' H3 s, hz⟩
      | ct => exact fun σ' H3 B' e s f' => ⟨B', ρ3, e, s1.trans f1.trk0 s, f', cS B' H3 s, hz⟩
      | bk => exact fun σ' H3 B' e s f' => hz σ' H3 B' e (s1.trans f1.trk0 s) f'
      | rt d => exact fun v H3 g r o => hz v H3 (s1.fra_trans g) r o
    · have ed : ds.drop i = [] := List.drop_eq_nil_of_le (by omega)
      rw [ed] at q1
      exact .inl ⟨⟨sr.1, by omega⟩, q1 σ1 H1 B1 hB1 s1 f1⟩
theorem ds_forT {j : Nat} {iter : Expr} {body : List Stmt} {g : MG} {mb : MS} (hp : PassesOwn (model X.prog X.w) X.A X.env X.xe) (hc : X.calm = true) (hi : PE X iter (tVar j)) (hg : DGT X (Γ ++ Γ0) vs tg g) (hb : DSs X E Γ0 Γ Γ Γ body mb) (hj : (Γ ++ Γ0).contains j = false := by decide)
    (hs : ∀ x, foldedSetIterable iter X.env x = pure x := by intro _; rfl) : DS X E Γ0 Γ Γ Γl (.For tg iter body [] pos) (sLkT j (sForE (iKyT j) g mb)) :=
  ds_lockST (PS.imp (ps_for hp hc (pi_keys hi) hg hb hs) fun D σ H h => for_turnT hj h) hj
end
end Dt

set_option maxRecDepth 100000
set_option autoImplicit false
set_option maxHeartbeats 0
namespace Lw
open PySem PySem.Spec PyProof.Rows L2 Dt Dt.R
abbrev top (i : Nat) : Stmt := PySem.Challenge.pw_meetingsjoin_k02_whole_known_by_all_worl.main.body.getD i (.Pass ⟨0, 0, 0, 0⟩)
def c_LETTERS : D := (.str "abcdefghijklmnopqrstuvwxyz")
def c_SIGNS : D := (.str "abcdefghijklmnopqrstuvwxyz0123456789_")
def c_BROKEN : D := (.tuple [(.tuple [(.tuple [(.str "a"), (.str "b")])]), (.tuple [])])
def b_is_unknown : MS := (sRet (mAnd (mIsi "int" (var 0)) (mOp dGe (var 0) (cst (.int 0)))))
def m_is_unknown : List D → R D := runF 1 1 b_is_unknown
def b_is_name : MS := (sSeq (sIf (mOrB (mNotB (mTru (mIsi "str" (var 0)))) (mOrB (mBool (mOp dEq (var 0) (cst (.str "")))) (mBool (mOp dNotInA (mOp dIxA (var 0) (cst (.int 0))) (cst c_LETTERS))))) (sRet (cst (.bool false))) sNil) (sRet (mCall dAll (aCons (mLc false (iSq (var 0)) [1] (gSet 1) bYes (mOp dInA (var 1) (cst c_SIGNS))) aNil))))
def m_is_name : List D → R D := runF 1 2 b_is_name
def b_term_key : MS := (sRet (mIf (mTru (mCallF m_is_unknown (aCons (var 0) aNil))) (mTup (aCons (cst (.int 0)) (aCons (var 0) (aCons (cst (.str "")) aNil)))) (mTup (aCons (cst (.int 1)) (aCons (cst (.int 0)) (aCons (var 0) aNil))))))
def m_term_key : List D → R D := runF 1 1 b_term_key
def b_terms_key : MS := (sRet (mCall dTuple (aCons (mLc false (iSq (var 0)) [1] (gSet 1) bYes (mCallF m_term_key (aCons (var 1) aNil))) aNil)))
def m_terms_key : List D → R D := runF 1 2 b_terms_key
def b_is_ahead : MS := (sRet (mOp dLt (mCallF m_term_key (aCons (var 0) aNil)) (mCallF m_term_key (aCons (var 1) aNil))))
def m_is_ahead : List D → R D := runF 2 2 b_is_ahead
def b_in_order : MS := (sRet (mCall dTuple (aCons (mCallF (fun ds => (dSortK m_term_key ds).nox) (aCons (var 0) aNil)) aNil)))
def m_in_order : List D → R D := runF 1 1 b_in_order
def b_without_doubles : MS := (sSeq (sSet (gOwn 1) (mLst aNil)) (sSeq (sForE (iSq (var 0)) (gSet 2) (sIf (mBool (mOp dNotInA (var 2) (var 1))) (sExpr (eApp 1 (var 2))) sNil)) (sRet (var 1))))
def m_without_doubles : List D → R D := runF 1 3 b_without_doubles
def b_each_once : MS := (sRet (mCallF m_in_order (aCons (mCallF m_without_doubles (aCons (var 0) aNil)) aNil)))
def m_each_once : List D → R D := runF 1 1 b_each_once
def b_least_term : MS := (sRet (mOp dIxA (mCallF m_in_order (aCons (var 0) aNil)) (cst (.int 0))))
def m_least_term : List D → R D := runF 1 1 b_least_term
def b_names_in : MS := (sRet (mCallF m_each_once (aCons (mLc false (iSq (var 0)) [1] (gSet 1) (mNotB (mTru (mCallF m_is_unknown (aCons (var 1) aNil)))) (var 1)) aNil)))
def m_names_in : List D → R D := runF 1 2 b_names_in
def b_class_numbers : MS := (sSeq (sSet (gOwn 1) mDict0) (sSeq (sForE (iSq (mOp dIxA (var 0) (cst (.int 0)))) (gTpl 2 (gsCons (gSet 2) (gsCons (gSet 3) gsNil))) (sSeq (sSet (gSet 4) (eSetD 1 (aCons (var 2) (aCons (mCall dLenA (aCons (var 1) aNil)) aNil)))) (sSeq (sSet (gSet 5) (eSetD 1 (aCons (var 3) (aCons (mCall dLenA (aCons (var 1) aNil)) aNil)))) (sIf (mBool (mOp dNe (var 4) (var 5))) (sSeq (sSet (gSet 6) (mLkO 1 (mLc false (iKy 1) [7] (gSet 7) (mBool (mOp dEq (mOp dIxA (var 1) (var 7)) (var 5))) (var 7)))) (sExpr (eUpd 1 (mCall dDict (aCons (mLc false (iSq (var 6)) [7] (gSet 7) bYes (mTup (aCons (var 7) (aCons (var 4) aNil)))) aNil))))) sNil)))) (sRet (var 1))))
def m_class_numbers : List D → R D := runF 1 8 b_class_numbers
def b_terms_by_class : MS := (sSeq (sSet (gSet 1) (mCallF m_class_numbers (aCons (var 0) aNil))) (sSeq (sSet (gOwn 2) mDict0) (sSeq (sLk 1 (sForE (iKy 1) (gSet 3) (sPutD 2 (mOp dAdd (eGet2 (var 2) (mOp dIxA (var 1) (var 3)) (mLst aNil)) (mLst (aCons (var 3) aNil))) (mOp dIxA (var 1) (var 3))))) (sRet (var 2)))))
def m_terms_by_class : List D → R D := runF 1 4 b_terms_by_class
def b_classes_of : MS := (sSeq (sSet (gSet 1) (mCallF m_terms_by_class (aCons (var 0) aNil))) (sSeq (sSet (gSet 2) (mLk 1 (mLc false (iKy 1) [3] (gSet 3) (mBool (mOp dGt (mCall dLenA (aCons (mOp dIxA (var 1) (var 3)) aNil)) (cst (.int 1)))) (mCallF m_in_order (aCons (mOp dIxA (var 1) (var 3)) aNil))))) (sRet (mCall dTuple (aCons (mCallF (fun ds => (dSortK m_terms_key ds).nox) (aCons (var 2) aNil)) aNil)))))
def m_classes_of : List D → R D := runF 1 4 b_classes_of
def b_class_of : MS := (sSeq (sSet (gSet 2) (mLc false (iSq (mCallF m_classes_of (aCons (var 0) aNil))) [3] (gSet 3) (mBool (mOp dInA (var 1) (var 3))) (var 3))) (sRet (mIf (mBool (mOp dGt (mCall dLenA (aCons (var 2) aNil)) (cst (.int 0)))) (mOp dIxA (var 2) (cst (.int 0))) (mTup (aCons (var 1) aNil)))))
def m_class_of : List D → R D := runF 2 4 b_class_of
def b_told_of_class : MS := (sSeq (sSet (gSet 1) (mCallF m_names_in (aCons (var 0) aNil))) (sRet (mIf (mBool (mOp dEq (mCall dLenA (aCons (var 1) aNil)) (cst (.int 1)))) (mOp dIxA (var 1) (cst (.int 0))) (mCallF m_least_term (aCons (var 0) aNil)))))
def m_told_of_class : List D → R D := runF 1 2 b_told_of_class
def b_is_joined : MS := (sSeq (sSet (gSet 3) (mCallF m_class_numbers (aCons (var 0) aNil))) (sRet (mOr (mOp dEq (var 1) (var 2)) (mAnd (mOp dInA (var 1) (var 3)) (mAnd (mOp dInA (var 2) (var 3)) (mOp dEq (mOp dIxA (var 3) (var 1)) (mOp dIxA (var 3) (var 2))))))))
def m_is_joined : List D → R D := runF 3 4 b_is_joined
def b_is_broken : MS := (sSeq (sIf (mTru (mCall dAny (aCons (mLc false (iSq (mCallF m_classes_of (aCons (var 0) aNil))) [1] (gSet 1) bYes (mOp dGt (mCall dLenA (aCons (mCallF m_names_in (aCons (var 1) aNil)) aNil)) (cst (.int 1)))) aNil))) (sRet (cst (.bool true))) sNil) (sRet (mCall dAny (aCons (mLc false (iSq (mOp dIxA (var 0) (cst (.int 1)))) [2, 3] (gTpl 2 (gsCons (gSet 2) (gsCons (gSet 3) gsNil))) bYes (mCallF m_is_joined (aCons (var 0) (aCons (var 2) (aCons (var 3) aNil))))) aNil))))
def m_is_broken : List D → R D := runF 1 4 b_is_broken
def b_told_table : MS := (sSeq (sSet (gSet 1) (mCallF m_is_broken (aCons (var 0) aNil))) (sSeq (sSet (gOwn 2) mDict0) (sSeq (sForE (iSq (mCallF m_classes_of (aCons (var 0) aNil))) (gSet 3) (sSeq (sSet (gSet 4) (mIf (mTru (var 1)) (mCallF m_least_term (aCons (var 3) aNil)) (mCallF m_told_of_class (aCons (var 3) aNil)))) (sExpr (eUpd 2 (mCall dDict (aCons (mLc false (iSq (var 3)) [5] (gSet 5) bYes (mTup (aCons (var 5) (aCons (var 4) aNil)))) aNil)))))) (sRet (var 2)))))
def m_told_table : List D → R D := runF 1 6 b_told_table
def b_told_term : MS := (sRet (eGet2 (mCallF m_told_table (aCons (var 0) aNil)) (var 1) (var 1)))
def m_told_term : List D → R D := runF 2 2 b_told_term
def b_tells_equal : MS := (sRet (mOr (mCallF m_is_joined (aCons (var 0) (aCons (var 1) (aCons (var 2) aNil)))) (mCallF m_is_broken (aCons (var 0) aNil))))
def m_tells_equal : List D → R D := runF 3 3 b_tells_equal
def b_with_pair : MS := (sRet (mTup (aCons (mOp dAdd (mOp dIxA (var 0) (cst (.int 0))) (mTup (aCons (mTup (aCons (var 1) (aCons (var 2) aNil))) aNil))) (aCons (mOp dIxA (var 0) (cst (.int 1))) aNil))))
def m_with_pair : List D → R D := runF 3 3 b_with_pair
def b_tells_unlike : MS := (sRet (mCallF m_is_broken (aCons (mCallF m_with_pair (aCons (var 0) (aCons (var 1) (aCons (var 2) aNil)))) aNil)))
def m_tells_unlike : List D → R D := runF 3 3 b_tells_unlike
def b_pairs_in_order : MS := (sRet (mCall dTuple (aCons (mCallF (fun ds => (dSortK m_terms_key ds).nox) (aCons (mCallF m_without_doubles (aCons (var 0) aNil)) aNil)) aNil)))
def m_pairs_in_order : List D → R D := runF 1 1 b_pairs_in_order
def b_turned_in_order : MS := (sRet (mIf (mTru (mCallF m_is_ahead (aCons (var 0) (aCons (var 1) aNil)))) (mTup (aCons (var 0) (aCons (var 1) aNil))) (mTup (aCons (var 1) (aCons (var 0) aNil)))))
def m_turned_in_order : List D → R D := runF 2 2 b_turned_in_order
def b_least_equal : MS := (sSeq (sSet (gOwn 1) (mLst aNil)) (sSeq (sForE (iSq (mCallF m_classes_of (aCons (var 0) aNil))) (gSet 2) (sSeq (sSet (gSet 3) (mCallF m_told_of_class (aCons (var 2) aNil))) (sExt 1 (mLc false (iSq (var 2)) [4] (gSet 4) (mBool (mOp dNe (var 4) (var 3))) (mTup (aCons (var 3) (aCons (var 4) aNil))))))) (sRet (mCallF m_pairs_in_order (aCons (var 1) aNil)))))
def m_least_equal : List D → R D := runF 1 5 b_least_equal
def b_least_unlike : MS := (sSeq (sSet (gSet 1) (mCallF m_told_table (aCons (var 0) aNil))) (sSeq (sSet (gOwn 2) (mLst aNil)) (sSeq (sForE (iSq (mOp dIxA (var 0) (cst (.int 1)))) (gTpl 2 (gsCons (gSet 3) (gsCons (gSet 4) gsNil))) (sSeq (sPar 5 6 (aCons (eGet2 (var 1) (var 3) (var 3)) (aCons (eGet2 (var 1) (var 4) (var 4)) aNil))) (sIf (mOrB (mNotB (mTru (mCallF m_is_name (aCons (var 5) aNil)))) (mNotB (mTru (mCallF m_is_name (aCons (var 6) aNil))))) (sExpr (eApp 2 (mCallF m_turned_in_order (aCons (var 5) (aCons (var 6) aNil))))) sNil))) (sRet (mCallF m_pairs_in_order (aCons (var 2) aNil))))))
def m_least_unlike : List D → R D := runF 1 7 b_least_unlike
def b_least_known : MS := (sSeq (sIf (mTru (mCallF m_is_broken (aCons (var 0) aNil))) (sRet (cst c_BROKEN)) sNil) (sRet (mTup (aCons (mCallF m_least_equal (aCons (var 0) aNil)) (aCons (mCallF m_least_unlike (aCons (var 0) aNil)) aNil)))))
def m_least_known : List D → R D := runF 1 1 b_least_known
def b_same_known : MS := (sRet (mOp dEq (mCallF m_least_known (aCons (var 0) aNil)) (mCallF m_least_known (aCons (var 1) aNil))))
def m_same_known : List D → R D := runF 2 2 b_same_known
def b_tells_all : MS := (sSeq (sIf (mTru (mCallF m_is_broken (aCons (var 0) aNil))) (sRet (cst (.bool true))) sNil) (sSeq (sIf (mTru (mCallF m_is_broken (aCons (var 1) aNil))) (sRet (cst (.bool false))) sNil) (sSeq (sIf (mNotB (mTru (mCall dAll (aCons (mLc false (iSq (mOp dIxA (var 1) (cst (.int 0)))) [2, 3] (gTpl 2 (gsCons (gSet 2) (gsCons (gSet 3) gsNil))) bYes (mCallF m_tells_equal (aCons (var 0) (aCons (var 2) (aCons (var 3) aNil))))) aNil)))) (sRet (cst (.bool false))) sNil) (sRet (mCall dAll (aCons (mLc false (iSq (mOp dIxA (var 1) (cst (.int 1)))) [2, 3] (gTpl 2 (gsCons (gSet 2) (gsCons (gSet 3) gsNil))) bYes (mCallF m_tells_unlike (aCons (var 0) (aCons (var 2) (aCons (var 3) aNil))))) aNil))))))
def m_tells_all : List D → R D := runF 2 4 b_tells_all
def b_in_world : MS := (sRet (mIf (mBool (mOp dInA (var 0) (var 1))) (mOp dIxA (var 2) (eMQ dIndex (var 1) (aCons (var 0) aNil))) (var 0)))
def m_in_world : List D → R D := runF 3 3 b_in_world
def b_holds_in : MS := (sSeq (sIf (mNotB (mTru (mCall dAll (aCons (mLc false (iSq (mOp dIxA (var 0) (cst (.int 0)))) [3, 4] (gTpl 2 (gsCons (gSet 3) (gsCons (gSet 4) gsNil))) bYes (mOp dEq (mCallF m_in_world (aCons (var 3) (aCons (var 1) (aCons (var 2) aNil)))) (mCallF m_in_world (aCons (var 4) (aCons (var 1) (aCons (var 2) aNil)))))) aNil)))) (sRet (cst (.bool false))) sNil) (sRet (mCall dAll (aCons (mLc false (iSq (mOp dIxA (var 0) (cst (.int 1)))) [3, 4] (gTpl 2 (gsCons (gSet 3) (gsCons (gSet 4) gsNil))) bYes (mOp dNe (mCallF m_in_world (aCons (var 3) (aCons (var 1) (aCons (var 2) aNil)))) (mCallF m_in_world (aCons (var 4) (aCons (var 1) (aCons (var 2) aNil)))))) aNil))))
def m_holds_in : List D → R D := runF 3 5 b_holds_in
def b_all_worlds : MS := (sSeq (sSet (gSet 2) (mLst (aCons (mTup aNil) aNil))) (sSeq (sForE (iRg rng1 (aCons (var 0) aNil)) (gSet 3) (sSet (gSet 2) (mLc2 false (iSq (var 2)) [4, 5] [5] (gSet 4) bYes (iSq (var 1)) (gSet 5) bYes (mOp dAdd (var 4) (mTup (aCons (var 5) aNil)))))) (sRet (var 2))))
def m_all_worlds : List D → R D := runF 2 6 b_all_worlds
def b_worlds_of : MS := (sRet (mCall dTuple (aCons (mCall dSorted (aCons (mLc false (iSq (mCallF m_all_worlds (aCons (mCall dLenA (aCons (var 1) aNil)) (aCons (var 2) aNil)))) [3] (gSet 3) (mTru (mCallF m_holds_in (aCons (var 0) (aCons (var 1) (aCons (var 3) aNil))))) (var 3)) aNil)) aNil)))
def m_worlds_of : List D → R D := runF 3 4 b_worlds_of
def b__law_draws : MS := (sSeqF (sSet (gOwn 2) (mLc false (iSq (var 0)) [8] (gSet 8) bYes (mCall dInt (aCons (var 8) aNil)))) (sSeqF (sIf (mBool (mOp dEq (mCall dLenA (aCons (var 2) aNil)) (cst (.int 0)))) (sExpr (eApp 2 (cst (.int 0)))) sNil) (sSeqF (sSet (gOwn 3) (mCall dList (aCons (var 2) aNil))) (sSeqF (sSet (gOwn 4) (mLst aNil)) (sSeqF (sForE (iRg rng1 (aCons (var 1) aNil)) (gSet 5) (sSeq (sSet (gSet 6) (mOp dMod (var 5) (mCall dLenA (aCons (var 2) aNil)))) (sIf (mAndB (mBool (mOp dGe (mOp dIxA (var 2) (var 6)) (mOp dPow (cst (.int 10)) (cst (.int 18))))) (mBool (mOp dGt (mOp dIxA (var 3) (var 6)) (cst (.int 0))))) (sSeq (sExpr (eApp 4 (mOp dMod (mCall dInt (aCons (mOp dIxA (var 3) (var 6)) aNil)) (cst (.int 1000))))) (sPutL 3 (mOp dFdiv (mOp dIxA (var 3) (var 6)) (cst (.int 1000))) (var 6))) (sSeq (sSet (gSet 7) (mOp dMod (mCall dInt (aCons (mOp dAdd (mOp dAdd (mOp dMulI (mOp dIxA (var 2) (var 6)) (cst (.int 48271))) (mOp dMulI (var 5) (cst (.int 69621)))) (cst (.int 11))) aNil)) (cst (.int 2147483647)))) (sExpr (eApp 4 (mOp dMod (mCall dInt (aCons (mOp dAdd (mOp dAdd (mOp dMulI (var 7) (var 7)) (mOp dMulI (cst (.int 3)) (var 7))) (var 5)) aNil)) (cst (.int 1000003))))))))) (sSeqF (sExpr (eRev 4)) (sRet (var 4))))))))
def m__law_draws : List D → R D := runFr 2 9 b__law_draws
def b__law_take : MS := (sSeq (sIf (mBool (mOp dEq (mCall dLenA (aCons (var 0) aNil)) (cst (.int 0)))) (sRet (cst (.int 0))) sNil) (sRet (mOp dMod (mCall dInt (aCons (ePop 0) aNil)) (var 1))))
def m__law_take : List D → R (D × D) := runI 2 2 0 b__law_take
def b__law_same (rec : List D → R D) : MS := (sSeq (sIf (mTru (mIsi "bool" (var 1))) (sRet (mAnd (mIsi "bool" (var 0)) (mOp dEq (var 0) (var 1)))) sNil) (sSeq (sIf (mTru (mIsi "int" (var 1))) (sRet (mAnd (mIsi "int" (var 0)) (mAnd (mUn gNot (mIsi "bool" (var 0))) (mOp dEq (var 0) (var 1))))) sNil) (sSeq (sIf (mTru (mIsi "str" (var 1))) (sRet (mAnd (mIsi "str" (var 0)) (mOp dEq (var 0) (var 1)))) sNil) (sSeq (sIf (mBool (mOp dIsN (var 1) (cst .none))) (sRet (mOp dIsN (var 0) (cst .none))) sNil) (sSeq (sIf (mOrB (mNotB (mTru (mIsi "tuple" (var 0)))) (mBool (mOp dNe (mCall dLenA (aCons (var 0) aNil)) (mCall dLenA (aCons (var 1) aNil))))) (sRet (cst (.bool false))) sNil) (sSeq (sForE (iRg rng1 (aCons (mCall dLenA (aCons (var 1) aNil)) aNil)) (gSet 2) (sIf (mNotB (mTru (mCallF rec (aCons (mOp dIxA (var 0) (var 2)) (aCons (mOp dIxA (var 1) (var 2)) aNil))))) (sRet (cst (.bool false))) sNil)) (sRet (cst (.bool true)))))))))
def m__law_same : Nat → List D → R D
  | 0 => fun _ => .no
  | n + 1 => runF 2 3 (b__law_same (m__law_same n))
def b__law_term : MS := (sRet (mOp dIxA (mLst (aCons (cst (.int 0)) (aCons (cst (.int 1)) (aCons (cst (.int 2)) (aCons (cst (.str "a")) (aCons (cst (.str "b")) aNil)))))) (mCallI 0 m__law_take (rAt 0 (rVal (cst (.int 5)) rNil)))))
def m__law_term : List D → R (D × D) := runI 1 1 0 b__law_term
def b__law_pairs : MS := (sRet (mCall dTuple (aCons (mLc true (iRg rng1 (aCons (mCallI 0 m__law_take (rAt 0 (rVal (mOp dAdd (var 1) (cst (.int 1))) rNil))) aNil)) [2] (gSet 2) bYes (mTup (aCons (mCallI 0 m__law_term (rAt 0 rNil)) (aCons (mCallI 0 m__law_term (rAt 0 rNil)) aNil)))) aNil)))
def m__law_pairs : List D → R (D × D) := runI 2 3 0 b__law_pairs
def b__law_name : MS := (sSeq (sIf (mBool (mOp dInA (var 0) (var 1))) (sRet (mOp dIxA (var 2) (eMQ dIndex (var 1) (aCons (var 0) aNil)))) sNil) (sRet (var 0)))
def m__law_name : List D → R D := runF 3 3 b__law_name
def b__law_holds : MS := (sSeq (sForE (iSq (mOp dIxA (var 0) (cst (.int 0)))) (gTpl 2 (gsCons (gSet 3) (gsCons (gSet 4) gsNil))) (sIf (mBool (mOp dNe (mCallF m__law_name (aCons (var 3) (aCons (var 1) (aCons (var 2) aNil)))) (mCallF m__law_name (aCons (var 4) (aCons (var 1) (aCons (var 2) aNil)))))) (sRet (cst (.bool false))) sNil)) (sSeq (sForE (iSq (mOp dIxA (var 0) (cst (.int 1)))) (gTpl 2 (gsCons (gSet 3) (gsCons (gSet 4) gsNil))) (sIf (mBool (mOp dEq (mCallF m__law_name (aCons (var 3) (aCons (var 1) (aCons (var 2) aNil)))) (mCallF m__law_name (aCons (var 4) (aCons (var 1) (aCons (var 2) aNil)))))) (sRet (cst (.bool false))) sNil)) (sRet (cst (.bool true)))))
def m__law_holds : List D → R D := runF 3 5 b__law_holds
def b__law_worlds : MS := (sSeq (sSet (gSet 3) (mLst (aCons (mTup aNil) aNil))) (sSeq (sForE (iSq (var 1)) (gSet 4) (sSeq (sSet (gSet 5) (mLst aNil)) (sSeq (sForE (iSq (var 3)) (gSet 6) (sSet (gSet 5) (mOp dAdd (var 5) (mLc false (iSq (var 2)) [7] (gSet 7) bYes (mOp dAdd (var 6) (mTup (aCons (var 7) aNil))))))) (sSet (gSet 3) (var 5))))) (sRet (mLc false (iSq (var 3)) [6] (gSet 6) (mTru (mCallF m__law_holds (aCons (var 0) (aCons (var 1) (aCons (var 6) aNil))))) (var 6)))))
def m__law_worlds : List D → R D := runF 3 8 b__law_worlds
def b__law_tells : MS := (sSeq (sForE (iSq (var 0)) (gSet 5) (sIf (mBool (mOp dNe (mOp dEq (mCallF m__law_name (aCons (var 2) (aCons (var 1) (aCons (var 5) aNil)))) (mCallF m__law_name (aCons (var 3) (aCons (var 1) (aCons (var 5) aNil))))) (var 4))) (sRet (cst (.bool false))) sNil)) (sRet (cst (.bool true))))
def m__law_tells : List D → R D := runF 5 6 b__law_tells
def b__law_is_told_right : MS := (sSeq (sSet (gSet 2) (mLst (aCons (cst (.int 0)) (aCons (cst (.int 1)) (aCons (cst (.int 2)) (aCons (cst (.str "a")) (aCons (cst (.str "b")) (aCons (cst (.str "c")) aNil)))))))) (sSeq (sSet (gOwn 3) mDictT) (sSeq (sSet (gSet 4) (mOp dEq (var 1) (mLst aNil))) (sSeq (sIf (mNotB (mTru (mCallF (m__law_same 12) (aCons (mCallF m_is_broken (aCons (var 0) aNil)) (aCons (var 4) aNil))))) (sRet (cst (.bool false))) sNil) (sSeq (sForE (iSq (var 2)) (gSet 5) (sForE (iSq (var 2)) (gSet 6) (sSeq (sSet (gSet 8) (mCallF m_tells_equal (aCons (var 0) (aCons (var 5) (aCons (var 6) aNil))))) (sSeq (sSet (gSet 9) (mCallF m_tells_unlike (aCons (var 0) (aCons (var 5) (aCons (var 6) aNil))))) (sSeq (sIf (mOrB (mNotB (mTru (mCallF (m__law_same 12) (aCons (var 8) (aCons (mCallF m__law_tells (aCons (var 1) (aCons (mLst (aCons (cst (.int 0)) (aCons (cst (.int 1)) (aCons (cst (.int 2)) aNil)))) (aCons (var 5) (aCons (var 6) (aCons (cst (.bool true)) aNil)))))) aNil))))) (mNotB (mTru (mCallF (m__law_same 12) (aCons (var 9) (aCons (mCallF m__law_tells (aCons (var 1) (aCons (mLst (aCons (cst (.int 0)) (aCons (cst (.int 1)) (aCons (cst (.int 2)) aNil)))) (aCons (var 5) (aCons (var 6) (aCons (cst (.bool false)) aNil)))))) aNil)))))) (sRet (cst (.bool false))) sNil) (sSeq (sIf (mAndB (mTru (var 8)) (mAndB (mTru (var 9)) (mNotB (mTru (var 4))))) (sRet (cst (.bool false))) sNil) (sPutT 3 (mTup (aCons (var 8) (aCons (var 9) aNil))) (aCons (var 5) (aCons (var 6) aNil))))))))) (sSeq (sLkT 3 (sForE (iKyT 3) (gTpl 2 (gsCons (gSet 5) (gsCons (gSet 6) gsNil))) (sSeq (sIf (mBool (mOp dNe (eGetT (var 3) (aCons (var 5) (aCons (var 6) aNil))) (eGetT (var 3) (aCons (var 6) (aCons (var 5) aNil))))) (sRet (cst (.bool false))) sNil) (sForE (iSq (var 2)) (gSet 7) (sIf (mAndB (mTru (mOp dIxA (eGetT (var 3) (aCons (var 5) (aCons (var 6) aNil))) (cst (.int 0)))) (mBool (mOp dNe (eGetT (var 3) (aCons (var 6) (aCons (var 7) aNil))) (eGetT (var 3) (aCons (var 5) (aCons (var 7) aNil)))))) (sRet (cst (.bool false))) sNil))))) (sRet (cst (.bool true)))))))))
def m__law_is_told_right : List D → R D := runF 2 10 b__law_is_told_right
def b__law_is_class_right : MS := (sSeq (sSet (gSet 2) (mLst (aCons (cst (.int 0)) (aCons (cst (.int 1)) (aCons (cst (.int 2)) (aCons (cst (.str "a")) (aCons (cst (.str "b")) aNil))))))) (sSeq (sForE (iSq (var 2)) (gSet 3) (sSeq (sSet (gOwn 4) (mLst (aCons (var 3) aNil))) (sSeq (sForE (iRg rng1 (aCons (mCall dLenA (aCons (var 2) aNil)) aNil)) (gSet 5) (sForE (iSq (mOp dIxA (var 0) (cst (.int 0)))) (gTpl 2 (gsCons (gSet 7) (gsCons (gSet 8) gsNil))) (sSeq (sIf (mAndB (mBool (mOp dInA (var 7) (var 4))) (mBool (mOp dNotInA (var 8) (var 4)))) (sExpr (eApp 4 (var 8))) sNil) (sIf (mAndB (mBool (mOp dInA (var 8) (var 4))) (mBool (mOp dNotInA (var 7) (var 4)))) (sExpr (eApp 4 (var 7))) sNil)))) (sSeq (sSet (gSet 6) (mCall dTuple (aCons (mLc false (iSq (var 2)) [10] (gSet 10) (mBool (mOp dInA (var 10) (var 4))) (var 10)) aNil))) (sSeq (sIf (mNotB (mTru (mCallF (m__law_same 12) (aCons (mCallF m_class_of (aCons (var 0) (aCons (var 3) aNil))) (aCons (var 6) aNil))))) (sRet (cst (.bool false))) sNil) (sSeq (sIf (mBool (mOp dNe (var 1) (mLst aNil))) (sSeq (sSet (gSet 9) (mLc false (iSq (var 6)) [10] (gSet 10) (mTru (mIsi "str" (var 10))) (var 10))) (sIf (mNotB (mTru (mCallF (m__law_same 12) (aCons (mCallF m_told_term (aCons (var 0) (aCons (var 3) aNil))) (aCons (mOp dIxA (mOp dAdd (var 9) (mCall dList (aCons (var 6) aNil))) (cst (.int 0))) aNil))))) (sRet (cst (.bool false))) sNil)) (sIf (mNotB (mTru (mCallF (m__law_same 12) (aCons (mCallF m_told_term (aCons (var 0) (aCons (var 3) aNil))) (aCons (mOp dIxA (var 6) (cst (.int 0))) aNil))))) (sRet (cst (.bool false))) sNil)) sNil)))))) (sRet (cst (.bool true)))))
def m__law_is_class_right : List D → R D := runF 2 11 b__law_is_class_right
def b_law : MS := (sSeq (sSet (gOwn 1) (mCallF m__law_draws (aCons (var 0) (aCons (cst (.int 320)) aNil)))) (sSeq (sSet (gSet 2) (mTup (aCons (mTup aNil) (aCons (mTup aNil) aNil)))) (sSeq (sSet (gSet 3) (mTup (aCons (cst (.str "a")) (aCons (cst (.str "b")) (aCons (cst (.str "c")) (aCons (cst (.str "d")) (aCons (cst (.str "e")) aNil))))))) (sSeq (sSet (gSet 4) (mCallF m__law_worlds (aCons (var 2) (aCons (mTup (aCons (cst (.int 0)) (aCons (cst (.int 1)) (aCons (cst (.int 2)) aNil)))) (aCons (var 3) aNil))))) (sSeq (sForE (iRg rng1 (aCons (cst (.int 2)) aNil)) (gSet 5) (sSeq (sSet (gSet 6) (mTup (aCons (mCallI 0 m__law_pairs (rAt 1 (rVal (mOp dSub (cst (.int 5)) (mOp dMulI (cst (.int 2)) (var 5))) rNil))) (aCons (mCallI 0 m__law_pairs (rAt 1 (rVal (cst (.int 4)) rNil))) aNil)))) (sSeq (sSet (gSet 7) (mCallF m__law_worlds (aCons (var 6) (aCons (mTup (aCons (cst (.int 0)) (aCons (cst (.int 1)) (aCons (cst (.int 2)) aNil)))) (aCons (var 3) aNil))))) (sSeq (sIf (mOrB (mNotB (mTru (mCallF m__law_is_told_right (aCons (var 6) (aCons (var 7) aNil))))) (mOrB (mNotB (mTru (mCallF m__law_is_class_right (aCons (var 6) (aCons (var 7) aNil))))) (mNotB (mTru (mCallF (m__law_same 12) (aCons (mCallF m_worlds_of (aCons (var 6) (aCons (mTup (aCons (cst (.int 0)) (aCons (cst (.int 1)) (aCons (cst (.int 2)) aNil)))) (aCons (var 3) aNil)))) (aCons (mCall dTuple (aCons (var 7) aNil)) aNil))))))) (sRet (cst (.bool false))) sNil) (sSeq (sIf (mNotB (mTru (mCallF (m__law_same 12) (aCons (mCallF m_same_known (aCons (var 6) (aCons (var 2) aNil))) (aCons (mOp dEq (var 7) (var 4)) aNil))))) (sRet (cst (.bool false))) sNil) (sSeq (sSet (gSet 8) (mLc false (iSq (var 7)) [10] (gSet 10) (mNotB (mTru (mCallF m__law_holds (aCons (var 2) (aCons (mTup (aCons (cst (.int 0)) (aCons (cst (.int 1)) (aCons (cst (.int 2)) aNil)))) (aCons (var 10) aNil)))))) (var 10))) (sSeq (sIf (mOrB (mNotB (mTru (mCallF (m__law_same 12) (aCons (mCallF m_tells_all (aCons (var 6) (aCons (var 2) aNil))) (aCons (mOp dEq (var 8) (mLst aNil)) aNil))))) (mBool (mOp dNotB (mCallF m_tells_all (aCons (var 6) (aCons (var 6) aNil))) (cst (.bool true))))) (sRet (cst (.bool false))) sNil) (sSeq (sSet (gSet 9) (mTup (aCons (mCall dTuple (aCons (mUn dRevL (mLc false (iSq (mOp dIxA (var 6) (cst (.int 0)))) [11, 12] (gTpl 2 (gsCons (gSet 11) (gsCons (gSet 12) gsNil))) bYes (mTup (aCons (var 12) (aCons (var 11) aNil))))) aNil)) (aCons (mOp dAdd (mCall dTuple (aCons (mLc false (iSq (mOp dIxA (var 6) (cst (.int 1)))) [11, 12] (gTpl 2 (gsCons (gSet 11) (gsCons (gSet 12) gsNil))) bYes (mTup (aCons (var 12) (aCons (var 11) aNil)))) aNil)) (mSl (mOp dIxA (var 6) (cst (.int 1))) oNone (oSome (cst (.int 1))))) aNil)))) (sSeq (sIf (mBool (mOp dNotB (mCallF m_same_known (aCons (var 9) (aCons (var 6) aNil))) (cst (.bool true)))) (sRet (cst (.bool false))) sNil) (sSeq (sSet (gSet 2) (var 6)) (sSet (gSet 4) (var 7)))))))))))) (sSeq (sSet (gSet 6) (mTup (aCons (mTup (aCons (mTup (aCons (cst (.int 0)) (aCons (cst (.int 1)) aNil))) (aCons (mTup (aCons (cst (.int 1)) (aCons (cst (.str "a")) aNil))) aNil))) (aCons (mTup (aCons (mTup (aCons (cst (.int 2)) (aCons (cst (.int 0)) aNil))) (aCons (mTup (aCons (cst (.int 3)) (aCons (cst (.str "b")) aNil))) aNil))) aNil)))) (sSeq (sIf (mOrB (mNotB (mTru (mCallF (m__law_same 12) (aCons (mCallF m_tells_equal (aCons (var 6) (aCons (cst (.int 0)) (aCons (cst (.str "a")) aNil)))) (aCons (cst (.bool true)) aNil))))) (mNotB (mTru (mCallF (m__law_same 12) (aCons (mCallF m_tells_unlike (aCons (var 6) (aCons (cst (.int 2)) (aCons (cst (.int 1)) aNil)))) (aCons (cst (.bool true)) aNil)))))) (sRet (cst (.bool false))) sNil) (sSeq (sIf (mOrB (mNotB (mTru (mCallF (m__law_same 12) (aCons (mCallF m_tells_unlike (aCons (var 6) (aCons (cst (.int 0)) (aCons (cst (.str "b")) aNil)))) (aCons (cst (.bool true)) aNil))))) (mNotB (mTru (mCallF (m__law_same 12) (aCons (mCallF m_tells_equal (aCons (var 6) (aCons (cst (.int 2)) (aCons (cst (.int 3)) aNil)))) (aCons (cst (.bool false)) aNil)))))) (sRet (cst (.bool false))) sNil) (sSeq (sIf (mOrB (mNotB (mTru (mCallF (m__law_same 12) (aCons (mCallF m_class_of (aCons (var 6) (aCons (cst (.int 1)) aNil))) (aCons (mTup (aCons (cst (.int 0)) (aCons (cst (.int 1)) (aCons (cst (.str "a")) aNil)))) aNil))))) (mOrB (mNotB (mTru (mCallF (m__law_same 12) (aCons (mCallF m_told_term (aCons (var 6) (aCons (cst (.int 0)) aNil))) (aCons (cst (.str "a")) aNil))))) (mOrB (mNotB (mTru (mCallF (m__law_same 12) (aCons (mCallF m_told_term (aCons (var 6) (aCons (cst (.int 2)) aNil))) (aCons (cst (.int 2)) aNil))))) (mNotB (mTru (mCallF (m__law_same 12) (aCons (mCallF m_is_broken (aCons (var 6) aNil)) (aCons (cst (.bool false)) aNil)))))))) (sRet (cst (.bool false))) sNil) (sSeq (sIf (mOrB (mNotB (mTru (mCallF (m__law_same 12) (aCons (mCallF m_is_broken (aCons (mTup (aCons (mTup (aCons (mTup (aCons (cst (.int 0)) (aCons (cst (.str "a")) aNil))) (aCons (mTup (aCons (cst (.int 0)) (aCons (cst (.str "b")) aNil))) aNil))) (aCons (mTup aNil) aNil))) aNil)) (aCons (cst (.bool true)) aNil))))) (mOrB (mNotB (mTru (mCallF (m__law_same 12) (aCons (mCallF m_is_broken (aCons (mTup (aCons (mTup (aCons (mTup (aCons (cst (.int 0)) (aCons (cst (.int 1)) aNil))) aNil)) (aCons (mTup (aCons (mTup (aCons (cst (.int 1)) (aCons (cst (.int 0)) aNil))) aNil)) aNil))) aNil)) (aCons (cst (.bool true)) aNil))))) (mNotB (mTru (mCallF (m__law_same 12) (aCons (mCallF m_is_broken (aCons (mTup (aCons (mTup aNil) (aCons (mTup (aCons (mTup (aCons (cst (.int 0)) (aCons (cst (.int 0)) aNil))) aNil)) aNil))) aNil)) (aCons (cst (.bool true)) aNil))))))) (sRet (cst (.bool false))) sNil) (sSeq (sIf (mNotB (mTru (mCallF (m__law_same 12) (aCons (mCallF m_worlds_of (aCons (mTup (aCons (mTup (aCons (mTup (aCons (cst (.int 0)) (aCons (cst (.int 1)) aNil))) aNil)) (aCons (mTup (aCons (mTup (aCons (cst (.int 0)) (aCons (cst (.str "a")) aNil))) aNil)) aNil))) (aCons (mTup (aCons (cst (.int 0)) (aCons (cst (.int 1)) aNil))) (aCons (mTup (aCons (cst (.str "a")) (aCons (cst (.str "b")) aNil))) aNil)))) (aCons (mTup (aCons (mTup (aCons (cst (.str "b")) (aCons (cst (.str "b")) aNil))) aNil)) aNil))))) (sRet (cst (.bool false))) sNil) (sRet (mAnd (mCallF (m__law_same 12) (aCons (mCallF m_tells_unlike (aCons (mTup (aCons (mTup aNil) (aCons (mTup aNil) aNil))) (aCons (cst (.str "a")) (aCons (cst (.str "b")) aNil)))) (aCons (cst (.bool true)) aNil))) (mCallF (m__law_same 12) (aCons (mCallF m_told_term (aCons (mTup (aCons (mTup (aCons (mTup (aCons (cst (.int 0)) (aCons (cst (.str "a")) aNil))) (aCons (mTup (aCons (cst (.int 0)) (aCons (cst (.str "b")) aNil))) aNil))) (aCons (mTup aNil) aNil))) (aCons (cst (.str "b")) aNil))) (aCons (cst (.int 0)) aNil))))))))))))))))
def m_law : List D → R D := runF 1 13 b_law
def dd_ (i : Nat) (x : Str) : He.DefD := ⟨(x, none), x, x, defArgs (top i), defBody (top i), defScope (top i), [], []⟩
def fnl : List He.DefD := [dd_ 3 "is_unknown", dd_ 4 "is_name", dd_ 5 "term_key", dd_ 6 "terms_key", dd_ 7 "is_ahead", dd_ 8 "in_order", dd_ 9 "without_doubles", dd_ 10 "each_once", dd_ 11 "least_term", dd_ 12 "names_in", dd_ 15 "class_numbers", dd_ 16 "terms_by_class", dd_ 17 "class_of", dd_ 18 "classes_of", dd_ 19 "told_of_class", dd_ 20 "told_table", dd_ 21 "told_term", dd_ 22 "is_joined", dd_ 23 "is_broken", dd_ 24 "tells_equal", dd_ 25 "with_pair", dd_ 26 "tells_unlike", dd_ 27 "pairs_in_order", dd_ 28 "turned_in_order", dd_ 29 "least_equal", dd_ 30 "least_unlike", dd_ 31 "least_known", dd_ 32 "same_known", dd_ 33 "tells_all", dd_ 34 "in_world", dd_ 35 "holds_in", dd_ 36 "all_worlds", dd_ 37 "worlds_of", dd_ 39 "_law_draws", dd_ 40 "_law_take", dd_ 41 "_law_same", dd_ 42 "_law_term", dd_ 43 "_law_pairs", dd_ 44 "_law_name", dd_ 45 "_law_holds", dd_ 46 "_law_worlds", dd_ 47 "_law_tells", dd_ 48 "_law_is_told_right", dd_ 49 "_law_is_class_right", dd_ 50 "law"]
def fal : List He.Fa := [.free "isinstance", .free "int", .free "str", .free "all", .glo "is_unknown", .glo "term_key", .free "tuple", .free "sorted", .glo "without_doubles", .glo "in_order", .glo "each_once", .free "len", .free "dict", .glo "class_numbers", .glo "classes_of", .glo "terms_by_class", .glo "terms_key", .glo "names_in", .glo "least_term", .glo "is_broken", .glo "told_of_class", .glo "told_table", .free "any", .glo "is_joined", .glo "with_pair", .glo "is_ahead", .glo "pairs_in_order", .glo "is_name", .glo "turned_in_order", .glo "least_unlike", .glo "least_equal", .glo "least_known", .glo "tells_equal", .glo "tells_unlike", .glo "in_world", .free "range", .glo "all_worlds", .glo "holds_in", .free "list", .free "bool", .glo "_law_same", .glo "_law_take", .glo "_law_term", .glo "_law_name", .glo "_law_holds", .glo "_law_tells", .glo "class_of", .glo "told_term", .glo "_law_draws", .glo "_law_worlds", .glo "_law_pairs", .glo "_law_is_told_right", .glo "_law_is_class_right", .glo "worlds_of", .glo "same_known", .glo "tells_all", .glo "law"]
def exl (K : Fg) : Bool := conB K "LETTERS" c_LETTERS && conB K "SIGNS" c_SIGNS && conB K "BROKEN" c_BROKEN
abbrev Fz := Fx fal fnl
structure Cn (K : Fg) (mg : Str → Option Value) : Prop where
  t : True
  c_LETTERS : Con K mg "LETTERS" c_LETTERS
  c_SIGNS : Con K mg "SIGNS" c_SIGNS
  c_BROKEN : Con K mg "BROKEN" c_BROKEN
section
variable {K : Fg} {mg : Str → Option Value}
noncomputable def fd_is_unknown (Z : Fz K mg) : FuncData := Classical.choose (Z.c.def_ 0 (d := dd_ 3 "is_unknown") rfl)
theorem F_is_unknown (Z : Fz K mg) : FunD K "is_unknown" "is_unknown" (defArgs (top 3)) (defBody (top 3)) (defScope (top 3)) [] [] (He.ga K "is_unknown") (fd_is_unknown Z) := Classical.choose_spec (Z.c.def_ 0 (d := dd_ 3 "is_unknown") rfl)
theorem b_is_unknown' (Z : Fz K mg) : Binds K (fd_is_unknown Z) ["term"] [] := (F_is_unknown Z).bindsN fun _ _ _ _ _ _ us hl => match us, hl with | [_], _ => rfl
theorem sc_is_unknown : FnScope ["term"] ["term"] (defScope (top 3)) := ⟨rfl, rfl, rfl, by decide +kernel, rfl, by decide +kernel, by decide +kernel⟩
noncomputable def fd_is_name (Z : Fz K mg) : FuncData := Classical.choose (Z.c.def_ 1 (d := dd_ 4 "is_name") rfl)
theorem F_is_name (Z : Fz K mg) : FunD K "is_name" "is_name" (defArgs (top 4)) (defBody (top 4)) (defScope (top 4)) [] [] (He.ga K "is_name") (fd_is_name Z) := Classical.choose_spec (Z.c.def_ 1 (d := dd_ 4 "is_name") rfl)
theorem b_is_name' (Z : Fz K mg) : Binds K (fd_is_name Z) ["term"] [] := (F_is_name Z).bindsN fun _ _ _ _ _ _ us hl => match us, hl with | [_], _ => rfl
theorem sc_is_name : FnScope ["term", "sign"] ["term"] (defScope (top 4)) := ⟨rfl, rfl, rfl, by decide +kernel, rfl, by decide +kernel, by decide +kernel⟩
noncomputable def fd_term_key (Z : Fz K mg) : FuncData := Classical.choose (Z.c.def_ 2 (d := dd_ 5 "term_key") rfl)
theorem F_term_key (Z : Fz K mg) : FunD K "term_key" "term_key" (defArgs (top 5)) (defBody (top 5)) (defScope (top 5)) [] [] (He.ga K "term_key") (fd_term_key Z) := Classical.choose_spec (Z.c.def_ 2 (d := dd_ 5 "term_key") rfl)
theorem b_term_key' (Z : Fz K mg) : Binds K (fd_term_key Z) ["term"] [] := (F_term_key Z).bindsN fun _ _ _ _ _ _ us hl => match us, hl with | [_], _ => rfl
theorem sc_term_key : FnScope ["term"] ["term"] (defScope (top 5)) := ⟨rfl, rfl, rfl, by decide +kernel, rfl, by decide +kernel, by decide +kernel⟩
noncomputable def fd_terms_key (Z : Fz K mg) : FuncData := Classical.choose (Z.c.def_ 3 (d := dd_ 6 "terms_key") rfl)
theorem F_terms_key (Z : Fz K mg) : FunD K "terms_key" "terms_key" (defArgs (top 6)) (defBody (top 6)) (defScope (top 6)) [] [] (He.ga K "terms_key") (fd_terms_key Z) := Classical.choose_spec (Z.c.def_ 3 (d := dd_ 6 "terms_key") rfl)
theorem b_terms_key' (Z : Fz K mg) : Binds K (fd_terms_key Z) ["terms"] [] := (F_terms_key Z).bindsN fun _ _ _ _ _ _ us hl => match us, hl with | [_], _ => rfl
theorem sc_terms_key : FnScope ["terms", "term"] ["terms"] (defScope (top 6)) := ⟨rfl, rfl, rfl, by decide +kernel, rfl, by decide +kernel, by decide +kernel⟩
noncomputable def fd_is_ahead (Z : Fz K mg) : FuncData := Classical.choose (Z.c.def_ 4 (d := dd_ 7 "is_ahead") rfl)
theorem F_is_ahead (Z : Fz K mg) : FunD K "is_ahead" "is_ahead" (defArgs (top 7)) (defBody (top 7)) (defScope (top 7)) [] [] (He.ga K "is_ahead") (fd_is_ahead Z) := Classical.choose_spec (Z.c.def_ 4 (d := dd_ 7 "is_ahead") rfl)
theorem b_is_ahead' (Z : Fz K mg) : Binds K (fd_is_ahead Z) ["one", "other"] [] := (F_is_ahead Z).bindsN fun _ _ _ _ _ _ us hl => match us, hl with | [_, _], _ => rfl
theorem sc_is_ahead : FnScope ["one", "other"] ["one", "other"] (defScope (top 7)) := ⟨rfl, rfl, rfl, by decide +kernel, rfl, by decide +kernel, by decide +kernel⟩
noncomputable def fd_in_order (Z : Fz K mg) : FuncData := Classical.choose (Z.c.def_ 5 (d := dd_ 8 "in_order") rfl)
theorem F_in_order (Z : Fz K mg) : FunD K "in_order" "in_order" (defArgs (top 8)) (defBody (top 8)) (defScope (top 8)) [] [] (He.ga K "in_order") (fd_in_order Z) := Classical.choose_spec (Z.c.def_ 5 (d := dd_ 8 "in_order") rfl)
theorem b_in_order' (Z : Fz K mg) : Binds K (fd_in_order Z) ["terms"] [] := (F_in_order Z).bindsN fun _ _ _ _ _ _ us hl => match us, hl with | [_], _ => rfl
theorem sc_in_order : FnScope ["terms"] ["terms"] (defScope (top 8)) := ⟨rfl, rfl, rfl, by decide +kernel, rfl, by decide +kernel, by decide +kernel⟩
noncomputable def fd_without_doubles (Z : Fz K mg) : FuncData := Classical.choose (Z.c.def_ 6 (d := dd_ 9 "without_doubles") rfl)
theorem F_without_doubles (Z : Fz K mg) : FunD K "without_doubles" "without_doubles" (defArgs (top 9)) (defBody (top 9)) (defScope (top 9)) [] [] (He.ga K "without_doubles") (fd_without_doubles Z) := Classical.choose_spec (Z.c.def_ 6 (d := dd_ 9 "without_doubles") rfl)
theorem b_without_doubles' (Z : Fz K mg) : Binds K (fd_without_doubles Z) ["items"] [] := (F_without_doubles Z).bindsN fun _ _ _ _ _ _ us hl => match us, hl with | [_], _ => rfl
theorem sc_without_doubles : FnScope ["items", "found", "item"] ["items"] (defScope (top 9)) := ⟨rfl, rfl, rfl, by decide +kernel, rfl, by decide +kernel, by decide +kernel⟩
noncomputable def fd_each_once (Z : Fz K mg) : FuncData := Classical.choose (Z.c.def_ 7 (d := dd_ 10 "each_once") rfl)
theorem F_each_once (Z : Fz K mg) : FunD K "each_once" "each_once" (defArgs (top 10)) (defBody (top 10)) (defScope (top 10)) [] [] (He.ga K "each_once") (fd_each_once Z) := Classical.choose_spec (Z.c.def_ 7 (d := dd_ 10 "each_once") rfl)
theorem b_each_once' (Z : Fz K mg) : Binds K (fd_each_once Z) ["terms"] [] := (F_each_once Z).bindsN fun _ _ _ _ _ _ us hl => match us, hl with | [_], _ => rfl
theorem sc_each_once : FnScope ["terms"] ["terms"] (defScope (top 10)) := ⟨rfl, rfl, rfl, by decide +kernel, rfl, by decide +kernel, by decide +kernel⟩
noncomputable def fd_least_term (Z : Fz K mg) : FuncData := Classical.choose (Z.c.def_ 8 (d := dd_ 11 "least_term") rfl)
theorem F_least_term (Z : Fz K mg) : FunD K "least_term" "least_term" (defArgs (top 11)) (defBody (top 11)) (defScope (top 11)) [] [] (He.ga K "least_term") (fd_least_term Z) := Classical.choose_spec (Z.c.def_ 8 (d := dd_ 11 "least_term") rfl)
theorem b_least_term' (Z : Fz K mg) : Binds K (fd_least_term Z) ["terms"] [] := (F_least_term Z).bindsN fun _ _ _ _ _ _ us hl => match us, hl with | [_], _ => rfl
theorem sc_least_term : FnScope ["terms"] ["terms"] (defScope (top 11)) := ⟨rfl, rfl, rfl, by decide +kernel, rfl, by decide +kernel, by decide +kernel⟩
noncomputable def fd_names_in (Z : Fz K mg) : FuncData := Classical.choose (Z.c.def_ 9 (d := dd_ 12 "names_in") rfl)
theorem F_names_in (Z : Fz K mg) : FunD K "names_in" "names_in" (defArgs (top 12)) (defBody (top 12)) (defScope (top 12)) [] [] (He.ga K "names_in") (fd_names_in Z) := Classical.choose_spec (Z.c.def_ 9 (d := dd_ 12 "names_in") rfl)
theorem b_names_in' (Z : Fz K mg) : Binds K (fd_names_in Z) ["terms"] [] := (F_names_in Z).bindsN fun _ _ _ _ _ _ us hl => match us, hl with | [_], _ => rfl
theorem sc_names_in : FnScope ["terms", "term"] ["terms"] (defScope (top 12)) := ⟨rfl, rfl, rfl, by decide +kernel, rfl, by decide +kernel, by decide +kernel⟩
noncomputable def fd_class_numbers (Z : Fz K mg) : FuncData := Classical.choose (Z.c.def_ 10 (d := dd_ 15 "class_numbers") rfl)
theorem F_class_numbers (Z : Fz K mg) : FunD K "class_numbers" "class_numbers" (defArgs (top 15)) (defBody (top 15)) (defScope (top 15)) [] [] (He.ga K "class_numbers") (fd_class_numbers Z) := Classical.choose_spec (Z.c.def_ 10 (d := dd_ 15 "class_numbers") rfl)
theorem b_class_numbers' (Z : Fz K mg) : Binds K (fd_class_numbers Z) ["known"] [] := (F_class_numbers Z).bindsN fun _ _ _ _ _ _ us hl => match us, hl with | [_], _ => rfl
theorem sc_class_numbers : FnScope ["known", "numbers", "one", "other", "first", "second", "later", "term"] ["known"] (defScope (top 15)) := ⟨rfl, rfl, rfl, by decide +kernel, rfl, by decide +kernel, by decide +kernel⟩
noncomputable def fd_terms_by_class (Z : Fz K mg) : FuncData := Classical.choose (Z.c.def_ 11 (d := dd_ 16 "terms_by_class") rfl)
theorem F_terms_by_class (Z : Fz K mg) : FunD K "terms_by_class" "terms_by_class" (defArgs (top 16)) (defBody (top 16)) (defScope (top 16)) [] [] (He.ga K "terms_by_class") (fd_terms_by_class Z) := Classical.choose_spec (Z.c.def_ 11 (d := dd_ 16 "terms_by_class") rfl)
theorem b_terms_by_class' (Z : Fz K mg) : Binds K (fd_terms_by_class Z) ["known"] [] := (F_terms_by_class Z).bindsN fun _ _ _ _ _ _ us hl => match us, hl with | [_], _ => rfl
theorem sc_terms_by_class : FnScope ["known", "numbers", "found", "term"] ["known"] (defScope (top 16)) := ⟨rfl, rfl, rfl, by decide +kernel, rfl, by decide +kernel, by decide +kernel⟩
noncomputable def fd_class_of (Z : Fz K mg) : FuncData := Classical.choose (Z.c.def_ 12 (d := dd_ 17 "class_of") rfl)
theorem F_class_of (Z : Fz K mg) : FunD K "class_of" "class_of" (defArgs (top 17)) (defBody (top 17)) (defScope (top 17)) [] [] (He.ga K "class_of") (fd_class_of Z) := Classical.choose_spec (Z.c.def_ 12 (d := dd_ 17 "class_of") rfl)
theorem b_class_of' (Z : Fz K mg) : Binds K (fd_class_of Z) ["known", "term"] [] := (F_class_of Z).bindsN fun _ _ _ _ _ _ us hl => match us, hl with | [_, _], _ => rfl
theorem sc_class_of : FnScope ["known", "term", "told", "terms"] ["known", "term"] (defScope (top 17)) := ⟨rfl, rfl, rfl, by decide +kernel, rfl, by decide +kernel, by decide +kernel⟩
noncomputable def fd_classes_of (Z : Fz K mg) : FuncData := Classical.choose (Z.c.def_ 13 (d := dd_ 18 "classes_of") rfl)
theorem F_classes_of (Z : Fz K mg) : FunD K "classes_of" "classes_of" (defArgs (top 18)) (defBody (top 18)) (defScope (top 18)) [] [] (He.ga K "classes_of") (fd_classes_of Z) := Classical.choose_spec (Z.c.def_ 13 (d := dd_ 18 "classes_of") rfl)
theorem b_classes_of' (Z : Fz K mg) : Binds K (fd_classes_of Z) ["known"] [] := (F_classes_of Z).bindsN fun _ _ _ _ _ _ us hl => match us, hl with | [_], _ => rfl
theorem sc_classes_of : FnScope ["known", "found", "told", "number"] ["known"] (defScope (top 18)) := ⟨rfl, rfl, rfl, by decide +kernel, rfl, by decide +kernel, by decide +kernel⟩
noncomputable def fd_told_of_class (Z : Fz K mg) : FuncData := Classical.choose (Z.c.def_ 14 (d := dd_ 19 "told_of_class") rfl)
theorem F_told_of_class (Z : Fz K mg) : FunD K "told_of_class" "told_of_class" (defArgs (top 19)) (defBody (top 19)) (defScope (top 19)) [] [] (He.ga K "told_of_class") (fd_told_of_class Z) := Classical.choose_spec (Z.c.def_ 14 (d := dd_ 19 "told_of_class") rfl)
theorem b_told_of_class' (Z : Fz K mg) : Binds K (fd_told_of_class Z) ["terms"] [] := (F_told_of_class Z).bindsN fun _ _ _ _ _ _ us hl => match us, hl with | [_], _ => rfl
theorem sc_told_of_class : FnScope ["terms", "names"] ["terms"] (defScope (top 19)) := ⟨rfl, rfl, rfl, by decide +kernel, rfl, by decide +kernel, by decide +kernel⟩
noncomputable def fd_told_table (Z : Fz K mg) : FuncData := Classical.choose (Z.c.def_ 15 (d := dd_ 20 "told_table") rfl)
theorem F_told_table (Z : Fz K mg) : FunD K "told_table" "told_table" (defArgs (top 20)) (defBody (top 20)) (defScope (top 20)) [] [] (He.ga K "told_table") (fd_told_table Z) := Classical.choose_spec (Z.c.def_ 15 (d := dd_ 20 "told_table") rfl)
theorem b_told_table' (Z : Fz K mg) : Binds K (fd_told_table Z) ["known"] [] := (F_told_table Z).bindsN fun _ _ _ _ _ _ us hl => match us, hl with | [_], _ => rfl
theorem sc_told_table : FnScope ["known", "broken", "found", "terms", "told", "term"] ["known"] (defScope (top 20)) := ⟨rfl, rfl, rfl, by decide +kernel, rfl, by decide +kernel, by decide +kernel⟩
noncomputable def fd_told_term (Z : Fz K mg) : FuncData := Classical.choose (Z.c.def_ 16 (d := dd_ 21 "told_term") rfl)
theorem F_told_term (Z : Fz K mg) : FunD K "told_term" "told_term" (defArgs (top 21)) (defBody (top 21)) (defScope (top 21)) [] [] (He.ga K "told_term") (fd_told_term Z) := Classical.choose_spec (Z.c.def_ 16 (d := dd_ 21 "told_term") rfl)
theorem b_told_term' (Z : Fz K mg) : Binds K (fd_told_term Z) ["known", "term"] [] := (F_told_term Z).bindsN fun _ _ _ _ _ _ us hl => match us, hl with | [_, _], _ => rfl
theorem sc_told_term : FnScope ["known", "term"] ["known", "term"] (defScope (top 21)) := ⟨rfl, rfl, rfl, by decide +kernel, rfl, by decide +kernel, by decide +kernel⟩
noncomputable def fd_is_joined (Z : Fz K mg) : FuncData := Classical.choose (Z.c.def_ 17 (d := dd_ 22 "is_joined") rfl)
theorem F_is_joined (Z : Fz K mg) : FunD K "is_joined" "is_joined" (defArgs (top 22)) (defBody (top 22)) (defScope (top 22)) [] [] (He.ga K "is_joined") (fd_is_joined Z) := Classical.choose_spec (Z.c.def_ 17 (d := dd_ 22 "is_joined") rfl)
theorem b_is_joined' (Z : Fz K mg) : Binds K (fd_is_joined Z) ["known", "one", "other"] [] := (F_is_joined Z).bindsN fun _ _ _ _ _ _ us hl => match us, hl with | [_, _, _], _ => rfl
theorem sc_is_joined : FnScope ["known", "one", "other", "numbers"] ["known", "one", "other"] (defScope (top 22)) := ⟨rfl, rfl, rfl, by decide +kernel, rfl, by decide +kernel, by decide +kernel⟩
noncomputable def fd_is_broken (Z : Fz K mg) : FuncData := Classical.choose (Z.c.def_ 18 (d := dd_ 23 "is_broken") rfl)
theorem F_is_broken (Z : Fz K mg) : FunD K "is_broken" "is_broken" (defArgs (top 23)) (defBody (top 23)) (defScope (top 23)) [] [] (He.ga K "is_broken") (fd_is_broken Z) := Classical.choose_spec (Z.c.def_ 18 (d := dd_ 23 "is_broken") rfl)
theorem b_is_broken' (Z : Fz K mg) : Binds K (fd_is_broken Z) ["known"] [] := (F_is_broken Z).bindsN fun _ _ _ _ _ _ us hl => match us, hl with | [_], _ => rfl
theorem sc_is_broken : FnScope ["known", "terms", "one", "other"] ["known"] (defScope (top 23)) := ⟨rfl, rfl, rfl, by decide +kernel, rfl, by decide +kernel, by decide +kernel⟩
noncomputable def fd_tells_equal (Z : Fz K mg) : FuncData := Classical.choose (Z.c.def_ 19 (d := dd_ 24 "tells_equal") rfl)
theorem F_tells_equal (Z : Fz K mg) : FunD K "tells_equal" "tells_equal" (defArgs (top 24)) (defBody (top 24)) (defScope (top 24)) [] [] (He.ga K "tells_equal") (fd_tells_equal Z) := Classical.choose_spec (Z.c.def_ 19 (d := dd_ 24 "tells_equal") rfl)
theorem b_tells_equal' (Z : Fz K mg) : Binds K (fd_tells_equal Z) ["known", "one", "other"] [] := (F_tells_equal Z).bindsN fun _ _ _ _ _ _ us hl => match us, hl with | [_, _, _], _ => rfl
theorem sc_tells_equal : FnScope ["known", "one", "other"] ["known", "one", "other"] (defScope (top 24)) := ⟨rfl, rfl, rfl, by decide +kernel, rfl, by decide +kernel, by decide +kernel⟩
noncomputable def fd_with_pair (Z : Fz K mg) : FuncData := Classical.choose (Z.c.def_ 20 (d := dd_ 25 "with_pair") rfl)
theorem F_with_pair (Z : Fz K mg) : FunD K "with_pair" "with_pair" (defArgs (top 25)) (defBody (top 25)) (defScope (top 25)) [] [] (He.ga K "with_pair") (fd_with_pair Z) := Classical.choose_spec (Z.c.def_ 20 (d := dd_ 25 "with_pair") rfl)
theorem b_with_pair' (Z : Fz K mg) : Binds K (fd_with_pair Z) ["known", "one", "other"] [] := (F_with_pair Z).bindsN fun _ _ _ _ _ _ us hl => match us, hl with | [_, _, _], _ => rfl
theorem sc_with_pair : FnScope ["known", "one", "other"] ["known", "one", "other"] (defScope (top 25)) := ⟨rfl, rfl, rfl, by decide +kernel, rfl, by decide +kernel, by decide +kernel⟩
noncomputable def fd_tells_unlike (Z : Fz K mg) : FuncData := Classical.choose (Z.c.def_ 21 (d := dd_ 26 "tells_unlike") rfl)
theorem F_tells_unlike (Z : Fz K mg) : FunD K "tells_unlike" "tells_unlike" (defArgs (top 26)) (defBody (top 26)) (defScope (top 26)) [] [] (He.ga K "tells_unlike") (fd_tells_unlike Z) := Classical.choose_spec (Z.c.def_ 21 (d := dd_ 26 "tells_unlike") rfl)
theorem b_tells_unlike' (Z : Fz K mg) : Binds K (fd_tells_unlike Z) ["known", "one", "other"] [] := (F_tells_unlike Z).bindsN fun _ _ _ _ _ _ us hl => match us, hl with | [_, _, _], _ => rfl
theorem sc_tells_unlike : FnScope ["known", "one", "other"] ["known", "one", "other"] (defScope (top 26)) := ⟨rfl, rfl, rfl, by decide +kernel, rfl, by decide +kernel, by decide +kernel⟩
noncomputable def fd_pairs_in_order (Z : Fz K mg) : FuncData := Classical.choose (Z.c.def_ 22 (d := dd_ 27 "pairs_in_order") rfl)
theorem F_pairs_in_order (Z : Fz K mg) : FunD K "pairs_in_order" "pairs_in_order" (defArgs (top 27)) (defBody (top 27)) (defScope (top 27)) [] [] (He.ga K "pairs_in_order") (fd_pairs_in_order Z) := Classical.choose_spec (Z.c.def_ 22 (d := dd_ 27 "pairs_in_order") rfl)
theorem b_pairs_in_order' (Z : Fz K mg) : Binds K (fd_pairs_in_order Z) ["pairs"] [] := (F_pairs_in_order Z).bindsN fun _ _ _ _ _ _ us hl => match us, hl with | [_], _ => rfl
theorem sc_pairs_in_order : FnScope ["pairs"] ["pairs"] (defScope (top 27)) := ⟨rfl, rfl, rfl, by decide +kernel, rfl, by decide +kernel, by decide +kernel⟩
noncomputable def fd_turned_in_order (Z : Fz K mg) : FuncData := Classical.choose (Z.c.def_ 23 (d := dd_ 28 "turned_in_order") rfl)
theorem F_turned_in_order (Z : Fz K mg) : FunD K "turned_in_order" "turned_in_order" (defArgs (top 28)) (defBody (top 28)) (defScope (top 28)) [] [] (He.ga K "turned_in_order") (fd_turned_in_order Z) := Classical.choose_spec (Z.c.def_ 23 (d := dd_ 28 "turned_in_order") rfl)
theorem b_turned_in_order' (Z : Fz K mg) : Binds K (fd_turned_in_order Z) ["one", "other"] [] := (F_turned_in_order Z).bindsN fun _ _ _ _ _ _ us hl => match us, hl with | [_, _], _ => rfl
theorem sc_turned_in_order : FnScope ["one", "other"] ["one", "other"] (defScope (top 28)) := ⟨rfl, rfl, rfl, by decide +kernel, rfl, by decide +kernel, by decide +kernel⟩
noncomputable def fd_least_equal (Z : Fz K mg) : FuncData := Classical.choose (Z.c.def_ 24 (d := dd_ 29 "least_equal") rfl)
theorem F_least_equal (Z : Fz K mg) : FunD K "least_equal" "least_equal" (defArgs (top 29)) (defBody (top 29)) (defScope (top 29)) [] [] (He.ga K "least_equal") (fd_least_equal Z) := Classical.choose_spec (Z.c.def_ 24 (d := dd_ 29 "least_equal") rfl)
theorem b_least_equal' (Z : Fz K mg) : Binds K (fd_least_equal Z) ["known"] [] := (F_least_equal Z).bindsN fun _ _ _ _ _ _ us hl => match us, hl with | [_], _ => rfl
theorem sc_least_equal : FnScope ["known", "found", "terms", "told", "term"] ["known"] (defScope (top 29)) := ⟨rfl, rfl, rfl, by decide +kernel, rfl, by decide +kernel, by decide +kernel⟩
noncomputable def fd_least_unlike (Z : Fz K mg) : FuncData := Classical.choose (Z.c.def_ 25 (d := dd_ 30 "least_unlike") rfl)
theorem F_least_unlike (Z : Fz K mg) : FunD K "least_unlike" "least_unlike" (defArgs (top 30)) (defBody (top 30)) (defScope (top 30)) [] [] (He.ga K "least_unlike") (fd_least_unlike Z) := Classical.choose_spec (Z.c.def_ 25 (d := dd_ 30 "least_unlike") rfl)
theorem b_least_unlike' (Z : Fz K mg) : Binds K (fd_least_unlike Z) ["known"] [] := (F_least_unlike Z).bindsN fun _ _ _ _ _ _ us hl => match us, hl with | [_], _ => rfl
theorem sc_least_unlike : FnScope ["known", "table", "found", "one", "other", "first", "second"] ["known"] (defScope (top 30)) := ⟨rfl, rfl, rfl, by decide +kernel, rfl, by decide +kernel, by decide +kernel⟩
noncomputable def fd_least_known (Z : Fz K mg) : FuncData := Classical.choose (Z.c.def_ 26 (d := dd_ 31 "least_known") rfl)
theorem F_least_known (Z : Fz K mg) : FunD K "least_known" "least_known" (defArgs (top 31)) (defBody (top 31)) (defScope (top 31)) [] [] (He.ga K "least_known") (fd_least_known Z) := Classical.choose_spec (Z.c.def_ 26 (d := dd_ 31 "least_known") rfl)
theorem b_least_known' (Z : Fz K mg) : Binds K (fd_least_known Z) ["known"] [] := (F_least_known Z).bindsN fun _ _ _ _ _ _ us hl => match us, hl with | [_], _ => rfl
theorem sc_least_known : FnScope ["known"] ["known"] (defScope (top 31)) := ⟨rfl, rfl, rfl, by decide +kernel, rfl, by decide +kernel, by decide +kernel⟩
noncomputable def fd_same_known (Z : Fz K mg) : FuncData := Classical.choose (Z.c.def_ 27 (d := dd_ 32 "same_known") rfl)
theorem F_same_known (Z : Fz K mg) : FunD K "same_known" "same_known" (defArgs (top 32)) (defBody (top 32)) (defScope (top 32)) [] [] (He.ga K "same_known") (fd_same_known Z) := Classical.choose_spec (Z.c.def_ 27 (d := dd_ 32 "same_known") rfl)
theorem b_same_known' (Z : Fz K mg) : Binds K (fd_same_known Z) ["one", "other"] [] := (F_same_known Z).bindsN fun _ _ _ _ _ _ us hl => match us, hl with | [_, _], _ => rfl
theorem sc_same_known : FnScope ["one", "other"] ["one", "other"] (defScope (top 32)) := ⟨rfl, rfl, rfl, by decide +kernel, rfl, by decide +kernel, by decide +kernel⟩
noncomputable def fd_tells_all (Z : Fz K mg) : FuncData := Classical.choose (Z.c.def_ 28 (d := dd_ 33 "tells_all") rfl)
theorem F_tells_all (Z : Fz K mg) : FunD K "tells_all" "tells_all" (defArgs (top 33)) (defBody (top 33)) (defScope (top 33)) [] [] (He.ga K "tells_all") (fd_tells_all Z) := Classical.choose_spec (Z.c.def_ 28 (d := dd_ 33 "tells_all") rfl)
theorem b_tells_all' (Z : Fz K mg) : Binds K (fd_tells_all Z) ["one", "other"] [] := (F_tells_all Z).bindsN fun _ _ _ _ _ _ us hl => match us, hl with | [_, _], _ => rfl
theorem sc_tells_all : FnScope ["one", "other", "first", "second"] ["one", "other"] (defScope (top 33)) := ⟨rfl, rfl, rfl, by decide +kernel, rfl, by decide +kernel, by decide +kernel⟩
noncomputable def fd_in_world (Z : Fz K mg) : FuncData := Classical.choose (Z.c.def_ 29 (d := dd_ 34 "in_world") rfl)
theorem F_in_world (Z : Fz K mg) : FunD K "in_world" "in_world" (defArgs (top 34)) (defBody (top 34)) (defScope (top 34)) [] [] (He.ga K "in_world") (fd_in_world Z) := Classical.choose_spec (Z.c.def_ 29 (d := dd_ 34 "in_world") rfl)
theorem b_in_world' (Z : Fz K mg) : Binds K (fd_in_world Z) ["term", "unknowns", "world"] [] := (F_in_world Z).bindsN fun _ _ _ _ _ _ us hl => match us, hl with | [_, _, _], _ => rfl
theorem sc_in_world : FnScope ["term", "unknowns", "world"] ["term", "unknowns", "world"] (defScope (top 34)) := ⟨rfl, rfl, rfl, by decide +kernel, rfl, by decide +kernel, by decide +kernel⟩
noncomputable def fd_holds_in (Z : Fz K mg) : FuncData := Classical.choose (Z.c.def_ 30 (d := dd_ 35 "holds_in") rfl)
theorem F_holds_in (Z : Fz K mg) : FunD K "holds_in" "holds_in" (defArgs (top 35)) (defBody (top 35)) (defScope (top 35)) [] [] (He.ga K "holds_in") (fd_holds_in Z) := Classical.choose_spec (Z.c.def_ 30 (d := dd_ 35 "holds_in") rfl)
theorem b_holds_in' (Z : Fz K mg) : Binds K (fd_holds_in Z) ["known", "unknowns", "world"] [] := (F_holds_in Z).bindsN fun _ _ _ _ _ _ us hl => match us, hl with | [_, _, _], _ => rfl
theorem sc_holds_in : FnScope ["known", "unknowns", "world", "one", "other"] ["known", "unknowns", "world"] (defScope (top 35)) := ⟨rfl, rfl, rfl, by decide +kernel, rfl, by decide +kernel, by decide +kernel⟩
noncomputable def fd_all_worlds (Z : Fz K mg) : FuncData := Classical.choose (Z.c.def_ 31 (d := dd_ 36 "all_worlds") rfl)
theorem F_all_worlds (Z : Fz K mg) : FunD K "all_worlds" "all_worlds" (defArgs (top 36)) (defBody (top 36)) (defScope (top 36)) [] [] (He.ga K "all_worlds") (fd_all_worlds Z) := Classical.choose_spec (Z.c.def_ 31 (d := dd_ 36 "all_worlds") rfl)
theorem b_all_worlds' (Z : Fz K mg) : Binds K (fd_all_worlds Z) ["many", "names"] [] := (F_all_worlds Z).bindsN fun _ _ _ _ _ _ us hl => match us, hl with | [_, _], _ => rfl
theorem sc_all_worlds : FnScope ["many", "names", "rows", "step", "row", "name"] ["many", "names"] (defScope (top 36)) := ⟨rfl, rfl, rfl, by decide +kernel, rfl, by decide +kernel, by decide +kernel⟩
noncomputable def fd_worlds_of (Z : Fz K mg) : FuncData := Classical.choose (Z.c.def_ 32 (d := dd_ 37 "worlds_of") rfl)
theorem F_worlds_of (Z : Fz K mg) : FunD K "worlds_of" "worlds_of" (defArgs (top 37)) (defBody (top 37)) (defScope (top 37)) [] [] (He.ga K "worlds_of") (fd_worlds_of Z) := Classical.choose_spec (Z.c.def_ 32 (d := dd_ 37 "worlds_of") rfl)
theorem b_worlds_of' (Z : Fz K mg) : Binds K (fd_worlds_of Z) ["known", "unknowns", "names"] [] := (F_worlds_of Z).bindsN fun _ _ _ _ _ _ us hl => match us, hl with | [_, _, _], _ => rfl
theorem sc_worlds_of : FnScope ["known", "unknowns", "names", "world"] ["known", "unknowns", "names"] (defScope (top 37)) := ⟨rfl, rfl, rfl, by decide +kernel, rfl, by decide +kernel, by decide +kernel⟩
noncomputable def fd__law_draws (Z : Fz K mg) : FuncData := Classical.choose (Z.c.def_ 33 (d := dd_ 39 "_law_draws") rfl)
theorem F__law_draws (Z : Fz K mg) : FunD K "_law_draws" "_law_draws" (defArgs (top 39)) (defBody (top 39)) (defScope (top 39)) [] [] (He.ga K "_law_draws") (fd__law_draws Z) := Classical.choose_spec (Z.c.def_ 33 (d := dd_ 39 "_law_draws") rfl)
theorem b__law_draws' (Z : Fz K mg) : Binds K (fd__law_draws Z) ["script", "many"] [] := (F__law_draws Z).bindsN fun _ _ _ _ _ _ us hl => match us, hl with | [_, _], _ => rfl
theorem sc__law_draws : FnScope ["script", "many", "cells", "rest", "draws", "k", "at", "mingled", "cell"] ["script", "many"] (defScope (top 39)) := ⟨rfl, rfl, rfl, by decide +kernel, rfl, by decide +kernel, by decide +kernel⟩
noncomputable def fd__law_take (Z : Fz K mg) : FuncData := Classical.choose (Z.c.def_ 34 (d := dd_ 40 "_law_take") rfl)
theorem F__law_take (Z : Fz K mg) : FunD K "_law_take" "_law_take" (defArgs (top 40)) (defBody (top 40)) (defScope (top 40)) [] [] (He.ga K "_law_take") (fd__law_take Z) := Classical.choose_spec (Z.c.def_ 34 (d := dd_ 40 "_law_take") rfl)
theorem b__law_take' (Z : Fz K mg) : Binds K (fd__law_take Z) ["draws", "many"] [] := (F__law_take Z).bindsN fun _ _ _ _ _ _ us hl => match us, hl with | [_, _], _ => rfl
theorem sc__law_take : FnScope ["draws", "many"] ["draws", "many"] (defScope (top 40)) := ⟨rfl, rfl, rfl, by decide +kernel, rfl, by decide +kernel, by decide +kernel⟩
noncomputable def fd__law_same (Z : Fz K mg) : FuncData := Classical.choose (Z.c.def_ 35 (d := dd_ 41 "_law_same") rfl)
theorem F__law_same (Z : Fz K mg) : FunD K "_law_same" "_law_same" (defArgs (top 41)) (defBody (top 41)) (defScope (top 41)) [] [] (He.ga K "_law_same") (fd__law_same Z) := Classical.choose_spec (Z.c.def_ 35 (d := dd_ 41 "_law_same") rfl)
theorem b__law_same' (Z : Fz K mg) : Binds K (fd__law_same Z) ["actual", "due"] [] := (F__law_same Z).bindsN fun _ _ _ _ _ _ us hl => match us, hl with | [_, _], _ => rfl
theorem sc__law_same : FnScope ["actual", "due", "k"] ["actual", "due"] (defScope (top 41)) := ⟨rfl, rfl, rfl, by decide +kernel, rfl, by decide +kernel, by decide +kernel⟩
noncomputable def fd__law_term (Z : Fz K mg) : FuncData := Classical.choose (Z.c.def_ 36 (d := dd_ 42 "_law_term") rfl)
theorem F__law_term (Z : Fz K mg) : FunD K "_law_term" "_law_term" (defArgs (top 42)) (defBody (top 42)) (defScope (top 42)) [] [] (He.ga K "_law_term") (fd__law_term Z) := Classical.choose_spec (Z.c.def_ 36 (d := dd_ 42 "_law_term") rfl)
theorem b__law_term' (Z : Fz K mg) : Binds K (fd__law_term Z) ["draws"] [] := (F__law_term Z).bindsN fun _ _ _ _ _ _ us hl => match us, hl with | [_], _ => rfl
theorem sc__law_term : FnScope ["draws"] ["draws"] (defScope (top 42)) := ⟨rfl, rfl, rfl, by decide +kernel, rfl, by decide +kernel, by decide +kernel⟩
noncomputable def fd__law_pairs (Z : Fz K mg) : FuncData := Classical.choose (Z.c.def_ 37 (d := dd_ 43 "_law_pairs") rfl)
theorem F__law_pairs (Z : Fz K mg) : FunD K "_law_pairs" "_law_pairs" (defArgs (top 43)) (defBody (top 43)) (defScope (top 43)) [] [] (He.ga K "_law_pairs") (fd__law_pairs Z) := Classical.choose_spec (Z.c.def_ 37 (d := dd_ 43 "_law_pairs") rfl)
theorem b__law_pairs' (Z : Fz K mg) : Binds K (fd__law_pairs Z) ["draws", "many"] [] := (F__law_pairs Z).bindsN fun _ _ _ _ _ _ us hl => match us, hl with | [_, _], _ => rfl
theorem sc__law_pairs : FnScope ["draws", "many", "k"] ["draws", "many"] (defScope (top 43)) := ⟨rfl, rfl, rfl, by decide +kernel, rfl, by decide +kernel, by decide +kernel⟩
noncomputable def fd__law_name (Z : Fz K mg) : FuncData := Classical.choose (Z.c.def_ 38 (d := dd_ 44 "_law_name") rfl)
theorem F__law_name (Z : Fz K mg) : FunD K "_law_name" "_law_name" (defArgs (top 44)) (defBody (top 44)) (defScope (top 44)) [] [] (He.ga K "_law_name") (fd__law_name Z) := Classical.choose_spec (Z.c.def_ 38 (d := dd_ 44 "_law_name") rfl)
theorem b__law_name' (Z : Fz K mg) : Binds K (fd__law_name Z) ["term", "unknowns", "world"] [] := (F__law_name Z).bindsN fun _ _ _ _ _ _ us hl => match us, hl with | [_, _, _], _ => rfl
theorem sc__law_name : FnScope ["term", "unknowns", "world"] ["term", "unknowns", "world"] (defScope (top 44)) := ⟨rfl, rfl, rfl, by decide +kernel, rfl, by decide +kernel, by decide +kernel⟩
noncomputable def fd__law_holds (Z : Fz K mg) : FuncData := Classical.choose (Z.c.def_ 39 (d := dd_ 45 "_law_holds") rfl)
theorem F__law_holds (Z : Fz K mg) : FunD K "_law_holds" "_law_holds" (defArgs (top 45)) (defBody (top 45)) (defScope (top 45)) [] [] (He.ga K "_law_holds") (fd__law_holds Z) := Classical.choose_spec (Z.c.def_ 39 (d := dd_ 45 "_law_holds") rfl)
theorem b__law_holds' (Z : Fz K mg) : Binds K (fd__law_holds Z) ["known", "unknowns", "world"] [] := (F__law_holds Z).bindsN fun _ _ _ _ _ _ us hl => match us, hl with | [_, _, _], _ => rfl
theorem sc__law_holds : FnScope ["known", "unknowns", "world", "one", "other"] ["known", "unknowns", "world"] (defScope (top 45)) := ⟨rfl, rfl, rfl, by decide +kernel, rfl, by decide +kernel, by decide +kernel⟩
noncomputable def fd__law_worlds (Z : Fz K mg) : FuncData := Classical.choose (Z.c.def_ 40 (d := dd_ 46 "_law_worlds") rfl)
theorem F__law_worlds (Z : Fz K mg) : FunD K "_law_worlds" "_law_worlds" (defArgs (top 46)) (defBody (top 46)) (defScope (top 46)) [] [] (He.ga K "_law_worlds") (fd__law_worlds Z) := Classical.choose_spec (Z.c.def_ 40 (d := dd_ 46 "_law_worlds") rfl)
theorem b__law_worlds' (Z : Fz K mg) : Binds K (fd__law_worlds Z) ["known", "unknowns", "names"] [] := (F__law_worlds Z).bindsN fun _ _ _ _ _ _ us hl => match us, hl with | [_, _, _], _ => rfl
theorem sc__law_worlds : FnScope ["known", "unknowns", "names", "rows", "unknown", "longer", "row", "name"] ["known", "unknowns", "names"] (defScope (top 46)) := ⟨rfl, rfl, rfl, by decide +kernel, rfl, by decide +kernel, by decide +kernel⟩
noncomputable def fd__law_tells (Z : Fz K mg) : FuncData := Classical.choose (Z.c.def_ 41 (d := dd_ 47 "_law_tells") rfl)
theorem F__law_tells (Z : Fz K mg) : FunD K "_law_tells" "_law_tells" (defArgs (top 47)) (defBody (top 47)) (defScope (top 47)) [] [] (He.ga K "_law_tells") (fd__law_tells Z) := Classical.choose_spec (Z.c.def_ 41 (d := dd_ 47 "_law_tells") rfl)
theorem b__law_tells' (Z : Fz K mg) : Binds K (fd__law_tells Z) ["worlds", "unknowns", "one", "other", "alike"] [] := (F__law_tells Z).bindsN fun _ _ _ _ _ _ us hl => match us, hl with | [_, _, _, _, _], _ => rfl
theorem sc__law_tells : FnScope ["worlds", "unknowns", "one", "other", "alike", "world"] ["worlds", "unknowns", "one", "other", "alike"] (defScope (top 47)) := ⟨rfl, rfl, rfl, by decide +kernel, rfl, by decide +kernel, by decide +kernel⟩
noncomputable def fd__law_is_told_right (Z : Fz K mg) : FuncData := Classical.choose (Z.c.def_ 42 (d := dd_ 48 "_law_is_told_right") rfl)
theorem F__law_is_told_right (Z : Fz K mg) : FunD K "_law_is_told_right" "_law_is_told_right" (defArgs (top 48)) (defBody (top 48)) (defScope (top 48)) [] [] (He.ga K "_law_is_told_right") (fd__law_is_told_right Z) := Classical.choose_spec (Z.c.def_ 42 (d := dd_ 48 "_law_is_told_right") rfl)
theorem b__law_is_told_right' (Z : Fz K mg) : Binds K (fd__law_is_told_right Z) ["known", "worlds"] [] := (F__law_is_told_right Z).bindsN fun _ _ _ _ _ _ us hl => match us, hl with | [_, _], _ => rfl
theorem sc__law_is_told_right : FnScope ["known", "worlds", "terms", "told", "broken", "one", "other", "third", "equal", "unlike"] ["known", "worlds"] (defScope (top 48)) := ⟨rfl, rfl, rfl, by decide +kernel, rfl, by decide +kernel, by decide +kernel⟩
noncomputable def fd__law_is_class_right (Z : Fz K mg) : FuncData := Classical.choose (Z.c.def_ 43 (d := dd_ 49 "_law_is_class_right") rfl)
theorem F__law_is_class_right (Z : Fz K mg) : FunD K "_law_is_class_right" "_law_is_class_right" (defArgs (top 49)) (defBody (top 49)) (defScope (top 49)) [] [] (He.ga K "_law_is_class_right") (fd__law_is_class_right Z) := Classical.choose_spec (Z.c.def_ 43 (d := dd_ 49 "_law_is_class_right") rfl)
theorem b__law_is_class_right' (Z : Fz K mg) : Binds K (fd__law_is_class_right Z) ["known", "worlds"] [] := (F__law_is_class_right Z).bindsN fun _ _ _ _ _ _ us hl => match us, hl with | [_, _], _ => rfl
theorem sc__law_is_class_right : FnScope ["known", "worlds", "order", "term", "alike", "step", "due", "one", "other", "names", "own"] ["known", "worlds"] (defScope (top 49)) := ⟨rfl, rfl, rfl, by decide +kernel, rfl, by decide +kernel, by decide +kernel⟩
noncomputable def fd_law (Z : Fz K mg) : FuncData := Classical.choose (Z.c.def_ 44 (d := dd_ 50 "law") rfl)
theorem F_law (Z : Fz K mg) : FunD K "law" "law" (defArgs (top 50)) (defBody (top 50)) (defScope (top 50)) [] [] (He.ga K "law") (fd_law Z) := Classical.choose_spec (Z.c.def_ 44 (d := dd_ 50 "law") rfl)
theorem b_law' (Z : Fz K mg) : Binds K (fd_law Z) ["script"] [] := (F_law Z).bindsN fun _ _ _ _ _ _ us hl => match us, hl with | [_], _ => rfl
theorem sc_law : FnScope ["script", "draws", "before", "names", "held", "turn", "known", "worlds", "kept", "turned", "world", "one", "other"] ["script"] (defScope (top 50)) := ⟨rfl, rfl, rfl, by decide +kernel, rfl, by decide +kernel, by decide +kernel⟩
variable {P : Program} {w : World} {base : Heap}
theorem ok_is_unknown (Z : Fz K mg) (Zc : Cn K mg) : FnOk P w K mg base (L2.CX P w) 1 (He.ga K "is_unknown") (fd_is_unknown Z) ["term"] (spP K mg m_is_unknown) := by
  refine fn_pure (P := P) (w := w) (base := base) (mg := mg) (N := ["term"]) (ps := ["term"]) (k := 0) (mb := b_is_unknown) (Γ' := []) (F_is_unknown Z) sc_is_unknown (by decide) ?_
  intro cdv A outer s H E cs
  have z0 := cs.toCz
  exact (ds_one (ds_ret (k := false) (de_and (de_isi (T := "int") (by decide) (gl (by kernel_rfl)) (Fx.free Z 0) (gl (by kernel_rfl)) (Fx.free Z 1) (by decide +kernel) (de_var (i := 0) (pv 0))) (de_one (de_cmp op_dGe (de_var (i := 0) (pv 0)) (de_int (r := false)) (by rfl))))))
theorem ok_is_name (Z : Fz K mg) (Zc : Cn K mg) : FnOk P w K mg base (L2.CX P w) 1 (He.ga K "is_name") (fd_is_name Z) ["term"] (spP K mg m_is_name) := by
  refine fn_pure (P := P) (w := w) (base := base) (mg := mg) (N := ["term", "sign"]) (ps := ["term"]) (k := 0) (mb := b_is_name) (Γ' := []) (F_is_name Z) sc_is_name (by decide) ?_
  intro cdv A outer s H E cs
  have z0 := cs.toCz
  exact (ds_cons (ds_if (k := false) (Γ' := []) (db_w (dw_or (db_not (db_tru (de_isi (T := "str") (by decide) (gl (by kernel_rfl)) (Fx.free Z 0) (gl (by kernel_rfl)) (Fx.free Z 2) (by decide +kernel) (de_var (i := 0) (pv 0))))) (dw_or (db_cmp (op_dEq z0.hu) (de_var (i := 0) (pv 0)) (de_str (r := false)) (by rfl)) (dw_one (db_cmp (op_dNotInA z0.hu) (de_subA z0.hu1 (de_var (i := 0) (pv 0)) (de_int (r := false)) (fun _ _ => rfl)) (de_con (Zc.c_LETTERS) (gl (by kernel_rfl))) (by rfl)))))) (ds_one (ds_ret (k := false) (de_bl (r := false)))) ds_nil) (ds_one (ds_ret (k := false) (de_callB (call_dAll z0.calm) (gl (by kernel_rfl)) (Fx.free Z 3) (by decide +kernel) (da_cons (de_fresh (df_lc z0.calm sc_is_name.nd (di_seq (de_var (i := 0) (pv 0))) (blk_ok (own := [("sign", 1)]) (by kernel_rfl)) (fun _ _ _ _ _ => (dg_name (i := 1) sc_is_name.nd rfl (by first | exact Or.inl rfl | exact Or.inr rfl))) (fun _ _ _ _ _ => dbs_nil) (fun _ _ _ _ _ => (de_cmp (op_dInA (z0.blk _ _ _ _ _).hu) (de_var (i := 1) (pv 1)) (de_con (Zc.c_SIGNS) (gl (by kernel_rfl))) (by rfl))))) da_nil)))))
theorem ok_term_key (Z : Fz K mg) (Zc : Cn K mg) : FnOk P w K mg base (L2.CX P w) 2 (He.ga K "term_key") (fd_term_key Z) ["term"] (spP K mg m_term_key) := by
  refine fn_pure (P := P) (w := w) (base := base) (mg := mg) (N := ["term"]) (ps := ["term"]) (k := 1) (mb := b_term_key) (Γ' := []) (F_term_key Z) sc_term_key (by decide) ?_
  intro cdv A outer s H E cs
  have z0 := cs.toCz
  exact (ds_one (ds_ret (k := false) (de_if (db_tru (de_callF (ok_is_unknown (P := P) (w := w) (base := base) Z Zc) z0.r (gl (by kernel_rfl)) (Fx.glo Z 4) (F_is_unknown Z).kp (b_is_unknown' Z) z0.pass (da_cons (de_var (i := 0) (pv 0)) da_nil))) (de_tup (da_cons (de_int (r := false)) (da_cons (de_var (i := 0) (pv 0)) (da_cons (de_str (r := false)) da_nil)))) (de_tup (da_cons (de_int (r := false)) (da_cons (de_int (r := false)) (da_cons (de_var (i := 0) (pv 0)) da_nil)))))))
theorem ok_terms_key (Z : Fz K mg) (Zc : Cn K mg) : FnOk P w K mg base (L2.CX P w) 3 (He.ga K "terms_key") (fd_terms_key Z) ["terms"] (spP K mg m_terms_key) := by
  refine fn_pure (P := P) (w := w) (base := base) (mg := mg) (N := ["terms", "term"]) (ps := ["terms"]) (k := 2) (mb := b_terms_key) (Γ' := []) (F_terms_key Z) sc_terms_key (by decide) ?_
  intro cdv A outer s H E cs
  have z0 := cs.toCz
  exact (ds_one (ds_ret (k := false) (de_callTy call_dTuple (gl (by kernel_rfl)) (Fx.free Z 6) (by decide +kernel) (da_cons (de_fresh (df_lc z0.calm sc_terms_key.nd (di_seq (de_var (i := 0) (pv 0))) (blk_ok (own := [("term", 1)]) (by kernel_rfl)) (fun _ _ _ _ _ => (dg_name (i := 1) sc_terms_key.nd rfl (by first | exact Or.inl rfl | exact Or.inr rfl))) (fun _ _ _ _ _ => dbs_nil) (fun _ _ _ _ _ => (de_callF (ok_term_key (P := P) (w := w) (base := base) Z Zc) (z0.blk _ _ _ _ _).r (gl (by kernel_rfl)) (Fx.glo Z 5) (F_term_key Z).kp (b_term_key' Z) (z0.blk _ _ _ _ _).pass (da_cons (de_var (i := 1) (pv 1)) da_nil))))) da_nil))))
theorem ok_is_ahead (Z : Fz K mg) (Zc : Cn K mg) : FnOk P w K mg base (L2.CX P w) 3 (He.ga K "is_ahead") (fd_is_ahead Z) ["one", "other"] (spP K mg m_is_ahead) := by
  refine fn_pure (P := P) (w := w) (base := base) (mg := mg) (N := ["one", "other"]) (ps := ["one", "other"]) (k := 2) (mb := b_is_ahead) (Γ' := []) (F_is_ahead Z) sc_is_ahead (by decide) ?_
  intro cdv A outer s H E cs
  have z0 := cs.toCz
  exact (ds_one (ds_ret (k := false) (de_cmp (op_dLt z0.hu) (de_callF (ok_term_key (P := P) (w := w) (base := base) Z Zc) z0.r (gl (by kernel_rfl)) (Fx.glo Z 5) (F_term_key Z).kp (b_term_key' Z) z0.pass (da_cons (de_var (i := 0) (pv 0)) da_nil)) (de_callF (ok_term_key (P := P) (w := w) (base := base) Z Zc) z0.r (gl (by kernel_rfl)) (Fx.glo Z 5) (F_term_key Z).kp (b_term_key' Z) z0.pass (da_cons (de_var (i := 1) (pv 1)) da_nil)) (by rfl))))
theorem ok_in_order (Z : Fz K mg) (Zc : Cn K mg) : FnOk P w K mg base (L2.CX P w) 5 (He.ga K "in_order") (fd_in_order Z) ["terms"] (spP K mg m_in_order) := by
  refine fn_pure (P := P) (w := w) (base := base) (mg := mg) (N := ["terms"]) (ps := ["terms"]) (k := 4) (mb := b_in_order) (Γ' := []) (F_in_order Z) sc_in_order (by decide) ?_
  intro cdv A outer s H E cs
  have z0 := cs.toCz
  exact (ds_one (ds_ret (k := false) (de_callTy call_dTuple (gl (by kernel_rfl)) (Fx.free Z 6) (by decide +kernel) (da_cons (de_sortK (ok_term_key (P := P) (w := w) (base := base) Z Zc) z0.r (b_term_key' Z) (gl (by kernel_rfl)) (Fx.free Z 7) (gl (by kernel_rfl)) (Fx.glo Z 5) (da_cons (de_var (i := 0) (pv 0)) da_nil)) da_nil))))
theorem ok_without_doubles (Z : Fz K mg) (Zc : Cn K mg) : FnOk P w K mg base (L2.CX P w) 1 (He.ga K "without_doubles") (fd_without_doubles Z) ["items"] (spP K mg m_without_doubles) := by
  refine fn_pure (P := P) (w := w) (base := base) (mg := mg) (N := ["items", "found", "item"]) (ps := ["items"]) (k := 0) (mb := b_without_doubles) (Γ' := []) (F_without_doubles Z) sc_without_doubles (by decide) ?_
  intro cdv A outer s H E cs
  have z0 := cs.toCz
  exact (ds_cons (ds_own (k := false) (i := 1) sc_without_doubles.nd rfl (by first | exact Or.inl rfl | exact Or.inr rfl) (df_lst da_nil)) (ds_cons (ds_for (k := false) (vs := [2]) cs.own z0.calm (di_seq (de_var (i := 0) (pv 0))) (dg_name (i := 2) sc_without_doubles.nd rfl (by first | exact Or.inl rfl | exact Or.inr rfl)) (ds_one (ds_if (k := false) (Γ' := [1]) (db_cmp (op_dNotInA z0.hu) (de_var (i := 2) (pv 2)) (de_varT (i := 1) (pv 1)) (by rfl)) (ds_one (ds_expr (k := true) (de_app (i := 1) (pv 1) (de_up (de_var (i := 2) (pv 2)))))) ds_nil))) (dss_free (Γ1 := []) (ds_one (ds_ret (k := false) (de_var (i := 1) (pv 1)))))))
theorem ok_each_once (Z : Fz K mg) (Zc : Cn K mg) : FnOk P w K mg base (L2.CX P w) 6 (He.ga K "each_once") (fd_each_once Z) ["terms"] (spP K mg m_each_once) := by
  refine fn_pure (P := P) (w := w) (base := base) (mg := mg) (N := ["terms"]) (ps := ["terms"]) (k := 5) (mb := b_each_once) (Γ' := []) (F_each_once Z) sc_each_once (by decide) ?_
  intro cdv A outer s H E cs
  have z0 := cs.toCz
  exact (ds_one (ds_ret (k := false) (de_callF (ok_in_order (P := P) (w := w) (base := base) Z Zc) z0.r (gl (by kernel_rfl)) (Fx.glo Z 9) (F_in_order Z).kp (b_in_order' Z) z0.pass (da_cons (de_callF (ok_without_doubles (P := P) (w := w) (base := base) Z Zc) z0.r (gl (by kernel_rfl)) (Fx.glo Z 8) (F_without_doubles Z).kp (b_without_doubles' Z) z0.pass (da_cons (de_var (i := 0) (pv 0)) da_nil)) da_nil))))
theorem ok_least_term (Z : Fz K mg) (Zc : Cn K mg) : FnOk P w K mg base (L2.CX P w) 6 (He.ga K "least_term") (fd_least_term Z) ["terms"] (spP K mg m_least_term) := by
  refine fn_pure (P := P) (w := w) (base := base) (mg := mg) (N := ["terms"]) (ps := ["terms"]) (k := 5) (mb := b_least_term) (Γ' := []) (F_least_term Z) sc_least_term (by decide) ?_
  intro cdv A outer s H E cs
  have z0 := cs.toCz
  exact (ds_one (ds_ret (k := false) (de_subA z0.hu1 (de_callF (ok_in_order (P := P) (w := w) (base := base) Z Zc) z0.r (gl (by kernel_rfl)) (Fx.glo Z 9) (F_in_order Z).kp (b_in_order' Z) z0.pass (da_cons (de_var (i := 0) (pv 0)) da_nil)) (de_int (r := false)) (fun _ _ => rfl))))
theorem ok_names_in (Z : Fz K mg) (Zc : Cn K mg) : FnOk P w K mg base (L2.CX P w) 7 (He.ga K "names_in") (fd_names_in Z) ["terms"] (spP K mg m_names_in) := by
  refine fn_pure (P := P) (w := w) (base := base) (mg := mg) (N := ["terms", "term"]) (ps := ["terms"]) (k := 6) (mb := b_names_in) (Γ' := []) (F_names_in Z) sc_names_in (by decide) ?_
  intro cdv A outer s H E cs
  have z0 := cs.toCz
  exact (ds_one (ds_ret (k := false) (de_callF (ok_each_once (P := P) (w := w) (base := base) Z Zc) z0.r (gl (by kernel_rfl)) (Fx.glo Z 10) (F_each_once Z).kp (b_each_once' Z) z0.pass (da_cons (de_fresh (df_lc z0.calm sc_names_in.nd (di_seq (de_var (i := 0) (pv 0))) (blk_ok (own := [("term", 1)]) (by kernel_rfl)) (fun _ _ _ _ _ => (dg_name (i := 1) sc_names_in.nd rfl (by first | exact Or.inl rfl | exact Or.inr rfl))) (fun _ _ _ _ _ => (dbs_one (db_not (db_tru (de_callF (ok_is_unknown (P := P) (w := w) (base := base) Z Zc) (z0.blk _ _ _ _ _).r (gl (by kernel_rfl)) (Fx.glo Z 4) (F_is_unknown Z).kp (b_is_unknown' Z) (z0.blk _ _ _ _ _).pass (da_cons (de_var (i := 1) (pv 1)) da_nil)))))) (fun _ _ _ _ _ => (de_var (i := 1) (pv 1))))) da_nil))))
theorem ok_class_numbers (Z : Fz K mg) (Zc : Cn K mg) : FnOk P w K mg base (L2.CX P w) 1 (He.ga K "class_numbers") (fd_class_numbers Z) ["known"] (spP K mg m_class_numbers) := by
  refine fn_pure (P := P) (w := w) (base := base) (mg := mg) (N := ["known", "numbers", "one", "other", "first", "second", "later", "term"]) (ps := ["known"]) (k := 0) (mb := b_class_numbers) (Γ' := []) (F_class_numbers Z) sc_class_numbers (by decide) ?_
  intro cdv A outer s H E cs
  have z0 := cs.toCz
  exact (ds_cons (ds_own (k := false) (i := 1) sc_class_numbers.nd rfl (by first | exact Or.inl rfl | exact Or.inr rfl) df_dict) (ds_cons (ds_for (k := false) (vs := [2, 3]) cs.own z0.calm (di_seq (de_subA z0.hu1 (de_var (i := 0) (pv 0)) (de_int (r := false)) (fun _ _ => rfl))) (dg_tup (n := 2) z0.calm (dgs_cons (dg_name (i := 2) sc_class_numbers.nd rfl (by first | exact Or.inl rfl | exact Or.inr rfl)) (dgs_cons (dg_name (i := 3) sc_class_numbers.nd rfl (by first | exact Or.inl rfl | exact Or.inr rfl)) dgs_nil))) (ds_cons (ds_set (k := true) (i := 4) sc_class_numbers.nd rfl (by first | exact Or.inl rfl | exact Or.inr rfl) (de_setdef (i := 1) (pv 1) (da_cons (de_up (de_var (i := 2) (pv 2))) (da_cons (de_up (de_callB call_dLenA (gl (by kernel_rfl)) (Fx.free Z 11) (by decide +kernel) (da_cons (de_varT (i := 1) (pv 1)) da_nil))) da_nil)))) (ds_cons (ds_set (k := true) (i := 5) sc_class_numbers.nd rfl (by first | exact Or.inl rfl | exact Or.inr rfl) (de_setdef (i := 1) (pv 1) (da_cons (de_up (de_var (i := 3) (pv 3))) (da_cons (de_up (de_callB call_dLenA (gl (by kernel_rfl)) (Fx.free Z 11) (by decide +kernel) (da_cons (de_varT (i := 1) (pv 1)) da_nil))) da_nil)))) (ds_one (ds_if (k := false) (Γ' := [1]) (db_cmp (op_dNe z0.hu) (de_var (i := 4) (pv 4)) (de_var (i := 5) (pv 5)) (by rfl)) (ds_cons (ds_setLkO (j := 1) (i := 6) (ps_lcK (Γ := []) (k := false) (i := 6) z0.calm sc_class_numbers.nd rfl rfl (by rfl) (pv 1) (blk_ok (own := [("term", 7)]) (by kernel_rfl)) (fun _ _ _ _ _ => (dg_name (i := 7) sc_class_numbers.nd rfl (by first | exact Or.inl rfl | exact Or.inr rfl))) (fun _ _ _ _ _ => (dbs_one (db_cmp (op_dEq (z0.blk _ _ _ _ _).hu) (de_subA (z0.blk _ _ _ _ _).hu1 (de_var (i := 1) (pv 1)) (de_var (i := 7) (pv 7)) (fun _ _ => rfl)) (de_var (i := 5) (pv 5)) (by rfl)))) (fun _ _ _ _ _ => (de_var (i := 7) (pv 7))))) (ds_one (ds_expr (k := true) (de_upd (i := 1) (pv 1) (de_up (de_callTy (call_dDict z0.calm) (gl (by kernel_rfl)) (Fx.free Z 12) (by decide +kernel) (da_cons (de_fresh (df_lc z0.calm sc_class_numbers.nd (di_seq (de_var (i := 6) (pv 6))) (blk_ok (own := [("term", 7)]) (by kernel_rfl)) (fun _ _ _ _ _ => (dg_name (i := 7) sc_class_numbers.nd rfl (by first | exact Or.inl rfl | exact Or.inr rfl))) (fun _ _ _ _ _ => dbs_nil) (fun _ _ _ _ _ => (de_tup (da_cons (de_var (i := 7) (pv 7)) (da_cons (de_var (i := 4) (pv 4)) da_nil)))))) da_nil))))))) ds_nil))))) (dss_free (Γ1 := []) (ds_one (ds_ret (k := false) (de_var (i := 1) (pv 1)))))))
theorem ok_terms_by_class (Z : Fz K mg) (Zc : Cn K mg) : FnOk P w K mg base (L2.CX P w) 2 (He.ga K "terms_by_class") (fd_terms_by_class Z) ["known"] (spP K mg m_terms_by_class) := by
  refine fn_pure (P := P) (w := w) (base := base) (mg := mg) (N := ["known", "numbers", "found", "term"]) (ps := ["known"]) (k := 1) (mb := b_terms_by_class) (Γ' := []) (F_terms_by_class Z) sc_terms_by_class (by decide) ?_
  intro cdv A outer s H E cs
  have z0 := cs.toCz
  exact (ds_cons (ds_set (k := false) (i := 1) sc_terms_by_class.nd rfl (by first | exact Or.inl rfl | exact Or.inr rfl) (de_callF (ok_class_numbers (P := P) (w := w) (base := base) Z Zc) z0.r (gl (by kernel_rfl)) (Fx.glo Z 13) (F_class_numbers Z).kp (b_class_numbers' Z) z0.pass (da_cons (de_var (i := 0) (pv 0)) da_nil))) (ds_cons (ds_own (k := false) (i := 2) sc_terms_by_class.nd rfl (by first | exact Or.inl rfl | exact Or.inr rfl) df_dict) (ds_cons (ds_forK (vs := [3]) (j := 1) cs.own z0.calm (pv 1) (dg_name (i := 3) sc_terms_by_class.nd rfl (by first | exact Or.inl rfl | exact Or.inr rfl)) (ds_one (ds_putD (k := false) (o := 2) z0.hu1 (pv 2) (de_subA z0.hu1 (de_var (i := 1) (pv 1)) (de_var (i := 3) (pv 3)) (fun _ _ => rfl)) (de_op op_dAdd (de_get2 z0.hu1 (de_varT (i := 2) (pv 2)) (de_subA z0.hu1 (de_var (i := 1) (pv 1)) (de_var (i := 3) (pv 3)) (fun _ _ => rfl)) (de_lst da_nil) ⟨rfl, rfl, rfl, rfl⟩) (de_lst (da_cons (de_var (i := 3) (pv 3)) da_nil)))))) (dss_free (Γ1 := []) (ds_one (ds_ret (k := false) (de_var (i := 2) (pv 2))))))))
theorem ok_classes_of (Z : Fz K mg) (Zc : Cn K mg) : FnOk P w K mg base (L2.CX P w) 6 (He.ga K "classes_of") (fd_classes_of Z) ["known"] (spP K mg m_classes_of) := by
  refine fn_pure (P := P) (w := w) (base := base) (mg := mg) (N := ["known", "found", "told", "number"]) (ps := ["known"]) (k := 5) (mb := b_classes_of) (Γ' := []) (F_classes_of Z) sc_classes_of (by decide) ?_
  intro cdv A outer s H E cs
  have z0 := cs.toCz
  exact (ds_cons (ds_set (k := false) (i := 1) sc_classes_of.nd rfl (by first | exact Or.inl rfl | exact Or.inr rfl) (de_callF (ok_terms_by_class (P := P) (w := w) (base := base) Z Zc) z0.r (gl (by kernel_rfl)) (Fx.glo Z 15) (F_terms_by_class Z).kp (b_terms_by_class' Z) z0.pass (da_cons (de_var (i := 0) (pv 0)) da_nil))) (ds_cons (ds_setLk (k := false) (j := 1) (i := 2) (ps_lcK (Γ := []) (k := false) (i := 2) z0.calm sc_classes_of.nd rfl rfl (by rfl) (pv 1) (blk_ok (own := [("number", 3)]) (by kernel_rfl)) (fun _ _ _ _ _ => (dg_name (i := 3) sc_classes_of.nd rfl (by first | exact Or.inl rfl | exact Or.inr rfl))) (fun _ _ _ _ _ => (dbs_one (db_cmp op_dGt (de_callB call_dLenA (gl (by kernel_rfl)) (Fx.free Z 11) (by decide +kernel) (da_cons (de_subA (z0.blk _ _ _ _ _).hu1 (de_var (i := 1) (pv 1)) (de_var (i := 3) (pv 3)) (fun _ _ => rfl)) da_nil)) (de_int (r := false)) (by rfl)))) (fun _ _ _ _ _ => (de_callF (ok_in_order (P := P) (w := w) (base := base) Z Zc) (z0.blk _ _ _ _ _).r (gl (by kernel_rfl)) (Fx.glo Z 9) (F_in_order Z).kp (b_in_order' Z) (z0.blk _ _ _ _ _).pass (da_cons (de_subA (z0.blk _ _ _ _ _).hu1 (de_var (i := 1) (pv 1)) (de_var (i := 3) (pv 3)) (fun _ _ => rfl)) da_nil))))) (ds_one (ds_ret (k := false) (de_callTy call_dTuple (gl (by kernel_rfl)) (Fx.free Z 6) (by decide +kernel) (da_cons (de_sortK (ok_terms_key (P := P) (w := w) (base := base) Z Zc) z0.r (b_terms_key' Z) (gl (by kernel_rfl)) (Fx.free Z 7) (gl (by kernel_rfl)) (Fx.glo Z 16) (da_cons (de_var (i := 2) (pv 2)) da_nil)) da_nil))))))
theorem ok_class_of (Z : Fz K mg) (Zc : Cn K mg) : FnOk P w K mg base (L2.CX P w) 7 (He.ga K "class_of") (fd_class_of Z) ["known", "term"] (spP K mg m_class_of) := by
  refine fn_pure (P := P) (w := w) (base := base) (mg := mg) (N := ["known", "term", "told", "terms"]) (ps := ["known", "term"]) (k := 6) (mb := b_class_of) (Γ' := []) (F_class_of Z) sc_class_of (by decide) ?_
  intro cdv A outer s H E cs
  have z0 := cs.toCz
  exact (ds_cons (ds_setF0 (k := false) (i := 2) (ps_lcF (i := 2) z0.calm sc_class_of.nd rfl rfl (by rfl) (di_seq (de_callF (ok_classes_of (P := P) (w := w) (base := base) Z Zc) z0.r (gl (by kernel_rfl)) (Fx.glo Z 14) (F_classes_of Z).kp (b_classes_of' Z) z0.pass (da_cons (de_var (i := 0) (pv 0)) da_nil))) (blk_ok (own := [("terms", 3)]) (by kernel_rfl)) (fun _ _ _ _ _ => (dg_name (i := 3) sc_class_of.nd rfl (by first | exact Or.inl rfl | exact Or.inr rfl))) (fun _ _ _ _ _ => (dbs_one (db_cmp (op_dInA (z0.blk _ _ _ _ _).hu) (de_var (i := 1) (pv 1)) (de_var (i := 3) (pv 3)) (by rfl)))) (fun _ _ _ _ _ => (de_var (i := 3) (pv 3))))) (ds_one (ds_ret (k := false) (de_if (db_cmp op_dGt (de_callB call_dLenA (gl (by kernel_rfl)) (Fx.free Z 11) (by decide +kernel) (da_cons (de_var (i := 2) (pv 2)) da_nil)) (de_int (r := false)) (by rfl)) (de_subA z0.hu1 (de_var (i := 2) (pv 2)) (de_int (r := false)) (fun _ _ => rfl)) (de_tup (da_cons (de_var (i := 1) (pv 1)) da_nil))))))
theorem ok_told_of_class (Z : Fz K mg) (Zc : Cn K mg) : FnOk P w K mg base (L2.CX P w) 8 (He.ga K "told_of_class") (fd_told_of_class Z) ["terms"] (spP K mg m_told_of_class) := by
  refine fn_pure (P := P) (w := w) (base := base) (mg := mg) (N := ["terms", "names"]) (ps := ["terms"]) (k := 7) (mb := b_told_of_class) (Γ' := []) (F_told_of_class Z) sc_told_of_class (by decide) ?_
  intro cdv A outer s H E cs
  have z0 := cs.toCz
  exact (ds_cons (ds_set (k := false) (i := 1) sc_told_of_class.nd rfl (by first | exact Or.inl rfl | exact Or.inr rfl) (de_callF (ok_names_in (P := P) (w := w) (base := base) Z Zc) z0.r (gl (by kernel_rfl)) (Fx.glo Z 17) (F_names_in Z).kp (b_names_in' Z) z0.pass (da_cons (de_var (i := 0) (pv 0)) da_nil))) (ds_one (ds_ret (k := false) (de_if (db_cmp (op_dEq z0.hu) (de_callB call_dLenA (gl (by kernel_rfl)) (Fx.free Z 11) (by decide +kernel) (da_cons (de_var (i := 1) (pv 1)) da_nil)) (de_int (r := false)) (by rfl)) (de_subA z0.hu1 (de_var (i := 1) (pv 1)) (de_int (r := false)) (fun _ _ => rfl)) (de_callF (ok_least_term (P := P) (w := w) (base := base) Z Zc) z0.r (gl (by kernel_rfl)) (Fx.glo Z 18) (F_least_term Z).kp (b_least_term' Z) z0.pass (da_cons (de_var (i := 0) (pv 0)) da_nil))))))
theorem ok_is_joined (Z : Fz K mg) (Zc : Cn K mg) : FnOk P w K mg base (L2.CX P w) 2 (He.ga K "is_joined") (fd_is_joined Z) ["known", "one", "other"] (spP K mg m_is_joined) := by
  refine fn_pure (P := P) (w := w) (base := base) (mg := mg) (N := ["known", "one", "other", "numbers"]) (ps := ["known", "one", "other"]) (k := 1) (mb := b_is_joined) (Γ' := []) (F_is_joined Z) sc_is_joined (by decide) ?_
  intro cdv A outer s H E cs
  have z0 := cs.toCz
  exact (ds_cons (ds_set (k := false) (i := 3) sc_is_joined.nd rfl (by first | exact Or.inl rfl | exact Or.inr rfl) (de_callF (ok_class_numbers (P := P) (w := w) (base := base) Z Zc) z0.r (gl (by kernel_rfl)) (Fx.glo Z 13) (F_class_numbers Z).kp (b_class_numbers' Z) z0.pass (da_cons (de_var (i := 0) (pv 0)) da_nil))) (ds_one (ds_ret (k := false) (de_or (de_cmp (op_dEq z0.hu) (de_var (i := 1) (pv 1)) (de_var (i := 2) (pv 2)) (by rfl)) (de_one (de_and (de_cmp (op_dInA z0.hu) (de_var (i := 1) (pv 1)) (de_var (i := 3) (pv 3)) (by rfl)) (de_and (de_cmp (op_dInA z0.hu) (de_var (i := 2) (pv 2)) (de_var (i := 3) (pv 3)) (by rfl)) (de_one (de_cmp (op_dEq z0.hu) (de_subA z0.hu1 (de_var (i := 3) (pv 3)) (de_var (i := 1) (pv 1)) (fun _ _ => rfl)) (de_subA z0.hu1 (de_var (i := 3) (pv 3)) (de_var (i := 2) (pv 2)) (fun _ _ => rfl)) (by rfl))))))))))
theorem ok_is_broken (Z : Fz K mg) (Zc : Cn K mg) : FnOk P w K mg base (L2.CX P w) 8 (He.ga K "is_broken") (fd_is_broken Z) ["known"] (spP K mg m_is_broken) := by
  refine fn_pure (P := P) (w := w) (base := base) (mg := mg) (N := ["known", "terms", "one", "other"]) (ps := ["known"]) (k := 7) (mb := b_is_broken) (Γ' := []) (F_is_broken Z) sc_is_broken (by decide) ?_
  intro cdv A outer s H E cs
  have z0 := cs.toCz
  exact (ds_cons (ds_if (k := false) (Γ' := []) (db_tru (de_callB (call_dAny z0.calm) (gl (by kernel_rfl)) (Fx.free Z 22) (by decide +kernel) (da_cons (de_fresh (df_lc z0.calm sc_is_broken.nd (di_seq (de_callF (ok_classes_of (P := P) (w := w) (base := base) Z Zc) z0.r (gl (by kernel_rfl)) (Fx.glo Z 14) (F_classes_of Z).kp (b_classes_of' Z) z0.pass (da_cons (de_var (i := 0) (pv 0)) da_nil))) (blk_ok (own := [("terms", 1)]) (by kernel_rfl)) (fun _ _ _ _ _ => (dg_name (i := 1) sc_is_broken.nd rfl (by first | exact Or.inl rfl | exact Or.inr rfl))) (fun _ _ _ _ _ => dbs_nil) (fun _ _ _ _ _ => (de_cmp op_dGt (de_callB call_dLenA (gl (by kernel_rfl)) (Fx.free Z 11) (by decide +kernel) (da_cons (de_callF (ok_names_in (P := P) (w := w) (base := base) Z Zc) (z0.blk _ _ _ _ _).r (gl (by kernel_rfl)) (Fx.glo Z 17) (F_names_in Z).kp (b_names_in' Z) (z0.blk _ _ _ _ _).pass (da_cons (de_var (i := 1) (pv 1)) da_nil)) da_nil)) (de_int (r := false)) (by rfl))))) da_nil))) (ds_one (ds_ret (k := false) (de_bl (r := false)))) ds_nil) (ds_one (ds_ret (k := false) (de_callB (call_dAny z0.calm) (gl (by kernel_rfl)) (Fx.free Z 22) (by decide +kernel) (da_cons (de_fresh (df_lc z0.calm sc_is_broken.nd (di_seq (de_subA z0.hu1 (de_var (i := 0) (pv 0)) (de_int (r := false)) (fun _ _ => rfl))) (blk_ok (own := [("one", 2), ("other", 3)]) (by kernel_rfl)) (fun _ _ _ _ _ => (dg_tup (n := 2) (z0.blk _ _ _ _ _).calm (dgs_cons (dg_name (i := 2) sc_is_broken.nd rfl (by first | exact Or.inl rfl | exact Or.inr rfl)) (dgs_cons (dg_name (i := 3) sc_is_broken.nd rfl (by first | exact Or.inl rfl | exact Or.inr rfl)) dgs_nil)))) (fun _ _ _ _ _ => dbs_nil) (fun _ _ _ _ _ => (de_callF (ok_is_joined (P := P) (w := w) (base := base) Z Zc) (z0.blk _ _ _ _ _).r (gl (by kernel_rfl)) (Fx.glo Z 23) (F_is_joined Z).kp (b_is_joined' Z) (z0.blk _ _ _ _ _).pass (da_cons (de_var (i := 0) (pv 0)) (da_cons (de_var (i := 2) (pv 2)) (da_cons (de_var (i := 3) (pv 3)) da_nil))))))) da_nil)))))
theorem ok_told_table (Z : Fz K mg) (Zc : Cn K mg) : FnOk P w K mg base (L2.CX P w) 9 (He.ga K "told_table") (fd_told_table Z) ["known"] (spP K mg m_told_table) := by
  refine fn_pure (P := P) (w := w) (base := base) (mg := mg) (N := ["known", "broken", "found", "terms", "told", "term"]) (ps := ["known"]) (k := 8) (mb := b_told_table) (Γ' := []) (F_told_table Z) sc_told_table (by decide) ?_
  intro cdv A outer s H E cs
  have z0 := cs.toCz
  exact (ds_cons (ds_set (k := false) (i := 1) sc_told_table.nd rfl (by first | exact Or.inl rfl | exact Or.inr rfl) (de_callF (ok_is_broken (P := P) (w := w) (base := base) Z Zc) z0.r (gl (by kernel_rfl)) (Fx.glo Z 19) (F_is_broken Z).kp (b_is_broken' Z) z0.pass (da_cons (de_var (i := 0) (pv 0)) da_nil))) (ds_cons (ds_own (k := false) (i := 2) sc_told_table.nd rfl (by first | exact Or.inl rfl | exact Or.inr rfl) df_dict) (ds_cons (ds_for (k := false) (vs := [3]) cs.own z0.calm (di_seq (de_callF (ok_classes_of (P := P) (w := w) (base := base) Z Zc) z0.r (gl (by kernel_rfl)) (Fx.glo Z 14) (F_classes_of Z).kp (b_classes_of' Z) z0.pass (da_cons (de_var (i := 0) (pv 0)) da_nil))) (dg_name (i := 3) sc_told_table.nd rfl (by first | exact Or.inl rfl | exact Or.inr rfl)) (ds_cons (ds_set (k := false) (i := 4) sc_told_table.nd rfl (by first | exact Or.inl rfl | exact Or.inr rfl) (de_if (db_tru (de_var (i := 1) (pv 1))) (de_callF (ok_least_term (P := P) (w := w) (base := base) Z Zc) z0.r (gl (by kernel_rfl)) (Fx.glo Z 18) (F_least_term Z).kp (b_least_term' Z) z0.pass (da_cons (de_var (i := 3) (pv 3)) da_nil)) (de_callF (ok_told_of_class (P := P) (w := w) (base := base) Z Zc) z0.r (gl (by kernel_rfl)) (Fx.glo Z 20) (F_told_of_class Z).kp (b_told_of_class' Z) z0.pass (da_cons (de_var (i := 3) (pv 3)) da_nil)))) (ds_one (ds_expr (k := true) (de_upd (i := 2) (pv 2) (de_up (de_callTy (call_dDict z0.calm) (gl (by kernel_rfl)) (Fx.free Z 12) (by decide +kernel) (da_cons (de_fresh (df_lc z0.calm sc_told_table.nd (di_seq (de_var (i := 3) (pv 3))) (blk_ok (own := [("term", 5)]) (by kernel_rfl)) (fun _ _ _ _ _ => (dg_name (i := 5) sc_told_table.nd rfl (by first | exact Or.inl rfl | exact Or.inr rfl))) (fun _ _ _ _ _ => dbs_nil) (fun _ _ _ _ _ => (de_tup (da_cons (de_var (i := 5) (pv 5)) (da_cons (de_var (i := 4) (pv 4)) da_nil)))))) da_nil)))))))) (dss_free (Γ1 := []) (ds_one (ds_ret (k := false) (de_var (i := 2) (pv 2))))))))
theorem ok_told_term (Z : Fz K mg) (Zc : Cn K mg) : FnOk P w K mg base (L2.CX P w) 10 (He.ga K "told_term") (fd_told_term Z) ["known", "term"] (spP K mg m_told_term) := by
  refine fn_pure (P := P) (w := w) (base := base) (mg := mg) (N := ["known", "term"]) (ps := ["known", "term"]) (k := 9) (mb := b_told_term) (Γ' := []) (F_told_term Z) sc_told_term (by decide) ?_
  intro cdv A outer s H E cs
  have z0 := cs.toCz
  exact (ds_one (ds_ret (k := false) (de_get2 z0.hu1 (de_callF (ok_told_table (P := P) (w := w) (base := base) Z Zc) z0.r (gl (by kernel_rfl)) (Fx.glo Z 21) (F_told_table Z).kp (b_told_table' Z) z0.pass (da_cons (de_var (i := 0) (pv 0)) da_nil)) (de_var (i := 1) (pv 1)) (de_var (i := 1) (pv 1)) ⟨rfl, rfl, rfl, rfl⟩)))
theorem ok_tells_equal (Z : Fz K mg) (Zc : Cn K mg) : FnOk P w K mg base (L2.CX P w) 9 (He.ga K "tells_equal") (fd_tells_equal Z) ["known", "one", "other"] (spP K mg m_tells_equal) := by
  refine fn_pure (P := P) (w := w) (base := base) (mg := mg) (N := ["known", "one", "other"]) (ps := ["known", "one", "other"]) (k := 8) (mb := b_tells_equal) (Γ' := []) (F_tells_equal Z) sc_tells_equal (by decide) ?_
  intro cdv A outer s H E cs
  have z0 := cs.toCz
  exact (ds_one (ds_ret (k := false) (de_or (de_callF (ok_is_joined (P := P) (w := w) (base := base) Z Zc) z0.r (gl (by kernel_rfl)) (Fx.glo Z 23) (F_is_joined Z).kp (b_is_joined' Z) z0.pass (da_cons (de_var (i := 0) (pv 0)) (da_cons (de_var (i := 1) (pv 1)) (da_cons (de_var (i := 2) (pv 2)) da_nil)))) (de_one (de_callF (ok_is_broken (P := P) (w := w) (base := base) Z Zc) z0.r (gl (by kernel_rfl)) (Fx.glo Z 19) (F_is_broken Z).kp (b_is_broken' Z) z0.pass (da_cons (de_var (i := 0) (pv 0)) da_nil))))))
theorem ok_with_pair (Z : Fz K mg) (Zc : Cn K mg) : FnOk P w K mg base (L2.CX P w) 1 (He.ga K "with_pair") (fd_with_pair Z) ["known", "one", "other"] (spP K mg m_with_pair) := by
  refine fn_pure (P := P) (w := w) (base := base) (mg := mg) (N := ["known", "one", "other"]) (ps := ["known", "one", "other"]) (k := 0) (mb := b_with_pair) (Γ' := []) (F_with_pair Z) sc_with_pair (by decide) ?_
  intro cdv A outer s H E cs
  have z0 := cs.toCz
  exact (ds_one (ds_ret (k := false) (de_tup (da_cons (de_op op_dAdd (de_subA z0.hu1 (de_var (i := 0) (pv 0)) (de_int (r := false)) (fun _ _ => rfl)) (de_tup (da_cons (de_tup (da_cons (de_var (i := 1) (pv 1)) (da_cons (de_var (i := 2) (pv 2)) da_nil))) da_nil))) (da_cons (de_subA z0.hu1 (de_var (i := 0) (pv 0)) (de_int (r := false)) (fun _ _ => rfl)) da_nil)))))
theorem ok_tells_unlike (Z : Fz K mg) (Zc : Cn K mg) : FnOk P w K mg base (L2.CX P w) 9 (He.ga K "tells_unlike") (fd_tells_unlike Z) ["known", "one", "other"] (spP K mg m_tells_unlike) := by
  refine fn_pure (P := P) (w := w) (base := base) (mg := mg) (N := ["known", "one", "other"]) (ps := ["known", "one", "other"]) (k := 8) (mb := b_tells_unlike) (Γ' := []) (F_tells_unlike Z) sc_tells_unlike (by decide) ?_
  intro cdv A outer s H E cs
  have z0 := cs.toCz
  exact (ds_one (ds_ret (k := false) (de_callF (ok_is_broken (P := P) (w := w) (base := base) Z Zc) z0.r (gl (by kernel_rfl)) (Fx.glo Z 19) (F_is_broken Z).kp (b_is_broken' Z) z0.pass (da_cons (de_callF (ok_with_pair (P := P) (w := w) (base := base) Z Zc) z0.r (gl (by kernel_rfl)) (Fx.glo Z 24) (F_with_pair Z).kp (b_with_pair' Z) z0.pass (da_cons (de_var (i := 0) (pv 0)) (da_cons (de_var (i := 1) (pv 1)) (da_cons (de_var (i := 2) (pv 2)) da_nil)))) da_nil))))
theorem ok_pairs_in_order (Z : Fz K mg) (Zc : Cn K mg) : FnOk P w K mg base (L2.CX P w) 6 (He.ga K "pairs_in_order") (fd_pairs_in_order Z) ["pairs"] (spP K mg m_pairs_in_order) := by
  refine fn_pure (P := P) (w := w) (base := base) (mg := mg) (N := ["pairs"]) (ps := ["pairs"]) (k := 5) (mb := b_pairs_in_order) (Γ' := []) (F_pairs_in_order Z) sc_pairs_in_order (by decide) ?_
  intro cdv A outer s H E cs
  have z0 := cs.toCz
  exact (ds_one (ds_ret (k := false) (de_callTy call_dTuple (gl (by kernel_rfl)) (Fx.free Z 6) (by decide +kernel) (da_cons (de_sortK (ok_terms_key (P := P) (w := w) (base := base) Z Zc) z0.r (b_terms_key' Z) (gl (by kernel_rfl)) (Fx.free Z 7) (gl (by kernel_rfl)) (Fx.glo Z 16) (da_cons (de_callF (ok_without_doubles (P := P) (w := w) (base := base) Z Zc) z0.r (gl (by kernel_rfl)) (Fx.glo Z 8) (F_without_doubles Z).kp (b_without_doubles' Z) z0.pass (da_cons (de_var (i := 0) (pv 0)) da_nil)) da_nil)) da_nil))))
theorem ok_turned_in_order (Z : Fz K mg) (Zc : Cn K mg) : FnOk P w K mg base (L2.CX P w) 4 (He.ga K "turned_in_order") (fd_turned_in_order Z) ["one", "other"] (spP K mg m_turned_in_order) := by
  refine fn_pure (P := P) (w := w) (base := base) (mg := mg) (N := ["one", "other"]) (ps := ["one", "other"]) (k := 3) (mb := b_turned_in_order) (Γ' := []) (F_turned_in_order Z) sc_turned_in_order (by decide) ?_
  intro cdv A outer s H E cs
  have z0 := cs.toCz
  exact (ds_one (ds_ret (k := false) (de_if (db_tru (de_callF (ok_is_ahead (P := P) (w := w) (base := base) Z Zc) z0.r (gl (by kernel_rfl)) (Fx.glo Z 25) (F_is_ahead Z).kp (b_is_ahead' Z) z0.pass (da_cons (de_var (i := 0) (pv 0)) (da_cons (de_var (i := 1) (pv 1)) da_nil)))) (de_tup (da_cons (de_var (i := 0) (pv 0)) (da_cons (de_var (i := 1) (pv 1)) da_nil))) (de_tup (da_cons (de_var (i := 1) (pv 1)) (da_cons (de_var (i := 0) (pv 0)) da_nil))))))
theorem ok_least_equal (Z : Fz K mg) (Zc : Cn K mg) : FnOk P w K mg base (L2.CX P w) 9 (He.ga K "least_equal") (fd_least_equal Z) ["known"] (spP K mg m_least_equal) := by
  refine fn_pure (P := P) (w := w) (base := base) (mg := mg) (N := ["known", "found", "terms", "told", "term"]) (ps := ["known"]) (k := 8) (mb := b_least_equal) (Γ' := []) (F_least_equal Z) sc_least_equal (by decide) ?_
  intro cdv A outer s H E cs
  have z0 := cs.toCz
  exact (ds_cons (ds_own (k := false) (i := 1) sc_least_equal.nd rfl (by first | exact Or.inl rfl | exact Or.inr rfl) (df_lst da_nil)) (ds_cons (ds_for (k := false) (vs := [2]) cs.own z0.calm (di_seq (de_callF (ok_classes_of (P := P) (w := w) (base := base) Z Zc) z0.r (gl (by kernel_rfl)) (Fx.glo Z 14) (F_classes_of Z).kp (b_classes_of' Z) z0.pass (da_cons (de_var (i := 0) (pv 0)) da_nil))) (dg_name (i := 2) sc_least_equal.nd rfl (by first | exact Or.inl rfl | exact Or.inr rfl)) (ds_cons (ds_set (k := false) (i := 3) sc_least_equal.nd rfl (by first | exact Or.inl rfl | exact Or.inr rfl) (de_callF (ok_told_of_class (P := P) (w := w) (base := base) Z Zc) z0.r (gl (by kernel_rfl)) (Fx.glo Z 20) (F_told_of_class Z).kp (b_told_of_class' Z) z0.pass (da_cons (de_var (i := 2) (pv 2)) da_nil))) (ds_one (ds_ext (k := false) (i := 1) sc_least_equal.nd rfl (by first | exact Or.inl rfl | exact Or.inr rfl) (de_fresh (df_lc z0.calm sc_least_equal.nd (di_seq (de_var (i := 2) (pv 2))) (blk_ok (own := [("term", 4)]) (by kernel_rfl)) (fun _ _ _ _ _ => (dg_name (i := 4) sc_least_equal.nd rfl (by first | exact Or.inl rfl | exact Or.inr rfl))) (fun _ _ _ _ _ => (dbs_one (db_cmp (op_dNe (z0.blk _ _ _ _ _).hu) (de_var (i := 4) (pv 4)) (de_var (i := 3) (pv 3)) (by rfl)))) (fun _ _ _ _ _ => (de_tup (da_cons (de_var (i := 3) (pv 3)) (da_cons (de_var (i := 4) (pv 4)) da_nil)))))))))) (dss_free (Γ1 := []) (ds_one (ds_ret (k := false) (de_callF (ok_pairs_in_order (P := P) (w := w) (base := base) Z Zc) z0.r (gl (by kernel_rfl)) (Fx.glo Z 26) (F_pairs_in_order Z).kp (b_pairs_in_order' Z) z0.pass (da_cons (de_var (i := 1) (pv 1)) da_nil)))))))
theorem ok_least_unlike (Z : Fz K mg) (Zc : Cn K mg) : FnOk P w K mg base (L2.CX P w) 10 (He.ga K "least_unlike") (fd_least_unlike Z) ["known"] (spP K mg m_least_unlike) := by
  refine fn_pure (P := P) (w := w) (base := base) (mg := mg) (N := ["known", "table", "found", "one", "other", "first", "second"]) (ps := ["known"]) (k := 9) (mb := b_least_unlike) (Γ' := []) (F_least_unlike Z) sc_least_unlike (by decide) ?_
  intro cdv A outer s H E cs
  have z0 := cs.toCz
  exact (ds_cons (ds_set (k := false) (i := 1) sc_least_unlike.nd rfl (by first | exact Or.inl rfl | exact Or.inr rfl) (de_callF (ok_told_table (P := P) (w := w) (base := base) Z Zc) z0.r (gl (by kernel_rfl)) (Fx.glo Z 21) (F_told_table Z).kp (b_told_table' Z) z0.pass (da_cons (de_var (i := 0) (pv 0)) da_nil))) (ds_cons (ds_own (k := false) (i := 2) sc_least_unlike.nd rfl (by first | exact Or.inl rfl | exact Or.inr rfl) (df_lst da_nil)) (ds_cons (ds_for (k := false) (vs := [3, 4]) cs.own z0.calm (di_seq (de_subA z0.hu1 (de_var (i := 0) (pv 0)) (de_int (r := false)) (fun _ _ => rfl))) (dg_tup (n := 2) z0.calm (dgs_cons (dg_name (i := 3) sc_least_unlike.nd rfl (by first | exact Or.inl rfl | exact Or.inr rfl)) (dgs_cons (dg_name (i := 4) sc_least_unlike.nd rfl (by first | exact Or.inl rfl | exact Or.inr rfl)) dgs_nil))) (ds_cons (ds_par (k := false) (i := 5) (j := 6) z0.calm sc_least_unlike.nd rfl rfl rfl rfl (da_cons (de_get2 z0.hu1 (de_var (i := 1) (pv 1)) (de_var (i := 3) (pv 3)) (de_var (i := 3) (pv 3)) ⟨rfl, rfl, rfl, rfl⟩) (da_cons (de_get2 z0.hu1 (de_var (i := 1) (pv 1)) (de_var (i := 4) (pv 4)) (de_var (i := 4) (pv 4)) ⟨rfl, rfl, rfl, rfl⟩) da_nil)) (by rfl)) (ds_one (ds_if (k := false) (Γ' := [2]) (db_w (dw_or (db_not (db_tru (de_callF (ok_is_name (P := P) (w := w) (base := base) Z Zc) z0.r (gl (by kernel_rfl)) (Fx.glo Z 27) (F_is_name Z).kp (b_is_name' Z) z0.pass (da_cons (de_var (i := 5) (pv 5)) da_nil)))) (dw_one (db_not (db_tru (de_callF (ok_is_name (P := P) (w := w) (base := base) Z Zc) z0.r (gl (by kernel_rfl)) (Fx.glo Z 27) (F_is_name Z).kp (b_is_name' Z) z0.pass (da_cons (de_var (i := 6) (pv 6)) da_nil))))))) (ds_one (ds_expr (k := true) (de_app (i := 2) (pv 2) (de_up (de_callF (ok_turned_in_order (P := P) (w := w) (base := base) Z Zc) z0.r (gl (by kernel_rfl)) (Fx.glo Z 28) (F_turned_in_order Z).kp (b_turned_in_order' Z) z0.pass (da_cons (de_var (i := 5) (pv 5)) (da_cons (de_var (i := 6) (pv 6)) da_nil))))))) ds_nil)))) (dss_free (Γ1 := []) (ds_one (ds_ret (k := false) (de_callF (ok_pairs_in_order (P := P) (w := w) (base := base) Z Zc) z0.r (gl (by kernel_rfl)) (Fx.glo Z 26) (F_pairs_in_order Z).kp (b_pairs_in_order' Z) z0.pass (da_cons (de_var (i := 2) (pv 2)) da_nil))))))))
theorem ok_least_known (Z : Fz K mg) (Zc : Cn K mg) : FnOk P w K mg base (L2.CX P w) 11 (He.ga K "least_known") (fd_least_known Z) ["known"] (spP K mg m_least_known) := by
  refine fn_pure (P := P) (w := w) (base := base) (mg := mg) (N := ["known"]) (ps := ["known"]) (k := 10) (mb := b_least_known) (Γ' := []) (F_least_known Z) sc_least_known (by decide) ?_
  intro cdv A outer s H E cs
  have z0 := cs.toCz
  exact (ds_cons (ds_if (k := false) (Γ' := []) (db_tru (de_callF (ok_is_broken (P := P) (w := w) (base := base) Z Zc) z0.r (gl (by kernel_rfl)) (Fx.glo Z 19) (F_is_broken Z).kp (b_is_broken' Z) z0.pass (da_cons (de_var (i := 0) (pv 0)) da_nil))) (ds_one (ds_ret (k := false) (de_con (Zc.c_BROKEN) (gl (by kernel_rfl))))) ds_nil) (ds_one (ds_ret (k := false) (de_tup (da_cons (de_callF (ok_least_equal (P := P) (w := w) (base := base) Z Zc) z0.r (gl (by kernel_rfl)) (Fx.glo Z 30) (F_least_equal Z).kp (b_least_equal' Z) z0.pass (da_cons (de_var (i := 0) (pv 0)) da_nil)) (da_cons (de_callF (ok_least_unlike (P := P) (w := w) (base := base) Z Zc) z0.r (gl (by kernel_rfl)) (Fx.glo Z 29) (F_least_unlike Z).kp (b_least_unlike' Z) z0.pass (da_cons (de_var (i := 0) (pv 0)) da_nil)) da_nil))))))
theorem ok_same_known (Z : Fz K mg) (Zc : Cn K mg) : FnOk P w K mg base (L2.CX P w) 12 (He.ga K "same_known") (fd_same_known Z) ["one", "other"] (spP K mg m_same_known) := by
  refine fn_pure (P := P) (w := w) (base := base) (mg := mg) (N := ["one", "other"]) (ps := ["one", "other"]) (k := 11) (mb := b_same_known) (Γ' := []) (F_same_known Z) sc_same_known (by decide) ?_
  intro cdv A outer s H E cs
  have z0 := cs.toCz
  exact (ds_one (ds_ret (k := false) (de_cmp (op_dEq z0.hu) (de_callF (ok_least_known (P := P) (w := w) (base := base) Z Zc) z0.r (gl (by kernel_rfl)) (Fx.glo Z 31) (F_least_known Z).kp (b_least_known' Z) z0.pass (da_cons (de_var (i := 0) (pv 0)) da_nil)) (de_callF (ok_least_known (P := P) (w := w) (base := base) Z Zc) z0.r (gl (by kernel_rfl)) (Fx.glo Z 31) (F_least_known Z).kp (b_least_known' Z) z0.pass (da_cons (de_var (i := 1) (pv 1)) da_nil)) (by rfl))))
theorem ok_tells_all (Z : Fz K mg) (Zc : Cn K mg) : FnOk P w K mg base (L2.CX P w) 10 (He.ga K "tells_all") (fd_tells_all Z) ["one", "other"] (spP K mg m_tells_all) := by
  refine fn_pure (P := P) (w := w) (base := base) (mg := mg) (N := ["one", "other", "first", "second"]) (ps := ["one", "other"]) (k := 9) (mb := b_tells_all) (Γ' := []) (F_tells_all Z) sc_tells_all (by decide) ?_
  intro cdv A outer s H E cs
  have z0 := cs.toCz
  exact (ds_cons (ds_if (k := false) (Γ' := []) (db_tru (de_callF (ok_is_broken (P := P) (w := w) (base := base) Z Zc) z0.r (gl (by kernel_rfl)) (Fx.glo Z 19) (F_is_broken Z).kp (b_is_broken' Z) z0.pass (da_cons (de_var (i := 0) (pv 0)) da_nil))) (ds_one (ds_ret (k := false) (de_bl (r := false)))) ds_nil) (ds_cons (ds_if (k := false) (Γ' := []) (db_tru (de_callF (ok_is_broken (P := P) (w := w) (base := base) Z Zc) z0.r (gl (by kernel_rfl)) (Fx.glo Z 19) (F_is_broken Z).kp (b_is_broken' Z) z0.pass (da_cons (de_var (i := 1) (pv 1)) da_nil))) (ds_one (ds_ret (k := false) (de_bl (r := false)))) ds_nil) (ds_cons (ds_if (k := false) (Γ' := []) (db_not (db_tru (de_callB (call_dAll z0.calm) (gl (by kernel_rfl)) (Fx.free Z 3) (by decide +kernel) (da_cons (de_fresh (df_lc z0.calm sc_tells_all.nd (di_seq (de_subA z0.hu1 (de_var (i := 1) (pv 1)) (de_int (r := false)) (fun _ _ => rfl))) (blk_ok (own := [("first", 2), ("second", 3)]) (by kernel_rfl)) (fun _ _ _ _ _ => (dg_tup (n := 2) (z0.blk _ _ _ _ _).calm (dgs_cons (dg_name (i := 2) sc_tells_all.nd rfl (by first | exact Or.inl rfl | exact Or.inr rfl)) (dgs_cons (dg_name (i := 3) sc_tells_all.nd rfl (by first | exact Or.inl rfl | exact Or.inr rfl)) dgs_nil)))) (fun _ _ _ _ _ => dbs_nil) (fun _ _ _ _ _ => (de_callF (ok_tells_equal (P := P) (w := w) (base := base) Z Zc) (z0.blk _ _ _ _ _).r (gl (by kernel_rfl)) (Fx.glo Z 32) (F_tells_equal Z).kp (b_tells_equal' Z) (z0.blk _ _ _ _ _).pass (da_cons (de_var (i := 0) (pv 0)) (da_cons (de_var (i := 2) (pv 2)) (da_cons (de_var (i := 3) (pv 3)) da_nil))))))) da_nil)))) (ds_one (ds_ret (k := false) (de_bl (r := false)))) ds_nil) (ds_one (ds_ret (k := false) (de_callB (call_dAll z0.calm) (gl (by kernel_rfl)) (Fx.free Z 3) (by decide +kernel) (da_cons (de_fresh (df_lc z0.calm sc_tells_all.nd (di_seq (de_subA z0.hu1 (de_var (i := 1) (pv 1)) (de_int (r := false)) (fun _ _ => rfl))) (blk_ok (own := [("first", 2), ("second", 3)]) (by kernel_rfl)) (fun _ _ _ _ _ => (dg_tup (n := 2) (z0.blk _ _ _ _ _).calm (dgs_cons (dg_name (i := 2) sc_tells_all.nd rfl (by first | exact Or.inl rfl | exact Or.inr rfl)) (dgs_cons (dg_name (i := 3) sc_tells_all.nd rfl (by first | exact Or.inl rfl | exact Or.inr rfl)) dgs_nil)))) (fun _ _ _ _ _ => dbs_nil) (fun _ _ _ _ _ => (de_callF (ok_tells_unlike (P := P) (w := w) (base := base) Z Zc) (z0.blk _ _ _ _ _).r (gl (by kernel_rfl)) (Fx.glo Z 33) (F_tells_unlike Z).kp (b_tells_unlike' Z) (z0.blk _ _ _ _ _).pass (da_cons (de_var (i := 0) (pv 0)) (da_cons (de_var (i := 2) (pv 2)) (da_cons (de_var (i := 3) (pv 3)) da_nil))))))) da_nil)))))))
theorem ok_in_world (Z : Fz K mg) (Zc : Cn K mg) : FnOk P w K mg base (L2.CX P w) 1 (He.ga K "in_world") (fd_in_world Z) ["term", "unknowns", "world"] (spP K mg m_in_world) := by
  refine fn_pure (P := P) (w := w) (base := base) (mg := mg) (N := ["term", "unknowns", "world"]) (ps := ["term", "unknowns", "world"]) (k := 0) (mb := b_in_world) (Γ' := []) (F_in_world Z) sc_in_world (by decide) ?_
  intro cdv A outer s H E cs
  have z0 := cs.toCz
  exact (ds_one (ds_ret (k := false) (de_if (db_cmp (op_dInA z0.hu) (de_var (i := 0) (pv 0)) (de_var (i := 1) (pv 1)) (by rfl)) (de_subA z0.hu1 (de_var (i := 2) (pv 2)) (de_mq (mt_index z0.hu) (de_var (i := 1) (pv 1)) (da_cons (de_var (i := 0) (pv 0)) da_nil)) (fun _ _ => rfl)) (de_var (i := 0) (pv 0)))))
theorem ok_holds_in (Z : Fz K mg) (Zc : Cn K mg) : FnOk P w K mg base (L2.CX P w) 2 (He.ga K "holds_in") (fd_holds_in Z) ["known", "unknowns", "world"] (spP K mg m_holds_in) := by
  refine fn_pure (P := P) (w := w) (base := base) (mg := mg) (N := ["known", "unknowns", "world", "one", "other"]) (ps := ["known", "unknowns", "world"]) (k := 1) (mb := b_holds_in) (Γ' := []) (F_holds_in Z) sc_holds_in (by decide) ?_
  intro cdv A outer s H E cs
  have z0 := cs.toCz
  exact (ds_cons (ds_if (k := false) (Γ' := []) (db_not (db_tru (de_callB (call_dAll z0.calm) (gl (by kernel_rfl)) (Fx.free Z 3) (by decide +kernel) (da_cons (de_fresh (df_lc z0.calm sc_holds_in.nd (di_seq (de_subA z0.hu1 (de_var (i := 0) (pv 0)) (de_int (r := false)) (fun _ _ => rfl))) (blk_ok (own := [("one", 3), ("other", 4)]) (by kernel_rfl)) (fun _ _ _ _ _ => (dg_tup (n := 2) (z0.blk _ _ _ _ _).calm (dgs_cons (dg_name (i := 3) sc_holds_in.nd rfl (by first | exact Or.inl rfl | exact Or.inr rfl)) (dgs_cons (dg_name (i := 4) sc_holds_in.nd rfl (by first | exact Or.inl rfl | exact Or.inr rfl)) dgs_nil)))) (fun _ _ _ _ _ => dbs_nil) (fun _ _ _ _ _ => (de_cmp (op_dEq (z0.blk _ _ _ _ _).hu) (de_callF (ok_in_world (P := P) (w := w) (base := base) Z Zc) (z0.blk _ _ _ _ _).r (gl (by kernel_rfl)) (Fx.glo Z 34) (F_in_world Z).kp (b_in_world' Z) (z0.blk _ _ _ _ _).pass (da_cons (de_var (i := 3) (pv 3)) (da_cons (de_var (i := 1) (pv 1)) (da_cons (de_var (i := 2) (pv 2)) da_nil)))) (de_callF (ok_in_world (P := P) (w := w) (base := base) Z Zc) (z0.blk _ _ _ _ _).r (gl (by kernel_rfl)) (Fx.glo Z 34) (F_in_world Z).kp (b_in_world' Z) (z0.blk _ _ _ _ _).pass (da_cons (de_var (i := 4) (pv 4)) (da_cons (de_var (i := 1) (pv 1)) (da_cons (de_var (i := 2) (pv 2)) da_nil)))) (by rfl))))) da_nil)))) (ds_one (ds_ret (k := false) (de_bl (r := false)))) ds_nil) (ds_one (ds_ret (k := false) (de_callB (call_dAll z0.calm) (gl (by kernel_rfl)) (Fx.free Z 3) (by decide +kernel) (da_cons (de_fresh (df_lc z0.calm sc_holds_in.nd (di_seq (de_subA z0.hu1 (de_var (i := 0) (pv 0)) (de_int (r := false)) (fun _ _ => rfl))) (blk_ok (own := [("one", 3), ("other", 4)]) (by kernel_rfl)) (fun _ _ _ _ _ => (dg_tup (n := 2) (z0.blk _ _ _ _ _).calm (dgs_cons (dg_name (i := 3) sc_holds_in.nd rfl (by first | exact Or.inl rfl | exact Or.inr rfl)) (dgs_cons (dg_name (i := 4) sc_holds_in.nd rfl (by first | exact Or.inl rfl | exact Or.inr rfl)) dgs_nil)))) (fun _ _ _ _ _ => dbs_nil) (fun _ _ _ _ _ => (de_cmp (op_dNe (z0.blk _ _ _ _ _).hu) (de_callF (ok_in_world (P := P) (w := w) (base := base) Z Zc) (z0.blk _ _ _ _ _).r (gl (by kernel_rfl)) (Fx.glo Z 34) (F_in_world Z).kp (b_in_world' Z) (z0.blk _ _ _ _ _).pass (da_cons (de_var (i := 3) (pv 3)) (da_cons (de_var (i := 1) (pv 1)) (da_cons (de_var (i := 2) (pv 2)) da_nil)))) (de_callF (ok_in_world (P := P) (w := w) (base := base) Z Zc) (z0.blk _ _ _ _ _).r (gl (by kernel_rfl)) (Fx.glo Z 34) (F_in_world Z).kp (b_in_world' Z) (z0.blk _ _ _ _ _).pass (da_cons (de_var (i := 4) (pv 4)) (da_cons (de_var (i := 1) (pv 1)) (da_cons (de_var (i := 2) (pv 2)) da_nil)))) (by rfl))))) da_nil)))))
theorem ok_all_worlds (Z : Fz K mg) (Zc : Cn K mg) : FnOk P w K mg base (L2.CX P w) 1 (He.ga K "all_worlds") (fd_all_worlds Z) ["many", "names"] (spP K mg m_all_worlds) := by
  refine fn_pure (P := P) (w := w) (base := base) (mg := mg) (N := ["many", "names", "rows", "step", "row", "name"]) (ps := ["many", "names"]) (k := 0) (mb := b_all_worlds) (Γ' := []) (F_all_worlds Z) sc_all_worlds (by decide) ?_
  intro cdv A outer s H E cs
  have z0 := cs.toCz
  exact (ds_cons (ds_set (k := false) (i := 2) sc_all_worlds.nd rfl (by first | exact Or.inl rfl | exact Or.inr rfl) (de_lst (da_cons (de_tup da_nil) da_nil))) (ds_cons (ds_for (k := false) (vs := [3]) cs.own z0.calm (di_rng1 (gl (by kernel_rfl)) (Fx.free Z 35) (da_cons (de_var (i := 0) (pv 0)) da_nil)) (dg_name (i := 3) sc_all_worlds.nd rfl (by first | exact Or.inl rfl | exact Or.inr rfl)) (ds_one (ds_setF0 (k := false) (i := 2) (ps_lcF2 (vs1 := [5]) (i := 2) z0.calm sc_all_worlds.nd rfl rfl (by rfl) (di_seq (de_var (i := 2) (pv 2))) (blk_ok (own := [("row", 4), ("name", 5)]) (by kernel_rfl)) (fun _ _ _ _ _ => (dg_name (i := 4) sc_all_worlds.nd rfl (by first | exact Or.inl rfl | exact Or.inr rfl))) (fun _ _ _ _ _ => dbs_nil) (fun _ _ _ _ _ => (di_seq (de_var (i := 1) (pv 1)))) (fun _ _ _ _ _ => (dg_name (i := 5) sc_all_worlds.nd rfl (by first | exact Or.inl rfl | exact Or.inr rfl))) (fun _ _ _ _ _ => dbs_nil) (fun _ _ _ _ _ => (de_op op_dAdd (de_var (i := 4) (pv 4)) (de_tup (da_cons (de_var (i := 5) (pv 5)) da_nil)))))))) (ds_one (ds_ret (k := false) (de_var (i := 2) (pv 2))))))
theorem ok_worlds_of (Z : Fz K mg) (Zc : Cn K mg) : FnOk P w K mg base (L2.CX P w) 3 (He.ga K "worlds_of") (fd_worlds_of Z) ["known", "unknowns", "names"] (spP K mg m_worlds_of) := by
  refine fn_pure (P := P) (w := w) (base := base) (mg := mg) (N := ["known", "unknowns", "names", "world"]) (ps := ["known", "unknowns", "names"]) (k := 2) (mb := b_worlds_of) (Γ' := []) (F_worlds_of Z) sc_worlds_of (by decide) ?_
  intro cdv A outer s H E cs
  have z0 := cs.toCz
  exact (ds_one (ds_ret (k := false) (de_callTy call_dTuple (gl (by kernel_rfl)) (Fx.free Z 6) (by decide +kernel) (da_cons (de_sorted z0.hu (gl (by kernel_rfl)) (Fx.free Z 7) (da_cons (de_fresh (df_lc z0.calm sc_worlds_of.nd (di_seq (de_callF (ok_all_worlds (P := P) (w := w) (base := base) Z Zc) z0.r (gl (by kernel_rfl)) (Fx.glo Z 36) (F_all_worlds Z).kp (b_all_worlds' Z) z0.pass (da_cons (de_callB call_dLenA (gl (by kernel_rfl)) (Fx.free Z 11) (by decide +kernel) (da_cons (de_var (i := 1) (pv 1)) da_nil)) (da_cons (de_var (i := 2) (pv 2)) da_nil)))) (blk_ok (own := [("world", 3)]) (by kernel_rfl)) (fun _ _ _ _ _ => (dg_name (i := 3) sc_worlds_of.nd rfl (by first | exact Or.inl rfl | exact Or.inr rfl))) (fun _ _ _ _ _ => (dbs_one (db_tru (de_callF (ok_holds_in (P := P) (w := w) (base := base) Z Zc) (z0.blk _ _ _ _ _).r (gl (by kernel_rfl)) (Fx.glo Z 37) (F_holds_in Z).kp (b_holds_in' Z) (z0.blk _ _ _ _ _).pass (da_cons (de_var (i := 0) (pv 0)) (da_cons (de_var (i := 1) (pv 1)) (da_cons (de_var (i := 3) (pv 3)) da_nil))))))) (fun _ _ _ _ _ => (de_var (i := 3) (pv 3))))) da_nil)) da_nil))))
theorem ok__law_draws (Z : Fz K mg) (Zc : Cn K mg) : FnOk P w K mg base (L2.CX P w) 1 (He.ga K "_law_draws") (fd__law_draws Z) ["script", "many"] (spFr K mg m__law_draws) := by
  refine fn_fresh (P := P) (w := w) (base := base) (mg := mg) (N := ["script", "many", "cells", "rest", "draws", "k", "at", "mingled", "cell"]) (ps := ["script", "many"]) (k := 0) (mb := b__law_draws) (F__law_draws Z) sc__law_draws (by decide) ?_
  intro cdv A outer s H E cs
  have z0 := cs.toCz
  exact (dsf_cons (ds_own0 (k := false) (i := 2) (ps_lcF (i := 2) z0.calm sc__law_draws.nd rfl rfl (by rfl) (di_seq (de_var (i := 0) (pv 0))) (blk_ok (own := [("cell", 8)]) (by kernel_rfl)) (fun _ _ _ _ _ => (dg_name (i := 8) sc__law_draws.nd rfl (by first | exact Or.inl rfl | exact Or.inr rfl))) (fun _ _ _ _ _ => dbs_nil) (fun _ _ _ _ _ => (de_callTy call_dInt (gl (by kernel_rfl)) (Fx.free Z 1) (by decide +kernel) (da_cons (de_var (i := 8) (pv 8)) da_nil)))) (by decide)) (dsf_cons (ds_if (k := false) (Γ' := [2]) (db_cmp (op_dEq z0.hu) (de_callB call_dLenA (gl (by kernel_rfl)) (Fx.free Z 11) (by decide +kernel) (da_cons (de_varT (i := 2) (pv 2)) da_nil)) (de_int (r := false)) (by rfl)) (ds_one (ds_expr (k := true) (de_app (i := 2) (pv 2) (de_up (de_int (r := false)))))) ds_nil) (dsf_cons (ds_own (k := false) (i := 3) sc__law_draws.nd rfl (by first | exact Or.inl rfl | exact Or.inr rfl) (df_list (gl (by kernel_rfl)) (Fx.free Z 38) (da_cons (de_varT (i := 2) (pv 2)) da_nil))) (dsf_cons (ds_own (k := false) (i := 4) sc__law_draws.nd rfl (by first | exact Or.inl rfl | exact Or.inr rfl) (df_lst da_nil)) (dsf_cons (ds_for (k := false) (vs := [5]) cs.own z0.calm (di_rng1 (gl (by kernel_rfl)) (Fx.free Z 35) (da_cons (de_var (i := 1) (pv 1)) da_nil)) (dg_name (i := 5) sc__law_draws.nd rfl (by first | exact Or.inl rfl | exact Or.inr rfl)) (ds_cons (ds_set (k := false) (i := 6) sc__law_draws.nd rfl (by first | exact Or.inl rfl | exact Or.inr rfl) (de_op op_dMod (de_var (i := 5) (pv 5)) (de_callB call_dLenA (gl (by kernel_rfl)) (Fx.free Z 11) (by decide +kernel) (da_cons (de_varT (i := 2) (pv 2)) da_nil)))) (ds_one (ds_if (k := false) (Γ' := [4, 3, 2]) (db_w (dw_and (db_cmp op_dGe (de_subA z0.hu1 (de_varT (i := 2) (pv 2)) (de_var (i := 6) (pv 6)) (fun _ _ => rfl)) (de_op op_dPow (de_int (r := false)) (de_int (r := false))) (by rfl)) (dw_one (db_cmp op_dGt (de_subA z0.hu1 (de_varT (i := 3) (pv 3)) (de_var (i := 6) (pv 6)) (fun _ _ => rfl)) (de_int (r := false)) (by rfl))))) (ds_cons (ds_expr (k := true) (de_app (i := 4) (pv 4) (de_up (de_op op_dMod (de_callTy call_dInt (gl (by kernel_rfl)) (Fx.free Z 1) (by decide +kernel) (da_cons (de_subA z0.hu1 (de_varT (i := 3) (pv 3)) (de_var (i := 6) (pv 6)) (fun _ _ => rfl)) da_nil)) (de_int (r := false)))))) (ds_one (ds_putL (k := false) (o := 3) (pv 3) (de_var (i := 6) (pv 6)) (de_op op_dFdiv (de_subA z0.hu1 (de_varT (i := 3) (pv 3)) (de_var (i := 6) (pv 6)) (fun _ _ => rfl)) (de_int (r := false)))))) (ds_cons (ds_set (k := false) (i := 7) sc__law_draws.nd rfl (by first | exact Or.inl rfl | exact Or.inr rfl) (de_op op_dMod (de_callTy call_dInt (gl (by kernel_rfl)) (Fx.free Z 1) (by decide +kernel) (da_cons (de_op op_dAdd (de_op op_dAdd (de_op op_dMulI (de_subA z0.hu1 (de_varT (i := 2) (pv 2)) (de_var (i := 6) (pv 6)) (fun _ _ => rfl)) (de_int (r := false))) (de_op op_dMulI (de_var (i := 5) (pv 5)) (de_int (r := false)))) (de_int (r := false))) da_nil)) (de_int (r := false)))) (ds_one (ds_expr (k := true) (de_app (i := 4) (pv 4) (de_up (de_op op_dMod (de_callTy call_dInt (gl (by kernel_rfl)) (Fx.free Z 1) (by decide +kernel) (da_cons (de_op op_dAdd (de_op op_dAdd (de_op op_dMulI (de_var (i := 7) (pv 7)) (de_var (i := 7) (pv 7))) (de_op op_dMulI (de_int (r := false)) (de_var (i := 7) (pv 7)))) (de_var (i := 5) (pv 5))) da_nil)) (de_int (r := false)))))))))))) (dsf_cons (ds_expr (k := true) (de_rev (i := 4) (pv 4))) (dsf_ret (i := 4) (pv 4))))))))
theorem ok__law_take (Z : Fz K mg) (Zc : Cn K mg) : FnOk P w K mg base (L2.CX P w) 1 (He.ga K "_law_take") (fd__law_take Z) ["draws", "many"] (spI K mg 0 m__law_take) := by
  refine fn_own (P := P) (w := w) (base := base) (mg := mg) (N := ["draws", "many"]) (ps := ["draws", "many"]) (j := 0) (k := 0) (mb := b__law_take) (Γ' := []) (F__law_take Z) sc__law_take (by decide) (by decide) ?_
  intro cdv A outer s H E cs
  have z0 := cs.toCz
  exact (ds_cons (ds_if (k := false) (Γ' := []) (db_cmp (op_dEq z0.hu) (de_callB call_dLenA (gl (by kernel_rfl)) (Fx.free Z 11) (by decide +kernel) (da_cons (de_varT (i := 0) (pv 0)) da_nil)) (de_int (r := false)) (by rfl)) (ds_one (ds_ret (k := false) (de_int (r := false)))) ds_nil) (ds_one (ds_ret (k := true) (de_op op_dMod (de_callTy call_dInt (gl (by kernel_rfl)) (Fx.free Z 1) (by decide +kernel) (da_cons (de_pop (i := 0) (pv 0)) da_nil)) (de_up (de_var (i := 1) (pv 1)))))))
theorem ok0__law_same (Z : Fz K mg) (Zc : Cn K mg) : ∀ n, FnOk P w K mg base (L2.CX P w) (0 + n) (He.ga K "_law_same") (fd__law_same Z) ["actual", "due"] (spP K mg (m__law_same n))
  | 0 => fn_none
  | n + 1 => by
    have ih := ok0__law_same Z Zc n
    refine fn_pure (P := P) (w := w) (base := base) (mg := mg) (N := ["actual", "due", "k"]) (ps := ["actual", "due"]) (k := 0 + n) (mb := b__law_same (m__law_same n)) (Γ' := []) (F__law_same Z) sc__law_same (by decide) ?_
    intro cdv A outer s H E cs
    have z0 := cs.toCz
    exact (ds_cons (ds_if (k := false) (Γ' := []) (db_tru (de_isi (T := "bool") (by decide) (gl (by kernel_rfl)) (Fx.free Z 0) (gl (by kernel_rfl)) (Fx.free Z 39) (by decide +kernel) (de_var (i := 1) (pv 1)))) (ds_one (ds_ret (k := false) (de_and (de_isi (T := "bool") (by decide) (gl (by kernel_rfl)) (Fx.free Z 0) (gl (by kernel_rfl)) (Fx.free Z 39) (by decide +kernel) (de_var (i := 0) (pv 0))) (de_one (de_cmp (op_dEq z0.hu) (de_var (i := 0) (pv 0)) (de_var (i := 1) (pv 1)) (by rfl)))))) ds_nil) (ds_cons (ds_if (k := false) (Γ' := []) (db_tru (de_isi (T := "int") (by decide) (gl (by kernel_rfl)) (Fx.free Z 0) (gl (by kernel_rfl)) (Fx.free Z 1) (by decide +kernel) (de_var (i := 1) (pv 1)))) (ds_one (ds_ret (k := false) (de_and (de_isi (T := "int") (by decide) (gl (by kernel_rfl)) (Fx.free Z 0) (gl (by kernel_rfl)) (Fx.free Z 1) (by decide +kernel) (de_var (i := 0) (pv 0))) (de_and (de_not (de_isi (T := "bool") (by decide) (gl (by kernel_rfl)) (Fx.free Z 0) (gl (by kernel_rfl)) (Fx.free Z 39) (by decide +kernel) (de_var (i := 0) (pv 0)))) (de_one (de_cmp (op_dEq z0.hu) (de_var (i := 0) (pv 0)) (de_var (i := 1) (pv 1)) (by rfl))))))) ds_nil) (ds_cons (ds_if (k := false) (Γ' := []) (db_tru (de_isi (T := "str") (by decide) (gl (by kernel_rfl)) (Fx.free Z 0) (gl (by kernel_rfl)) (Fx.free Z 2) (by decide +kernel) (de_var (i := 1) (pv 1)))) (ds_one (ds_ret (k := false) (de_and (de_isi (T := "str") (by decide) (gl (by kernel_rfl)) (Fx.free Z 0) (gl (by kernel_rfl)) (Fx.free Z 2) (by decide +kernel) (de_var (i := 0) (pv 0))) (de_one (de_cmp (op_dEq z0.hu) (de_var (i := 0) (pv 0)) (de_var (i := 1) (pv 1)) (by rfl)))))) ds_nil) (ds_cons (ds_if (k := false) (Γ' := []) (db_cmp op_dIsN (de_var (i := 1) (pv 1)) (de_non (r := false)) (by rfl)) (ds_one (ds_ret (k := false) (de_cmp op_dIsN (de_var (i := 0) (pv 0)) (de_non (r := false)) (by rfl)))) ds_nil) (ds_cons (ds_if (k := false) (Γ' := []) (db_w (dw_or (db_not (db_tru (de_isi (T := "tuple") (by decide) (gl (by kernel_rfl)) (Fx.free Z 0) (gl (by kernel_rfl)) (Fx.free Z 6) (by decide +kernel) (de_var (i := 0) (pv 0))))) (dw_one (db_cmp (op_dNe z0.hu) (de_callB call_dLenA (gl (by kernel_rfl)) (Fx.free Z 11) (by decide +kernel) (da_cons (de_var (i := 0) (pv 0)) da_nil)) (de_callB call_dLenA (gl (by kernel_rfl)) (Fx.free Z 11) (by decide +kernel) (da_cons (de_var (i := 1) (pv 1)) da_nil)) (by rfl))))) (ds_one (ds_ret (k := false) (de_bl (r := false)))) ds_nil) (ds_cons (ds_for (k := false) (vs := [2]) cs.own z0.calm (di_rng1 (gl (by kernel_rfl)) (Fx.free Z 35) (da_cons (de_callB call_dLenA (gl (by kernel_rfl)) (Fx.free Z 11) (by decide +kernel) (da_cons (de_var (i := 1) (pv 1)) da_nil)) da_nil)) (dg_name (i := 2) sc__law_same.nd rfl (by first | exact Or.inl rfl | exact Or.inr rfl)) (ds_one (ds_if (k := false) (Γ' := []) (db_not (db_tru (de_callF (ih) z0.rm (gl (by kernel_rfl)) (Fx.glo Z 40) (F__law_same Z).kp (b__law_same' Z) z0.pass (da_cons (de_subA z0.hu1 (de_var (i := 0) (pv 0)) (de_var (i := 2) (pv 2)) (fun _ _ => rfl)) (da_cons (de_subA z0.hu1 (de_var (i := 1) (pv 1)) (de_var (i := 2) (pv 2)) (fun _ _ => rfl)) da_nil))))) (ds_one (ds_ret (k := false) (de_bl (r := false)))) ds_nil))) (ds_one (ds_ret (k := false) (de_bl (r := false))))))))))
theorem ok__law_same (Z : Fz K mg) (Zc : Cn K mg) : FnOk P w K mg base (L2.CX P w) 12 (He.ga K "_law_same") (fd__law_same Z) ["actual", "due"] (spP K mg (m__law_same 12)) := ok0__law_same Z Zc 12
theorem ok__law_term (Z : Fz K mg) (Zc : Cn K mg) : FnOk P w K mg base (L2.CX P w) 2 (He.ga K "_law_term") (fd__law_term Z) ["draws"] (spI K mg 0 m__law_term) := by
  refine fn_own (P := P) (w := w) (base := base) (mg := mg) (N := ["draws"]) (ps := ["draws"]) (j := 0) (k := 1) (mb := b__law_term) (Γ' := []) (F__law_term Z) sc__law_term (by decide) (by decide) ?_
  intro cdv A outer s H E cs
  have z0 := cs.toCz
  exact (ds_one (ds_ret (k := true) (de_subA z0.hu1 (de_up (de_lst (da_cons (de_int (r := false)) (da_cons (de_int (r := false)) (da_cons (de_int (r := false)) (da_cons (de_str (r := false)) (da_cons (de_str (r := false)) da_nil))))))) (de_callI (ok__law_take (P := P) (w := w) (base := base) Z Zc) z0.r (gl (by kernel_rfl)) (Fx.glo Z 41) (F__law_take Z).kp (b__law_take' Z) z0.pass (dar_at (i := 0) (pv 0) (dar_val (de_up (de_int (r := false))) dar_nil))) (fun _ _ => rfl))))
theorem ok__law_pairs (Z : Fz K mg) (Zc : Cn K mg) : FnOk P w K mg base (L2.CX P w) 3 (He.ga K "_law_pairs") (fd__law_pairs Z) ["draws", "many"] (spI K mg 0 m__law_pairs) := by
  refine fn_own (P := P) (w := w) (base := base) (mg := mg) (N := ["draws", "many", "k"]) (ps := ["draws", "many"]) (j := 0) (k := 2) (mb := b__law_pairs) (Γ' := []) (F__law_pairs Z) sc__law_pairs (by decide) (by decide) ?_
  intro cdv A outer s H E cs
  have z0 := cs.toCz
  exact (ds_one (ds_ret (k := true) (de_callTy call_dTuple (gl (by kernel_rfl)) (Fx.free Z 6) (by decide +kernel) (da_cons (de_fresh (df_lc z0.calm sc__law_pairs.nd (di_rng1 (gl (by kernel_rfl)) (Fx.free Z 35) (da_cons (de_callI (ok__law_take (P := P) (w := w) (base := base) Z Zc) z0.r (gl (by kernel_rfl)) (Fx.glo Z 41) (F__law_take Z).kp (b__law_take' Z) z0.pass (dar_at (i := 0) (pv 0) (dar_val (de_up (de_op op_dAdd (de_var (i := 1) (pv 1)) (de_int (r := false)))) dar_nil))) da_nil)) (blk_ok (own := [("k", 2)]) (by kernel_rfl)) (fun _ _ _ _ _ => (dg_name (i := 2) sc__law_pairs.nd rfl (by first | exact Or.inl rfl | exact Or.inr rfl))) (fun _ _ _ _ _ => dbs_nil) (fun _ _ _ _ _ => (de_tup (da_cons (de_callI (ok__law_term (P := P) (w := w) (base := base) Z Zc) (z0.blk _ _ _ _ _).r (gl (by kernel_rfl)) (Fx.glo Z 42) (F__law_term Z).kp (b__law_term' Z) (z0.blk _ _ _ _ _).pass (dar_at (i := 0) (pv 0) dar_nil)) (da_cons (de_callI (ok__law_term (P := P) (w := w) (base := base) Z Zc) (z0.blk _ _ _ _ _).r (gl (by kernel_rfl)) (Fx.glo Z 42) (F__law_term Z).kp (b__law_term' Z) (z0.blk _ _ _ _ _).pass (dar_at (i := 0) (pv 0) dar_nil)) da_nil)))))) da_nil))))
theorem ok__law_name (Z : Fz K mg) (Zc : Cn K mg) : FnOk P w K mg base (L2.CX P w) 1 (He.ga K "_law_name") (fd__law_name Z) ["term", "unknowns", "world"] (spP K mg m__law_name) := by
  refine fn_pure (P := P) (w := w) (base := base) (mg := mg) (N := ["term", "unknowns", "world"]) (ps := ["term", "unknowns", "world"]) (k := 0) (mb := b__law_name) (Γ' := []) (F__law_name Z) sc__law_name (by decide) ?_
  intro cdv A outer s H E cs
  have z0 := cs.toCz
  exact (ds_cons (ds_if (k := false) (Γ' := []) (db_cmp (op_dInA z0.hu) (de_var (i := 0) (pv 0)) (de_var (i := 1) (pv 1)) (by rfl)) (ds_one (ds_ret (k := false) (de_subA z0.hu1 (de_var (i := 2) (pv 2)) (de_mq (mt_index z0.hu) (de_var (i := 1) (pv 1)) (da_cons (de_var (i := 0) (pv 0)) da_nil)) (fun _ _ => rfl)))) ds_nil) (ds_one (ds_ret (k := false) (de_var (i := 0) (pv 0)))))
theorem ok__law_holds (Z : Fz K mg) (Zc : Cn K mg) : FnOk P w K mg base (L2.CX P w) 2 (He.ga K "_law_holds") (fd__law_holds Z) ["known", "unknowns", "world"] (spP K mg m__law_holds) := by
  refine fn_pure (P := P) (w := w) (base := base) (mg := mg) (N := ["known", "unknowns", "world", "one", "other"]) (ps := ["known", "unknowns", "world"]) (k := 1) (mb := b__law_holds) (Γ' := []) (F__law_holds Z) sc__law_holds (by decide) ?_
  intro cdv A outer s H E cs
  have z0 := cs.toCz
  exact (ds_cons (ds_for (k := false) (vs := [3, 4]) cs.own z0.calm (di_seq (de_subA z0.hu1 (de_var (i := 0) (pv 0)) (de_int (r := false)) (fun _ _ => rfl))) (dg_tup (n := 2) z0.calm (dgs_cons (dg_name (i := 3) sc__law_holds.nd rfl (by first | exact Or.inl rfl | exact Or.inr rfl)) (dgs_cons (dg_name (i := 4) sc__law_holds.nd rfl (by first | exact Or.inl rfl | exact Or.inr rfl)) dgs_nil))) (ds_one (ds_if (k := false) (Γ' := []) (db_cmp (op_dNe z0.hu) (de_callF (ok__law_name (P := P) (w := w) (base := base) Z Zc) z0.r (gl (by kernel_rfl)) (Fx.glo Z 43) (F__law_name Z).kp (b__law_name' Z) z0.pass (da_cons (de_var (i := 3) (pv 3)) (da_cons (de_var (i := 1) (pv 1)) (da_cons (de_var (i := 2) (pv 2)) da_nil)))) (de_callF (ok__law_name (P := P) (w := w) (base := base) Z Zc) z0.r (gl (by kernel_rfl)) (Fx.glo Z 43) (F__law_name Z).kp (b__law_name' Z) z0.pass (da_cons (de_var (i := 4) (pv 4)) (da_cons (de_var (i := 1) (pv 1)) (da_cons (de_var (i := 2) (pv 2)) da_nil)))) (by rfl)) (ds_one (ds_ret (k := false) (de_bl (r := false)))) ds_nil))) (ds_cons (ds_for (k := false) (vs := [3, 4]) cs.own z0.calm (di_seq (de_subA z0.hu1 (de_var (i := 0) (pv 0)) (de_int (r := false)) (fun _ _ => rfl))) (dg_tup (n := 2) z0.calm (dgs_cons (dg_name (i := 3) sc__law_holds.nd rfl (by first | exact Or.inl rfl | exact Or.inr rfl)) (dgs_cons (dg_name (i := 4) sc__law_holds.nd rfl (by first | exact Or.inl rfl | exact Or.inr rfl)) dgs_nil))) (ds_one (ds_if (k := false) (Γ' := []) (db_cmp (op_dEq z0.hu) (de_callF (ok__law_name (P := P) (w := w) (base := base) Z Zc) z0.r (gl (by kernel_rfl)) (Fx.glo Z 43) (F__law_name Z).kp (b__law_name' Z) z0.pass (da_cons (de_var (i := 3) (pv 3)) (da_cons (de_var (i := 1) (pv 1)) (da_cons (de_var (i := 2) (pv 2)) da_nil)))) (de_callF (ok__law_name (P := P) (w := w) (base := base) Z Zc) z0.r (gl (by kernel_rfl)) (Fx.glo Z 43) (F__law_name Z).kp (b__law_name' Z) z0.pass (da_cons (de_var (i := 4) (pv 4)) (da_cons (de_var (i := 1) (pv 1)) (da_cons (de_var (i := 2) (pv 2)) da_nil)))) (by rfl)) (ds_one (ds_ret (k := false) (de_bl (r := false)))) ds_nil))) (ds_one (ds_ret (k := false) (de_bl (r := false))))))
theorem ok__law_worlds (Z : Fz K mg) (Zc : Cn K mg) : FnOk P w K mg base (L2.CX P w) 3 (He.ga K "_law_worlds") (fd__law_worlds Z) ["known", "unknowns", "names"] (spP K mg m__law_worlds) := by
  refine fn_pure (P := P) (w := w) (base := base) (mg := mg) (N := ["known", "unknowns", "names", "rows", "unknown", "longer", "row", "name"]) (ps := ["known", "unknowns", "names"]) (k := 2) (mb := b__law_worlds) (Γ' := []) (F__law_worlds Z) sc__law_worlds (by decide) ?_
  intro cdv A outer s H E cs
  have z0 := cs.toCz
  exact (ds_cons (ds_set (k := false) (i := 3) sc__law_worlds.nd rfl (by first | exact Or.inl rfl | exact Or.inr rfl) (de_lst (da_cons (de_tup da_nil) da_nil))) (ds_cons (ds_for (k := false) (vs := [4]) cs.own z0.calm (di_seq (de_var (i := 1) (pv 1))) (dg_name (i := 4) sc__law_worlds.nd rfl (by first | exact Or.inl rfl | exact Or.inr rfl)) (ds_cons (ds_set (k := false) (i := 5) sc__law_worlds.nd rfl (by first | exact Or.inl rfl | exact Or.inr rfl) (de_lst da_nil)) (ds_cons (ds_for (k := false) (vs := [6]) cs.own z0.calm (di_seq (de_var (i := 3) (pv 3))) (dg_name (i := 6) sc__law_worlds.nd rfl (by first | exact Or.inl rfl | exact Or.inr rfl)) (ds_one (ds_set (k := false) (i := 5) sc__law_worlds.nd rfl (by first | exact Or.inl rfl | exact Or.inr rfl) (de_op op_dAdd (de_var (i := 5) (pv 5)) (de_fresh (df_lc z0.calm sc__law_worlds.nd (di_seq (de_var (i := 2) (pv 2))) (blk_ok (own := [("name", 7)]) (by kernel_rfl)) (fun _ _ _ _ _ => (dg_name (i := 7) sc__law_worlds.nd rfl (by first | exact Or.inl rfl | exact Or.inr rfl))) (fun _ _ _ _ _ => dbs_nil) (fun _ _ _ _ _ => (de_op op_dAdd (de_var (i := 6) (pv 6)) (de_tup (da_cons (de_var (i := 7) (pv 7)) da_nil)))))))))) (ds_one (ds_set (k := false) (i := 3) sc__law_worlds.nd rfl (by first | exact Or.inl rfl | exact Or.inr rfl) (de_var (i := 5) (pv 5))))))) (ds_one (ds_ret (k := false) (de_fresh (df_lc z0.calm sc__law_worlds.nd (di_seq (de_var (i := 3) (pv 3))) (blk_ok (own := [("row", 6)]) (by kernel_rfl)) (fun _ _ _ _ _ => (dg_name (i := 6) sc__law_worlds.nd rfl (by first | exact Or.inl rfl | exact Or.inr rfl))) (fun _ _ _ _ _ => (dbs_one (db_tru (de_callF (ok__law_holds (P := P) (w := w) (base := base) Z Zc) (z0.blk _ _ _ _ _).r (gl (by kernel_rfl)) (Fx.glo Z 44) (F__law_holds Z).kp (b__law_holds' Z) (z0.blk _ _ _ _ _).pass (da_cons (de_var (i := 0) (pv 0)) (da_cons (de_var (i := 1) (pv 1)) (da_cons (de_var (i := 6) (pv 6)) da_nil))))))) (fun _ _ _ _ _ => (de_var (i := 6) (pv 6)))))))))
theorem ok__law_tells (Z : Fz K mg) (Zc : Cn K mg) : FnOk P w K mg base (L2.CX P w) 2 (He.ga K "_law_tells") (fd__law_tells Z) ["worlds", "unknowns", "one", "other", "alike"] (spP K mg m__law_tells) := by
  refine fn_pure (P := P) (w := w) (base := base) (mg := mg) (N := ["worlds", "unknowns", "one", "other", "alike", "world"]) (ps := ["worlds", "unknowns", "one", "other", "alike"]) (k := 1) (mb := b__law_tells) (Γ' := []) (F__law_tells Z) sc__law_tells (by decide) ?_
  intro cdv A outer s H E cs
  have z0 := cs.toCz
  exact (ds_cons (ds_for (k := false) (vs := [5]) cs.own z0.calm (di_seq (de_var (i := 0) (pv 0))) (dg_name (i := 5) sc__law_tells.nd rfl (by first | exact Or.inl rfl | exact Or.inr rfl)) (ds_one (ds_if (k := false) (Γ' := []) (db_cmp (op_dNe z0.hu) (de_cmp (op_dEq z0.hu) (de_callF (ok__law_name (P := P) (w := w) (base := base) Z Zc) z0.r (gl (by kernel_rfl)) (Fx.glo Z 43) (F__law_name Z).kp (b__law_name' Z) z0.pass (da_cons (de_var (i := 2) (pv 2)) (da_cons (de_var (i := 1) (pv 1)) (da_cons (de_var (i := 5) (pv 5)) da_nil)))) (de_callF (ok__law_name (P := P) (w := w) (base := base) Z Zc) z0.r (gl (by kernel_rfl)) (Fx.glo Z 43) (F__law_name Z).kp (b__law_name' Z) z0.pass (da_cons (de_var (i := 3) (pv 3)) (da_cons (de_var (i := 1) (pv 1)) (da_cons (de_var (i := 5) (pv 5)) da_nil)))) (by rfl)) (de_var (i := 4) (pv 4)) (by rfl)) (ds_one (ds_ret (k := false) (de_bl (r := false)))) ds_nil))) (ds_one (ds_ret (k := false) (de_bl (r := false)))))
theorem ok__law_is_told_right (Z : Fz K mg) (Zc : Cn K mg) : FnOk P w K mg base (L2.CX P w) 13 (He.ga K "_law_is_told_right") (fd__law_is_told_right Z) ["known", "worlds"] (spP K mg m__law_is_told_right) := by
  refine fn_pure (P := P) (w := w) (base := base) (mg := mg) (N := ["known", "worlds", "terms", "told", "broken", "one", "other", "third", "equal", "unlike"]) (ps := ["known", "worlds"]) (k := 12) (mb := b__law_is_told_right) (Γ' := []) (F__law_is_told_right Z) sc__law_is_told_right (by decide) ?_
  intro cdv A outer s H E cs
  have z0 := cs.toCz
  exact (ds_cons (ds_set (k := false) (i := 2) sc__law_is_told_right.nd rfl (by first | exact Or.inl rfl | exact Or.inr rfl) (de_lst (da_cons (de_int (r := false)) (da_cons (de_int (r := false)) (da_cons (de_int (r := false)) (da_cons (de_str (r := false)) (da_cons (de_str (r := false)) (da_cons (de_str (r := false)) da_nil)))))))) (ds_cons (ds_own (k := false) (i := 3) sc__law_is_told_right.nd rfl (by first | exact Or.inl rfl | exact Or.inr rfl) df_dictT) (ds_cons (ds_set (k := false) (i := 4) sc__law_is_told_right.nd rfl (by first | exact Or.inl rfl | exact Or.inr rfl) (de_cmp (op_dEq z0.hu) (de_var (i := 1) (pv 1)) (de_lst da_nil) (by rfl))) (ds_cons (ds_if (k := false) (Γ' := [3]) (db_not (db_tru (de_callF (ok__law_same (P := P) (w := w) (base := base) Z Zc) z0.r (gl (by kernel_rfl)) (Fx.glo Z 40) (F__law_same Z).kp (b__law_same' Z) z0.pass (da_cons (de_callF (ok_is_broken (P := P) (w := w) (base := base) Z Zc) z0.r (gl (by kernel_rfl)) (Fx.glo Z 19) (F_is_broken Z).kp (b_is_broken' Z) z0.pass (da_cons (de_var (i := 0) (pv 0)) da_nil)) (da_cons (de_var (i := 4) (pv 4)) da_nil))))) (ds_one (ds_ret (k := false) (de_bl (r := false)))) ds_nil) (ds_cons (ds_for (k := false) (vs := [5]) cs.own z0.calm (di_seq (de_var (i := 2) (pv 2))) (dg_name (i := 5) sc__law_is_told_right.nd rfl (by first | exact Or.inl rfl | exact Or.inr rfl)) (ds_one (ds_for (k := false) (vs := [6]) cs.own z0.calm (di_seq (de_var (i := 2) (pv 2))) (dg_name (i := 6) sc__law_is_told_right.nd rfl (by first | exact Or.inl rfl | exact Or.inr rfl)) (ds_cons (ds_set (k := false) (i := 8) sc__law_is_told_right.nd rfl (by first | exact Or.inl rfl | exact Or.inr rfl) (de_callF (ok_tells_equal (P := P) (w := w) (base := base) Z Zc) z0.r (gl (by kernel_rfl)) (Fx.glo Z 32) (F_tells_equal Z).kp (b_tells_equal' Z) z0.pass (da_cons (de_var (i := 0) (pv 0)) (da_cons (de_var (i := 5) (pv 5)) (da_cons (de_var (i := 6) (pv 6)) da_nil))))) (ds_cons (ds_set (k := false) (i := 9) sc__law_is_told_right.nd rfl (by first | exact Or.inl rfl | exact Or.inr rfl) (de_callF (ok_tells_unlike (P := P) (w := w) (base := base) Z Zc) z0.r (gl (by kernel_rfl)) (Fx.glo Z 33) (F_tells_unlike Z).kp (b_tells_unlike' Z) z0.pass (da_cons (de_var (i := 0) (pv 0)) (da_cons (de_var (i := 5) (pv 5)) (da_cons (de_var (i := 6) (pv 6)) da_nil))))) (ds_cons (ds_if (k := false) (Γ' := [3]) (db_w (dw_or (db_not (db_tru (de_callF (ok__law_same (P := P) (w := w) (base := base) Z Zc) z0.r (gl (by kernel_rfl)) (Fx.glo Z 40) (F__law_same Z).kp (b__law_same' Z) z0.pass (da_cons (de_var (i := 8) (pv 8)) (da_cons (de_callF (ok__law_tells (P := P) (w := w) (base := base) Z Zc) z0.r (gl (by kernel_rfl)) (Fx.glo Z 45) (F__law_tells Z).kp (b__law_tells' Z) z0.pass (da_cons (de_var (i := 1) (pv 1)) (da_cons (de_lst (da_cons (de_int (r := false)) (da_cons (de_int (r := false)) (da_cons (de_int (r := false)) da_nil)))) (da_cons (de_var (i := 5) (pv 5)) (da_cons (de_var (i := 6) (pv 6)) (da_cons (de_bl (r := false)) da_nil)))))) da_nil))))) (dw_one (db_not (db_tru (de_callF (ok__law_same (P := P) (w := w) (base := base) Z Zc) z0.r (gl (by kernel_rfl)) (Fx.glo Z 40) (F__law_same Z).kp (b__law_same' Z) z0.pass (da_cons (de_var (i := 9) (pv 9)) (da_cons (de_callF (ok__law_tells (P := P) (w := w) (base := base) Z Zc) z0.r (gl (by kernel_rfl)) (Fx.glo Z 45) (F__law_tells Z).kp (b__law_tells' Z) z0.pass (da_cons (de_var (i := 1) (pv 1)) (da_cons (de_lst (da_cons (de_int (r := false)) (da_cons (de_int (r := false)) (da_cons (de_int (r := false)) da_nil)))) (da_cons (de_var (i := 5) (pv 5)) (da_cons (de_var (i := 6) (pv 6)) (da_cons (de_bl (r := false)) da_nil)))))) da_nil)))))))) (ds_one (ds_ret (k := false) (de_bl (r := false)))) ds_nil) (ds_cons (ds_if (k := false) (Γ' := [3]) (db_w (dw_and (db_tru (de_var (i := 8) (pv 8))) (dw_and (db_tru (de_var (i := 9) (pv 9))) (dw_one (db_not (db_tru (de_var (i := 4) (pv 4)))))))) (ds_one (ds_ret (k := false) (de_bl (r := false)))) ds_nil) (ds_one (ds_putT (k := false) (o := 3) z0.hu1 (pv 3) (da_cons (de_var (i := 5) (pv 5)) (da_cons (de_var (i := 6) (pv 6)) da_nil)) (de_tup (da_cons (de_var (i := 8) (pv 8)) (da_cons (de_var (i := 9) (pv 9)) da_nil)))))))))))) (dss_free (Γ1 := []) (ds_cons (ds_forT (vs := [5, 6]) (j := 3) cs.own z0.calm (pv 3) (dgT_tup (n := 2) z0.calm (dgs_cons (dg_name (i := 5) sc__law_is_told_right.nd rfl (by first | exact Or.inl rfl | exact Or.inr rfl)) (dgs_cons (dg_name (i := 6) sc__law_is_told_right.nd rfl (by first | exact Or.inl rfl | exact Or.inr rfl)) dgs_nil))) (ds_cons (ds_if (k := false) (Γ' := []) (db_cmp (op_dNe z0.hu) (de_getT z0.hu1 (de_var (i := 3) (pv 3)) (da_cons (de_var (i := 5) (pv 5)) (da_cons (de_var (i := 6) (pv 6)) da_nil)) (fun _ _ => rfl)) (de_getT z0.hu1 (de_var (i := 3) (pv 3)) (da_cons (de_var (i := 6) (pv 6)) (da_cons (de_var (i := 5) (pv 5)) da_nil)) (fun _ _ => rfl)) (by rfl)) (ds_one (ds_ret (k := false) (de_bl (r := false)))) ds_nil) (ds_one (ds_for (k := false) (vs := [7]) cs.own z0.calm (di_seq (de_var (i := 2) (pv 2))) (dg_name (i := 7) sc__law_is_told_right.nd rfl (by first | exact Or.inl rfl | exact Or.inr rfl)) (ds_one (ds_if (k := false) (Γ' := []) (db_w (dw_and (db_tru (de_subA z0.hu1 (de_getT z0.hu1 (de_var (i := 3) (pv 3)) (da_cons (de_var (i := 5) (pv 5)) (da_cons (de_var (i := 6) (pv 6)) da_nil)) (fun _ _ => rfl)) (de_int (r := false)) (fun _ _ => rfl))) (dw_one (db_cmp (op_dNe z0.hu) (de_getT z0.hu1 (de_var (i := 3) (pv 3)) (da_cons (de_var (i := 6) (pv 6)) (da_cons (de_var (i := 7) (pv 7)) da_nil)) (fun _ _ => rfl)) (de_getT z0.hu1 (de_var (i := 3) (pv 3)) (da_cons (de_var (i := 5) (pv 5)) (da_cons (de_var (i := 7) (pv 7)) da_nil)) (fun _ _ => rfl)) (by rfl))))) (ds_one (ds_ret (k := false) (de_bl (r := false)))) ds_nil)))))) (ds_one (ds_ret (k := false) (de_bl (r := false)))))))))))
theorem ok__law_is_class_right (Z : Fz K mg) (Zc : Cn K mg) : FnOk P w K mg base (L2.CX P w) 13 (He.ga K "_law_is_class_right") (fd__law_is_class_right Z) ["known", "worlds"] (spP K mg m__law_is_class_right) := by
  refine fn_pure (P := P) (w := w) (base := base) (mg := mg) (N := ["known", "worlds", "order", "term", "alike", "step", "due", "one", "other", "names", "own"]) (ps := ["known", "worlds"]) (k := 12) (mb := b__law_is_class_right) (Γ' := []) (F__law_is_class_right Z) sc__law_is_class_right (by decide) ?_
  intro cdv A outer s H E cs
  have z0 := cs.toCz
  exact (ds_cons (ds_set (k := false) (i := 2) sc__law_is_class_right.nd rfl (by first | exact Or.inl rfl | exact Or.inr rfl) (de_lst (da_cons (de_int (r := false)) (da_cons (de_int (r := false)) (da_cons (de_int (r := false)) (da_cons (de_str (r := false)) (da_cons (de_str (r := false)) da_nil))))))) (ds_cons (ds_for (k := false) (vs := [3]) cs.own z0.calm (di_seq (de_var (i := 2) (pv 2))) (dg_name (i := 3) sc__law_is_class_right.nd rfl (by first | exact Or.inl rfl | exact Or.inr rfl)) (ds_cons (ds_own (k := false) (i := 4) sc__law_is_class_right.nd rfl (by first | exact Or.inl rfl | exact Or.inr rfl) (df_lst (da_cons (de_var (i := 3) (pv 3)) da_nil))) (ds_cons (ds_for (k := false) (vs := [5]) cs.own z0.calm (di_rng1 (gl (by kernel_rfl)) (Fx.free Z 35) (da_cons (de_callB call_dLenA (gl (by kernel_rfl)) (Fx.free Z 11) (by decide +kernel) (da_cons (de_var (i := 2) (pv 2)) da_nil)) da_nil)) (dg_name (i := 5) sc__law_is_class_right.nd rfl (by first | exact Or.inl rfl | exact Or.inr rfl)) (ds_one (ds_for (k := false) (vs := [7, 8]) cs.own z0.calm (di_seq (de_subA z0.hu1 (de_var (i := 0) (pv 0)) (de_int (r := false)) (fun _ _ => rfl))) (dg_tup (n := 2) z0.calm (dgs_cons (dg_name (i := 7) sc__law_is_class_right.nd rfl (by first | exact Or.inl rfl | exact Or.inr rfl)) (dgs_cons (dg_name (i := 8) sc__law_is_class_right.nd rfl (by first | exact Or.inl rfl | exact Or.inr rfl)) dgs_nil))) (ds_cons (ds_if (k := false) (Γ' := [4]) (db_w (dw_and (db_cmp (op_dInA z0.hu) (de_var (i := 7) (pv 7)) (de_varT (i := 4) (pv 4)) (by rfl)) (dw_one (db_cmp (op_dNotInA z0.hu) (de_var (i := 8) (pv 8)) (de_varT (i := 4) (pv 4)) (by rfl))))) (ds_one (ds_expr (k := true) (de_app (i := 4) (pv 4) (de_up (de_var (i := 8) (pv 8)))))) ds_nil) (ds_one (ds_if (k := false) (Γ' := [4]) (db_w (dw_and (db_cmp (op_dInA z0.hu) (de_var (i := 8) (pv 8)) (de_varT (i := 4) (pv 4)) (by rfl)) (dw_one (db_cmp (op_dNotInA z0.hu) (de_var (i := 7) (pv 7)) (de_varT (i := 4) (pv 4)) (by rfl))))) (ds_one (ds_expr (k := true) (de_app (i := 4) (pv 4) (de_up (de_var (i := 7) (pv 7)))))) ds_nil)))))) (ds_cons (ds_set (k := false) (i := 6) sc__law_is_class_right.nd rfl (by first | exact Or.inl rfl | exact Or.inr rfl) (de_callTy call_dTuple (gl (by kernel_rfl)) (Fx.free Z 6) (by decide +kernel) (da_cons (de_fresh (df_lc z0.calm sc__law_is_class_right.nd (di_seq (de_var (i := 2) (pv 2))) (blk_ok (own := [("own", 10)]) (by kernel_rfl)) (fun _ _ _ _ _ => (dg_name (i := 10) sc__law_is_class_right.nd rfl (by first | exact Or.inl rfl | exact Or.inr rfl))) (fun _ _ _ _ _ => (dbs_one (db_cmp (op_dInA (z0.blk _ _ _ _ _).hu) (de_var (i := 10) (pv 10)) (de_varT (i := 4) (pv 4)) (by rfl)))) (fun _ _ _ _ _ => (de_var (i := 10) (pv 10))))) da_nil))) (ds_cons (ds_if (k := false) (Γ' := [4]) (db_not (db_tru (de_callF (ok__law_same (P := P) (w := w) (base := base) Z Zc) z0.r (gl (by kernel_rfl)) (Fx.glo Z 40) (F__law_same Z).kp (b__law_same' Z) z0.pass (da_cons (de_callF (ok_class_of (P := P) (w := w) (base := base) Z Zc) z0.r (gl (by kernel_rfl)) (Fx.glo Z 46) (F_class_of Z).kp (b_class_of' Z) z0.pass (da_cons (de_var (i := 0) (pv 0)) (da_cons (de_var (i := 3) (pv 3)) da_nil))) (da_cons (de_var (i := 6) (pv 6)) da_nil))))) (ds_one (ds_ret (k := false) (de_bl (r := false)))) ds_nil) (ds_cons (ds_if (k := false) (Γ' := [4]) (db_cmp (op_dNe z0.hu) (de_var (i := 1) (pv 1)) (de_lst da_nil) (by rfl)) (ds_cons (ds_setF0 (k := false) (i := 9) (ps_lcF (i := 9) z0.calm sc__law_is_class_right.nd rfl rfl (by rfl) (di_seq (de_var (i := 6) (pv 6))) (blk_ok (own := [("own", 10)]) (by kernel_rfl)) (fun _ _ _ _ _ => (dg_name (i := 10) sc__law_is_class_right.nd rfl (by first | exact Or.inl rfl | exact Or.inr rfl))) (fun _ _ _ _ _ => (dbs_one (db_tru (de_isi (T := "str") (by decide) (gl (by kernel_rfl)) (Fx.free Z 0) (gl (by kernel_rfl)) (Fx.free Z 2) (by decide +kernel) (de_var (i := 10) (pv 10)))))) (fun _ _ _ _ _ => (de_var (i := 10) (pv 10))))) (ds_one (ds_if (k := false) (Γ' := [4]) (db_not (db_tru (de_callF (ok__law_same (P := P) (w := w) (base := base) Z Zc) z0.r (gl (by kernel_rfl)) (Fx.glo Z 40) (F__law_same Z).kp (b__law_same' Z) z0.pass (da_cons (de_callF (ok_told_term (P := P) (w := w) (base := base) Z Zc) z0.r (gl (by kernel_rfl)) (Fx.glo Z 47) (F_told_term Z).kp (b_told_term' Z) z0.pass (da_cons (de_var (i := 0) (pv 0)) (da_cons (de_var (i := 3) (pv 3)) da_nil))) (da_cons (de_subA z0.hu1 (de_op op_dAdd (de_var (i := 9) (pv 9)) (de_callTy call_dList (gl (by kernel_rfl)) (Fx.free Z 38) (by decide +kernel) (da_cons (de_var (i := 6) (pv 6)) da_nil))) (de_int (r := false)) (fun _ _ => rfl)) da_nil))))) (ds_one (ds_ret (k := false) (de_bl (r := false)))) ds_nil))) (ds_one (ds_if (k := false) (Γ' := [4]) (db_not (db_tru (de_callF (ok__law_same (P := P) (w := w) (base := base) Z Zc) z0.r (gl (by kernel_rfl)) (Fx.glo Z 40) (F__law_same Z).kp (b__law_same' Z) z0.pass (da_cons (de_callF (ok_told_term (P := P) (w := w) (base := base) Z Zc) z0.r (gl (by kernel_rfl)) (Fx.glo Z 47) (F_told_term Z).kp (b_told_term' Z) z0.pass (da_cons (de_var (i := 0) (pv 0)) (da_cons (de_var (i := 3) (pv 3)) da_nil))) (da_cons (de_subA z0.hu1 (de_var (i := 6) (pv 6)) (de_int (r := false)) (fun _ _ => rfl)) da_nil))))) (ds_one (ds_ret (k := false) (de_bl (r := false)))) ds_nil))) (dss_free (Γ1 := []) ds_nil))))))) (ds_one (ds_ret (k := false) (de_bl (r := false))))))
theorem ok_law (Z : Fz K mg) (Zc : Cn K mg) : FnOk P w K mg base (L2.CX P w) 14 (He.ga K "law") (fd_law Z) ["script"] (spP K mg m_law) := by
  refine fn_pure (P := P) (w := w) (base := base) (mg := mg) (N := ["script", "draws", "before", "names", "held", "turn", "known", "worlds", "kept", "turned", "world", "one", "other"]) (ps := ["script"]) (k := 13) (mb := b_law) (Γ' := []) (F_law Z) sc_law (by decide) ?_
  intro cdv A outer s H E cs
  have z0 := cs.toCz
  exact (ds_cons (ds_own (k := false) (i := 1) sc_law.nd rfl (by first | exact Or.inl rfl | exact Or.inr rfl) (df_callF (ok__law_draws (P := P) (w := w) (base := base) Z Zc) z0.r (gl (by kernel_rfl)) (Fx.glo Z 48) (F__law_draws Z).kp (b__law_draws' Z) z0.pass (da_cons (de_var (i := 0) (pv 0)) (da_cons (de_int (r := false)) da_nil)))) (ds_cons (ds_set (k := false) (i := 2) sc_law.nd rfl (by first | exact Or.inl rfl | exact Or.inr rfl) (de_tup (da_cons (de_tup da_nil) (da_cons (de_tup da_nil) da_nil)))) (ds_cons (ds_set (k := false) (i := 3) sc_law.nd rfl (by first | exact Or.inl rfl | exact Or.inr rfl) (de_tup (da_cons (de_str (r := false)) (da_cons (de_str (r := false)) (da_cons (de_str (r := false)) (da_cons (de_str (r := false)) (da_cons (de_str (r := false)) da_nil))))))) (ds_cons (ds_set (k := false) (i := 4) sc_law.nd rfl (by first | exact Or.inl rfl | exact Or.inr rfl) (de_callF (ok__law_worlds (P := P) (w := w) (base := base) Z Zc) z0.r (gl (by kernel_rfl)) (Fx.glo Z 49) (F__law_worlds Z).kp (b__law_worlds' Z) z0.pass (da_cons (de_var (i := 2) (pv 2)) (da_cons (de_tup (da_cons (de_int (r := false)) (da_cons (de_int (r := false)) (da_cons (de_int (r := false)) da_nil)))) (da_cons (de_var (i := 3) (pv 3)) da_nil))))) (ds_cons (ds_for (k := false) (vs := [5]) cs.own z0.calm (di_rng1 (gl (by kernel_rfl)) (Fx.free Z 35) (da_cons (de_int (r := false)) da_nil)) (dg_name (i := 5) sc_law.nd rfl (by first | exact Or.inl rfl | exact Or.inr rfl)) (ds_cons (ds_set (k := true) (i := 6) sc_law.nd rfl (by first | exact Or.inl rfl | exact Or.inr rfl) (de_tup (da_cons (de_callI (ok__law_pairs (P := P) (w := w) (base := base) Z Zc) z0.r (gl (by kernel_rfl)) (Fx.glo Z 50) (F__law_pairs Z).kp (b__law_pairs' Z) z0.pass (dar_at (i := 1) (pv 1) (dar_val (de_up (de_op op_dSub (de_int (r := false)) (de_op op_dMulI (de_int (r := false)) (de_var (i := 5) (pv 5))))) dar_nil))) (da_cons (de_callI (ok__law_pairs (P := P) (w := w) (base := base) Z Zc) z0.r (gl (by kernel_rfl)) (Fx.glo Z 50) (F__law_pairs Z).kp (b__law_pairs' Z) z0.pass (dar_at (i := 1) (pv 1) (dar_val (de_up (de_int (r := false))) dar_nil))) da_nil)))) (ds_cons (ds_set (k := false) (i := 7) sc_law.nd rfl (by first | exact Or.inl rfl | exact Or.inr rfl) (de_callF (ok__law_worlds (P := P) (w := w) (base := base) Z Zc) z0.r (gl (by kernel_rfl)) (Fx.glo Z 49) (F__law_worlds Z).kp (b__law_worlds' Z) z0.pass (da_cons (de_var (i := 6) (pv 6)) (da_cons (de_tup (da_cons (de_int (r := false)) (da_cons (de_int (r := false)) (da_cons (de_int (r := false)) da_nil)))) (da_cons (de_var (i := 3) (pv 3)) da_nil))))) (ds_cons (ds_if (k := false) (Γ' := [1]) (db_w (dw_or (db_not (db_tru (de_callF (ok__law_is_told_right (P := P) (w := w) (base := base) Z Zc) z0.r (gl (by kernel_rfl)) (Fx.glo Z 51) (F__law_is_told_right Z).kp (b__law_is_told_right' Z) z0.pass (da_cons (de_var (i := 6) (pv 6)) (da_cons (de_var (i := 7) (pv 7)) da_nil))))) (dw_or (db_not (db_tru (de_callF (ok__law_is_class_right (P := P) (w := w) (base := base) Z Zc) z0.r (gl (by kernel_rfl)) (Fx.glo Z 52) (F__law_is_class_right Z).kp (b__law_is_class_right' Z) z0.pass (da_cons (de_var (i := 6) (pv 6)) (da_cons (de_var (i := 7) (pv 7)) da_nil))))) (dw_one (db_not (db_tru (de_callF (ok__law_same (P := P) (w := w) (base := base) Z Zc) z0.r (gl (by kernel_rfl)) (Fx.glo Z 40) (F__law_same Z).kp (b__law_same' Z) z0.pass (da_cons (de_callF (ok_worlds_of (P := P) (w := w) (base := base) Z Zc) z0.r (gl (by kernel_rfl)) (Fx.glo Z 53) (F_worlds_of Z).kp (b_worlds_of' Z) z0.pass (da_cons (de_var (i := 6) (pv 6)) (da_cons (de_tup (da_cons (de_int (r := false)) (da_cons (de_int (r := false)) (da_cons (de_int (r := false)) da_nil)))) (da_cons (de_var (i := 3) (pv 3)) da_nil)))) (da_cons (de_callTy call_dTuple (gl (by kernel_rfl)) (Fx.free Z 6) (by decide +kernel) (da_cons (de_var (i := 7) (pv 7)) da_nil)) da_nil))))))))) (ds_one (ds_ret (k := false) (de_bl (r := false)))) ds_nil) (ds_cons (ds_if (k := false) (Γ' := [1]) (db_not (db_tru (de_callF (ok__law_same (P := P) (w := w) (base := base) Z Zc) z0.r (gl (by kernel_rfl)) (Fx.glo Z 40) (F__law_same Z).kp (b__law_same' Z) z0.pass (da_cons (de_callF (ok_same_known (P := P) (w := w) (base := base) Z Zc) z0.r (gl (by kernel_rfl)) (Fx.glo Z 54) (F_same_known Z).kp (b_same_known' Z) z0.pass (da_cons (de_var (i := 6) (pv 6)) (da_cons (de_var (i := 2) (pv 2)) da_nil))) (da_cons (de_cmp (op_dEq z0.hu) (de_var (i := 7) (pv 7)) (de_var (i := 4) (pv 4)) (by rfl)) da_nil))))) (ds_one (ds_ret (k := false) (de_bl (r := false)))) ds_nil) (ds_cons (ds_setF0 (k := false) (i := 8) (ps_lcF (i := 8) z0.calm sc_law.nd rfl rfl (by rfl) (di_seq (de_var (i := 7) (pv 7))) (blk_ok (own := [("world", 10)]) (by kernel_rfl)) (fun _ _ _ _ _ => (dg_name (i := 10) sc_law.nd rfl (by first | exact Or.inl rfl | exact Or.inr rfl))) (fun _ _ _ _ _ => (dbs_one (db_not (db_tru (de_callF (ok__law_holds (P := P) (w := w) (base := base) Z Zc) (z0.blk _ _ _ _ _).r (gl (by kernel_rfl)) (Fx.glo Z 44) (F__law_holds Z).kp (b__law_holds' Z) (z0.blk _ _ _ _ _).pass (da_cons (de_var (i := 2) (pv 2)) (da_cons (de_tup (da_cons (de_int (r := false)) (da_cons (de_int (r := false)) (da_cons (de_int (r := false)) da_nil)))) (da_cons (de_var (i := 10) (pv 10)) da_nil)))))))) (fun _ _ _ _ _ => (de_var (i := 10) (pv 10))))) (ds_cons (ds_if (k := false) (Γ' := [1]) (db_w (dw_or (db_not (db_tru (de_callF (ok__law_same (P := P) (w := w) (base := base) Z Zc) z0.r (gl (by kernel_rfl)) (Fx.glo Z 40) (F__law_same Z).kp (b__law_same' Z) z0.pass (da_cons (de_callF (ok_tells_all (P := P) (w := w) (base := base) Z Zc) z0.r (gl (by kernel_rfl)) (Fx.glo Z 55) (F_tells_all Z).kp (b_tells_all' Z) z0.pass (da_cons (de_var (i := 6) (pv 6)) (da_cons (de_var (i := 2) (pv 2)) da_nil))) (da_cons (de_cmp (op_dEq z0.hu) (de_var (i := 8) (pv 8)) (de_lst da_nil) (by rfl)) da_nil))))) (dw_one (db_cmp op_dNotB (de_callF (ok_tells_all (P := P) (w := w) (base := base) Z Zc) z0.r (gl (by kernel_rfl)) (Fx.glo Z 55) (F_tells_all Z).kp (b_tells_all' Z) z0.pass (da_cons (de_var (i := 6) (pv 6)) (da_cons (de_var (i := 6) (pv 6)) da_nil))) (de_bl (r := false)) (by rfl))))) (ds_one (ds_ret (k := false) (de_bl (r := false)))) ds_nil) (ds_cons (ds_set (k := false) (i := 9) sc_law.nd rfl (by first | exact Or.inl rfl | exact Or.inr rfl) (de_tup (da_cons (de_callTy call_dTuple (gl (by kernel_rfl)) (Fx.free Z 6) (by decide +kernel) (da_cons (de_revL (de_fresh (df_lc z0.calm sc_law.nd (di_seq (de_subA z0.hu1 (de_var (i := 6) (pv 6)) (de_int (r := false)) (fun _ _ => rfl))) (blk_ok (own := [("one", 11), ("other", 12)]) (by kernel_rfl)) (fun _ _ _ _ _ => (dg_tup (n := 2) (z0.blk _ _ _ _ _).calm (dgs_cons (dg_name (i := 11) sc_law.nd rfl (by first | exact Or.inl rfl | exact Or.inr rfl)) (dgs_cons (dg_name (i := 12) sc_law.nd rfl (by first | exact Or.inl rfl | exact Or.inr rfl)) dgs_nil)))) (fun _ _ _ _ _ => dbs_nil) (fun _ _ _ _ _ => (de_tup (da_cons (de_var (i := 12) (pv 12)) (da_cons (de_var (i := 11) (pv 11)) da_nil))))))) da_nil)) (da_cons (de_op op_dAdd (de_callTy call_dTuple (gl (by kernel_rfl)) (Fx.free Z 6) (by decide +kernel) (da_cons (de_fresh (df_lc z0.calm sc_law.nd (di_seq (de_subA z0.hu1 (de_var (i := 6) (pv 6)) (de_int (r := false)) (fun _ _ => rfl))) (blk_ok (own := [("one", 11), ("other", 12)]) (by kernel_rfl)) (fun _ _ _ _ _ => (dg_tup (n := 2) (z0.blk _ _ _ _ _).calm (dgs_cons (dg_name (i := 11) sc_law.nd rfl (by first | exact Or.inl rfl | exact Or.inr rfl)) (dgs_cons (dg_name (i := 12) sc_law.nd rfl (by first | exact Or.inl rfl | exact Or.inr rfl)) dgs_nil)))) (fun _ _ _ _ _ => dbs_nil) (fun _ _ _ _ _ => (de_tup (da_cons (de_var (i := 12) (pv 12)) (da_cons (de_var (i := 11) (pv 11)) da_nil)))))) da_nil)) (de_sl (de_subA z0.hu1 (de_var (i := 6) (pv 6)) (de_int (r := false)) (fun _ _ => rfl)) do_none (do_some (de_int (r := false))))) da_nil)))) (ds_cons (ds_if (k := false) (Γ' := [1]) (db_cmp op_dNotB (de_callF (ok_same_known (P := P) (w := w) (base := base) Z Zc) z0.r (gl (by kernel_rfl)) (Fx.glo Z 54) (F_same_known Z).kp (b_same_known' Z) z0.pass (da_cons (de_var (i := 9) (pv 9)) (da_cons (de_var (i := 6) (pv 6)) da_nil))) (de_bl (r := false)) (by rfl)) (ds_one (ds_ret (k := false) (de_bl (r := false)))) ds_nil) (ds_cons (ds_set (k := false) (i := 2) sc_law.nd rfl (by first | exact Or.inl rfl | exact Or.inr rfl) (de_var (i := 6) (pv 6))) (ds_one (ds_set (k := false) (i := 4) sc_law.nd rfl (by first | exact Or.inl rfl | exact Or.inr rfl) (de_var (i := 7) (pv 7)))))))))))))) (ds_cons (ds_set (k := false) (i := 6) sc_law.nd rfl (by first | exact Or.inl rfl | exact Or.inr rfl) (de_tup (da_cons (de_tup (da_cons (de_tup (da_cons (de_int (r := false)) (da_cons (de_int (r := false)) da_nil))) (da_cons (de_tup (da_cons (de_int (r := false)) (da_cons (de_str (r := false)) da_nil))) da_nil))) (da_cons (de_tup (da_cons (de_tup (da_cons (de_int (r := false)) (da_cons (de_int (r := false)) da_nil))) (da_cons (de_tup (da_cons (de_int (r := false)) (da_cons (de_str (r := false)) da_nil))) da_nil))) da_nil)))) (ds_cons (ds_if (k := false) (Γ' := [1]) (db_w (dw_or (db_not (db_tru (de_callF (ok__law_same (P := P) (w := w) (base := base) Z Zc) z0.r (gl (by kernel_rfl)) (Fx.glo Z 40) (F__law_same Z).kp (b__law_same' Z) z0.pass (da_cons (de_callF (ok_tells_equal (P := P) (w := w) (base := base) Z Zc) z0.r (gl (by kernel_rfl)) (Fx.glo Z 32) (F_tells_equal Z).kp (b_tells_equal' Z) z0.pass (da_cons (de_var (i := 6) (pv 6)) (da_cons (de_int (r := false)) (da_cons (de_str (r := false)) da_nil)))) (da_cons (de_bl (r := false)) da_nil))))) (dw_one (db_not (db_tru (de_callF (ok__law_same (P := P) (w := w) (base := base) Z Zc) z0.r (gl (by kernel_rfl)) (Fx.glo Z 40) (F__law_same Z).kp (b__law_same' Z) z0.pass (da_cons (de_callF (ok_tells_unlike (P := P) (w := w) (base := base) Z Zc) z0.r (gl (by kernel_rfl)) (Fx.glo Z 33) (F_tells_unlike Z).kp (b_tells_unlike' Z) z0.pass (da_cons (de_var (i := 6) (pv 6)) (da_cons (de_int (r := false)) (da_cons (de_int (r := false)) da_nil)))) (da_cons (de_bl (r := false)) da_nil)))))))) (ds_one (ds_ret (k := false) (de_bl (r := false)))) ds_nil) (ds_cons (ds_if (k := false) (Γ' := [1]) (db_w (dw_or (db_not (db_tru (de_callF (ok__law_same (P := P) (w := w) (base := base) Z Zc) z0.r (gl (by kernel_rfl)) (Fx.glo Z 40) (F__law_same Z).kp (b__law_same' Z) z0.pass (da_cons (de_callF (ok_tells_unlike (P := P) (w := w) (base := base) Z Zc) z0.r (gl (by kernel_rfl)) (Fx.glo Z 33) (F_tells_unlike Z).kp (b_tells_unlike' Z) z0.pass (da_cons (de_var (i := 6) (pv 6)) (da_cons (de_int (r := false)) (da_cons (de_str (r := false)) da_nil)))) (da_cons (de_bl (r := false)) da_nil))))) (dw_one (db_not (db_tru (de_callF (ok__law_same (P := P) (w := w) (base := base) Z Zc) z0.r (gl (by kernel_rfl)) (Fx.glo Z 40) (F__law_same Z).kp (b__law_same' Z) z0.pass (da_cons (de_callF (ok_tells_equal (P := P) (w := w) (base := base) Z Zc) z0.r (gl (by kernel_rfl)) (Fx.glo Z 32) (F_tells_equal Z).kp (b_tells_equal' Z) z0.pass (da_cons (de_var (i := 6) (pv 6)) (da_cons (de_int (r := false)) (da_cons (de_int (r := false)) da_nil)))) (da_cons (de_bl (r := false)) da_nil)))))))) (ds_one (ds_ret (k := false) (de_bl (r := false)))) ds_nil) (ds_cons (ds_if (k := false) (Γ' := [1]) (db_w (dw_or (db_not (db_tru (de_callF (ok__law_same (P := P) (w := w) (base := base) Z Zc) z0.r (gl (by kernel_rfl)) (Fx.glo Z 40) (F__law_same Z).kp (b__law_same' Z) z0.pass (da_cons (de_callF (ok_class_of (P := P) (w := w) (base := base) Z Zc) z0.r (gl (by kernel_rfl)) (Fx.glo Z 46) (F_class_of Z).kp (b_class_of' Z) z0.pass (da_cons (de_var (i := 6) (pv 6)) (da_cons (de_int (r := false)) da_nil))) (da_cons (de_tup (da_cons (de_int (r := false)) (da_cons (de_int (r := false)) (da_cons (de_str (r := false)) da_nil)))) da_nil))))) (dw_or (db_not (db_tru (de_callF (ok__law_same (P := P) (w := w) (base := base) Z Zc) z0.r (gl (by kernel_rfl)) (Fx.glo Z 40) (F__law_same Z).kp (b__law_same' Z) z0.pass (da_cons (de_callF (ok_told_term (P := P) (w := w) (base := base) Z Zc) z0.r (gl (by kernel_rfl)) (Fx.glo Z 47) (F_told_term Z).kp (b_told_term' Z) z0.pass (da_cons (de_var (i := 6) (pv 6)) (da_cons (de_int (r := false)) da_nil))) (da_cons (de_str (r := false)) da_nil))))) (dw_or (db_not (db_tru (de_callF (ok__law_same (P := P) (w := w) (base := base) Z Zc) z0.r (gl (by kernel_rfl)) (Fx.glo Z 40) (F__law_same Z).kp (b__law_same' Z) z0.pass (da_cons (de_callF (ok_told_term (P := P) (w := w) (base := base) Z Zc) z0.r (gl (by kernel_rfl)) (Fx.glo Z 47) (F_told_term Z).kp (b_told_term' Z) z0.pass (da_cons (de_var (i := 6) (pv 6)) (da_cons (de_int (r := false)) da_nil))) (da_cons (de_int (r := false)) da_nil))))) (dw_one (db_not (db_tru (de_callF (ok__law_same (P := P) (w := w) (base := base) Z Zc) z0.r (gl (by kernel_rfl)) (Fx.glo Z 40) (F__law_same Z).kp (b__law_same' Z) z0.pass (da_cons (de_callF (ok_is_broken (P := P) (w := w) (base := base) Z Zc) z0.r (gl (by kernel_rfl)) (Fx.glo Z 19) (F_is_broken Z).kp (b_is_broken' Z) z0.pass (da_cons (de_var (i := 6) (pv 6)) da_nil)) (da_cons (de_bl (r := false)) da_nil)))))))))) (ds_one (ds_ret (k := false) (de_bl (r := false)))) ds_nil) (ds_cons (ds_if (k := false) (Γ' := [1]) (db_w (dw_or (db_not (db_tru (de_callF (ok__law_same (P := P) (w := w) (base := base) Z Zc) z0.r (gl (by kernel_rfl)) (Fx.glo Z 40) (F__law_same Z).kp (b__law_same' Z) z0.pass (da_cons (de_callF (ok_is_broken (P := P) (w := w) (base := base) Z Zc) z0.r (gl (by kernel_rfl)) (Fx.glo Z 19) (F_is_broken Z).kp (b_is_broken' Z) z0.pass (da_cons (de_tup (da_cons (de_tup (da_cons (de_tup (da_cons (de_int (r := false)) (da_cons (de_str (r := false)) da_nil))) (da_cons (de_tup (da_cons (de_int (r := false)) (da_cons (de_str (r := false)) da_nil))) da_nil))) (da_cons (de_tup da_nil) da_nil))) da_nil)) (da_cons (de_bl (r := false)) da_nil))))) (dw_or (db_not (db_tru (de_callF (ok__law_same (P := P) (w := w) (base := base) Z Zc) z0.r (gl (by kernel_rfl)) (Fx.glo Z 40) (F__law_same Z).kp (b__law_same' Z) z0.pass (da_cons (de_callF (ok_is_broken (P := P) (w := w) (base := base) Z Zc) z0.r (gl (by kernel_rfl)) (Fx.glo Z 19) (F_is_broken Z).kp (b_is_broken' Z) z0.pass (da_cons (de_tup (da_cons (de_tup (da_cons (de_tup (da_cons (de_int (r := false)) (da_cons (de_int (r := false)) da_nil))) da_nil)) (da_cons (de_tup (da_cons (de_tup (da_cons (de_int (r := false)) (da_cons (de_int (r := false)) da_nil))) da_nil)) da_nil))) da_nil)) (da_cons (de_bl (r := false)) da_nil))))) (dw_one (db_not (db_tru (de_callF (ok__law_same (P := P) (w := w) (base := base) Z Zc) z0.r (gl (by kernel_rfl)) (Fx.glo Z 40) (F__law_same Z).kp (b__law_same' Z) z0.pass (da_cons (de_callF (ok_is_broken (P := P) (w := w) (base := base) Z Zc) z0.r (gl (by kernel_rfl)) (Fx.glo Z 19) (F_is_broken Z).kp (b_is_broken' Z) z0.pass (da_cons (de_tup (da_cons (de_tup da_nil) (da_cons (de_tup (da_cons (de_tup (da_cons (de_int (r := false)) (da_cons (de_int (r := false)) da_nil))) da_nil)) da_nil))) da_nil)) (da_cons (de_bl (r := false)) da_nil))))))))) (ds_one (ds_ret (k := false) (de_bl (r := false)))) ds_nil) (ds_cons (ds_if (k := false) (Γ' := [1]) (db_not (db_tru (de_callF (ok__law_same (P := P) (w := w) (base := base) Z Zc) z0.r (gl (by kernel_rfl)) (Fx.glo Z 40) (F__law_same Z).kp (b__law_same' Z) z0.pass (da_cons (de_callF (ok_worlds_of (P := P) (w := w) (base := base) Z Zc) z0.r (gl (by kernel_rfl)) (Fx.glo Z 53) (F_worlds_of Z).kp (b_worlds_of' Z) z0.pass (da_cons (de_tup (da_cons (de_tup (da_cons (de_tup (da_cons (de_int (r := false)) (da_cons (de_int (r := false)) da_nil))) da_nil)) (da_cons (de_tup (da_cons (de_tup (da_cons (de_int (r := false)) (da_cons (de_str (r := false)) da_nil))) da_nil)) da_nil))) (da_cons (de_tup (da_cons (de_int (r := false)) (da_cons (de_int (r := false)) da_nil))) (da_cons (de_tup (da_cons (de_str (r := false)) (da_cons (de_str (r := false)) da_nil))) da_nil)))) (da_cons (de_tup (da_cons (de_tup (da_cons (de_str (r := false)) (da_cons (de_str (r := false)) da_nil))) da_nil)) da_nil))))) (ds_one (ds_ret (k := false) (de_bl (r := false)))) ds_nil) (ds_one (ds_ret (k := false) (de_and (de_callF (ok__law_same (P := P) (w := w) (base := base) Z Zc) z0.r (gl (by kernel_rfl)) (Fx.glo Z 40) (F__law_same Z).kp (b__law_same' Z) z0.pass (da_cons (de_callF (ok_tells_unlike (P := P) (w := w) (base := base) Z Zc) z0.r (gl (by kernel_rfl)) (Fx.glo Z 33) (F_tells_unlike Z).kp (b_tells_unlike' Z) z0.pass (da_cons (de_tup (da_cons (de_tup da_nil) (da_cons (de_tup da_nil) da_nil))) (da_cons (de_str (r := false)) (da_cons (de_str (r := false)) da_nil)))) (da_cons (de_bl (r := false)) da_nil))) (de_one (de_callF (ok__law_same (P := P) (w := w) (base := base) Z Zc) z0.r (gl (by kernel_rfl)) (Fx.glo Z 40) (F__law_same Z).kp (b__law_same' Z) z0.pass (da_cons (de_callF (ok_told_term (P := P) (w := w) (base := base) Z Zc) z0.r (gl (by kernel_rfl)) (Fx.glo Z 47) (F_told_term Z).kp (b_told_term' Z) z0.pass (da_cons (de_tup (da_cons (de_tup (da_cons (de_tup (da_cons (de_int (r := false)) (da_cons (de_str (r := false)) da_nil))) (da_cons (de_tup (da_cons (de_int (r := false)) (da_cons (de_str (r := false)) da_nil))) da_nil))) (da_cons (de_tup da_nil) da_nil))) (da_cons (de_str (r := false)) da_nil))) (da_cons (de_int (r := false)) da_nil))))))))))))))))))
end

end Lw

set_option Elab.async false
set_option linter.all false
set_option maxRecDepth 100000
set_option autoImplicit false
/-! How mirrors are evaluated: comprehensions and loops over encoded lists. -/
namespace Dt
open PySem L2 R
section
variable {α β : Type} {k : Bool} {vs vs1 : List Nat} {g g1 : MG} {tt tt1 : MB} {me : ME} {mi1 : MA} {ρ : Ev}
theorem lc_eval {enc : α → D} {c : α → Bool} {f : α → D} : ∀ {xs : List α}, (∀ x ∈ xs, ∃ ρ1 ρ2, g (enc x) (wipeE ρ vs) = .ok ρ1 ∧ tt ρ1 = .ok (c x, ρ2) ∧ (c x = true → ∃ ρ3, me ρ2 = .ok (f x, ρ3))) →
    lcG false vs g tt me (xs.map enc) ρ = .ok ((xs.filter c).map f, ρ)
  | [], _ => rfl
  | x :: xs, h => by
    obtain ⟨ρ1, ρ2, h1, h2, h3⟩ := h x List.mem_cons_self
    have ih := lc_eval (xs := xs) fun y hy => h y (List.mem_cons_of_mem _ hy)
    rw [List.map_cons]
    unfold lcG
    rw [h1]
    show ((tt ρ1).nox.bind _) = _
    rw [h2]
    show (if c x = true then _ else _) = _
    by_cases e : c x = true
    · rw [if_pos e, List.filter_cons_of_pos e]
      obtain ⟨ρ3, h4⟩ := h3 e
      rw [h4]
      show (lcG false vs g tt me (xs.map enc) ρ).bind _ = _
      rw [ih]
      rfl
    · rw [if_neg e, List.filter_cons_of_neg e]
      exact ih
/-- without a test -/
theorem lc_map {enc : α → D} {f : α → D} {xs : List α} (h : ∀ x ∈ xs, ∃ ρ1 ρ2, g (enc x) (wipeE ρ vs) = .ok ρ1 ∧ me ρ1 = .ok (f x, ρ2)) : lcG false vs g bYes me (xs.map enc) ρ = .ok (xs.map f, ρ) := by
  have := lc_eval (g := g) (tt := bYes) (me := me) (vs := vs) (ρ := ρ) (enc := enc) (c := fun _ => true) (f := f) (xs := xs) fun x hx => by
    obtain ⟨ρ1, ρ2, h1, h2⟩ := h x hx
    exact ⟨ρ1, ρ1, h1, rfl, fun _ => ⟨ρ2, h2⟩⟩
  rw [List.filter_eq_self.mpr fun _ _ => rfl] at this
  exact this
/-- two clauses -/
theorem lc2_eval {enc : α → D} {enc1 : β → D} {ys : α → List β} {f : α → β → D} : ∀ {xs : List α} {c : Nat}, (∀ x ∈ xs, ∃ ρ1 ρ2, g (enc x) (wipeE ρ vs) = .ok ρ1 ∧ mi1 ρ1 = .ok ((ys x).map enc1, ρ2) ∧
      ∀ y ∈ ys x, ∃ ρ3 ρ4, g1 (enc1 y) (wipeE ρ2 vs1) = .ok ρ3 ∧ me ρ3 = .ok (f x y, ρ4)) → c + (xs.map fun x => (ys x).length).sum ≤ sizeLine →
    lcG2 false vs vs1 g bYes mi1 g1 bYes me c (xs.map enc) ρ = .ok (xs.flatMap fun x => (ys x).map (f x), ρ)
  | [], _, _, _ => rfl
  | x :: xs, c, h, hz => by
    obtain ⟨ρ1, ρ2, h1, h2, h3⟩ := h x List.mem_cons_self
    rw [List.map_cons, List.sum_cons] at hz
    have ih := lc2_eval (xs := xs) (c := c + (ys x).length) (fun y hy => h y (List.mem_cons_of_mem _ hy)) (by omega)
    rw [List.map_cons]
    unfold lcG2
    rw [h1]
    show ((mi1 ρ1).nox.bind _) = _
    rw [h2]
    show (if c + ((ys x).map enc1).length ≤ sizeLine then _ else _) = _
    rw [List.length_map, if_pos (by omega)]
    show ((lcG false vs1 g1 bYes me ((ys x).map enc1) ρ2).nox.bind _) = _
    rw [lc_map h3]
    show (lcG2 false vs vs1 g bYes mi1 g1 bYes me (c + (ys x).length) (xs.map enc) ρ).bind _ = _
    rw [ih]
    rfl
variable {b : MS}
/-- a loop that runs to its end; I speaks of what is left -/
theorem for_all {enc : α → D} {I : List α → Ev → Prop} (step : ∀ x xs ρ, I (x :: xs) ρ → ∃ ρ1 ρ2, g (enc x) ρ = .ok ρ1 ∧ (b ρ1 = .ok (.nx, ρ2) ∨ b ρ1 = .ok (.ct, ρ2)) ∧ I xs ρ2) :
    ∀ {xs : List α} {ρ : Ev}, I xs ρ → ∃ ρ', sFor g b (xs.map enc) ρ = .ok (.nx, ρ') ∧ I [] ρ'
  | [], ρ, h => ⟨ρ, rfl, h⟩
  | x :: xs, ρ, h => by
    obtain ⟨ρ1, ρ2, h1, h2, h3⟩ := step x xs ρ h
    obtain ⟨ρ', h4, h5⟩ := for_all step h3
    refine ⟨ρ', ?_, h5⟩
    rw [List.map_cons]
    unfold sFor
    rw [h1]
    show (b ρ1).bind _ = _
    rcases h2 with h2 | h2 <;> rw [h2] <;> exact h4
/-- a loop that may return r at the first x with p x = false -/
theorem for_ret {enc : α → D} {p : α → Bool} {r : D} {I : List α → Ev → Prop} (step : ∀ x xs ρ, I (x :: xs) ρ → ∃ ρ1 ρ2, g (enc x) ρ = .ok ρ1 ∧ (p x = true → (b ρ1 = .ok (.nx, ρ2) ∧ I xs ρ2)) ∧ (p x = false → b ρ1 = .ok (.rt r, ρ2))) :
    ∀ {xs : List α} {ρ : Ev}, I xs ρ → ∃ ρ', (xs.all p = true → sFor g b (xs.map enc) ρ = .ok (.nx, ρ') ∧ I [] ρ') ∧ (xs.all p = false → sFor g b (xs.map enc) ρ = .ok (.rt r, ρ'))
  | [], ρ, h => ⟨ρ, fun _ => ⟨rfl, h⟩, fun z => by cases z⟩
  | x :: xs, ρ, h => by
    obtain ⟨ρ1, ρ2, h1, h2, h3⟩ := step x xs ρ h
    have e0 : sFor g b ((x :: xs).map enc) ρ = ((b ρ1).bind fun z => match z.1 with
      | .nx => sFor g b (xs.map enc) z.2
      | .ct => sFor g b (xs.map enc) z.2
      | .bk => .ok (.nx, z.2)
      | .rt d => .ok (.rt d, z.2)) := by
      rw [List.map_cons]
      show ((g (enc x) ρ).nox.bind _) = _
      rw [h1]
      rfl
    rw [List.all_cons, e0]
    cases e : p x with
    | false =>
      refine ⟨ρ2, fun z => by simp at z, fun _ => ?_⟩
      rw [h3 e]
      rfl
    | true =>
      obtain ⟨h4, h5⟩ := h2 e
      obtain ⟨ρ', h6, h7⟩ := for_ret step h5
      refine ⟨ρ', fun z => ?_, fun z => ?_⟩
      · rw [h4]
        exact h6 (by simpa using z)
      · rw [h4]
        exact h7 (by simpa using z)
theorem mCall1 {g : GA} {m : ME} {d : D} {ρ' : Ev} (h : m ρ = .ok (d, ρ')) : mCall g (aCons m aNil) ρ = (R.opt (g [d])).bind fun r => .ok (r, ρ') := by
  unfold mCall aCons
  rw [h]; rfl
theorem mCallF1 {g : List D → R D} {m : ME} {d : D} {ρ' : Ev} (h : m ρ = .ok (d, ρ')) : mCallF g (aCons m aNil) ρ = (g [d]).bind fun r => .ok (r, ρ') := by
  unfold mCallF aCons
  rw [h]; rfl
end
end Dt

set_option Elab.async false
set_option linter.all false
set_option maxRecDepth 100000
set_option autoImplicit false
/-! The classes of pairs, in plain Lean. -/
namespace Kn
open PySem L2
abbrev T := Key
abbrev Ps := List (T × T)
/-- connected by pairs -/
inductive Conn (ps : Ps) : T → T → Prop
  | refl (a : T) : Conn ps a a
  | step {a b c : T} : Conn ps a b → ((b, c) ∈ ps ∨ (c, b) ∈ ps) → Conn ps a c
section
variable {ps qs : Ps} {a b c x y : T}
theorem Conn.trans (h : Conn ps a b) (g : Conn ps b c) : Conn ps a c := by
  induction g with
  | refl => exact h
  | step _ e ih => exact .step ih e
theorem Conn.one (h : (a, b) ∈ ps ∨ (b, a) ∈ ps) : Conn ps a b := .step (.refl a) h
theorem Conn.symm (h : Conn ps a b) : Conn ps b a := by
  induction h with
  | refl => exact .refl _
  | step _ e ih => exact (Conn.one e.symm).trans ih
theorem Conn.mono (h : Conn ps a b) (s : ∀ p ∈ ps, p ∈ qs) : Conn qs a b := by
  induction h with
  | refl => exact .refl _
  | step _ e ih => exact .step ih (e.imp (s _) (s _))
/-- pairs that tell no more -/
theorem Conn.le (h : Conn ps a b) (s : ∀ x y, (x, y) ∈ ps → Conn qs x y) : Conn qs a b := by
  induction h with
  | refl => exact .refl _
  | step _ e ih => exact ih.trans (e.elim (s _ _) fun z => (s _ _ z).symm)
theorem conn_nil : Conn [] a b ↔ a = b := ⟨fun h => by
  induction h with
  | refl => rfl
  | step _ e _ => simp at e, fun e => by subst e; exact .refl _⟩
theorem conn_snoc : Conn (ps ++ [(x, y)]) a b ↔ Conn ps a b ∨ (Conn ps a x ∧ Conn ps y b) ∨ (Conn ps a y ∧ Conn ps x b) := by
  constructor
  · intro h
    induction h with
    | refl => exact .inl (.refl _)
    | @step b c _ e ih =>
      have e' : ((b, c) ∈ ps ∨ (c, b) ∈ ps) ∨ (b = x ∧ c = y) ∨ (c = x ∧ b = y) := by
        rcases e with e | e <;> rcases List.mem_append.mp e with e | e
        · exact .inl (.inl e)
        · have := List.mem_singleton.mp e; injection this with h1 h2; exact .inr (.inl ⟨h1, h2⟩)
        · exact .inl (.inr e)
        · have := List.mem_singleton.mp e; injection this with h1 h2; exact .inr (.inr ⟨h1, h2⟩)
      rcases e' with e | ⟨rfl, rfl⟩ | ⟨rfl, rfl⟩
      · rcases ih with ih | ⟨i1, i2⟩ | ⟨i1, i2⟩
        · exact .inl (.step ih e)
        · exact .inr (.inl ⟨i1, .step i2 e⟩)
        · exact .inr (.inr ⟨i1, .step i2 e⟩)
      · rcases ih with ih | ⟨i1, i2⟩ | ⟨i1, i2⟩
        · exact .inr (.inl ⟨ih, .refl _⟩)
        · exact .inr (.inl ⟨i1, .refl _⟩)
        · exact .inl i1
      · rcases ih with ih | ⟨i1, i2⟩ | ⟨i1, i2⟩
        · exact .inr (.inr ⟨ih, .refl _⟩)
        · exact .inl i1
        · exact .inr (.inr ⟨i1, .refl _⟩)
  · have up : ∀ {u v : T}, Conn ps u v → Conn (ps ++ [(x, y)]) u v := fun h => h.mono fun p hp => List.mem_append_left _ hp
    have e : Conn (ps ++ [(x, y)]) x y := .one (.inl (List.mem_append_right _ (List.mem_singleton.mpr rfl)))
    rintro (h | ⟨h1, h2⟩ | ⟨h1, h2⟩)
    · exact up h
    · exact (up h1).trans (e.trans (up h2))
    · exact (up h1).trans (e.symm.trans (up h2))
theorem conn_stays (h : Conn ps x y) : Conn (ps ++ [(x, y)]) a b ↔ Conn ps a b := by
  rw [conn_snoc]
  constructor
  · rintro (g | ⟨g1, g2⟩ | ⟨g1, g2⟩)
    · exact g
    · exact g1.trans (h.trans g2)
    · exact g1.trans (h.symm.trans g2)
  · exact .inl
end
/-- stands in a pair -/
def In (ps : Ps) (a : T) : Prop := ∃ p ∈ ps, p.1 = a ∨ p.2 = a
theorem conn_in {ps : Ps} {a b : T} (h : Conn ps a b) : a = b ∨ In ps b := by
  cases h with
  | refl => exact .inl rfl
  | step _ e => exact .inr (e.elim (fun z => ⟨_, z, .inr rfl⟩) fun z => ⟨_, z, .inl rfl⟩)

/-! ### numbers of classes -/
abbrev Nm := List (T × Nat)
def lk (n : Nm) (k : T) : Option Nat := (n.find? fun e => decide (e.1 = k)).map (·.2)
def setd (n : Nm) (k : T) : Nm × Nat := match lk n k with
  | some v => (n, v)
  | none => (n ++ [(k, n.length)], n.length)
def mergeN (n : Nm) (f s : Nat) : Nm := n.map fun e => if e.2 = s then (e.1, f) else e
def stepN (n : Nm) (p : T × T) : Nm :=
  let a := setd n p.1
  let b := setd a.1 p.2
  if a.2 = b.2 then b.1 else mergeN b.1 a.2 b.2
def cn (ps : Ps) : Nm := ps.foldl stepN []
theorem lk_nil {k : T} : lk [] k = none := rfl
theorem lk_cons {e : T × Nat} {n : Nm} {k : T} : lk (e :: n) k = if e.1 = k then some e.2 else lk n k := by
  unfold lk
  rw [List.find?_cons]
  by_cases h : e.1 = k
  · rw [decide_eq_true h, if_pos h]; rfl
  · rw [decide_eq_false h, if_neg h]
theorem lk_append {m n : Nm} {k : T} : lk (m ++ n) k = match lk m k with | some v => some v | none => lk n k := by
  induction m with
  | nil => rfl
  | cons e m ih =>
    rw [List.cons_append, lk_cons, lk_cons, ih]
    by_cases h : e.1 = k
    · rw [if_pos h, if_pos h]
    · rw [if_neg h, if_neg h]
theorem lk_merge {n : Nm} {f s : Nat} {k : T} : lk (mergeN n f s) k = (lk n k).map fun v => if v = s then f else v := by
  induction n with
  | nil => rfl
  | cons e n ih =>
    have e1 : (mergeN (e :: n) f s) = (if e.2 = s then (e.1, f) else e) :: mergeN n f s := rfl
    rw [e1, lk_cons, lk_cons, ih]
    by_cases h2 : e.2 = s
    · rw [if_pos h2]
      by_cases h : e.1 = k
      · rw [if_pos h, if_pos h, Option.map_some, if_pos h2]
      · rw [if_neg h, if_neg h]
    · rw [if_neg h2]
      by_cases h : e.1 = k
      · rw [if_pos h, if_pos h, Option.map_some, if_neg h2]
      · rw [if_neg h, if_neg h]
theorem lk_some {n : Nm} {k : T} {v : Nat} (h : lk n k = some v) : (k, v) ∈ n := by
  induction n with
  | nil => cases h
  | cons e n ih =>
    rw [lk_cons] at h
    by_cases g : e.1 = k
    · rw [if_pos g] at h
      cases h
      rw [← g]
      exact List.mem_cons_self
    · rw [if_neg g] at h
      exact List.mem_cons_of_mem _ (ih h)
theorem lk_mem {n : Nm} {k : T} : (lk n k).isSome = true ↔ k ∈ n.map (·.1) := by
  induction n with
  | nil => simp [lk_nil]
  | cons e n ih =>
    rw [lk_cons, List.map_cons, List.mem_cons]
    by_cases g : e.1 = k
    · rw [if_pos g]; simp [g]
    · rw [if_neg g, ih]
      exact ⟨.inr, fun h => h.elim (fun z => absurd z.symm g) id⟩
theorem lk_none {n : Nm} {k : T} : lk n k = none ↔ k ∉ n.map (·.1) := by
  rw [← lk_mem]
  cases lk n k <;> simp
/-- what the numbers tell -/
structure Says (n : Nm) (ps : Ps) : Prop where
  nd : (n.map (·.1)).Nodup
  keys : ∀ k, k ∈ n.map (·.1) ↔ In ps k
  same : ∀ a b u v, lk n a = some u → lk n b = some v → (u = v ↔ Conn ps a b)
  low : ∀ e ∈ n, e.2 < n.length
theorem in_snoc {ps : Ps} {x y k : T} : In (ps ++ [(x, y)]) k ↔ In ps k ∨ k = x ∨ k = y := by
  unfold In
  constructor
  · rintro ⟨p, hp, e⟩
    rcases List.mem_append.mp hp with hp | hp
    · exact .inl ⟨p, hp, e⟩
    · have := List.mem_singleton.mp hp
      subst this
      exact .inr (e.imp (fun z => z.symm) fun z => z.symm)
  · rintro (⟨p, hp, e⟩ | e | e)
    · exact ⟨p, List.mem_append_left _ hp, e⟩
    · exact ⟨(x, y), List.mem_append_right _ (List.mem_singleton.mpr rfl), .inl e.symm⟩
    · exact ⟨(x, y), List.mem_append_right _ (List.mem_singleton.mpr rfl), .inr e.symm⟩
/-- a step of the first half: what holds with a term that stands alone -/
structure Half (n : Nm) (ps : Ps) : Prop where
  nd : (n.map (·.1)).Nodup
  same : ∀ a b u v, lk n a = some u → lk n b = some v → (u = v ↔ Conn ps a b)
  low : ∀ e ∈ n, e.2 < n.length
  out : ∀ k, k ∉ n.map (·.1) → ¬ In ps k
theorem Says.half {n : Nm} {ps : Ps} (h : Says n ps) : Half n ps := ⟨h.nd, h.same, h.low, fun k hk z => hk ((h.keys k).mpr z)⟩
theorem half_setd {n : Nm} {ps : Ps} {k : T} (h : Half n ps) : Half (setd n k).1 ps ∧ lk (setd n k).1 k = some (setd n k).2 ∧ (∀ a v, lk n a = some v → lk (setd n k).1 a = some v) ∧ ∀ a, a ∈ (setd n k).1.map (·.1) ↔ a ∈ n.map (·.1) ∨ a = k := by
  unfold setd
  cases e : lk n k with
  | some v =>
    have hm : k ∈ n.map (·.1) := lk_mem.mp (by rw [e]; rfl)
    exact ⟨h, e, fun a v h => h, fun a => ⟨.inl, fun z => z.elim id fun z => z ▸ hm⟩⟩
  | none =>
    have hm : k ∉ n.map (·.1) := lk_none.mp e
    have l : ∀ a, lk (n ++ [(k, n.length)]) a = if a = k then some n.length else lk n a := fun a => by
      rw [lk_append, lk_cons, lk_nil]
      by_cases g : a = k
      · subst g
        rw [e, if_pos rfl]
      · rw [if_neg g, if_neg (fun z => g z.symm)]
        cases lk n a <;> rfl
    have fresh : ∀ a u, lk n a = some u → u ≠ n.length := fun a u q => by have := h.low _ (lk_some q); omega
    have alone : ∀ a, Conn ps a k → a = k := fun a c => (conn_in c).elim id fun z => absurd z (h.out k hm)
    have keys : ∀ a, a ∈ (n ++ [(k, n.length)]).map (·.1) ↔ a ∈ n.map (·.1) ∨ a = k := fun a => by simp
    refine ⟨⟨?_, fun a b u v q1 q2 => ?_, fun x hx => ?_, fun a ha => h.out a fun z => ha ((keys a).mpr (.inl z))⟩, by rw [l, if_pos rfl], fun a v q => ?_, keys⟩
    · rw [List.map_append]
      exact List.nodup_append.mpr ⟨h.nd, by simp, fun x hx y hy => by
        have : y = k := by simpa using hy
        subst this
        exact fun z => hm (z ▸ hx)⟩
    · rw [l] at q1 q2
      by_cases g1 : a = k
      · rw [if_pos g1] at q1
        cases q1
        by_cases g2 : b = k
        · rw [if_pos g2] at q2
          cases q2
          exact ⟨fun _ => by rw [g1, g2]; exact .refl _, fun _ => rfl⟩
        · rw [if_neg g2] at q2
          refine ⟨fun z => absurd z.symm (fresh b v q2), fun c => absurd (alone b (g1 ▸ c.symm)) g2⟩
      · rw [if_neg g1] at q1
        by_cases g2 : b = k
        · rw [if_pos g2] at q2
          cases q2
          exact ⟨fun z => absurd z (fresh a u q1), fun c => absurd (alone a (g2 ▸ c)) g1⟩
        · rw [if_neg g2] at q2
          exact h.same a b u v q1 q2
    · rw [List.length_append, List.length_singleton]
      rcases List.mem_append.mp hx with hx | hx
      · have := h.low x hx; omega
      · have : x = (k, n.length) := List.mem_singleton.mp hx
        subst this
        show n.length < n.length + 1
        omega
    · rw [l]
      by_cases g : a = k
      · subst g; rw [e] at q; cases q
      · rw [if_neg g]; exact q
theorem merge_keys {n : Nm} {f s : Nat} : (mergeN n f s).map (·.1) = n.map (·.1) := by
  unfold mergeN
  rw [List.map_map]
  refine List.map_congr_left fun e _ => ?_
  show (if e.2 = s then (e.1, f) else e).1 = e.1
  by_cases h : e.2 = s
  · rw [if_pos h]
  · rw [if_neg h]
theorem says_step {n : Nm} {ps : Ps} {p : T × T} (h : Says n ps) : Says (stepN n p) (ps ++ [p]) := by
  obtain ⟨x, y⟩ := p
  obtain ⟨h1, e1, o1, k1⟩ := half_setd (k := x) h.half
  obtain ⟨h2, e2, o2, k2⟩ := half_setd (k := y) h1
  have e1' := o2 _ _ e1
  have ky : ∀ a, a ∈ (setd (setd n x).1 y).1.map (·.1) ↔ In (ps ++ [(x, y)]) a := fun a => by
    rw [k2, k1, in_snoc, h.keys]
    exact or_assoc
  have sm := h2.same x y _ _ e1' e2
  unfold stepN
  by_cases g : (setd n x).2 = (setd (setd n x).1 y).2
  · show Says (if (setd n x).2 = (setd (setd n x).1 y).2 then _ else _) _
    rw [if_pos g]
    refine ⟨h2.nd, ky, fun a b u v q1 q2 => ?_, h2.low⟩
    rw [conn_stays (sm.mp g)]
    exact h2.same a b u v q1 q2
  · show Says (if (setd n x).2 = (setd (setd n x).1 y).2 then _ else _) _
    rw [if_neg g]
    refine ⟨by rw [merge_keys]; exact h2.nd, fun a => by rw [merge_keys]; exact ky a, fun a b u v q1 q2 => ?_, fun e he => ?_⟩
    · rw [lk_merge] at q1 q2
      obtain ⟨u0, l1, rfl⟩ := Option.map_eq_some_iff.mp q1
      obtain ⟨v0, l2, rfl⟩ := Option.map_eq_some_iff.mp q2
      have ab := h2.same a b _ _ l1 l2
      have ax := h2.same a x _ _ l1 e1'
      have ay := h2.same a y _ _ l1 e2
      have bx := h2.same b x _ _ l2 e1'
      have bY := h2.same b y _ _ l2 e2
      rw [conn_snoc]
      have yb : Conn ps y b ↔ v0 = (setd (setd n x).1 y).2 := by rw [bY]; exact ⟨Conn.symm, Conn.symm⟩
      have xb : Conn ps x b ↔ v0 = (setd n x).2 := by rw [bx]; exact ⟨Conn.symm, Conn.symm⟩
      rw [yb, xb, ← ab, ← ax, ← ay]
      by_cases c1 : u0 = (setd (setd n x).1 y).2
      · rw [if_pos c1]
        by_cases c2 : v0 = (setd (setd n x).1 y).2
        · rw [if_pos c2]
          exact ⟨fun _ => .inl (c1.trans c2.symm), fun _ => rfl⟩
        · rw [if_neg c2]
          refine ⟨fun z => .inr (.inr ⟨c1, z.symm⟩), fun z => ?_⟩
          rcases z with z | ⟨_, z⟩ | ⟨_, z⟩
          · exact absurd (z ▸ c1) c2
          · exact absurd z c2
          · exact z.symm
      · rw [if_neg c1]
        by_cases c2 : v0 = (setd (setd n x).1 y).2
        · rw [if_pos c2]
          refine ⟨fun z => .inr (.inl ⟨z, c2⟩), fun z => ?_⟩
          rcases z with z | ⟨z, _⟩ | ⟨z, _⟩
          · exact absurd (z.trans c2) c1
          · exact z
          · exact absurd z c1
        · rw [if_neg c2]
          refine ⟨.inl, fun z => ?_⟩
          rcases z with z | ⟨_, z⟩ | ⟨z, _⟩
          · exact z
          · exact absurd z c2
          · exact absurd z c1
    · have hlen : (mergeN (setd (setd n x).1 y).1 (setd n x).2 (setd (setd n x).1 y).2).length = (setd (setd n x).1 y).1.length := by unfold mergeN; rw [List.length_map]
      rw [hlen]
      obtain ⟨e0, he0, rfl⟩ := List.mem_map.mp he
      by_cases c : e0.2 = (setd (setd n x).1 y).2
      · rw [if_pos c]
        have := h2.low _ (lk_some e1')
        exact this
      · rw [if_neg c]
        exact h2.low e0 he0
theorem says_from : ∀ (qs : Ps) {n : Nm} {ps : Ps}, Says n ps → Says (qs.foldl stepN n) (ps ++ qs)
  | [], _, ps, h => by rw [List.append_nil]; exact h
  | q :: qs, n, ps, h => by
    have := says_from qs (says_step (p := q) h)
    rw [List.append_assoc] at this
    exact this
theorem says_cn (ps : Ps) : Says (cn ps) ps := by
  have h0 : Says [] [] := ⟨List.nodup_nil, fun k => ⟨fun h => (by simp at h), fun ⟨p, hp, _⟩ => (by simp at hp)⟩, fun a b u v q => (by cases q), fun e he => (by simp at he)⟩
  exact says_from ps h0
end Kn

set_option Elab.async false
set_option linter.all false
set_option maxRecDepth 100000
set_option autoImplicit false
/-! Knowns as data. -/
namespace Kn
open PySem Dt Dt.R
open L2 (Key kV)
open L2 hiding keyOf
instance memT (k : T) (ks : List T) : Decidable (k ∈ ks) := @List.instDecidableMemOfLawfulBEq T (@instBEqOfDecidableEq T inferInstance) (@instLawfulBEq T inferInstance) k ks
def pairD (p : T × T) : D := .tuple [kD p.1, kD p.2]
def psD (ps : Ps) : D := .tuple (ps.map pairD)
abbrev Kw := Ps × Ps
def knD (k : Kw) : D := .tuple [psD k.1, psD k.2]
def nmD (n : Nm) : List (D × D) := n.map fun e => (kD e.1, .int (e.2 : Nat))
theorem kD_inj {a b : T} (h : kD a = kD b) : a = b := by
  have := congrArg keyOf h
  rw [keyOf_kD, keyOf_kD] at this
  exact Option.some.inj this
theorem eqv_kD (a b : T) : PyData.eqv (kD a) (kD b) = decide (a = b) := by
  cases a with
  | inl i => cases b with
    | inl j =>
      show decide (i = j) = _
      by_cases h : i = j
      · simp [h]
      · rw [decide_eq_false h, decide_eq_false fun z => h (Sum.inl.inj z)]
    | inr y => rw [decide_eq_false (by simp)]; rfl
  | inr x => cases b with
    | inl j => rw [decide_eq_false (by simp)]; rfl
    | inr y =>
      show decide (x = y) = _
      by_cases h : x = y
      · simp [h]
      · rw [decide_eq_false h, decide_eq_false fun z => h (Sum.inr.inj z)]
@[simp] theorem plain_kD (a : T) : (kD a).plain = true := by cases a <;> rfl
@[simp] theorem depth_kD (a : T) : (kD a).depth = 0 := by cases a <;> rfl
theorem dEq_kD (a b : T) : dEq (kD a) (kD b) = some (.bool (decide (a = b))) := by simp [dEq, eqOk, eqv_kD]
theorem dNe_kD (a b : T) : dNe (kD a) (kD b) = some (.bool (!decide (a = b))) := by simp [dNe, eqOk, eqv_kD]
theorem flat_nm (n : Nm) : flatK (nmD n) = true := by
  unfold flatK nmD
  rw [List.all_map]
  exact List.all_eq_true.mpr fun e _ => by show (keyOf (kD e.1)).isSome = true; rw [keyOf_kD]; rfl
theorem dlook_nm (n : Nm) (k : T) : dlook (nmD n) k = (lk n k).map fun v => .int (v : Nat) := by
  induction n with
  | nil => rfl
  | cons e n ih =>
    rw [lk_cons]
    show dlook ((kD e.1, _) :: nmD n) k = _
    unfold dlook at ih ⊢
    rw [List.find?_cons, keyOf_kD]
    by_cases h : e.1 = k
    · simp [h]
    · rw [decide_eq_false fun z => h (Option.some.inj z), if_neg h]; exact ih
theorem any_nm (n : Nm) (k : T) : ((nmD n).any fun e => decide (keyOf e.1 = some k)) = (lk n k).isSome := by
  induction n with
  | nil => rfl
  | cons e n ih =>
    show (((kD e.1, _) :: nmD n).any _) = _
    rw [List.any_cons, ih, lk_cons, keyOf_kD]
    by_cases h : e.1 = k
    · simp [h]
    · rw [decide_eq_false fun z => h (Option.some.inj z), if_neg h]; rfl
theorem dput_nm_new {n : Nm} {k : T} {v : Nat} (h : lk n k = none) : dput (nmD n) k (.int v) = nmD (n ++ [(k, v)]) := by
  unfold dput
  rw [any_nm, h, if_neg (by simp)]
  unfold nmD
  rw [List.map_append]; rfl
def putN (n : Nm) (k : T) (v : Nat) : Nm := if (lk n k).isSome then n.map (fun e => if e.1 = k then (e.1, v) else e) else n ++ [(k, v)]
theorem dput_nm (n : Nm) (k : T) (v : Nat) : dput (nmD n) k (.int v) = nmD (putN n k v) := by
  unfold putN
  by_cases h : (lk n k).isSome = true
  · rw [if_pos h]
    unfold dput
    rw [any_nm, if_pos h]
    unfold nmD
    rw [List.map_map, List.map_map]
    refine List.map_congr_left fun e _ => ?_
    show (if keyOf (kD e.1) = some k then (kD e.1, PyData.int v) else (kD e.1, PyData.int (e.2 : Nat))) = _
    rw [keyOf_kD]
    by_cases g : e.1 = k
    · rw [if_pos (congrArg some g)]
      show _ = (kD (if e.1 = k then (e.1, v) else e).1, PyData.int ((if e.1 = k then (e.1, v) else e).2 : Nat))
      rw [if_pos g]
    · rw [if_neg fun z => g (Option.some.inj z)]
      show _ = (kD (if e.1 = k then (e.1, v) else e).1, PyData.int ((if e.1 = k then (e.1, v) else e).2 : Nat))
      rw [if_neg g]
  · rw [if_neg h]
    exact dput_nm_new (by cases e : lk n k with | none => rfl | some v => rw [e] at h; exact absurd rfl h)
theorem dmerge_nm (m : List (T × Nat)) : ∀ n : Nm, dmerge (nmD n) (nmD m) = nmD (m.foldl (fun n e => putN n e.1 e.2) n) := by
  induction m with
  | nil => intro n; rfl
  | cons e m ih =>
    intro n
    have e1 : dmerge (nmD n) (nmD (e :: m)) = dmerge (dput (nmD n) e.1 (.int (e.2 : Nat))) (nmD m) := by
      show dmerge (nmD n) ((kD e.1, PyData.int (e.2 : Nat)) :: nmD m) = _
      unfold dmerge
      rw [List.foldl_cons, keyOf_kD]
    rw [e1, dput_nm, ih]; rfl
/-- changing all of a class -/
theorem put_all {n : Nm} (nd : (n.map (·.1)).Nodup) (f s : Nat) : ((n.filter fun e => decide (e.2 = s)).map fun e => (e.1, f)).foldl (fun n e => putN n e.1 e.2) n = mergeN n f s := by
  -- each key of the class gets f, one after the other
  have gen : ∀ (ks : List T) (m : Nm), (∀ k ∈ ks, (lk m k).isSome = true) → (ks.map fun k => (k, f)).foldl (fun n e => putN n e.1 e.2) m = m.map fun e => if e.1 ∈ ks then (e.1, f) else e := by
    intro ks
    induction ks with
    | nil => intro m _; simp
    | cons k ks ih =>
      intro m h
      rw [List.map_cons, List.foldl_cons]
      have hk : putN m k f = m.map fun e => if e.1 = k then (e.1, f) else e := by unfold putN; rw [if_pos (h k List.mem_cons_self)]
      have keys : (putN m k f).map (·.1) = m.map (·.1) := by
        rw [hk, List.map_map]
        refine List.map_congr_left fun e _ => ?_
        show (if e.1 = k then (e.1, f) else e).1 = e.1
        by_cases g : e.1 = k
        · rw [if_pos g]
        · rw [if_neg g]
      rw [ih (putN m k f) fun k' hk' => by rw [lk_mem, keys, ← lk_mem]; exact h k' (List.mem_cons_of_mem _ hk'), hk, List.map_map]
      refine List.map_congr_left fun e _ => ?_
      show (if (if e.1 = k then (e.1, f) else e).1 ∈ ks then ((if e.1 = k then (e.1, f) else e).1, f) else (if e.1 = k then (e.1, f) else e)) = _
      by_cases g : e.1 = k
      · have r : (if e.1 ∈ k :: ks then (e.1, f) else e) = (e.1, f) := if_pos (by rw [g]; exact List.mem_cons_self)
        rw [if_pos g, r]
        show (if e.1 ∈ ks then (e.1, f) else (e.1, f)) = (e.1, f)
        split <;> rfl
      · rw [if_neg g]
        by_cases g2 : e.1 ∈ ks
        · rw [if_pos g2, if_pos (List.mem_cons_of_mem _ g2)]
        · rw [if_neg g2, if_neg fun z => (List.mem_cons.mp z).elim g g2]
  have e1 : ((n.filter fun e => decide (e.2 = s)).map fun e => (e.1, f)) = (((n.filter fun e => decide (e.2 = s)).map (·.1)).map fun k => (k, f)) := by rw [List.map_map]; rfl
  rw [e1, gen]
  · refine List.map_congr_left fun e he => ?_
    by_cases g : e.2 = s
    · rw [if_pos g, if_pos (List.mem_map.mpr ⟨e, List.mem_filter.mpr ⟨he, by simpa using g⟩, rfl⟩)]
    · rw [if_neg g, if_neg fun z => ?_]
      obtain ⟨e2, h2, h3⟩ := List.mem_map.mp z
      obtain ⟨h4, h5⟩ := List.mem_filter.mp h2
      have h5 := of_decide_eq_true h5
      have : e2 = e := by
        obtain ⟨i, hi, rfl⟩ := List.mem_iff_getElem.mp h4
        obtain ⟨j, hj, rfl⟩ := List.mem_iff_getElem.mp he
        have hi' : i < (n.map (·.1)).length := by rw [List.length_map]; exact hi
        have hj' : j < (n.map (·.1)).length := by rw [List.length_map]; exact hj
        have ee : (n.map (·.1))[i] = (n.map (·.1))[j] := by rw [List.getElem_map, List.getElem_map]; exact h3
        have := (List.getElem_inj nd).mp ee
        subst this; rfl
      rw [this] at h5
      exact g h5
  · intro k hk
    obtain ⟨e, he, rfl⟩ := List.mem_map.mp hk
    exact lk_mem.mpr (List.mem_map.mpr ⟨e, (List.mem_filter.mp he).1, rfl⟩)

theorem lk_of_mem {n : Nm} (nd : (n.map (·.1)).Nodup) {e : T × Nat} (h : e ∈ n) : lk n e.1 = some e.2 := by
  induction n with
  | nil => cases h
  | cons x n ih =>
    rw [List.map_cons] at nd
    obtain ⟨h1, h2⟩ := List.nodup_cons.mp nd
    rw [lk_cons]
    rcases List.mem_cons.mp h with h | h
    · subst h; rw [if_pos rfl]
    · rw [if_neg (fun z : x.1 = e.1 => h1 (by rw [z]; exact List.mem_map.mpr ⟨e, h, rfl⟩))]
      exact ih h2 h
theorem put_fresh : ∀ (m n : Nm), ((n ++ m).map (·.1)).Nodup → m.foldl (fun n e => putN n e.1 e.2) n = n ++ m
  | [], n, _ => (List.append_nil n).symm
  | e :: m, n, nd => by
    have hn : lk n e.1 = none := by
      rw [lk_none]
      intro z
      rw [List.map_append, List.map_cons] at nd
      exact (List.nodup_append.mp nd).2.2 _ z _ List.mem_cons_self rfl
    rw [List.foldl_cons]
    have e1 : putN n e.1 e.2 = n ++ [e] := by unfold putN; rw [hn, if_neg (by simp)]
    rw [e1, put_fresh m (n ++ [e]) (by rw [List.append_assoc]; exact nd), List.append_assoc]; rfl
theorem keys_nm (n : Nm) : keysD (nmD n) = n.map fun e => kD e.1 := by
  unfold keysD nmD
  rw [List.map_map]; rfl
theorem plain_kDs {α : Type} (f : α → T) (xs : List α) : PyData.plainAll (xs.map fun x => kD (f x)) = true := by
  induction xs with
  | nil => rfl
  | cons x xs ih => rw [List.map_cons, PyData.plainAll, plain_kD, ih]; rfl
theorem pairsOf_nm (m : Nm) : pairsOf (m.map fun e => .tuple [kD e.1, .int (e.2 : Nat)]) = some (nmD m) := by
  induction m with
  | nil => rfl
  | cons e m ih =>
    rw [List.map_cons]
    unfold pairsOf
    rw [keyOf_kD, ih]; rfl
theorem dIxA_nm {n : Nm} {k : T} {v : Nat} (h : lk n k = some v) : dIxA (.dict (nmD n)) (kD k) = some (.int v) := by
  show (if flatK (nmD n) then (Dt.keyOf (kD k)).bind (dlook (nmD n)) else _) = _
  rw [if_pos (flat_nm n), keyOf_kD]
  show dlook (nmD n) k = _
  rw [dlook_nm, h]; rfl
end Kn

set_option Elab.async false
set_option linter.all false
set_option maxRecDepth 100000
set_option autoImplicit false
namespace Lw
open PySem Kn Dt Dt.R
open L2 (Key)
theorem dIxA_kn0 (k : Kw) : dIxA (knD k) (.int 0) = some (psD k.1) := rfl
theorem dIxA_kn1 (k : Kw) : dIxA (knD k) (.int 1) = some (psD k.2) := rfl
theorem dLen_nm (n : Nm) : dLenA [.dict (nmD n)] = some (.int n.length) := by
  show (if flatK (nmD n) then some (PyData.int (nmD n).length) else _) = _
  rw [if_pos (flat_nm n)]
  unfold nmD
  rw [List.length_map]
theorem asK_nm (n : Nm) : asK (some (.dict (nmD n))) = some (nmD n) := by
  show (if flatK (nmD n) then some (nmD n) else none) = _
  rw [if_pos (flat_nm n)]
theorem keyVal_kD (k : T) (d : D) : keyVal [kD k, d] = some (k, d) := by
  show (Dt.keyOf (kD k)).map _ = _
  rw [keyOf_kD]; rfl
/-- numbers.setdefault(k, len(numbers)) -/
theorem setd_eval {ρ : Ev} {n : Nm} {k : T} {j : Nat} (h1 : getv ρ 1 = some (.dict (nmD n))) (h2 : getv ρ j = some (kD k)) (hz : n.length < sizeLine) :
    eSetD 1 (aCons (var j) (aCons (mCall dLenA (aCons (var 1) aNil)) aNil)) ρ = .ok (.int ((setd n k).2 : Nat), ρ.set 1 (some (.dict (nmD (setd n k).1)))) := by
  have l : (nmD n).length < sizeLine := by unfold nmD; rw [List.length_map]; exact hz
  have hl : 1 < ρ.length := by
    unfold getv at h1
    split at h1
    · rename_i e; exact (List.getElem?_eq_some_iff.mp e).1
    · cases h1
  have hs : ρ.set 1 (some (.dict (nmD n))) = ρ := by
    apply List.ext_getElem?
    intro i
    by_cases e : 1 = i
    · subst e
      rw [List.getElem?_set_self hl]
      exact (getv_some h1).symm
    · rw [List.getElem?_set_ne e]
  unfold eSetD
  rw [h1, asK_nm]
  show ((aCons (var j) _ ρ).bind _) = _
  have ea : aCons (var j) (aCons (mCall dLenA (aCons (var 1) aNil)) aNil) ρ = .ok ([kD k, .int n.length], ρ) := by
    simp [runF, runI, runFr, startE, sSeq, sSet, sExpr, sRet, sRetN, sIf, sForE, mIf, mTru, mBool, mNotB, mAndB, mOrB, mCallF, mCall, aCons, aNil, var, cst, mOp, mUn, mTup, mLst, mAnd, mOr, gSet, gOwn, gTpl, gsCons, gsNil, iSq, items, mDict0, R.bind, R.opt, R.nox, truD, tru, asB, h2, h1, dLen_nm]
  rw [ea]
  show ((R.opt (asK (getv ρ 1))).bind _) = _
  rw [h1, asK_nm]
  show ((R.opt (keyVal [kD k, .int n.length])).bind _) = _
  rw [keyVal_kD]
  show (if (nmD n).length < sizeLine then _ else _) = _
  rw [if_pos l, dlook_nm]
  unfold setd
  cases e : lk n k with
  | some v =>
    show R.ok (PyData.int (v : Nat), ρ) = R.ok (PyData.int (v : Nat), ρ.set 1 (some (.dict (nmD n))))
    rw [hs]
  | none =>
    show R.ok (PyData.int n.length, ρ.set 1 (some (.dict (dput (nmD n) k (.int n.length))))) = _
    rw [dput_nm_new e]

theorem dEq_nat (a b : Nat) : dEq (.int (a : Int)) (.int (b : Int)) = some (.bool (decide (a = b))) := by
  have : PyData.eqv (.int (a : Int)) (.int (b : Int)) = decide (a = b) := by
    show decide ((a : Int) = (b : Int)) = _
    exact decide_eq_decide.mpr Int.ofNat_inj
  simp [runF, runI, runFr, startE, sSeq, sSet, sExpr, sRet, sRetN, sIf, sForE, mIf, mTru, mBool, mNotB, mAndB, mOrB, mCallF, mCall, aCons, aNil, var, getv, cst, mOp, mUn, mTup, mLst, mAnd, mOr, gSet, gOwn, gTpl, gsCons, gsNil, iSq, items, mDict0, R.bind, R.opt, R.nox, truD, tru, asB, dEq, eqOk, this, PyData.plain, PyData.depth]
theorem dNe_nat (a b : Nat) : dNe (.int (a : Int)) (.int (b : Int)) = some (.bool (!decide (a = b))) := by
  have : PyData.eqv (.int (a : Int)) (.int (b : Int)) = decide (a = b) := by
    show decide ((a : Int) = (b : Int)) = _
    exact decide_eq_decide.mpr Int.ofNat_inj
  simp [runF, runI, runFr, startE, sSeq, sSet, sExpr, sRet, sRetN, sIf, sForE, mIf, mTru, mBool, mNotB, mAndB, mOrB, mCallF, mCall, aCons, aNil, var, getv, cst, mOp, mUn, mTup, mLst, mAnd, mOr, gSet, gOwn, gTpl, gsCons, gsNil, iSq, items, mDict0, R.bind, R.opt, R.nox, truD, tru, asB, dNe, eqOk, this, PyData.plain, PyData.depth]
abbrev env8 (a0 a1 a2 a3 a4 a5 a6 a7 : Option D) : Ev := [a0, a1, a2, a3, a4, a5, a6, a7]
theorem later_eval {n : Nm} {s : Nat} {a0 a2 a3 a4 a6 a7 : Option D} (nd : (n.map (·.1)).Nodup) (hz : n.length < sizeLine) :
    mLkO 1 (mLc false (iKy 1) [7] (gSet 7) (mBool (mOp dEq (mOp dIxA (var 1) (var 7)) (var 5))) (var 7)) (env8 a0 (some (.dict (nmD n))) a2 a3 a4 (some (.int (s : Nat))) a6 a7) =
      .ok (.list ((n.filter fun e => decide (e.2 = s)).map fun e => kD e.1), env8 a0 (some (.dict (nmD n))) a2 a3 a4 (some (.int (s : Nat))) a6 a7) := by
  have hl : (nmD n).length ≤ sizeLine := by unfold nmD; rw [List.length_map]; omega
  have e1 : iKy 1 (env8 a0 (some (.dict (nmD n))) a2 a3 a4 (some (.int (s : Nat))) a6 a7) = .ok (n.map (fun e => kD e.1), env8 a0 (some (.dict (nmD n))) a2 a3 a4 (some (.int (s : Nat))) a6 a7) := by
    show ((R.opt (asK (some (.dict (nmD n))))).bind _) = _
    rw [asK_nm]
    show (if (nmD n).length ≤ sizeLine then _ else _) = _
    rw [if_pos hl, keys_nm]
  have e2 : lcG false [7] (gSet 7) (mBool (mOp dEq (mOp dIxA (var 1) (var 7)) (var 5))) (var 7) (n.map fun e => kD e.1) (env8 a0 (some (.dict (nmD n))) a2 a3 a4 (some (.int (s : Nat))) a6 a7) =
      .ok ((n.filter fun e => decide (e.2 = s)).map (fun e => kD e.1), env8 a0 (some (.dict (nmD n))) a2 a3 a4 (some (.int (s : Nat))) a6 a7) :=
    lc_eval fun e he => by
      have l := dIxA_nm (lk_of_mem nd he)
      exact ⟨_, _, rfl, by simp [runF, runI, runFr, startE, sSeq, sSet, sExpr, sRet, sRetN, sIf, sForE, mIf, mTru, mBool, mNotB, mAndB, mOrB, mCallF, mCall, aCons, aNil, var, getv, cst, mOp, mUn, mTup, mLst, mAnd, mOr, gSet, gOwn, gTpl, gsCons, gsNil, iSq, items, mDict0, R.bind, R.opt, R.nox, truD, tru, asB, wipeE, l, dEq_nat]; rfl, fun _ => ⟨_, by simp [runF, runI, runFr, startE, sSeq, sSet, sExpr, sRet, sRetN, sIf, sForE, mIf, mTru, mBool, mNotB, mAndB, mOrB, mCallF, mCall, aCons, aNil, var, getv, cst, mOp, mUn, mTup, mLst, mAnd, mOr, gSet, gOwn, gTpl, gsCons, gsNil, iSq, items, mDict0, R.bind, R.opt, R.nox, truD, tru, asB, wipeE]; rfl⟩⟩
  unfold mLkO
  show ((R.opt (asK (some (.dict (nmD n))))).bind _) = _
  rw [asK_nm]
  show ((mLc false (iKy 1) [7] (gSet 7) _ _ _).nox.bind _) = _
  unfold mLc
  rw [e1]
  show (((lcG false [7] (gSet 7) (mBool (mOp dEq (mOp dIxA (var 1) (var 7)) (var 5))) (var 7) (n.map fun e => kD e.1) _).nox.bind _).nox.bind _) = _
  rw [e2]
  show (if PyData.plain (.list ((n.filter fun e => decide (e.2 = s)).map fun e => kD e.1)) then _ else _) = _
  have hp : PyData.plain (.list ((n.filter fun e => decide (e.2 = s)).map fun e => kD e.1)) = true := plain_kDs (fun e : T × Nat => e.1) _
  rw [if_pos hp]
theorem upd_eval {n : Nm} {f s : Nat} {a0 a2 a3 a5 a7 : Option D} (nd : (n.map (·.1)).Nodup) (hz : 2 * n.length < sizeLine) :
    eUpd 1 (mCall dDict (aCons (mLc false (iSq (var 6)) [7] (gSet 7) bYes (mTup (aCons (var 7) (aCons (var 4) aNil)))) aNil))
      (env8 a0 (some (.dict (nmD n))) a2 a3 (some (.int (f : Nat))) a5 (some (.list ((n.filter fun e => decide (e.2 = s)).map fun e => kD e.1))) a7) =
      .ok (.none, env8 a0 (some (.dict (nmD (mergeN n f s)))) a2 a3 (some (.int (f : Nat))) a5 (some (.list ((n.filter fun e => decide (e.2 = s)).map fun e => kD e.1))) a7) := by
  have e2 : lcG false [7] (gSet 7) bYes (mTup (aCons (var 7) (aCons (var 4) aNil))) ((n.filter fun e => decide (e.2 = s)).map fun e => kD e.1) (env8 a0 (some (.dict (nmD n))) a2 a3 (some (.int (f : Nat))) a5 (some (.list ((n.filter fun e => decide (e.2 = s)).map fun e => kD e.1))) a7) =
      .ok ((n.filter fun e => decide (e.2 = s)).map (fun e => .tuple [kD e.1, .int (f : Nat)]), _) :=
    lc_map fun e he => ⟨_, _, rfl, by simp [runF, runI, runFr, startE, sSeq, sSet, sExpr, sRet, sRetN, sIf, sForE, mIf, mTru, mBool, mNotB, mAndB, mOrB, mCallF, mCall, aCons, aNil, var, getv, cst, mOp, mUn, mTup, mLst, mAnd, mOr, gSet, gOwn, gTpl, gsCons, gsNil, iSq, items, mDict0, R.bind, R.opt, R.nox, truD, tru, asB, wipeE]; rfl⟩
  have ep : pairsOf ((n.filter fun e => decide (e.2 = s)).map (fun e => PyData.tuple [kD e.1, .int (f : Nat)])) = some (nmD ((n.filter fun e => decide (e.2 = s)).map fun e => (e.1, f))) := by
    rw [← pairsOf_nm, List.map_map]; rfl
  have nd2 : (((n.filter fun e => decide (e.2 = s)).map fun e => (e.1, f)).map (·.1)).Nodup := by
    rw [List.map_map]
    exact nd.sublist (List.Sublist.map _ List.filter_sublist)
  have em : dmerge [] (nmD ((n.filter fun e => decide (e.2 = s)).map fun e => (e.1, f))) = nmD ((n.filter fun e => decide (e.2 = s)).map fun e => (e.1, f)) := by
    have := dmerge_nm ((n.filter fun e => decide (e.2 = s)).map fun e => (e.1, f)) []
    rw [put_fresh _ [] nd2] at this
    exact this
  have e3 : mCall dDict (aCons (mLc false (iSq (var 6)) [7] (gSet 7) bYes (mTup (aCons (var 7) (aCons (var 4) aNil)))) aNil) (env8 a0 (some (.dict (nmD n))) a2 a3 (some (.int (f : Nat))) a5 (some (.list ((n.filter fun e => decide (e.2 = s)).map fun e => kD e.1))) a7) =
      .ok (.dict (nmD ((n.filter fun e => decide (e.2 = s)).map fun e => (e.1, f))), env8 a0 (some (.dict (nmD n))) a2 a3 (some (.int (f : Nat))) a5 (some (.list ((n.filter fun e => decide (e.2 = s)).map fun e => kD e.1))) a7) := by
    have e4 : mLc false (iSq (var 6)) [7] (gSet 7) bYes (mTup (aCons (var 7) (aCons (var 4) aNil))) (env8 a0 (some (.dict (nmD n))) a2 a3 (some (.int (f : Nat))) a5 (some (.list ((n.filter fun e => decide (e.2 = s)).map fun e => kD e.1))) a7) =
        .ok (.list ((n.filter fun e => decide (e.2 = s)).map (fun e => .tuple [kD e.1, .int (f : Nat)])), env8 a0 (some (.dict (nmD n))) a2 a3 (some (.int (f : Nat))) a5 (some (.list ((n.filter fun e => decide (e.2 = s)).map fun e => kD e.1))) a7) := by
      unfold mLc
      show ((lcG false [7] (gSet 7) bYes (mTup (aCons (var 7) (aCons (var 4) aNil))) ((n.filter fun e => decide (e.2 = s)).map fun e => kD e.1) _).nox.bind _) = _
      rw [e2]
      rfl
    rw [mCall1 e4]
    have ed : dDict [.list ((n.filter fun e => decide (e.2 = s)).map (fun e => PyData.tuple [kD e.1, .int (f : Nat)]))] = some (.dict (nmD ((n.filter fun e => decide (e.2 = s)).map fun e => (e.1, f)))) := by
      show (pairsOf _).map _ = _
      rw [ep]
      show some (PyData.dict (dmerge [] _)) = _
      rw [em]
    rw [ed]; rfl
  have hl : (nmD n).length + (nmD ((n.filter fun e => decide (e.2 = s)).map fun e => (e.1, f))).length ≤ sizeLine := by
    unfold nmD
    rw [List.length_map, List.length_map, List.length_map]
    have := List.length_filter_le (fun e : T × Nat => decide (e.2 = s)) n
    omega
  unfold eUpd
  show ((R.opt (asK (some (.dict (nmD n))))).bind _) = _
  rw [asK_nm]
  show ((mCall dDict _ _).bind _) = _
  rw [e3]
  show ((R.opt (asDict (.dict (nmD ((n.filter fun e => decide (e.2 = s)).map fun e => (e.1, f)))))).bind _) = _
  rw [show asDict (.dict (nmD ((n.filter fun e => decide (e.2 = s)).map fun e => (e.1, f)))) = some _ from asK_nm _]
  show ((R.opt (asK (some (.dict (nmD n))))).bind _) = _
  rw [asK_nm]
  show (if (nmD n).length + _ ≤ sizeLine then _ else _) = _
  rw [if_pos hl, dmerge_nm, put_all nd]
  rfl

theorem setd_len (n : Nm) (k : T) : (setd n k).1.length ≤ n.length + 1 := by
  unfold setd
  cases lk n k with
  | some v => exact Nat.le_succ _
  | none => simp [runF, runI, runFr, startE, sSeq, sSet, sExpr, sRet, sRetN, sIf, sForE, mIf, mTru, mBool, mNotB, mAndB, mOrB, mCallF, mCall, aCons, aNil, var, getv, cst, mOp, mUn, mTup, mLst, mAnd, mOr, gSet, gOwn, gTpl, gsCons, gsNil, iSq, items, mDict0, R.bind, R.opt, R.nox, truD, tru, asB]
theorem step_len (n : Nm) (p : T × T) : (stepN n p).length ≤ n.length + 2 := by
  have h1 := setd_len n p.1
  have h2 := setd_len (setd n p.1).1 p.2
  unfold stepN
  show (if (setd n p.1).2 = (setd (setd n p.1).1 p.2).2 then (setd (setd n p.1).1 p.2).1 else mergeN (setd (setd n p.1).1 p.2).1 (setd n p.1).2 (setd (setd n p.1).1 p.2).2).length ≤ _
  split
  · omega
  · unfold mergeN; rw [List.length_map]; omega
abbrev bodyCN : MS := (sSeq (sSet (gSet 4) (eSetD 1 (aCons (var 2) (aCons (mCall dLenA (aCons (var 1) aNil)) aNil)))) (sSeq (sSet (gSet 5) (eSetD 1 (aCons (var 3) (aCons (mCall dLenA (aCons (var 1) aNil)) aNil)))) (sIf (mBool (mOp dNe (var 4) (var 5))) (sSeq (sSet (gSet 6) (mLkO 1 (mLc false (iKy 1) [7] (gSet 7) (mBool (mOp dEq (mOp dIxA (var 1) (var 7)) (var 5))) (var 7)))) (sExpr (eUpd 1 (mCall dDict (aCons (mLc false (iSq (var 6)) [7] (gSet 7) bYes (mTup (aCons (var 7) (aCons (var 4) aNil)))) aNil))))) sNil)))
theorem body_cn {n : Nm} {ps : Ps} {x y : T} {a0 a4 a5 a6 a7 : Option D} (h : Says n ps) (hz : 2 * n.length + 10 < sizeLine) :
    ∃ b4 b5 b6, bodyCN (env8 a0 (some (.dict (nmD n))) (some (kD x)) (some (kD y)) a4 a5 a6 a7) = .ok (.nx, env8 a0 (some (.dict (nmD (stepN n (x, y))))) (some (kD x)) (some (kD y)) b4 b5 b6 a7) := by
  obtain ⟨h1, e1, o1, k1⟩ := half_setd (k := x) h.half
  obtain ⟨h2, e2, o2, k2⟩ := half_setd (k := y) h1
  have l1 := setd_len n x
  have l2 := setd_len (setd n x).1 y
  have s1 := setd_eval (ρ := env8 a0 (some (.dict (nmD n))) (some (kD x)) (some (kD y)) a4 a5 a6 a7) (n := n) (k := x) (j := 2) rfl rfl (by omega)
  have s2 := setd_eval (ρ := env8 a0 (some (.dict (nmD (setd n x).1))) (some (kD x)) (some (kD y)) (some (.int ((setd n x).2 : Nat))) a5 a6 a7) (n := (setd n x).1) (k := y) (j := 3) rfl rfl (by omega)
  unfold bodyCN
  simp only [sSeq, sSet, s1, R.bind, gSet, R.nox]
  simp only [env8, List.set_cons_succ, List.set_cons_zero]
  simp only [env8] at s2
  rw [s2]
  simp only [R.bind, R.nox, List.set_cons_succ, List.set_cons_zero, sIf, mBool, mOp, var, getv, List.getElem?_cons_succ, List.getElem?_cons_zero, R.opt, dNe_nat, asB]
  unfold stepN
  by_cases g : (setd n x).2 = (setd (setd n x).1 y).2
  · refine ⟨some (.int ((setd n x).2 : Nat)), some (.int ((setd (setd n x).1 y).2 : Nat)), a6, ?_⟩
    rw [decide_eq_true g]
    show R.ok (Fl.nx, _) = _
    show R.ok (Fl.nx, _) = R.ok (Fl.nx, env8 a0 (some (.dict (nmD (if (setd n x).2 = (setd (setd n x).1 y).2 then _ else _)))) _ _ _ _ _ _)
    rw [if_pos g]
  · have lt := later_eval (n := (setd (setd n x).1 y).1) (s := (setd (setd n x).1 y).2) (a0 := a0) (a2 := some (kD x)) (a3 := some (kD y)) (a4 := some (.int ((setd n x).2 : Nat))) (a6 := a6) (a7 := a7) h2.nd (by omega)
    have ud := upd_eval (n := (setd (setd n x).1 y).1) (f := (setd n x).2) (s := (setd (setd n x).1 y).2) (a0 := a0) (a2 := some (kD x)) (a3 := some (kD y)) (a5 := some (.int ((setd (setd n x).1 y).2 : Nat))) (a7 := a7) h2.nd (by omega)
    refine ⟨some (.int ((setd n x).2 : Nat)), some (.int ((setd (setd n x).1 y).2 : Nat)), some (.list (((setd (setd n x).1 y).1.filter fun e => decide (e.2 = (setd (setd n x).1 y).2)).map fun e => kD e.1)), ?_⟩
    rw [decide_eq_false g]
    rw [if_pos (show (!false) = true from rfl)]
    simp only [env8] at lt ud
    simp only [sSeq, sSet, lt, R.bind, gSet, R.nox, List.set_cons_succ, List.set_cons_zero, sExpr]
    rw [ud]
    show R.ok (Fl.nx, _) = R.ok (Fl.nx, env8 a0 (some (.dict (nmD (if (setd n x).2 = (setd (setd n x).1 y).2 then _ else _)))) _ _ _ _ _ _)
    rw [if_neg g]
theorem m_cn (k : Kw) (hz : k.1.length ≤ 1000000) : m_class_numbers [knD k] = .ok (.dict (nmD (cn k.1))) := by
  have sz : sizeLine = 16777216 := sizeN
  -- the loop
  have loop := for_all (g := gTpl 2 (gsCons (gSet 2) (gsCons (gSet 3) gsNil))) (b := bodyCN) (enc := pairD) (I := fun (qs : Ps) ρ => ∃ (ps : Ps) (n : Nm) (a2 a3 a4 a5 a6 a7 : Option D), ps ++ qs = k.1 ∧ n = cn ps ∧ Says n ps ∧ n.length ≤ 2 * ps.length ∧ ρ = env8 (some (knD k)) (some (.dict (nmD n))) a2 a3 a4 a5 a6 a7)
    (fun p qs ρ h => by
      obtain ⟨ps, n, a2, a3, a4, a5, a6, a7, e1, e2, e3, e4, rfl⟩ := h
      have hl : ps.length ≤ k.1.length := by rw [← e1, List.length_append]; omega
      obtain ⟨b4, b5, b6, eb⟩ := body_cn (x := p.1) (y := p.2) (a0 := some (knD k)) (a4 := a4) (a5 := a5) (a6 := a6) (a7 := a7) e3 (by omega)
      refine ⟨env8 (some (knD k)) (some (.dict (nmD n))) (some (kD p.1)) (some (kD p.2)) a4 a5 a6 a7, _, rfl, .inl eb, ps ++ [p], stepN n p, _, _, _, _, _, _, by rw [List.append_assoc]; exact e1, ?_, says_step e3, ?_, rfl⟩
      · rw [e2]; unfold cn; rw [List.foldl_append]; rfl
      · have := step_len n p
        rw [List.length_append, List.length_singleton]; omega)
    (xs := k.1) (ρ := env8 (some (knD k)) (some (.dict (nmD []))) none none none none none none) ⟨[], [], none, none, none, none, none, none, rfl, rfl, says_cn [], Nat.le_refl _, rfl⟩
  obtain ⟨ρ', el, ps, n, a2, a3, a4, a5, a6, a7, e1, e2, e3, e4, rfl⟩ := loop
  rw [List.append_nil] at e1
  subst e1
  have e5 : sForE (iSq (mOp dIxA (var 0) (cst (.int 0)))) (gTpl 2 (gsCons (gSet 2) (gsCons (gSet 3) gsNil))) bodyCN (env8 (some (knD k)) (some (.dict (nmD []))) none none none none none none) = .ok (.nx, env8 (some (knD k)) (some (.dict (nmD n))) a2 a3 a4 a5 a6 a7) := el
  show ((sSeq (sSet (gOwn 1) mDict0) (sSeq (sForE (iSq (mOp dIxA (var 0) (cst (.int 0)))) (gTpl 2 (gsCons (gSet 2) (gsCons (gSet 3) gsNil))) bodyCN) (sRet (var 1))) (env8 (some (knD k)) none none none none none none none)).bind _) = _
  have e6 : sSeq (sSet (gOwn 1) mDict0) (sSeq (sForE (iSq (mOp dIxA (var 0) (cst (.int 0)))) (gTpl 2 (gsCons (gSet 2) (gsCons (gSet 3) gsNil))) bodyCN) (sRet (var 1))) (env8 (some (knD k)) none none none none none none none) =
      (sForE (iSq (mOp dIxA (var 0) (cst (.int 0)))) (gTpl 2 (gsCons (gSet 2) (gsCons (gSet 3) gsNil))) bodyCN (env8 (some (knD k)) (some (.dict (nmD []))) none none none none none none)).bind fun z => match z.1 with
        | .nx => sRet (var 1) z.2
        | _ => .ok z := rfl
  rw [e6, e5, e2]
  rfl
end Lw

set_option Elab.async false
set_option linter.all false
set_option maxRecDepth 100000
set_option autoImplicit false
namespace Kn
open PySem Dt Dt.R
open L2 (Key)
def joined (ps : Ps) (a b : T) : Bool := decide (a = b) || match lk (cn ps) a, lk (cn ps) b with
  | some u, some v => decide (u = v)
  | _, _ => false
theorem joined_iff {ps : Ps} {a b : T} : joined ps a b = true ↔ Conn ps a b := by
  have S := says_cn ps
  have some_of : ∀ x, In ps x → ∃ v, lk (cn ps) x = some v := fun x hx => by
    have := lk_mem.mpr ((S.keys x).mpr hx)
    cases e : lk (cn ps) x with
    | none => rw [e] at this; cases this
    | some v => exact ⟨v, rfl⟩
  unfold joined
  by_cases h : a = b
  · rw [decide_eq_true h]
    exact ⟨fun _ => by rw [h]; exact .refl _, fun _ => rfl⟩
  · rw [decide_eq_false h, Bool.false_or]
    constructor
    · intro z
      cases ea : lk (cn ps) a with
      | none => rw [ea] at z; cases z
      | some u =>
        cases eb : lk (cn ps) b with
        | none => rw [ea, eb] at z; cases z
        | some v =>
          rw [ea, eb] at z
          exact (S.same a b u v ea eb).mp (of_decide_eq_true z)
    · intro c
      obtain ⟨v, ev⟩ := some_of b ((conn_in c).elim (fun z => absurd z h) id)
      obtain ⟨u, eu⟩ := some_of a ((conn_in c.symm).elim (fun z => absurd z.symm h) id)
      rw [eu, ev]
      exact decide_eq_true ((S.same a b u v eu ev).mpr c)
theorem joined_refl (ps : Ps) (a : T) : joined ps a a = true := joined_iff.mpr (.refl a)
theorem joined_symm {ps : Ps} {a b : T} : joined ps a b = joined ps b a := Bool.eq_iff_iff.mpr ⟨fun h => joined_iff.mpr (joined_iff.mp h).symm, fun h => joined_iff.mpr (joined_iff.mp h).symm⟩
theorem inDict_nm (n : Nm) (k : T) : dInA (kD k) (.dict (nmD n)) = some (.bool (lk n k).isSome) := by
  show (inDict (kD k) (nmD n)).map _ = _
  unfold inDict
  rw [if_pos (flat_nm n), keyOf_kD]
  show some (PyData.bool (dlook (nmD n) k).isSome) = _
  rw [dlook_nm, Option.isSome_map]
end Kn

set_option Elab.async false
set_option linter.all false
set_option maxRecDepth 100000
set_option autoImplicit false
namespace Lw
open PySem Kn Dt Dt.R
open L2 (Key)
theorem m_joined (k : Kw) (a b : T) (hz : k.1.length ≤ 1000000) : m_is_joined [knD k, kD a, kD b] = .ok (.bool (joined k.1 a b)) := by
  have e1 := m_cn k hz
  unfold joined
  cases ea : lk (cn k.1) a with
  | none => simp [runF, runI, runFr, startE, sSeq, sSet, sExpr, sRet, sRetN, sIf, sForE, mIf, mTru, mBool, mNotB, mAndB, mOrB, mCallF, mCall, aCons, aNil, var, getv, cst, mOp, mUn, mTup, mLst, mAnd, mOr, gSet, gOwn, gTpl, gsCons, gsNil, iSq, items, mDict0, R.bind, R.opt, R.nox, truD, tru, asB, m_is_joined, b_is_joined, e1, dEq_kD, inDict_nm, ea]; by_cases h : a = b <;> simp [runF, runI, runFr, startE, sSeq, sSet, sExpr, sRet, sRetN, sIf, sForE, mIf, mTru, mBool, mNotB, mAndB, mOrB, mCallF, mCall, aCons, aNil, var, getv, cst, mOp, mUn, mTup, mLst, mAnd, mOr, gSet, gOwn, gTpl, gsCons, gsNil, iSq, items, mDict0, R.bind, R.opt, R.nox, truD, tru, asB, h]
  | some u =>
    cases eb : lk (cn k.1) b with
    | none => simp [runF, runI, runFr, startE, sSeq, sSet, sExpr, sRet, sRetN, sIf, sForE, mIf, mTru, mBool, mNotB, mAndB, mOrB, mCallF, mCall, aCons, aNil, var, getv, cst, mOp, mUn, mTup, mLst, mAnd, mOr, gSet, gOwn, gTpl, gsCons, gsNil, iSq, items, mDict0, R.bind, R.opt, R.nox, truD, tru, asB, m_is_joined, b_is_joined, e1, dEq_kD, inDict_nm, ea, eb]; by_cases h : a = b <;> simp [runF, runI, runFr, startE, sSeq, sSet, sExpr, sRet, sRetN, sIf, sForE, mIf, mTru, mBool, mNotB, mAndB, mOrB, mCallF, mCall, aCons, aNil, var, getv, cst, mOp, mUn, mTup, mLst, mAnd, mOr, gSet, gOwn, gTpl, gsCons, gsNil, iSq, items, mDict0, R.bind, R.opt, R.nox, truD, tru, asB, h]
    | some v => simp [runF, runI, runFr, startE, sSeq, sSet, sExpr, sRet, sRetN, sIf, sForE, mIf, mTru, mBool, mNotB, mAndB, mOrB, mCallF, mCall, aCons, aNil, var, getv, cst, mOp, mUn, mTup, mLst, mAnd, mOr, gSet, gOwn, gTpl, gsCons, gsNil, iSq, items, mDict0, R.bind, R.opt, R.nox, truD, tru, asB, m_is_joined, b_is_joined, e1, dEq_kD, inDict_nm, ea, eb, dIxA_nm ea, dIxA_nm eb, dEq_nat]; by_cases h : a = b <;> simp [runF, runI, runFr, startE, sSeq, sSet, sExpr, sRet, sRetN, sIf, sForE, mIf, mTru, mBool, mNotB, mAndB, mOrB, mCallF, mCall, aCons, aNil, var, getv, cst, mOp, mUn, mTup, mLst, mAnd, mOr, gSet, gOwn, gTpl, gsCons, gsNil, iSq, items, mDict0, R.bind, R.opt, R.nox, truD, tru, asB, h]
end Lw

set_option Elab.async false
set_option linter.all false
set_option maxRecDepth 100000
set_option autoImplicit false
/-! Sorting encoded lists by a key. -/
namespace Kn
open PySem Dt Dt.R
open PySem.W (dataLe keyToks sortLe)
open PySem.SeqAt PyProof.Rows
section
variable {α : Type} {enc key : α → D} {fn : List D → R D} {xs ys : List α}
def srt (key : α → D) (xs : List α) : List α := xs.mergeSort (dataLe false key)
theorem mapR_map : ∀ {xs : List α}, (∀ x ∈ xs, fn [enc x] = .ok (key x)) → mapR fn (xs.map enc) = .ok (xs.map key)
  | [], _ => rfl
  | x :: xs, h => by
    rw [List.map_cons, List.map_cons]
    unfold mapR
    rw [h x List.mem_cons_self, mapR_map fun y hy => h y (List.mem_cons_of_mem _ hy)]
    rfl
theorem sortK_map : sortK (xs.map enc) (xs.map key) = (srt key xs).map enc := by
  have e1 : (xs.map enc).zip (xs.map key) = xs.map fun x => (enc x, key x) := by rw [List.zip_map']
  unfold sortK srt
  rw [e1, ← PySem.W.sort_maps (r := dataLe false key) (s := dataLe false fun q : D × D => q.2) (fun x : α => (enc x, key x)) fun a _ b _ => rfl, List.map_map]
  rfl
theorem dSortK_map (hf : ∀ x ∈ xs, fn [enc x] = .ok (key x)) (ko : keysOk (xs.map key) = true) : dSortK fn [.list (xs.map enc)] = .ok (.list ((srt key xs).map enc)) := by
  show ((mapR fn (xs.map enc)).nox.bind _) = _
  rw [mapR_map hf]
  show (if keysOk (xs.map key) = true then _ else _) = _
  rw [if_pos ko, sortK_map]
theorem dSortK_mapT (hf : ∀ x ∈ xs, fn [enc x] = .ok (key x)) (ko : keysOk (xs.map key) = true) : dSortK fn [.tuple (xs.map enc)] = .ok (.list ((srt key xs).map enc)) := by
  show ((mapR fn (xs.map enc)).nox.bind _) = _
  rw [mapR_map hf]
  show (if keysOk (xs.map key) = true then _ else _) = _
  rw [if_pos ko, sortK_map]
theorem srt_perm : (srt key xs).Perm xs := List.mergeSort_perm xs _
theorem srt_mem {x : α} : x ∈ srt key xs ↔ x ∈ xs := srt_perm.mem_iff
theorem srt_nodup : (srt key xs).Nodup ↔ xs.Nodup := srt_perm.nodup_iff
theorem srt_len : (srt key xs).length = xs.length := srt_perm.length_eq
theorem le_total (key : α → D) : PySem.W.TotalLe (dataLe false key) := PySem.W.sortLe_total _ _ _
theorem srt_sorted : (srt key xs).Pairwise fun a b => dataLe false key a b = true := PySem.W.sort_pairwise (le_total key) xs
/-- the key tells items apart -/
def Apart (key : α → D) (P : α → Prop) : Prop := ∀ a b, P a → P b → keyToks (key a) = keyToks (key b) → a = b
theorem le_anti {P : α → Prop} (h : Apart key P) {a b : α} (pa : P a) (pb : P b) (h1 : dataLe false key a b = true) (h2 : dataLe false key b a = true) : a = b := by
  have g1 : (!(listOrd itemOrd).blt (keyToks (key b)) (keyToks (key a))) = true := h1
  have g2 : (!(listOrd itemOrd).blt (keyToks (key a)) (keyToks (key b))) = true := h2
  rw [Bool.not_eq_true'] at g1 g2
  exact h a b pa pb ((listOrd itemOrd).total _ _ g2 g1)
theorem srt_congr {P : α → Prop} (h : Apart key P) (px : ∀ x ∈ xs, P x) (nx : xs.Nodup) (ny : ys.Nodup) (e : ∀ x, x ∈ xs ↔ x ∈ ys) : srt key xs = srt key ys := by
  have p : xs.Perm ys := (List.perm_ext_iff_of_nodup nx ny).mpr e
  refine List.Perm.eq_of_pairwise ?_ srt_sorted srt_sorted (srt_perm.trans (p.trans srt_perm.symm))
  intro a b ha hb h1 h2
  exact le_anti h (px a (srt_mem.mp ha)) (px b ((e b).mpr (srt_mem.mp hb))) h1 h2
/-- the first is the least -/
theorem srt_head {x : α} (h : (srt key xs).head? = some x) : x ∈ xs ∧ ∀ y ∈ xs, dataLe false key x y = true := by
  cases e : srt key xs with
  | nil => rw [e] at h; cases h
  | cons z zs =>
    rw [e] at h
    cases h
    have s := srt_sorted (key := key) (xs := xs)
    rw [e] at s
    refine ⟨srt_mem.mp (e ▸ List.mem_cons_self), fun y hy => ?_⟩
    have := srt_mem (key := key).mpr hy
    rw [e] at this
    rcases List.mem_cons.mp this with rfl | m
    · exact ((le_total key).total y y).elim id id
    · exact (List.pairwise_cons.mp s).1 y m
end
end Kn

set_option Elab.async false
set_option linter.all false
set_option maxRecDepth 100000
set_option autoImplicit false
/-! The order of terms. -/
namespace Kn
open PySem Dt Dt.R
open L2 (Key)
open PySem.W (dataLe keyToks keyToksAll sortLe alike alikeAll)
open PySem.SeqAt PyProof.Rows
/-- the key of a term -/
def tkD : T → D
  | .inl i => .tuple [.int 0, .int i, .str ""]
  | .inr s => .tuple [.int 1, .int 0, kD (.inr s)]
def tksD (ts : List T) : D := .tuple (ts.map tkD)
theorem alike_tk (a b : T) : alike (tkD a) (tkD b) = true := by
  cases a <;> cases b <;> rfl
theorem plain_tk (a : T) : (tkD a).plain = true := by cases a <;> rfl
theorem depth_tk (a : T) : (tkD a).depth = 1 := by cases a <;> rfl
theorem tup1_tk (a : T) : isTup1 (tkD a) = true := by cases a <;> rfl
theorem keysOk_tk (xs : List T) : keysOk (xs.map tkD) = true := by
  unfold keysOk
  simp [alike_tk, plain_tk, depth_tk, tup1_tk, Function.comp_def]
theorem toks_tk {a b : T} (h : keyToks (tkD a) = keyToks (tkD b)) : a = b := by
  cases a with
  | inl i => cases b with
    | inl j =>
      simp only [tkD, keyToks, keyToksAll] at h
      simp at h
      rw [h]
    | inr y =>
      simp only [tkD, keyToks, keyToksAll] at h
      simp at h
  | inr x => cases b with
    | inl j =>
      simp only [tkD, keyToks, keyToksAll] at h
      simp at h
    | inr y =>
      have e : keyToks (tkD (.inr x)) = [.inl 1, .inl 1, .inl 1, .inl 0, .inl 1, .inr x.cps.toList, .inl 0] := rfl
      have e2 : keyToks (tkD (.inr y)) = [.inl 1, .inl 1, .inl 1, .inl 0, .inl 1, .inr y.cps.toList, .inl 0] := rfl
      rw [e, e2] at h
      injection h with _ h; injection h with _ h; injection h with _ h; injection h with _ h; injection h with _ h; injection h with h _
      injection h with h
      rw [PySem.W.str_of_cps h]
theorem apart_tk (P : T → Prop) : Apart tkD P := fun _ _ _ _ h => toks_tk h
/-- terms in order -/
def inOrd (ts : List T) : List T := srt tkD ts
/-- the key of a row of terms -/
theorem alike_tks : ∀ (a b : List T), alikeAll (a.map tkD) (b.map tkD) = true
  | [], b => by cases b <;> rfl
  | x :: a, [] => rfl
  | x :: a, y :: b => by
    show (alike (tkD x) (tkD y) && alikeAll (a.map tkD) (b.map tkD)) = true
    rw [alike_tk, alike_tks a b]; rfl
theorem plain_tks (a : List T) : (tksD a).plain = true := by
  show PyData.plain (.tuple (a.map tkD)) = true
  rw [PyData.plain]
  induction a with
  | nil => rfl
  | cons x a ih => rw [List.map_cons, PyData.plainAll, plain_tk, ih]; rfl
theorem depth_tks (a : List T) : (tksD a).depth ≤ 2 := by
  show PyData.depth (.tuple (a.map tkD)) ≤ 2
  rw [PyData.depth]
  have : PyData.depthAll (a.map tkD) ≤ 1 := by
    induction a with
    | nil => exact Nat.zero_le _
    | cons x a ih => rw [List.map_cons, PyData.depthAll, depth_tk]; omega
  omega
theorem tup1_tks {a : List T} (h : a ≠ []) : isTup1 (tksD a) = true := by
  cases a with
  | nil => exact absurd rfl h
  | cons x a => rfl
theorem keysOk_tks {α : Type} {f : α → List T} {xs : List α} (h : ∀ x ∈ xs, f x ≠ []) : keysOk (xs.map fun x => tksD (f x)) = true := by
  unfold keysOk
  refine Bool.and_eq_true_iff.mpr ⟨Bool.and_eq_true_iff.mpr ⟨?_, Bool.or_eq_true_iff.mpr (.inl ?_)⟩, ?_⟩
  · refine List.all_eq_true.mpr fun d hd => List.all_eq_true.mpr fun e he => ?_
    obtain ⟨x, _, rfl⟩ := List.mem_map.mp hd
    obtain ⟨y, _, rfl⟩ := List.mem_map.mp he
    exact alike_tks _ _
  · refine List.all_eq_true.mpr fun d hd => ?_
    obtain ⟨x, hx, rfl⟩ := List.mem_map.mp hd
    exact tup1_tks (h x hx)
  · refine List.all_eq_true.mpr fun d hd => ?_
    obtain ⟨x, hx, rfl⟩ := List.mem_map.mp hd
    have := depth_tks (f x)
    rw [plain_tks, decide_eq_true (by omega)]; rfl
theorem toks_cut {a b : T} {l m : List (Int ⊕ List Nat)} (h : keyToks (tkD a) ++ l = keyToks (tkD b) ++ m) : a = b ∧ l = m := by
  have len : ∀ t : T, (keyToks (tkD t)).length = 7 := fun t => by cases t <;> rfl
  obtain ⟨h1, h2⟩ := List.append_inj h (by rw [len, len])
  exact ⟨toks_tk h1, h2⟩
theorem toks_tks : ∀ {a b : List T}, keyToksAll (a.map tkD) = keyToksAll (b.map tkD) → a = b
  | [], [], _ => rfl
  | [], y :: b, h => by simp [keyToksAll] at h
  | x :: a, [], h => by simp [keyToksAll] at h
  | x :: a, y :: b, h => by
    rw [List.map_cons, List.map_cons, PySem.W.toks_all_cons, PySem.W.toks_all_cons] at h
    injection h with _ h
    obtain ⟨h1, h2⟩ := toks_cut h
    rw [h1, toks_tks h2]
/-- the key of a pair -/
def pkD (p : T × T) : D := tksD [p.1, p.2]
theorem apart_pk (P : T × T → Prop) : Apart pkD P := fun a b _ _ h => by
  have h' : keyToksAll ([a.1, a.2].map tkD) = keyToksAll ([b.1, b.2].map tkD) := h
  have := toks_tks h'
  injection this with h1 h2
  injection h2 with h2 _
  exact Prod.ext h1 h2
theorem keysOk_pk (xs : Ps) : keysOk (xs.map pkD) = true := keysOk_tks (f := fun p : T × T => [p.1, p.2]) fun _ _ => by simp
def psOrd (ps : Ps) : Ps := srt pkD ps
end Kn

set_option Elab.async false
set_option linter.all false
set_option maxRecDepth 100000
set_option autoImplicit false
/-! Codes: data that tell their items apart. -/
namespace Kn
open PySem Dt Dt.R
structure IsCode {α : Type} [DecidableEq α] (enc : α → D) (n : Nat) : Prop where
  plain : ∀ a, (enc a).plain = true
  depth : ∀ a, (enc a).depth ≤ n
  eqv : ∀ a b, PyData.eqv (enc a) (enc b) = decide (a = b)
  scal : ∀ a es, enc a ≠ .dict es
def tpD {α : Type} (enc : α → D) (xs : List α) : D := .tuple (xs.map enc)
section
variable {α : Type} [DecidableEq α] {enc : α → D} {n : Nat} (C : IsCode enc n)
include C
theorem IsCode.inj {a b : α} (h : enc a = enc b) : a = b := by
  have := C.eqv a b
  rw [h, C.eqv b b, decide_eq_true rfl] at this
  exact of_decide_eq_true this.symm
theorem IsCode.plainAll (xs : List α) : PyData.plainAll (xs.map enc) = true := by
  induction xs with
  | nil => rfl
  | cons x xs ih => rw [List.map_cons, PyData.plainAll, C.plain, ih]; rfl
theorem IsCode.depthAll (xs : List α) : PyData.depthAll (xs.map enc) ≤ n := by
  induction xs with
  | nil => exact Nat.zero_le _
  | cons x xs ih => rw [List.map_cons, PyData.depthAll]; have := C.depth x; omega
theorem IsCode.eqvAll (xs : List α) : ∀ ys : List α, PyData.eqvAll (xs.map enc) (ys.map enc) = decide (xs = ys) := by
  induction xs with
  | nil =>
    intro ys
    cases ys with
    | nil => rfl
    | cons y ys => rw [decide_eq_false (by simp)]; rfl
  | cons x xs ih =>
    intro ys
    cases ys with
    | nil => rw [decide_eq_false (by simp)]; rfl
    | cons y ys =>
      rw [List.map_cons, List.map_cons, PySem.W.eqv_all_cons, C.eqv, ih ys]
      by_cases h : x = y
      · by_cases g : xs = ys
        · simp [h, g]
        · simp [h, g]
      · simp [h]
theorem IsCode.tup : IsCode (tpD enc) (n + 1) where
  plain xs := by show PyData.plain (.tuple (xs.map enc)) = true; rw [PyData.plain]; exact C.plainAll xs
  depth xs := by show PyData.depth (.tuple (xs.map enc)) ≤ _; rw [PyData.depth]; have := C.depthAll xs; omega
  eqv a b := by show PyData.eqv (.tuple (a.map enc)) (.tuple (b.map enc)) = _; rw [PyData.eqv]; exact C.eqvAll a b
  scal a es := by unfold tpD; simp
theorem IsCode.elem (xs : List α) (x : α) : elemD (xs.map enc) (enc x) = decide (x ∈ xs) := by
  unfold elemD
  induction xs with
  | nil => simp
  | cons y xs ih =>
    rw [List.map_cons, List.any_cons, ih, C.eqv]
    by_cases h : y = x
    · simp [h]
    · by_cases g : x ∈ xs
      · simp [g]
      · have h' : ¬ x = y := fun z => h z.symm
        simp [h, g, h']
theorem IsCode.inOk (hn : n ≤ 100) (xs : List α) (x : α) : inOk (enc x) (xs.map enc) = true := by
  unfold Dt.inOk
  have := C.depth x
  rw [C.plainAll, C.plain, decide_eq_true (by omega)]; rfl
theorem IsCode.inL (hn : n ≤ 100) (xs : List α) (x : α) : dInA (enc x) (.list (xs.map enc)) = some (.bool (decide (x ∈ xs))) := by
  show (if Dt.inOk (enc x) (xs.map enc) = true then some (PyData.bool (elemD (xs.map enc) (enc x))) else none) = _
  rw [if_pos (C.inOk hn xs x), C.elem]
theorem IsCode.inT (hn : n ≤ 100) (xs : List α) (x : α) : dInA (enc x) (.tuple (xs.map enc)) = some (.bool (decide (x ∈ xs))) := by
  show (if Dt.inOk (enc x) (xs.map enc) = true then some (PyData.bool (elemD (xs.map enc) (enc x))) else none) = _
  rw [if_pos (C.inOk hn xs x), C.elem]
theorem IsCode.ninL (hn : n ≤ 100) (xs : List α) (x : α) : dNotInA (enc x) (.list (xs.map enc)) = some (.bool !(decide (x ∈ xs))) := by
  show (if Dt.inOk (enc x) (xs.map enc) = true then some (PyData.bool !(elemD (xs.map enc) (enc x))) else none) = _
  rw [if_pos (C.inOk hn xs x), C.elem]
theorem IsCode.ninT (hn : n ≤ 100) (xs : List α) (x : α) : dNotInA (enc x) (.tuple (xs.map enc)) = some (.bool !(decide (x ∈ xs))) := by
  show (if Dt.inOk (enc x) (xs.map enc) = true then some (PyData.bool !(elemD (xs.map enc) (enc x))) else none) = _
  rw [if_pos (C.inOk hn xs x), C.elem]
theorem IsCode.eqOk (hn : n ≤ 100) (a b : α) : Dt.eqOk (enc a) (enc b) = true := by
  unfold Dt.eqOk
  have := C.depth a
  rw [C.plain, C.plain, decide_eq_true (by omega)]; rfl
theorem IsCode.dEq (hn : n ≤ 100) (a b : α) : Dt.dEq (enc a) (enc b) = some (.bool (decide (a = b))) := by
  unfold Dt.dEq
  rw [if_pos (C.eqOk hn a b), C.eqv]
theorem IsCode.dNe (hn : n ≤ 100) (a b : α) : Dt.dNe (enc a) (enc b) = some (.bool !(decide (a = b))) := by
  unfold Dt.dNe
  rw [if_pos (C.eqOk hn a b), C.eqv]
end
theorem code_kD : IsCode kD 0 := ⟨plain_kD, fun a => by rw [depth_kD]; exact Nat.le_refl _, eqv_kD, fun a es => by cases a <;> simp [kD]⟩
theorem code_pair : IsCode pairD 1 where
  plain p := (code_kD.tup.plain [p.1, p.2])
  depth p := (code_kD.tup.depth [p.1, p.2])
  eqv p q := by
    have := code_kD.tup.eqv [p.1, p.2] [q.1, q.2]
    show PyData.eqv (tpD kD [p.1, p.2]) (tpD kD [q.1, q.2]) = _
    rw [this]
    refine decide_eq_decide.mpr ⟨fun h => ?_, fun h => by rw [h]⟩
    injection h with h1 h2
    injection h2 with h2 _
    exact Prod.ext h1 h2
  scal p es := by unfold pairD; simp
theorem code_ps : IsCode psD 2 := code_pair.tup
theorem code_kn : IsCode knD 3 where
  plain p := (code_ps.tup.plain [p.1, p.2])
  depth p := (code_ps.tup.depth [p.1, p.2])
  eqv p q := by
    have := code_ps.tup.eqv [p.1, p.2] [q.1, q.2]
    show PyData.eqv (tpD psD [p.1, p.2]) (tpD psD [q.1, q.2]) = _
    rw [this]
    refine decide_eq_decide.mpr ⟨fun h => ?_, fun h => by rw [h]⟩
    injection h with h1 h2
    injection h2 with h2 _
    exact Prod.ext h1 h2
  scal p es := by unfold knD; simp
/-- each once, in the order of coming -/
def dbl {α : Type} [DecidableEq α] (xs : List α) : List α := xs.foldl (fun o x => if x ∈ o then o else o ++ [x]) []
section
variable {α : Type} [DecidableEq α]
theorem dbl_from : ∀ (xs o : List α), o.Nodup → (xs.foldl (fun o x => if x ∈ o then o else o ++ [x]) o).Nodup ∧ ∀ y, y ∈ xs.foldl (fun o x => if x ∈ o then o else o ++ [x]) o ↔ y ∈ o ∨ y ∈ xs
  | [], o, h => ⟨h, fun y => by simp⟩
  | x :: xs, o, h => by
    rw [List.foldl_cons]
    by_cases hx : x ∈ o
    · rw [if_pos hx]
      obtain ⟨h1, h2⟩ := dbl_from xs o h
      refine ⟨h1, fun y => (h2 y).trans ?_⟩
      rw [List.mem_cons]
      exact ⟨fun z => z.imp id .inr, fun z => z.elim .inl fun z => z.elim (fun e => .inl (e ▸ hx)) .inr⟩
    · rw [if_neg hx]
      obtain ⟨h1, h2⟩ := dbl_from xs (o ++ [x]) (List.nodup_append.mpr ⟨h, by simp, fun a ha b hb => by
        have : b = x := by simpa using hb
        subst this
        exact fun z => hx (z ▸ ha)⟩)
      refine ⟨h1, fun y => (h2 y).trans ?_⟩
      rw [List.mem_append, List.mem_singleton, List.mem_cons, or_assoc]
theorem dbl_nodup (xs : List α) : (dbl xs).Nodup := (dbl_from xs [] List.nodup_nil).1
theorem dbl_mem {xs : List α} {y : α} : y ∈ dbl xs ↔ y ∈ xs := ((dbl_from xs [] List.nodup_nil).2 y).trans (by simp)
theorem dbl_len (xs : List α) : ∀ o : List α, (xs.foldl (fun o x => if x ∈ o then o else o ++ [x]) o).length ≤ o.length + xs.length := by
  induction xs with
  | nil => intro o; simp
  | cons x xs ih =>
    intro o
    rw [List.foldl_cons, List.length_cons]
    have := ih (if x ∈ o then o else o ++ [x])
    by_cases h : x ∈ o
    · rw [if_pos h] at this ⊢; omega
    · rw [if_neg h] at this ⊢
      rw [List.length_append, List.length_singleton] at this
      omega
end
end Kn

set_option Elab.async false
set_option linter.all false
set_option maxRecDepth 100000
set_option autoImplicit false
/-! Dicts with terms as keys. -/
namespace Kn
open PySem Dt Dt.R
section
variable {β : Type} {f : β → D}
def dmD (f : β → D) (m : List (T × β)) : List (D × D) := m.map fun e => (kD e.1, f e.2)
def lkG (m : List (T × β)) (k : T) : Option β := (m.find? fun e => decide (e.1 = k)).map (·.2)
def putG (m : List (T × β)) (k : T) (v : β) : List (T × β) := if (lkG m k).isSome then m.map (fun e => if e.1 = k then (e.1, v) else e) else m ++ [(k, v)]
theorem lkG_nil {k : T} : lkG ([] : List (T × β)) k = none := rfl
theorem lkG_cons {e : T × β} {m : List (T × β)} {k : T} : lkG (e :: m) k = if e.1 = k then some e.2 else lkG m k := by
  unfold lkG
  rw [List.find?_cons]
  by_cases h : e.1 = k
  · rw [decide_eq_true h, if_pos h]; rfl
  · rw [decide_eq_false h, if_neg h]
theorem flat_dm (m : List (T × β)) : flatK (dmD f m) = true := by
  unfold flatK dmD
  rw [List.all_map]
  exact List.all_eq_true.mpr fun e _ => by show (keyOf (kD e.1)).isSome = true; rw [keyOf_kD]; rfl
theorem dlook_dm (m : List (T × β)) (k : T) : dlook (dmD f m) k = (lkG m k).map f := by
  induction m with
  | nil => rfl
  | cons e n ih =>
    rw [lkG_cons]
    show dlook ((kD e.1, _) :: dmD f n) k = _
    unfold dlook at ih ⊢
    rw [List.find?_cons, keyOf_kD]
    by_cases h : e.1 = k
    · simp [h]
    · rw [decide_eq_false fun z => h (Option.some.inj z), if_neg h]; exact ih
theorem any_dm (m : List (T × β)) (k : T) : ((dmD f m).any fun e => decide (keyOf e.1 = some k)) = (lkG m k).isSome := by
  induction m with
  | nil => rfl
  | cons e n ih =>
    show (((kD e.1, _) :: dmD f n).any _) = _
    rw [List.any_cons, ih, lkG_cons, keyOf_kD]
    by_cases h : e.1 = k
    · simp [h]
    · rw [decide_eq_false fun z => h (Option.some.inj z), if_neg h]; rfl
theorem dput_dm (m : List (T × β)) (k : T) (v : β) : dput (dmD f m) k (f v) = dmD f (putG m k v) := by
  unfold putG
  by_cases h : (lkG m k).isSome = true
  · rw [if_pos h]
    unfold dput
    rw [any_dm, if_pos h]
    unfold dmD
    rw [List.map_map, List.map_map]
    refine List.map_congr_left fun e _ => ?_
    show (if keyOf (kD e.1) = some k then (kD e.1, f v) else (kD e.1, f e.2)) = _
    rw [keyOf_kD]
    by_cases g : e.1 = k
    · rw [if_pos (congrArg some g)]
      show _ = (kD (if e.1 = k then (e.1, v) else e).1, f (if e.1 = k then (e.1, v) else e).2)
      rw [if_pos g]
    · rw [if_neg fun z => g (Option.some.inj z)]
      show _ = (kD (if e.1 = k then (e.1, v) else e).1, f (if e.1 = k then (e.1, v) else e).2)
      rw [if_neg g]
  · rw [if_neg h]
    unfold dput
    rw [any_dm, if_neg h]
    unfold dmD
    rw [List.map_append]; rfl
theorem dmerge_dm (m : List (T × β)) : ∀ n : List (T × β), dmerge (dmD f n) (dmD f m) = dmD f (m.foldl (fun n e => putG n e.1 e.2) n) := by
  induction m with
  | nil => intro n; rfl
  | cons e m ih =>
    intro n
    have e1 : dmerge (dmD f n) (dmD f (e :: m)) = dmerge (dput (dmD f n) e.1 (f e.2)) (dmD f m) := by
      show dmerge (dmD f n) ((kD e.1, f e.2) :: dmD f m) = _
      unfold dmerge
      rw [List.foldl_cons, keyOf_kD]
    rw [e1, dput_dm, ih]; rfl
theorem keys_dm (m : List (T × β)) : keysD (dmD f m) = m.map fun e => kD e.1 := by
  unfold keysD dmD
  rw [List.map_map]; rfl
theorem pairsOf_dm (m : List (T × β)) : pairsOf (m.map fun e => .tuple [kD e.1, f e.2]) = some (dmD f m) := by
  induction m with
  | nil => rfl
  | cons e m ih =>
    rw [List.map_cons]
    unfold pairsOf
    rw [keyOf_kD, ih]; rfl
theorem dIxA_dm {m : List (T × β)} {k : T} {v : β} (h : lkG m k = some v) : dIxA (.dict (dmD f m)) (kD k) = some (f v) := by
  show (if flatK (dmD f m) then (keyOf (kD k)).bind (dlook (dmD f m)) else _) = _
  rw [if_pos (flat_dm m), keyOf_kD]
  show dlook (dmD f m) k = _
  rw [dlook_dm, h]; rfl
theorem dGet2_dm (m : List (T × β)) (k : T) (x : D) : dGet2 (dmD f m) (kD k) x = some (((lkG m k).map f).getD x) := by
  unfold dGet2
  rw [if_pos (flat_dm m), keyOf_kD]
  show some ((dlook (dmD f m) k).getD x) = _
  rw [dlook_dm]
theorem lkG_put (m : List (T × β)) (k x : T) (v : β) : lkG (putG m k v) x = if x = k then some v else lkG m x := by
  unfold putG
  by_cases h : (lkG m k).isSome = true
  · rw [if_pos h]
    induction m with
    | nil => cases h
    | cons e m ih =>
      rw [List.map_cons, lkG_cons, lkG_cons]
      rw [lkG_cons] at h
      by_cases g : e.1 = k
      · rw [if_pos g]
        show (if e.1 = x then some v else _) = _
        by_cases q : e.1 = x
        · rw [if_pos q, if_pos (q ▸ g)]
        · have q' : ¬ x = k := fun z => q (g.trans z.symm)
          rw [if_neg q, if_neg q', if_neg q]
          -- the rest does not change x
          clear ih h
          induction m with
          | nil => rfl
          | cons e2 m ih2 =>
            rw [List.map_cons, lkG_cons, lkG_cons, ih2]
            by_cases g2 : e2.1 = k
            · rw [if_pos g2]
              have q2 : ¬ e2.1 = x := fun z => q' (z.symm.trans g2)
              show (if e2.1 = x then _ else _) = _
              rw [if_neg q2, if_neg q2]
            · rw [if_neg g2]
      · rw [if_neg g] at h ⊢
        rw [ih h]
        by_cases q : e.1 = x
        · have : ¬ x = k := fun z => g (q.trans z)
          rw [if_pos q, if_neg this, if_pos q]
        · rw [if_neg q, if_neg q]
  · rw [if_neg h]
    have hn : lkG m k = none := by cases e : lkG m k with | none => rfl | some v => rw [e] at h; exact absurd rfl h
    clear h
    induction m with
    | nil =>
      rw [List.nil_append, lkG_cons]
      by_cases q : k = x
      · rw [if_pos q, if_pos q.symm]
      · rw [if_neg q, if_neg fun z => q z.symm]
    | cons e m ih =>
      rw [lkG_cons] at hn
      by_cases g : e.1 = k
      · rw [if_pos g] at hn; cases hn
      · rw [if_neg g] at hn
        rw [List.cons_append, lkG_cons, lkG_cons, ih hn]
        by_cases q : e.1 = x
        · have : ¬ x = k := fun z => g (q.trans z)
          rw [if_pos q, if_neg this, if_pos q]
        · rw [if_neg q, if_neg q]
end
end Kn

set_option Elab.async false
set_option linter.all false
set_option maxRecDepth 100000
set_option autoImplicit false
/-! Terms by the number of their class. -/
namespace Kn
open PySem Dt Dt.R
def ky (n : Nat) : T := .inl (n : Int)
theorem ky_inj {a b : Nat} (h : ky a = ky b) : a = b := by
  have := Sum.inl.inj h
  omega
def lsD (ts : List T) : D := .list (ts.map kD)
def clsAt (nm : Nm) (n : Nat) : List T := (nm.filter fun e => decide (e.2 = n)).map (·.1)
def grp (nm : Nm) : List (T × List T) := (dbl (nm.map (·.2))).map fun n => (ky n, clsAt nm n)
theorem dbl_snoc {α : Type} [DecidableEq α] (xs : List α) (x : α) : dbl (xs ++ [x]) = if x ∈ xs then dbl xs else dbl xs ++ [x] := by
  have : dbl (xs ++ [x]) = if x ∈ dbl xs then dbl xs else dbl xs ++ [x] := by
    unfold dbl
    rw [List.foldl_append]; rfl
  rw [this]
  by_cases h : x ∈ xs
  · rw [if_pos h, if_pos (dbl_mem.mpr h)]
  · rw [if_neg h, if_neg fun z => h (dbl_mem.mp z)]
theorem lkG_map {β : Type} (F : Nat → β) (ns : List Nat) (n : Nat) : lkG (ns.map fun n => (ky n, F n)) (ky n) = if n ∈ ns then some (F n) else none := by
  induction ns with
  | nil => rfl
  | cons m ns ih =>
    rw [List.map_cons, lkG_cons, ih]
    by_cases h : m = n
    · subst h
      rw [if_pos rfl, if_pos List.mem_cons_self]
    · rw [if_neg fun z => h (ky_inj z)]
      by_cases g : n ∈ ns
      · rw [if_pos g, if_pos (List.mem_cons_of_mem _ g)]
      · rw [if_neg g, if_neg fun z => (List.mem_cons.mp z).elim (fun e => h e.symm) g]
theorem clsAt_none {nm : Nm} {n : Nat} (h : n ∉ nm.map (·.2)) : clsAt nm n = [] := by
  unfold clsAt
  rw [List.map_eq_nil_iff, List.filter_eq_nil_iff]
  intro e he z
  exact h (List.mem_map.mpr ⟨e, he, of_decide_eq_true z⟩)
theorem clsAt_snoc (nm : Nm) (e : T × Nat) (n : Nat) : clsAt (nm ++ [e]) n = if e.2 = n then clsAt nm n ++ [e.1] else clsAt nm n := by
  unfold clsAt
  rw [List.filter_append, List.map_append]
  by_cases h : e.2 = n
  · rw [if_pos h, List.filter_cons_of_pos (by simpa using h)]; rfl
  · rw [if_neg h, List.filter_cons_of_neg (by simpa using h)]; simp
theorem lk_grp (nm : Nm) (n : Nat) : (lkG (grp nm) (ky n)).getD [] = clsAt nm n := by
  unfold grp
  rw [lkG_map]
  by_cases h : n ∈ nm.map (·.2)
  · rw [if_pos (dbl_mem.mpr h)]; rfl
  · rw [if_neg fun z => h (dbl_mem.mp z), clsAt_none h]; rfl
theorem grp_snoc (nm : Nm) (e : T × Nat) : putG (grp nm) (ky e.2) (clsAt nm e.2 ++ [e.1]) = grp (nm ++ [e]) := by
  have l : (lkG (grp nm) (ky e.2)).isSome = decide (e.2 ∈ nm.map (·.2)) := by
    unfold grp
    rw [lkG_map]
    by_cases h : e.2 ∈ nm.map (·.2)
    · rw [if_pos (dbl_mem.mpr h), decide_eq_true h]; rfl
    · rw [if_neg fun z => h (dbl_mem.mp z), decide_eq_false h]; rfl
  unfold putG
  rw [l]
  have e0 : grp (nm ++ [e]) = (if e.2 ∈ nm.map (·.2) then dbl (nm.map (·.2)) else dbl (nm.map (·.2)) ++ [e.2]).map fun n => (ky n, clsAt (nm ++ [e]) n) := by
    unfold grp
    rw [List.map_append]
    show (dbl (nm.map (·.2) ++ [e.2])).map _ = _
    rw [dbl_snoc]
  have up : ∀ n, n ≠ e.2 → (ky n, clsAt (nm ++ [e]) n) = (ky n, clsAt nm n) := fun n hn => by rw [clsAt_snoc, if_neg fun z => hn z.symm]
  have me : (ky e.2, clsAt (nm ++ [e]) e.2) = (ky e.2, clsAt nm e.2 ++ [e.1]) := by rw [clsAt_snoc, if_pos rfl]
  rw [e0]
  by_cases h : e.2 ∈ nm.map (·.2)
  · rw [if_pos h, if_pos (decide_eq_true h)]
    unfold grp
    rw [List.map_map]
    refine List.map_congr_left fun n _ => ?_
    show (if ky n = ky e.2 then _ else _) = _
    by_cases g : n = e.2
    · subst g; rw [if_pos rfl]; exact me.symm
    · rw [if_neg fun z => g (ky_inj z), up n g]
  · rw [if_neg h, if_neg (by simpa using h), List.map_append, List.map_cons, List.map_nil, me]
    refine congrArg (· ++ _) ?_
    unfold grp
    refine List.map_congr_left fun n hn => (up n fun z => h (z ▸ dbl_mem.mp hn)).symm
theorem grp_len (nm : Nm) : (grp nm).length ≤ nm.length := by
  unfold grp dbl
  rw [List.length_map]
  have := dbl_len (nm.map (·.2)) []
  rw [List.length_map] at this
  simpa using this
end Kn

set_option Elab.async false
set_option linter.all false
set_option maxRecDepth 100000
set_option autoImplicit false
namespace Kn
open PySem Dt Dt.R
def unk (t : T) : Bool := t.isLeft
/-- no number below 0 -/
def Nn : T → Prop
  | .inl i => 0 ≤ i
  | .inr _ => True
end Kn
namespace Lw
open PySem Kn Dt Dt.R
open L2 (Key)
theorem m_unk {t : T} (h : Nn t) : m_is_unknown [kD t] = .ok (.bool (unk t)) := by
  cases t with
  | inl i =>
    have h' : (0 : Int) ≤ i := h
    have e : dIsi "int" (.int i) = true := rfl
    simp [runF, runI, runFr, startE, sSeq, sSet, sExpr, sRet, sRetN, sIf, sForE, mIf, mTru, mBool, mNotB, mAndB, mOrB, mCallF, mCall, aCons, aNil, var, getv, cst, mOp, mUn, mTup, mLst, mAnd, mOr, gSet, gOwn, gTpl, gsCons, gsNil, iSq, items, mDict0, R.bind, R.opt, R.nox, truD, tru, asB, m_is_unknown, b_is_unknown, mIsi, kD, dGe, unk, e, h']
  | inr s => rfl
theorem m_tk {t : T} (h : Nn t) : m_term_key [kD t] = .ok (tkD t) := by
  cases t with
  | inl i => simp [runF, runI, runFr, startE, sSeq, sSet, sExpr, sRet, sRetN, sIf, sForE, mIf, mTru, mBool, mNotB, mAndB, mOrB, mCallF, mCall, aCons, aNil, var, getv, cst, mOp, mUn, mTup, mLst, mAnd, mOr, gSet, gOwn, gTpl, gsCons, gsNil, iSq, items, mDict0, R.bind, R.opt, R.nox, truD, tru, asB, m_term_key, b_term_key, m_unk h, unk]; rfl
  | inr s => simp [runF, runI, runFr, startE, sSeq, sSet, sExpr, sRet, sRetN, sIf, sForE, mIf, mTru, mBool, mNotB, mAndB, mOrB, mCallF, mCall, aCons, aNil, var, getv, cst, mOp, mUn, mTup, mLst, mAnd, mOr, gSet, gOwn, gTpl, gsCons, gsNil, iSq, items, mDict0, R.bind, R.opt, R.nox, truD, tru, asB, m_term_key, b_term_key, m_unk h, unk]; rfl
theorem m_tks {ts : List T} (h : ∀ t ∈ ts, Nn t) : m_terms_key [.tuple (ts.map kD)] = .ok (tksD ts) := by
  have e := lc_map (g := gSet 1) (vs := [1]) (me := mCallF m_term_key (aCons (var 1) aNil)) (ρ := [some (.tuple (ts.map kD)), none]) (enc := kD) (f := tkD) (xs := ts) fun t ht => ⟨_, _, rfl, by simp [runF, runI, runFr, startE, sSeq, sSet, sExpr, sRet, sRetN, sIf, sForE, mIf, mTru, mBool, mNotB, mAndB, mOrB, mCallF, mCall, aCons, aNil, var, getv, cst, mOp, mUn, mTup, mLst, mAnd, mOr, gSet, gOwn, gTpl, gsCons, gsNil, iSq, items, mDict0, R.bind, R.opt, R.nox, truD, tru, asB, wipeE, m_tk (h t ht)]; rfl⟩
  simp [runF, runI, runFr, startE, sSeq, sSet, sExpr, sRet, sRetN, sIf, sForE, mIf, mTru, mBool, mNotB, mAndB, mOrB, mCallF, mCall, aCons, aNil, var, getv, cst, mOp, mUn, mTup, mLst, mAnd, mOr, gSet, gOwn, gTpl, gsCons, gsNil, iSq, items, mDict0, R.bind, R.opt, R.nox, truD, tru, asB, m_terms_key, b_terms_key, mLc, iSq, items, e, dTuple]
  rfl
theorem m_inord {ts : List T} (h : ∀ t ∈ ts, Nn t) : m_in_order [.list (ts.map kD)] = .ok (.tuple ((inOrd ts).map kD)) := by
  have e := dSortK_map (enc := kD) (key := tkD) (fn := m_term_key) (xs := ts) (fun t ht => m_tk (h t ht)) (keysOk_tk ts)
  simp [runF, runI, runFr, startE, sSeq, sSet, sExpr, sRet, sRetN, sIf, sForE, mIf, mTru, mBool, mNotB, mAndB, mOrB, mCallF, mCall, aCons, aNil, var, getv, cst, mOp, mUn, mTup, mLst, mAnd, mOr, gSet, gOwn, gTpl, gsCons, gsNil, iSq, items, mDict0, R.bind, R.opt, R.nox, truD, tru, asB, m_in_order, b_in_order, e, dTuple]
  rfl
theorem m_inordT {ts : List T} (h : ∀ t ∈ ts, Nn t) : m_in_order [.tuple (ts.map kD)] = .ok (.tuple ((inOrd ts).map kD)) := by
  have e := dSortK_mapT (enc := kD) (key := tkD) (fn := m_term_key) (xs := ts) (fun t ht => m_tk (h t ht)) (keysOk_tk ts)
  simp [runF, runI, runFr, startE, sSeq, sSet, sExpr, sRet, sRetN, sIf, sForE, mIf, mTru, mBool, mNotB, mAndB, mOrB, mCallF, mCall, aCons, aNil, var, getv, cst, mOp, mUn, mTup, mLst, mAnd, mOr, gSet, gOwn, gTpl, gsCons, gsNil, iSq, items, mDict0, R.bind, R.opt, R.nox, truD, tru, asB, m_in_order, b_in_order, e, dTuple]
  rfl
theorem m_wd {α : Type} [DecidableEq α] {enc : α → D} {n : Nat} (C : IsCode enc n) (hn : n ≤ 100) (xs : List α) (hz : xs.length ≤ 1000000) (tup : Bool) :
    m_without_doubles [if tup then .tuple (xs.map enc) else .list (xs.map enc)] = .ok (.list ((dbl xs).map enc)) := by
  have main : ∀ d0 : D, ∃ ρ', sFor (gSet 2) (sIf (mBool (mOp dNotInA (var 2) (var 1))) (sExpr (eApp 1 (var 2))) sNil) (xs.map enc) [some d0, some (.list []), none] = .ok (.nx, ρ') ∧
      (∃ o v, ρ' = [some d0, some (.list (o.map enc)), v] ∧ o.length + ([] : List α).length ≤ 1000000 ∧ ([] : List α).foldl (fun o x => if x ∈ o then o else o ++ [x]) o = dbl xs) := fun d0 =>
    for_all (I := fun l ρ => ∃ o v, ρ = [some d0, some (.list (o.map enc)), v] ∧ o.length + l.length ≤ 1000000 ∧ l.foldl (fun o x => if x ∈ o then o else o ++ [x]) o = dbl xs) (fun x l ρ h => by
      obtain ⟨o, v, rfl, hl, hf⟩ := h
      rw [List.length_cons] at hl
      rw [List.foldl_cons] at hf
      by_cases hx : x ∈ o
      · rw [if_pos hx] at hf
        refine ⟨_, [some d0, some (.list (o.map enc)), some (enc x)], rfl, .inl ?_, o, _, rfl, by omega, hf⟩
        simp [runF, runI, runFr, startE, sSeq, sSet, sExpr, sRet, sRetN, sIf, sForE, mIf, mTru, mBool, mNotB, mAndB, mOrB, mCallF, mCall, aCons, aNil, var, getv, cst, mOp, mUn, mTup, mLst, mAnd, mOr, gSet, gOwn, gTpl, gsCons, gsNil, iSq, items, mDict0, R.bind, R.opt, R.nox, truD, tru, asB, C.ninL hn, hx, sNil]
      · rw [if_neg hx] at hf
        refine ⟨_, [some d0, some (.list ((o ++ [x]).map enc)), some (enc x)], rfl, .inl ?_, o ++ [x], _, rfl, by rw [List.length_append, List.length_singleton]; omega, hf⟩
        have hs : o.length < sizeLine := by rw [sizeN]; omega
        simp [runF, runI, runFr, startE, sSeq, sSet, sExpr, sRet, sRetN, sIf, sForE, mIf, mTru, mBool, mNotB, mAndB, mOrB, mCallF, mCall, aCons, aNil, var, getv, cst, mOp, mUn, mTup, mLst, mAnd, mOr, gSet, gOwn, gTpl, gsCons, gsNil, iSq, items, mDict0, R.bind, R.opt, R.nox, truD, tru, asB, C.ninL hn, hx, eApp, asL, hs]) ⟨[], none, rfl, by simpa using hz, rfl⟩
  cases tup with
  | false =>
    obtain ⟨ρ', h1, o, v, rfl, _, hf⟩ := main (.list (xs.map enc))
    have hf : o = dbl xs := hf
    subst hf
    simp [runF, runI, runFr, startE, sSeq, sSet, sExpr, sRet, sRetN, sIf, sForE, mIf, mTru, mBool, mNotB, mAndB, mOrB, mCallF, mCall, aCons, aNil, var, getv, cst, mOp, mUn, mTup, mLst, mAnd, mOr, gSet, gOwn, gTpl, gsCons, gsNil, iSq, items, mDict0, R.bind, R.opt, R.nox, truD, tru, asB, m_without_doubles, b_without_doubles, h1]
  | true =>
    obtain ⟨ρ', h1, o, v, rfl, _, hf⟩ := main (.tuple (xs.map enc))
    have hf : o = dbl xs := hf
    subst hf
    simp [runF, runI, runFr, startE, sSeq, sSet, sExpr, sRet, sRetN, sIf, sForE, mIf, mTru, mBool, mNotB, mAndB, mOrB, mCallF, mCall, aCons, aNil, var, getv, cst, mOp, mUn, mTup, mLst, mAnd, mOr, gSet, gOwn, gTpl, gsCons, gsNil, iSq, items, mDict0, R.bind, R.opt, R.nox, truD, tru, asB, m_without_doubles, b_without_doubles, h1]
end Lw

set_option Elab.async false
set_option linter.all false
set_option maxRecDepth 100000
set_option autoImplicit false
namespace Kn
open PySem Dt Dt.R
def once (ts : List T) : List T := inOrd (dbl ts)
def least (ts : List T) : T := (inOrd ts).headD (.inl 0)
def nmsIn (ts : List T) : List T := once (ts.filter fun t => !unk t)
def toldOf (ts : List T) : T := match nmsIn ts with
  | [x] => x
  | _ => least ts
end Kn
namespace Lw
open PySem Kn Dt Dt.R
open L2 (Key)
theorem ix0 (d : D) (ds : List D) : dIxA (.tuple (d :: ds)) (.int 0) = some d := by
  show dIx (.tuple (d :: ds)) (.int 0) = some d
  simp [runF, runI, runFr, startE, sSeq, sSet, sExpr, sRet, sRetN, sIf, sForE, mIf, mTru, mBool, mNotB, mAndB, mOrB, mCallF, mCall, aCons, aNil, var, getv, cst, mOp, mUn, mTup, mLst, mAnd, mOr, gSet, gOwn, gTpl, gsCons, gsNil, iSq, items, mDict0, R.bind, R.opt, R.nox, truD, tru, asB, dIx, L2.atI, L2.ixN]
theorem m_once {ts : List T} (h : ∀ t ∈ ts, Nn t) (hz : ts.length ≤ 1000000) : m_each_once [.list (ts.map kD)] = .ok (.tuple ((once ts).map kD)) := by
  have e1 := m_wd code_kD (by decide) ts hz false
  have e2 := m_inord (ts := dbl ts) fun t ht => h t (dbl_mem.mp ht)
  have e1' : m_without_doubles [.list (ts.map kD)] = .ok (.list ((dbl ts).map kD)) := e1
  simp [runF, runI, runFr, startE, sSeq, sSet, sExpr, sRet, sRetN, sIf, sForE, mIf, mTru, mBool, mNotB, mAndB, mOrB, mCallF, mCall, aCons, aNil, var, getv, cst, mOp, mUn, mTup, mLst, mAnd, mOr, gSet, gOwn, gTpl, gsCons, gsNil, iSq, items, mDict0, R.bind, R.opt, R.nox, truD, tru, asB, m_each_once, b_each_once, e1', e2, once]
theorem m_onceT {ts : List T} (h : ∀ t ∈ ts, Nn t) (hz : ts.length ≤ 1000000) : m_each_once [.tuple (ts.map kD)] = .ok (.tuple ((once ts).map kD)) := by
  have e1 := m_wd code_kD (by decide) ts hz true
  have e2 := m_inord (ts := dbl ts) fun t ht => h t (dbl_mem.mp ht)
  have e1' : m_without_doubles [.tuple (ts.map kD)] = .ok (.list ((dbl ts).map kD)) := e1
  simp [runF, runI, runFr, startE, sSeq, sSet, sExpr, sRet, sRetN, sIf, sForE, mIf, mTru, mBool, mNotB, mAndB, mOrB, mCallF, mCall, aCons, aNil, var, getv, cst, mOp, mUn, mTup, mLst, mAnd, mOr, gSet, gOwn, gTpl, gsCons, gsNil, iSq, items, mDict0, R.bind, R.opt, R.nox, truD, tru, asB, m_each_once, b_each_once, e1', e2, once]
theorem m_least {ts : List T} (h : ∀ t ∈ ts, Nn t) (h0 : ts ≠ []) : m_least_term [.tuple (ts.map kD)] = .ok (kD (least ts)) := by
  have e2 := m_inordT (ts := ts) h
  have : inOrd ts ≠ [] := fun z => h0 (by
    have := srt_len (key := tkD) (xs := ts)
    unfold inOrd at z
    rw [z] at this
    exact List.length_eq_zero_iff.mp this.symm)
  cases e : inOrd ts with
  | nil => exact absurd e this
  | cons x xs =>
    have e3 : dIxA (.tuple (kD x :: xs.map kD)) (.int 0) = some (kD x) := ix0 _ _
    simp [runF, runI, runFr, startE, sSeq, sSet, sExpr, sRet, sRetN, sIf, sForE, mIf, mTru, mBool, mNotB, mAndB, mOrB, mCallF, mCall, aCons, aNil, var, getv, cst, mOp, mUn, mTup, mLst, mAnd, mOr, gSet, gOwn, gTpl, gsCons, gsNil, iSq, items, mDict0, R.bind, R.opt, R.nox, truD, tru, asB, m_least_term, b_least_term, e2, least, e, e3]
theorem m_names {ts : List T} (h : ∀ t ∈ ts, Nn t) (hz : ts.length ≤ 1000000) : m_names_in [.tuple (ts.map kD)] = .ok (.tuple ((nmsIn ts).map kD)) := by
  have e := lc_eval (g := gSet 1) (vs := [1]) (tt := mNotB (mTru (mCallF m_is_unknown (aCons (var 1) aNil)))) (me := var 1) (ρ := [some (.tuple (ts.map kD)), none]) (enc := kD) (c := fun t => !unk t) (f := kD) (xs := ts)
    fun t ht => ⟨[some (.tuple (ts.map kD)), some (kD t)], _, rfl, by simp [runF, runI, runFr, startE, sSeq, sSet, sExpr, sRet, sRetN, sIf, sForE, mIf, mTru, mBool, mNotB, mAndB, mOrB, mCallF, mCall, aCons, aNil, var, getv, cst, mOp, mUn, mTup, mLst, mAnd, mOr, gSet, gOwn, gTpl, gsCons, gsNil, iSq, items, mDict0, R.bind, R.opt, R.nox, truD, tru, asB, m_unk (h t ht)]; rfl, fun _ => ⟨_, by simp [runF, runI, runFr, startE, sSeq, sSet, sExpr, sRet, sRetN, sIf, sForE, mIf, mTru, mBool, mNotB, mAndB, mOrB, mCallF, mCall, aCons, aNil, var, getv, cst, mOp, mUn, mTup, mLst, mAnd, mOr, gSet, gOwn, gTpl, gsCons, gsNil, iSq, items, mDict0, R.bind, R.opt, R.nox, truD, tru, asB]; rfl⟩⟩
  have e2 := m_once (ts := ts.filter fun t => !unk t) (fun t ht => h t (List.mem_filter.mp ht).1) (Nat.le_trans (List.length_filter_le _ _) hz)
  simp [runF, runI, runFr, startE, sSeq, sSet, sExpr, sRet, sRetN, sIf, sForE, mIf, mTru, mBool, mNotB, mAndB, mOrB, mCallF, mCall, aCons, aNil, var, getv, cst, mOp, mUn, mTup, mLst, mAnd, mOr, gSet, gOwn, gTpl, gsCons, gsNil, iSq, items, mDict0, R.bind, R.opt, R.nox, truD, tru, asB, m_names_in, b_names_in, mLc, e, e2, nmsIn]
theorem dLen_list (ds : List D) : dLenA [.list ds] = some (.int ds.length) := rfl
theorem dLen_tup (ds : List D) : dLenA [.tuple ds] = some (.int ds.length) := rfl
theorem m_told {ts : List T} (h : ∀ t ∈ ts, Nn t) (hz : ts.length ≤ 1000000) (h0 : ts ≠ []) : m_told_of_class [.tuple (ts.map kD)] = .ok (kD (toldOf ts)) := by
  have e := m_names h hz
  have e2 := m_least h h0
  have eq1 : ∀ n : Nat, dEq (.int (n : Int)) (.int 1) = some (.bool (decide (n = 1))) := fun n => dEq_nat n 1
  unfold toldOf
  cases en : nmsIn ts with
  | nil => simp [runF, runI, runFr, startE, sSeq, sSet, sExpr, sRet, sRetN, sIf, sForE, mIf, mTru, mBool, mNotB, mAndB, mOrB, mCallF, mCall, aCons, aNil, var, getv, cst, mOp, mUn, mTup, mLst, mAnd, mOr, gSet, gOwn, gTpl, gsCons, gsNil, iSq, items, mDict0, R.bind, R.opt, R.nox, truD, tru, asB, m_told_of_class, b_told_of_class, e, en, e2, dLen_tup, show dEq (.int 0) (.int 1) = some (.bool false) from rfl]
  | cons x xs => cases xs with
    | nil => simp [runF, runI, runFr, startE, sSeq, sSet, sExpr, sRet, sRetN, sIf, sForE, mIf, mTru, mBool, mNotB, mAndB, mOrB, mCallF, mCall, aCons, aNil, var, getv, cst, mOp, mUn, mTup, mLst, mAnd, mOr, gSet, gOwn, gTpl, gsCons, gsNil, iSq, items, mDict0, R.bind, R.opt, R.nox, truD, tru, asB, m_told_of_class, b_told_of_class, e, en, dLen_tup, show dEq (.int 1) (.int 1) = some (.bool true) from rfl, show dIxA (.tuple [kD x]) (.int 0) = some (kD x) from rfl]
    | cons y zs =>
      have e4 : ∃ n : Nat, dLenA [.tuple (kD x :: kD y :: zs.map kD)] = some (.int n) ∧ dEq (.int (n : Int)) (.int 1) = some (.bool false) := ⟨_, dLen_tup _, by rw [eq1]; simp [runF, runI, runFr, startE, sSeq, sSet, sExpr, sRet, sRetN, sIf, sForE, mIf, mTru, mBool, mNotB, mAndB, mOrB, mCallF, mCall, aCons, aNil, var, getv, cst, mOp, mUn, mTup, mLst, mAnd, mOr, gSet, gOwn, gTpl, gsCons, gsNil, iSq, items, mDict0, R.bind, R.opt, R.nox, truD, tru, asB]⟩
      obtain ⟨n, e4, e5⟩ := e4
      simp [runF, runI, runFr, startE, sSeq, sSet, sExpr, sRet, sRetN, sIf, sForE, mIf, mTru, mBool, mNotB, mAndB, mOrB, mCallF, mCall, aCons, aNil, var, getv, cst, mOp, mUn, mTup, mLst, mAnd, mOr, gSet, gOwn, gTpl, gsCons, gsNil, iSq, items, mDict0, R.bind, R.opt, R.nox, truD, tru, asB, m_told_of_class, b_told_of_class, e, en, e2, e4, e5]
end Lw

set_option Elab.async false
set_option linter.all false
set_option maxRecDepth 100000
set_option autoImplicit false
namespace Lw
open PySem Kn Dt Dt.R
open L2 (Key)
theorem asK_dm {β : Type} (f : β → D) (m : List (T × β)) : asK (some (.dict (dmD f m))) = some (dmD f m) := by
  show (if flatK (dmD f m) then some (dmD f m) else none) = _
  rw [if_pos (flat_dm m)]
theorem asDict_dm {β : Type} (f : β → D) (m : List (T × β)) : asDict (.dict (dmD f m)) = some (dmD f m) := by
  show (if flatK (dmD f m) then some (dmD f m) else none) = _
  rw [if_pos (flat_dm m)]
theorem cn_len (ps : Ps) : (cn ps).length ≤ 2 * ps.length := by
  have gen : ∀ (qs : Ps) (n : Nm), (qs.foldl stepN n).length ≤ n.length + 2 * qs.length := by
    intro qs
    induction qs with
    | nil => intro n; simp [runF, runI, runFr, startE, sSeq, sSet, sExpr, sRet, sRetN, sIf, sForE, mIf, mTru, mBool, mNotB, mAndB, mOrB, mCallF, mCall, aCons, aNil, var, getv, cst, mOp, mUn, mTup, mLst, mAnd, mOr, gSet, gOwn, gTpl, gsCons, gsNil, iSq, items, mDict0, R.bind, R.opt, R.nox, truD, tru, asB]
    | cons q qs ih =>
      intro n
      rw [List.foldl_cons, List.length_cons]
      have h1 := ih (stepN n q)
      have h2 : (stepN n q).length ≤ n.length + 2 := by
        unfold stepN
        have a := setd_len n q.1
        have b := setd_len (setd n q.1).1 q.2
        show (if (setd n q.1).2 = (setd (setd n q.1).1 q.2).2 then _ else _ : Nm).length ≤ _
        split
        · omega
        · unfold mergeN; rw [List.length_map]; omega
      omega
  have := gen ps []
  simpa [cn] using this
theorem m_tbc (k : Kw) (hz : k.1.length ≤ 1000000) : m_terms_by_class [knD k] = .ok (.dict (dmD lsD (grp (cn k.1)))) := by
  have e1 := m_cn k hz
  have nd := (says_cn k.1).nd
  have hl := cn_len k.1
  obtain ⟨ρ', h1, pre, v, rfl, hp⟩ := for_all (g := gSet 3) (b := sPutD 2 (mOp dAdd (eGet2 (var 2) (mOp dIxA (var 1) (var 3)) (mLst aNil)) (mLst (aCons (var 3) aNil))) (mOp dIxA (var 1) (var 3))) (enc := fun e : T × Nat => kD e.1)
    (I := fun l ρ => ∃ pre v, ρ = [some (knD k), some (.dict (nmD (cn k.1))), some (.dict (dmD lsD (grp pre))), v] ∧ pre ++ l = cn k.1)
    (fun e l ρ h => by
      obtain ⟨pre, v, rfl, hp⟩ := h
      have me : e ∈ cn k.1 := by rw [← hp]; exact List.mem_append_right _ List.mem_cons_self
      have lk1 := dIxA_nm (lk_of_mem nd me)
      have eg := dGet2_dm (f := lsD) (grp pre) (ky e.2) (.list [])
      have eg2 : ((lkG (grp pre) (ky e.2)).map lsD).getD (.list []) = lsD (clsAt pre e.2) := by
        rw [← lk_grp]
        cases lkG (grp pre) (ky e.2) <;> rfl
      rw [eg2] at eg
      have ek : keyOf (.int (e.2 : Nat)) = some (ky e.2) := rfl
      have eg' : dGet2 (dmD lsD (grp pre)) (.int (e.2 : Nat)) (.list []) = some (lsD (clsAt pre e.2)) := eg
      have ea : dAdd (lsD (clsAt pre e.2)) (.list [kD e.1]) = some (lsD (clsAt pre e.2 ++ [e.1])) := by
        have hl2 : pre.length ≤ (cn k.1).length := by rw [← hp, List.length_append]; omega
        have hc : (clsAt pre e.2).length ≤ pre.length := by unfold clsAt; rw [List.length_map]; exact List.length_filter_le _ _
        have hw : ((clsAt pre e.2).map kD).length + [kD e.1].length ≤ sizeLine := by rw [List.length_map, List.length_singleton, sizeN]; omega
        show (if ((clsAt pre e.2).map kD).length + [kD e.1].length ≤ sizeLine then some (PyData.list ((clsAt pre e.2).map kD ++ [kD e.1])) else none) = _
        rw [if_pos hw]
        unfold lsD
        rw [List.map_append]; rfl
      have ep : dput (dmD lsD (grp pre)) (ky e.2) (lsD (clsAt pre e.2 ++ [e.1])) = dmD lsD (grp (pre ++ [e])) := by rw [dput_dm, grp_snoc]
      have hs : (dmD lsD (grp pre)).length < sizeLine := by
        unfold dmD
        rw [List.length_map, sizeN]
        have := grp_len pre
        have : pre.length ≤ (cn k.1).length := by rw [← hp, List.length_append]; omega
        omega
      refine ⟨_, [some (knD k), some (.dict (nmD (cn k.1))), some (.dict (dmD lsD (grp (pre ++ [e])))), some (kD e.1)], rfl, .inl ?_, pre ++ [e], _, rfl, by rw [List.append_assoc]; exact hp⟩
      simp [runF, runI, runFr, startE, sSeq, sSet, sExpr, sRet, sRetN, sIf, sForE, mIf, mTru, mBool, mNotB, mAndB, mOrB, mCallF, mCall, aCons, aNil, var, getv, cst, mOp, mUn, mTup, mLst, mAnd, mOr, gSet, gOwn, gTpl, gsCons, gsNil, iSq, items, mDict0, R.bind, R.opt, R.nox, truD, tru, asB, sPutD, eGet2, asDict_dm, asK_dm, lk1, eg', ea, ek, ep, hs]) (xs := cn k.1) (ρ := [some (knD k), some (.dict (nmD (cn k.1))), some (.dict []), none]) ⟨[], none, rfl, rfl⟩
  rw [List.append_nil] at hp
  subst hp
  have hs : (nmD (cn k.1)).length ≤ sizeLine := by unfold nmD; rw [List.length_map, sizeN]; omega
  have e2 := asK_nm (cn k.1)
  simp [runF, runI, runFr, startE, sSeq, sSet, sExpr, sRet, sRetN, sIf, sForE, mIf, mTru, mBool, mNotB, mAndB, mOrB, mCallF, mCall, aCons, aNil, var, getv, cst, mOp, mUn, mTup, mLst, mAnd, mOr, gSet, gOwn, gTpl, gsCons, gsNil, iSq, items, mDict0, R.bind, R.opt, R.nox, truD, tru, asB, m_terms_by_class, b_terms_by_class, e1, sLk, iKy, e2, hs, keys_nm, h1]
end Lw

set_option Elab.async false
set_option linter.all false
set_option maxRecDepth 100000
set_option autoImplicit false
namespace Kn
open PySem Dt Dt.R
def big (ps : Ps) : List (T × List T) := (grp (cn ps)).filter fun e => decide (1 < e.2.length)
def classesOf (ps : Ps) : List (List T) := srt tksD ((big ps).map fun e => inOrd e.2)
theorem mem_clsAt {nm : Nm} (nd : (nm.map (·.1)).Nodup) {n : Nat} {x : T} : x ∈ clsAt nm n ↔ lk nm x = some n := by
  unfold clsAt
  constructor
  · intro h
    obtain ⟨e, he, rfl⟩ := List.mem_map.mp h
    obtain ⟨h1, h2⟩ := List.mem_filter.mp he
    have := lk_of_mem nd h1
    rw [this, of_decide_eq_true h2]
  · intro h
    exact List.mem_map.mpr ⟨(x, n), List.mem_filter.mpr ⟨lk_some h, by simp⟩, rfl⟩
theorem mem_grp {nm : Nm} {e : T × List T} : e ∈ grp nm ↔ ∃ n ∈ nm.map (·.2), e = (ky n, clsAt nm n) := by
  unfold grp
  rw [List.mem_map]
  exact ⟨fun ⟨n, h1, h2⟩ => ⟨n, dbl_mem.mp h1, h2.symm⟩, fun ⟨n, h1, h2⟩ => ⟨n, dbl_mem.mpr h1, h2.symm⟩⟩
theorem lkG_grp {nm : Nm} {e : T × List T} (h : e ∈ grp nm) : lkG (grp nm) e.1 = some e.2 := by
  obtain ⟨n, h1, rfl⟩ := mem_grp.mp h
  unfold grp
  rw [lkG_map, if_pos (dbl_mem.mpr h1)]
theorem clsAt_nodup {nm : Nm} (nd : (nm.map (·.1)).Nodup) (n : Nat) : (clsAt nm n).Nodup := nd.sublist (List.Sublist.map _ List.filter_sublist)
/-- what stands in the classes -/
structure IsClass (ps : Ps) (c : List T) : Prop where
  two : 2 ≤ c.length
  nd : c.Nodup
  all : ∀ x ∈ c, ∀ y, y ∈ c ↔ Conn ps x y
theorem class_is {ps : Ps} {c : List T} (h : c ∈ classesOf ps) : IsClass ps c := by
  have S := says_cn ps
  obtain ⟨e, he, rfl⟩ := List.mem_map.mp (srt_mem.mp h)
  obtain ⟨h1, h2⟩ := List.mem_filter.mp he
  obtain ⟨n, hn, rfl⟩ := mem_grp.mp h1
  have h2 : 1 < (clsAt (cn ps) n).length := of_decide_eq_true h2
  refine ⟨by unfold inOrd; rw [srt_len]; exact h2, srt_nodup.mpr (clsAt_nodup S.nd n), fun x hx y => ?_⟩
  have hx' := (mem_clsAt S.nd).mp (srt_mem.mp hx)
  unfold inOrd
  rw [srt_mem]
  show y ∈ clsAt (cn ps) n ↔ _
  rw [mem_clsAt S.nd]
  constructor
  · intro hy
    exact (S.same x y n n hx' hy).mp rfl
  · intro c
    have iy : In ps y := (conn_in c).elim (fun z => z ▸ (S.keys x).mp (lk_mem.mp (by rw [hx']; rfl))) id
    have := lk_mem.mpr ((S.keys y).mpr iy)
    cases e : lk (cn ps) y with
    | none => rw [e] at this; cases this
    | some v => rw [(S.same x y n v hx' e).mpr c]
theorem class_of {ps : Ps} {x y : T} (h : Conn ps x y) (ne : x ≠ y) : ∃ c ∈ classesOf ps, x ∈ c := by
  have S := says_cn ps
  have iy : In ps y := (conn_in h).elim (fun z => absurd z ne) id
  have ix : In ps x := (conn_in h.symm).elim (fun z => absurd z.symm ne) id
  have some_of : ∀ z, In ps z → ∃ v, lk (cn ps) z = some v := fun z hz => by
    have := lk_mem.mpr ((S.keys z).mpr hz)
    cases e : lk (cn ps) z with
    | none => rw [e] at this; cases this
    | some v => exact ⟨v, rfl⟩
  obtain ⟨u, eu⟩ := some_of x ix
  obtain ⟨v, ev⟩ := some_of y iy
  have uv := (S.same x y u v eu ev).mpr h
  subst uv
  have mx := (mem_clsAt S.nd).mpr eu
  have my := (mem_clsAt S.nd).mpr ev
  refine ⟨inOrd (clsAt (cn ps) u), srt_mem.mpr (List.mem_map.mpr ⟨(ky u, clsAt (cn ps) u), List.mem_filter.mpr ⟨mem_grp.mpr ⟨u, List.mem_map.mpr ⟨(x, u), lk_some eu, rfl⟩, rfl⟩, decide_eq_true ?_⟩, rfl⟩), srt_mem.mpr mx⟩
  show 1 < (clsAt (cn ps) u).length
  cases e : clsAt (cn ps) u with
  | nil => rw [e] at mx; cases mx
  | cons a l => cases l with
    | nil =>
      rw [e] at mx my
      exact absurd ((List.mem_singleton.mp mx).trans (List.mem_singleton.mp my).symm) ne
    | cons b l => simp
end Kn
namespace Lw
open PySem Kn Dt Dt.R
open L2 (Key)
/-- no number below 0 in the known -/
def NnK (ps : Ps) : Prop := ∀ x, In ps x → Nn x
theorem m_classes (k : Kw) (hz : k.1.length ≤ 1000000) (hn : NnK k.1) : m_classes_of [knD k] = .ok (.tuple ((classesOf k.1).map (tpD kD))) := by
  have e1 := m_tbc k hz
  have S := says_cn k.1
  have hl := cn_len k.1
  have hg := grp_len (cn k.1)
  have hs : (dmD lsD (grp (cn k.1))).length ≤ sizeLine := by unfold dmD; rw [List.length_map, sizeN]; omega
  have nn : ∀ e ∈ grp (cn k.1), ∀ t ∈ e.2, Nn t := fun e he t ht => by
    obtain ⟨n, _, rfl⟩ := mem_grp.mp he
    exact hn t ((S.keys t).mp (lk_mem.mp (by rw [(mem_clsAt S.nd).mp ht]; rfl)))
  have gt1 : ∀ n : Nat, dGt (.int (n : Int)) (.int 1) = some (.bool (decide (1 < n))) := fun n => by
    show some (PyData.bool (decide ((1 : Int) < (n : Int)))) = _
    congr 2
    exact decide_eq_decide.mpr (by omega)
  have e := lc_eval (g := gSet 3) (vs := [3]) (tt := mBool (mOp dGt (mCall dLenA (aCons (mOp dIxA (var 1) (var 3)) aNil)) (cst (.int 1)))) (me := mCallF m_in_order (aCons (mOp dIxA (var 1) (var 3)) aNil))
    (ρ := [some (knD k), some (.dict (dmD lsD (grp (cn k.1)))), none, none]) (enc := fun e : T × List T => kD e.1) (c := fun e => decide (1 < e.2.length)) (f := fun e => tpD kD (inOrd e.2)) (xs := grp (cn k.1))
    fun e he => by
      have l1 := dIxA_dm (f := lsD) (lkG_grp he)
      have l2 : dLenA [lsD e.2] = some (.int e.2.length) := by unfold lsD; rw [dLen_list, List.length_map]
      have l3 : m_in_order [lsD e.2] = .ok (.tuple ((inOrd e.2).map kD)) := m_inord (nn e he)
      exact ⟨[some (knD k), some (.dict (dmD lsD (grp (cn k.1)))), none, some (kD e.1)], _, rfl, by simp [runF, runI, runFr, startE, sSeq, sSet, sExpr, sRet, sRetN, sIf, sForE, mIf, mTru, mBool, mNotB, mAndB, mOrB, mCallF, mCall, aCons, aNil, var, getv, cst, mOp, mUn, mTup, mLst, mAnd, mOr, gSet, gOwn, gTpl, gsCons, gsNil, iSq, items, mDict0, R.bind, R.opt, R.nox, truD, tru, asB, l1, l2, gt1]; rfl, fun _ => ⟨_, by simp [runF, runI, runFr, startE, sSeq, sSet, sExpr, sRet, sRetN, sIf, sForE, mIf, mTru, mBool, mNotB, mAndB, mOrB, mCallF, mCall, aCons, aNil, var, getv, cst, mOp, mUn, mTup, mLst, mAnd, mOr, gSet, gOwn, gTpl, gsCons, gsNil, iSq, items, mDict0, R.bind, R.opt, R.nox, truD, tru, asB, l1, l3, tpD]; rfl⟩⟩
  have e3 := dSortK_map (enc := tpD kD) (key := tksD) (fn := m_terms_key) (xs := (big k.1).map fun e => inOrd e.2) (fun ts ht => by
      obtain ⟨e, he, rfl⟩ := List.mem_map.mp ht
      exact m_tks fun t h => nn e (List.mem_filter.mp he).1 t (srt_mem.mp h)) (by
      rw [List.map_map]
      exact keysOk_tks (f := fun e : T × List T => inOrd e.2) fun e he => fun z => by
        have h2 : 1 < e.2.length := of_decide_eq_true (List.mem_filter.mp he).2
        have := srt_len (key := tkD) (xs := e.2)
        unfold inOrd at z
        rw [z] at this
        simp [runF, runI, runFr, startE, sSeq, sSet, sExpr, sRet, sRetN, sIf, sForE, mIf, mTru, mBool, mNotB, mAndB, mOrB, mCallF, mCall, aCons, aNil, var, getv, cst, mOp, mUn, mTup, mLst, mAnd, mOr, gSet, gOwn, gTpl, gsCons, gsNil, iSq, items, mDict0, R.bind, R.opt, R.nox, truD, tru, asB] at this
        omega)
  rw [List.map_map] at e3
  have e3' : dSortK m_terms_key [.list ((big k.1).map fun e => tpD kD (inOrd e.2))] = .ok (.list ((classesOf k.1).map (tpD kD))) := e3
  unfold big at e3'
  simp [runF, runI, runFr, startE, sSeq, sSet, sExpr, sRet, sRetN, sIf, sForE, mIf, mTru, mBool, mNotB, mAndB, mOrB, mCallF, mCall, aCons, aNil, var, getv, cst, mOp, mUn, mTup, mLst, mAnd, mOr, gSet, gOwn, gTpl, gsCons, gsNil, iSq, items, mDict0, R.bind, R.opt, R.nox, truD, tru, asB, m_classes_of, b_classes_of, e1, mLk, mLc, iKy, asK_dm, hs, keys_dm, e, e3', dTuple]
end Lw

set_option Elab.async false
set_option linter.all false
set_option maxRecDepth 100000
set_option autoImplicit false
namespace Kn
open PySem Dt Dt.R
def broken (k : Kw) : Bool := (classesOf k.1).any (fun c => decide (1 < (nmsIn c).length)) || k.2.any fun p => joined k.1 p.1 p.2
end Kn
namespace Lw
open PySem Kn Dt Dt.R
open L2 (Key)
theorem asBs_map {α : Type} (f : α → Bool) : ∀ xs : List α, asBs (xs.map fun x => .bool (f x)) = some (xs.map f)
  | [] => rfl
  | x :: xs => by
    rw [List.map_cons, List.map_cons]
    unfold asBs
    rw [asBs_map f xs]; rfl
theorem dAny_map {α : Type} (f : α → Bool) (xs : List α) : dAny [.list (xs.map fun x => .bool (f x))] = some (.bool (xs.any f)) := by
  show (asBs (xs.map fun x => .bool (f x))).map _ = _
  rw [asBs_map, Option.map_some, List.any_map]; rfl
theorem dAll_map {α : Type} (f : α → Bool) (xs : List α) : dAll [.list (xs.map fun x => .bool (f x))] = some (.bool (xs.all f)) := by
  show (asBs (xs.map fun x => .bool (f x))).map _ = _
  rw [asBs_map, Option.map_some, List.all_map]; rfl
theorem gt1 (n : Nat) : dGt (.int (n : Int)) (.int 1) = some (.bool (decide (1 < n))) := by
  show some (PyData.bool (decide ((1 : Int) < (n : Int)))) = _
  congr 2
  exact decide_eq_decide.mpr (by omega)
theorem ixk0 (k : Kw) : dIxA (knD k) (.int 0) = some (psD k.1) := rfl
theorem ixk1 (k : Kw) : dIxA (knD k) (.int 1) = some (psD k.2) := rfl
theorem conn_nn {ps : Ps} (hn : NnK ps) {c : List T} (hc : c ∈ classesOf ps) : ∀ t ∈ c, Nn t := fun t ht => by
  have I := class_is hc
  have : ∃ y ∈ c, y ≠ t := by
    have h2 := I.two
    cases e : c with
    | nil => rw [e] at h2; simp [runF, runI, runFr, startE, sSeq, sSet, sExpr, sRet, sRetN, sIf, sForE, mIf, mTru, mBool, mNotB, mAndB, mOrB, mCallF, mCall, aCons, aNil, var, getv, cst, mOp, mUn, mTup, mLst, mAnd, mOr, gSet, gOwn, gTpl, gsCons, gsNil, iSq, items, mDict0, R.bind, R.opt, R.nox, truD, tru, asB] at h2
    | cons a l => cases l with
      | nil => rw [e] at h2; simp [runF, runI, runFr, startE, sSeq, sSet, sExpr, sRet, sRetN, sIf, sForE, mIf, mTru, mBool, mNotB, mAndB, mOrB, mCallF, mCall, aCons, aNil, var, getv, cst, mOp, mUn, mTup, mLst, mAnd, mOr, gSet, gOwn, gTpl, gsCons, gsNil, iSq, items, mDict0, R.bind, R.opt, R.nox, truD, tru, asB] at h2
      | cons b l =>
        have nd := I.nd
        rw [e] at nd
        have hab : a ≠ b := fun z => (List.nodup_cons.mp nd).1 (z ▸ List.mem_cons_self)
        by_cases h : a = t
        · exact ⟨b, List.mem_cons_of_mem _ List.mem_cons_self, fun z => hab (h.trans z.symm)⟩
        · exact ⟨a, List.mem_cons_self, h⟩
  obtain ⟨y, hy, ny⟩ := this
  have cy := (I.all y hy t).mp ht
  exact hn t ((conn_in cy).elim (fun z => absurd z ny) id)
theorem class_len {ps : Ps} {c : List T} (hc : c ∈ classesOf ps) : c.length ≤ 2 * ps.length := by
  obtain ⟨e, he, rfl⟩ := List.mem_map.mp (srt_mem.mp hc)
  obtain ⟨n, hn, rfl⟩ := mem_grp.mp (List.mem_filter.mp he).1
  have := cn_len ps
  unfold inOrd
  rw [srt_len]
  have h : (clsAt (cn ps) n).length ≤ (cn ps).length := by unfold clsAt; rw [List.length_map]; exact List.length_filter_le _ _
  show (clsAt (cn ps) n).length ≤ _
  omega
theorem m_broken (k : Kw) (hz : k.1.length ≤ 400000) (hn : NnK k.1) : m_is_broken [knD k] = .ok (.bool (broken k)) := by
  have e1 := m_classes k (by omega) hn
  have e2 := lc_map (g := gSet 1) (vs := [1]) (me := mOp dGt (mCall dLenA (aCons (mCallF m_names_in (aCons (var 1) aNil)) aNil)) (cst (.int 1))) (ρ := [some (knD k), none, none, none]) (enc := tpD kD) (f := fun c => .bool (decide (1 < (nmsIn c).length))) (xs := classesOf k.1)
    fun c hc => by
      have l1 : m_names_in [tpD kD c] = .ok (.tuple ((nmsIn c).map kD)) := m_names (conn_nn hn hc) (by have := class_len hc; omega)
      have l2 : dLenA [.tuple ((nmsIn c).map kD)] = some (.int (nmsIn c).length) := by rw [dLen_tup, List.length_map]
      exact ⟨_, _, rfl, by simp [runF, runI, runFr, startE, sSeq, sSet, sExpr, sRet, sRetN, sIf, sForE, mIf, mTru, mBool, mNotB, mAndB, mOrB, mCallF, mCall, aCons, aNil, var, getv, cst, mOp, mUn, mTup, mLst, mAnd, mOr, gSet, gOwn, gTpl, gsCons, gsNil, iSq, items, mDict0, R.bind, R.opt, R.nox, truD, tru, asB, wipeE, l1, l2, gt1]; rfl⟩
  have e3 := dAny_map (fun c => decide (1 < (nmsIn c).length)) (classesOf k.1)
  have e4 := lc_map (g := gTpl 2 (gsCons (gSet 2) (gsCons (gSet 3) gsNil))) (vs := [2, 3]) (me := mCallF m_is_joined (aCons (var 0) (aCons (var 2) (aCons (var 3) aNil)))) (ρ := [some (knD k), none, none, none]) (enc := pairD) (f := fun p => .bool (joined k.1 p.1 p.2)) (xs := k.2)
    fun p hp => by
      have l1 := m_joined k p.1 p.2 (by omega)
      exact ⟨[some (knD k), none, some (kD p.1), some (kD p.2)], _, by simp [runF, runI, runFr, startE, sSeq, sSet, sExpr, sRet, sRetN, sIf, sForE, mIf, mTru, mBool, mNotB, mAndB, mOrB, mCallF, mCall, aCons, aNil, var, getv, cst, mOp, mUn, mTup, mLst, mAnd, mOr, gSet, gOwn, gTpl, gsCons, gsNil, iSq, items, mDict0, R.bind, R.opt, R.nox, truD, tru, asB, pairD, wipeE], by simp [runF, runI, runFr, startE, sSeq, sSet, sExpr, sRet, sRetN, sIf, sForE, mIf, mTru, mBool, mNotB, mAndB, mOrB, mCallF, mCall, aCons, aNil, var, getv, cst, mOp, mUn, mTup, mLst, mAnd, mOr, gSet, gOwn, gTpl, gsCons, gsNil, iSq, items, mDict0, R.bind, R.opt, R.nox, truD, tru, asB, l1]; rfl⟩
  have e5 := dAny_map (fun p : T × T => joined k.1 p.1 p.2) k.2
  unfold broken
  by_cases h : (classesOf k.1).any (fun c => decide (1 < (nmsIn c).length)) = true
  · rw [h] at e3
    rw [h]
    simp [runF, runI, runFr, startE, sSeq, sSet, sExpr, sRet, sRetN, sIf, sForE, mIf, mTru, mBool, mNotB, mAndB, mOrB, mCallF, mCall, aCons, aNil, var, getv, cst, mOp, mUn, mTup, mLst, mAnd, mOr, gSet, gOwn, gTpl, gsCons, gsNil, iSq, items, mDict0, R.bind, R.opt, R.nox, truD, tru, asB, m_is_broken, b_is_broken, mLc, e1, e2, e3]
  · have h : (classesOf k.1).any (fun c => decide (1 < (nmsIn c).length)) = false := by simpa using h
    rw [h] at e3
    rw [h]
    simp [runF, runI, runFr, startE, sSeq, sSet, sExpr, sRet, sRetN, sIf, sForE, mIf, mTru, mBool, mNotB, mAndB, mOrB, mCallF, mCall, aCons, aNil, var, getv, cst, mOp, mUn, mTup, mLst, mAnd, mOr, gSet, gOwn, gTpl, gsCons, gsNil, iSq, items, mDict0, R.bind, R.opt, R.nox, truD, tru, asB, m_is_broken, b_is_broken, mLc, e1, e2, e3, ixk1, psD, e4, e5, sNil]
end Lw

set_option Elab.async false
set_option linter.all false
set_option maxRecDepth 100000
set_option autoImplicit false
namespace Kn
open PySem Dt Dt.R
def telEq (k : Kw) (a b : T) : Bool := joined k.1 a b || broken k
def withP (k : Kw) (a b : T) : Kw := (k.1 ++ [(a, b)], k.2)
def telUn (k : Kw) (a b : T) : Bool := broken (withP k a b)
def turned (a b : T) : T × T := if PySem.W.dataLt (tkD a) (tkD b) then (a, b) else (b, a)
end Kn
namespace Lw
open PySem Kn Dt Dt.R
open L2 (Key)
theorem m_teq (k : Kw) (a b : T) (hz : k.1.length ≤ 400000) (hn : NnK k.1) : m_tells_equal [knD k, kD a, kD b] = .ok (.bool (telEq k a b)) := by
  have e1 := m_joined k a b (by omega)
  have e2 := m_broken k hz hn
  unfold telEq
  cases h : joined k.1 a b <;> rw [h] at e1 <;> simp [runF, runI, runFr, startE, sSeq, sSet, sExpr, sRet, sRetN, sIf, sForE, mIf, mTru, mBool, mNotB, mAndB, mOrB, mCallF, mCall, aCons, aNil, var, getv, cst, mOp, mUn, mTup, mLst, mAnd, mOr, gSet, gOwn, gTpl, gsCons, gsNil, iSq, items, mDict0, R.bind, R.opt, R.nox, truD, tru, asB, m_tells_equal, b_tells_equal, e1, e2]
theorem m_withp (k : Kw) (a b : T) (hz : k.1.length ≤ 400000) : m_with_pair [knD k, kD a, kD b] = .ok (knD (withP k a b)) := by
  have ea : dAdd (psD k.1) (.tuple [.tuple [kD a, kD b]]) = some (psD (k.1 ++ [(a, b)])) := by
    have hw : (k.1.map pairD).length + [PyData.tuple [kD a, kD b]].length ≤ sizeLine := by rw [List.length_map, List.length_singleton, sizeN]; omega
    show (if (k.1.map pairD).length + [PyData.tuple [kD a, kD b]].length ≤ sizeLine then some (PyData.tuple (k.1.map pairD ++ [PyData.tuple [kD a, kD b]])) else none) = _
    rw [if_pos hw]
    unfold psD
    rw [List.map_append]; rfl
  simp [runF, runI, runFr, startE, sSeq, sSet, sExpr, sRet, sRetN, sIf, sForE, mIf, mTru, mBool, mNotB, mAndB, mOrB, mCallF, mCall, aCons, aNil, var, getv, cst, mOp, mUn, mTup, mLst, mAnd, mOr, gSet, gOwn, gTpl, gsCons, gsNil, iSq, items, mDict0, R.bind, R.opt, R.nox, truD, tru, asB, m_with_pair, b_with_pair, ixk0, ixk1, ea]
  rfl
theorem nnk_with {ps : Ps} {a b : T} (hn : NnK ps) (ha : Nn a) (hb : Nn b) : NnK (ps ++ [(a, b)]) := fun x hx => by
  rcases in_snoc.mp hx with h | h | h
  · exact hn x h
  · exact h ▸ ha
  · exact h ▸ hb
theorem m_tun (k : Kw) (a b : T) (hz : k.1.length ≤ 300000) (hn : NnK k.1) (ha : Nn a) (hb : Nn b) : m_tells_unlike [knD k, kD a, kD b] = .ok (.bool (telUn k a b)) := by
  have e1 := m_withp k a b (by omega)
  have e2 := m_broken (withP k a b) (by show (k.1 ++ [(a, b)]).length ≤ _; rw [List.length_append, List.length_singleton]; omega) (nnk_with hn ha hb)
  simp [runF, runI, runFr, startE, sSeq, sSet, sExpr, sRet, sRetN, sIf, sForE, mIf, mTru, mBool, mNotB, mAndB, mOrB, mCallF, mCall, aCons, aNil, var, getv, cst, mOp, mUn, mTup, mLst, mAnd, mOr, gSet, gOwn, gTpl, gsCons, gsNil, iSq, items, mDict0, R.bind, R.opt, R.nox, truD, tru, asB, m_tells_unlike, b_tells_unlike, e1, e2, telUn]
theorem m_ahead {a b : T} (ha : Nn a) (hb : Nn b) : m_is_ahead [kD a, kD b] = .ok (.bool (PySem.W.dataLt (tkD a) (tkD b))) := by
  have e1 := m_tk ha
  have e2 := m_tk hb
  have e3 : dLt (tkD a) (tkD b) = some (.bool (PySem.W.dataLt (tkD a) (tkD b))) := by
    have h : ltOk (tkD a) (tkD b) = true := by cases a <;> cases b <;> rfl
    cases a <;> cases b <;> exact if_pos (e := none) h
  simp [runF, runI, runFr, startE, sSeq, sSet, sExpr, sRet, sRetN, sIf, sForE, mIf, mTru, mBool, mNotB, mAndB, mOrB, mCallF, mCall, aCons, aNil, var, getv, cst, mOp, mUn, mTup, mLst, mAnd, mOr, gSet, gOwn, gTpl, gsCons, gsNil, iSq, items, mDict0, R.bind, R.opt, R.nox, truD, tru, asB, m_is_ahead, b_is_ahead, e1, e2, e3]
theorem m_turned {a b : T} (ha : Nn a) (hb : Nn b) : m_turned_in_order [kD a, kD b] = .ok (pairD (turned a b)) := by
  have e1 := m_ahead ha hb
  unfold turned
  cases h : PySem.W.dataLt (tkD a) (tkD b) <;> rw [h] at e1 <;> simp [runF, runI, runFr, startE, sSeq, sSet, sExpr, sRet, sRetN, sIf, sForE, mIf, mTru, mBool, mNotB, mAndB, mOrB, mCallF, mCall, aCons, aNil, var, getv, cst, mOp, mUn, mTup, mLst, mAnd, mOr, gSet, gOwn, gTpl, gsCons, gsNil, iSq, items, mDict0, R.bind, R.opt, R.nox, truD, tru, asB, m_turned_in_order, b_turned_in_order, e1, pairD]
theorem m_psord {ps : Ps} (hn : NnK ps) (hz : ps.length ≤ 1000000) : m_pairs_in_order [.list (ps.map pairD)] = .ok (psD (psOrd (dbl ps))) := by
  have e1 : m_without_doubles [.list (ps.map pairD)] = .ok (.list ((dbl ps).map pairD)) := m_wd code_pair (by decide) ps hz false
  have e2 := dSortK_map (enc := pairD) (key := pkD) (fn := m_terms_key) (xs := dbl ps) (fun p hp => by
    have mp := dbl_mem.mp hp
    exact m_tks (ts := [p.1, p.2]) fun t ht => by
      rcases List.mem_cons.mp ht with rfl | ht
      · exact hn _ ⟨p, mp, .inl rfl⟩
      · rw [List.mem_singleton.mp ht]; exact hn _ ⟨p, mp, .inr rfl⟩) (keysOk_pk _)
  simp [runF, runI, runFr, startE, sSeq, sSet, sExpr, sRet, sRetN, sIf, sForE, mIf, mTru, mBool, mNotB, mAndB, mOrB, mCallF, mCall, aCons, aNil, var, getv, cst, mOp, mUn, mTup, mLst, mAnd, mOr, gSet, gOwn, gTpl, gsCons, gsNil, iSq, items, mDict0, R.bind, R.opt, R.nox, truD, tru, asB, m_pairs_in_order, b_pairs_in_order, e1, e2, dTuple, psD, psOrd]
end Lw

set_option Elab.async false
set_option linter.all false
set_option maxRecDepth 100000
set_option autoImplicit false
namespace Kn
open PySem Dt Dt.R
/-- the pairs of least_equal, before they are put in order -/
def leEq0 (ps : Ps) : Ps := (classesOf ps).flatMap fun c => (c.filter fun x => !decide (x = toldOf c)).map fun x => (toldOf c, x)
end Kn
namespace Lw
open PySem Kn Dt Dt.R
open L2 (Key)
theorem told_nn {c : List T} (h : ∀ t ∈ c, Nn t) (h0 : c ≠ []) : toldOf c ∈ c := by
  have hl : least c ∈ c := by
    unfold least inOrd
    have := srt_len (key := tkD) (xs := c)
    cases e : srt tkD c with
    | nil => rw [e] at this; exact absurd (List.length_eq_zero_iff.mp this.symm) h0
    | cons x xs => exact srt_mem.mp (e ▸ List.mem_cons_self)
  unfold toldOf
  cases e : nmsIn c with
  | nil => exact hl
  | cons x xs => cases xs with
    | nil =>
      have : x ∈ nmsIn c := by rw [e]; exact List.mem_cons_self
      exact (List.mem_filter.mp (dbl_mem.mp (srt_mem.mp this))).1
    | cons y ys => exact hl
theorem flat_len {α β : Type} (f : α → List β) (m : Nat) : ∀ xs : List α, (∀ x ∈ xs, (f x).length ≤ m) → (xs.flatMap f).length ≤ xs.length * m
  | [], _ => by simp [runF, runI, runFr, startE, sSeq, sSet, sExpr, sRet, sRetN, sIf, sForE, mIf, mTru, mBool, mNotB, mAndB, mOrB, mCallF, mCall, aCons, aNil, var, getv, cst, mOp, mUn, mTup, mLst, mAnd, mOr, gSet, gOwn, gTpl, gsCons, gsNil, iSq, items, mDict0, R.bind, R.opt, R.nox, truD, tru, asB]
  | x :: xs, h => by
    have h1 := h x List.mem_cons_self
    have h2 := flat_len f m xs fun y hy => h y (List.mem_cons_of_mem _ hy)
    rw [List.flatMap_cons, List.length_append, List.length_cons, Nat.add_mul]
    omega
theorem classes_len (ps : Ps) : (classesOf ps).length ≤ 2 * ps.length := by
  have h1 := cn_len ps
  have h2 := grp_len (cn ps)
  unfold classesOf big
  rw [srt_len, List.length_map]
  have := List.length_filter_le (fun e : T × List T => decide (1 < e.2.length)) (grp (cn ps))
  omega
theorem leEq0_len {ps : Ps} (hz : ps.length ≤ 400) : (leEq0 ps).length ≤ 640000 := by
  have h1 := flat_len (fun c => (c.filter fun x => !decide (x = toldOf c)).map fun x => (toldOf c, x)) (2 * ps.length) (classesOf ps) fun c hc => by
    rw [List.length_map]
    exact Nat.le_trans (List.length_filter_le _ _) (class_len hc)
  have h2 := classes_len ps
  unfold leEq0
  refine Nat.le_trans h1 (Nat.le_trans (Nat.mul_le_mul (Nat.le_trans h2 (show 2 * ps.length ≤ 800 by omega)) (show 2 * ps.length ≤ 800 by omega)) (by decide))
theorem m_leq (k : Kw) (hz : k.1.length ≤ 400) (hn : NnK k.1) : m_least_equal [knD k] = .ok (psD (psOrd (dbl (leEq0 k.1)))) := by
  have e1 := m_classes k (by omega) hn
  have hl := leEq0_len hz
  obtain ⟨ρ', h1, _, acc, v2, v3, v4, rfl, ha⟩ := for_all (g := gSet 2) (b := sSeq (sSet (gSet 3) (mCallF m_told_of_class (aCons (var 2) aNil))) (sExt 1 (mLc false (iSq (var 2)) [4] (gSet 4) (mBool (mOp dNe (var 4) (var 3))) (mTup (aCons (var 3) (aCons (var 4) aNil)))))) (enc := tpD kD)
    (I := fun l ρ => (∀ c ∈ l, c ∈ classesOf k.1) ∧ ∃ acc v2 v3 v4, ρ = [some (knD k), some (.list (acc.map pairD)), v2, v3, v4] ∧ acc ++ l.flatMap (fun c => (c.filter fun x => !decide (x = toldOf c)).map fun x => (toldOf c, x)) = leEq0 k.1)
    (fun c l ρ h => by
      obtain ⟨hc, acc, v2, v3, v4, rfl, ha⟩ := h
      have mc := hc c List.mem_cons_self
      have nn := conn_nn hn mc
      have h0 : c ≠ [] := fun z => by have := (class_is mc).two; rw [z] at this; simp [runF, runI, runFr, startE, sSeq, sSet, sExpr, sRet, sRetN, sIf, sForE, mIf, mTru, mBool, mNotB, mAndB, mOrB, mCallF, mCall, aCons, aNil, var, getv, cst, mOp, mUn, mTup, mLst, mAnd, mOr, gSet, gOwn, gTpl, gsCons, gsNil, iSq, items, mDict0, R.bind, R.opt, R.nox, truD, tru, asB] at this
      have l1 : m_told_of_class [tpD kD c] = .ok (kD (toldOf c)) := m_told nn (by have := class_len mc; omega) h0
      have e := lc_eval (g := gSet 4) (vs := [4]) (tt := mBool (mOp dNe (var 4) (var 3))) (me := mTup (aCons (var 3) (aCons (var 4) aNil))) (ρ := [some (knD k), some (.list (acc.map pairD)), some (tpD kD c), some (kD (toldOf c)), v4]) (enc := kD) (c := fun x => !decide (x = toldOf c)) (f := fun x => pairD (toldOf c, x)) (xs := c)
        fun x hx => ⟨[some (knD k), some (.list (acc.map pairD)), some (tpD kD c), some (kD (toldOf c)), some (kD x)], _, rfl, by simp [runF, runI, runFr, startE, sSeq, sSet, sExpr, sRet, sRetN, sIf, sForE, mIf, mTru, mBool, mNotB, mAndB, mOrB, mCallF, mCall, aCons, aNil, var, getv, cst, mOp, mUn, mTup, mLst, mAnd, mOr, gSet, gOwn, gTpl, gsCons, gsNil, iSq, items, mDict0, R.bind, R.opt, R.nox, truD, tru, asB, dNe_kD]; rfl, fun _ => ⟨_, by simp [runF, runI, runFr, startE, sSeq, sSet, sExpr, sRet, sRetN, sIf, sForE, mIf, mTru, mBool, mNotB, mAndB, mOrB, mCallF, mCall, aCons, aNil, var, getv, cst, mOp, mUn, mTup, mLst, mAnd, mOr, gSet, gOwn, gTpl, gsCons, gsNil, iSq, items, mDict0, R.bind, R.opt, R.nox, truD, tru, asB, pairD]; rfl⟩⟩
      rw [List.flatMap_cons, ← List.append_assoc] at ha
      have hs : acc.length + (c.filter fun x => !decide (x = toldOf c)).length ≤ sizeLine := by
        have := congrArg List.length ha
        rw [List.length_append, List.length_append, List.length_map] at this
        rw [sizeN]; omega
      refine ⟨_, [some (knD k), some (.list ((acc ++ (c.filter fun x => !decide (x = toldOf c)).map fun x => (toldOf c, x)).map pairD)), some (tpD kD c), some (kD (toldOf c)), v4], rfl, .inl ?_, fun d hd => hc d (List.mem_cons_of_mem _ hd), _, _, _, _, rfl, ha⟩
      have it : items (tpD kD c) = some (c.map kD) := rfl
      have asl : ∀ ds : List D, asL (some (.list ds)) = some ds := fun _ => rfl
      simp [runF, runI, runFr, startE, sSeq, sSet, sExpr, sRet, sRetN, sIf, sForE, mIf, mTru, mBool, mNotB, mAndB, mOrB, mCallF, mCall, aCons, aNil, var, getv, cst, mOp, mUn, mTup, mLst, mAnd, mOr, gSet, gOwn, gTpl, gsCons, gsNil, iSq, mDict0, R.bind, R.opt, R.nox, truD, tru, asB, l1, sExt, mLc, it, e, asl, hs]) (xs := classesOf k.1) (ρ := [some (knD k), some (.list []), none, none, none]) ⟨fun _ h => h, [], none, none, none, rfl, rfl⟩
  have ha : acc = leEq0 k.1 := by simpa using ha
  subst ha
  have nn : NnK (leEq0 k.1) := fun x hx => by
    obtain ⟨p, hp, hx⟩ := hx
    obtain ⟨c, hc, hp⟩ := List.mem_flatMap.mp hp
    obtain ⟨y, hy, rfl⟩ := List.mem_map.mp hp
    have cn := conn_nn hn hc
    have h0 : c ≠ [] := fun z => by have := (class_is hc).two; rw [z] at this; simp [runF, runI, runFr, startE, sSeq, sSet, sExpr, sRet, sRetN, sIf, sForE, mIf, mTru, mBool, mNotB, mAndB, mOrB, mCallF, mCall, aCons, aNil, var, getv, cst, mOp, mUn, mTup, mLst, mAnd, mOr, gSet, gOwn, gTpl, gsCons, gsNil, iSq, items, mDict0, R.bind, R.opt, R.nox, truD, tru, asB] at this
    rcases hx with rfl | rfl
    · exact cn _ (told_nn cn h0)
    · exact cn _ (List.mem_filter.mp hy).1
  have e2 := m_psord nn (by omega)
  simp [runF, runI, runFr, startE, sSeq, sSet, sExpr, sRet, sRetN, sIf, sForE, mIf, mTru, mBool, mNotB, mAndB, mOrB, mCallF, mCall, aCons, aNil, var, getv, cst, mOp, mUn, mTup, mLst, mAnd, mOr, gSet, gOwn, gTpl, gsCons, gsNil, iSq, items, mDict0, R.bind, R.opt, R.nox, truD, tru, asB, m_least_equal, b_least_equal, e1, h1, e2]
end Lw

set_option Elab.async false
set_option linter.all false
set_option maxRecDepth 100000
set_option autoImplicit false
namespace Kn
open PySem Dt Dt.R
/-- what a class is told by -/
def mark (k : Kw) (c : List T) : T := if broken k then least c else toldOf c
def tab (k : Kw) : List (T × T) := ((classesOf k.1).flatMap fun c => c.map fun x => (x, mark k c)).foldl (fun n e => putG n e.1 e.2) []
/-- the term that stands for its class -/
def repK (k : Kw) (x : T) : T := (lkG (tab k) x).getD x
theorem lkG_fold {β : Type} (xs : List (T × β)) (x : T) : ∀ n : List (T × β), (∀ e ∈ xs, ∀ e' ∈ xs, e.1 = e'.1 → e.2 = e'.2) → lkG (xs.foldl (fun n e => putG n e.1 e.2) n) x = match xs.find? fun e => decide (e.1 = x) with
    | some e => some e.2
    | none => lkG n x := by
  induction xs with
  | nil => intro n _; rfl
  | cons e xs ih =>
    intro n h
    rw [List.foldl_cons, ih _ fun a ha b hb => h a (List.mem_cons_of_mem _ ha) b (List.mem_cons_of_mem _ hb), lkG_put, List.find?_cons]
    by_cases g : e.1 = x
    · rw [decide_eq_true g, if_pos g.symm]
      cases f : xs.find? fun e => decide (e.1 = x) with
      | none => rfl
      | some e2 =>
        have m2 := List.mem_of_find?_eq_some f
        have q2 : e2.1 = x := of_decide_eq_true (List.find?_some (p := fun e : T × β => decide (e.1 = x)) f)
        show some e2.2 = some e.2
        rw [h e List.mem_cons_self e2 (List.mem_cons_of_mem _ m2) (g.trans q2.symm)]
    · rw [decide_eq_false g, if_neg fun z => g z.symm]
theorem put_freshG {β : Type} : ∀ (m n : List (T × β)), ((n ++ m).map (·.1)).Nodup → m.foldl (fun n e => putG n e.1 e.2) n = n ++ m
  | [], n, _ => by simp
  | e :: m, n, nd => by
    have h : lkG n e.1 = none := by
      have ho : e.1 ∉ n.map (·.1) := fun z => by
        rw [List.map_append, List.map_cons] at nd
        exact (List.nodup_append.mp nd).2.2 _ z _ List.mem_cons_self rfl
      clear nd
      induction n with
      | nil => rfl
      | cons a n ih =>
        rw [lkG_cons]
        rw [List.map_cons] at ho
        rw [if_neg fun z : a.1 = e.1 => ho (by rw [z]; exact List.mem_cons_self)]
        exact ih fun z => ho (List.mem_cons_of_mem _ z)
    have e1 : putG n e.1 e.2 = n ++ [e] := by unfold putG; rw [h, if_neg (by simp)]
    rw [List.foldl_cons, e1, put_freshG m (n ++ [e]) (by rw [List.append_assoc]; exact nd), List.append_assoc]; rfl
end Kn

set_option Elab.async false
set_option linter.all false
set_option maxRecDepth 100000
set_option autoImplicit false
namespace Lw
open PySem Kn Dt Dt.R
open L2 (Key)
theorem put_len {β : Type} (n : List (T × β)) (k : T) (v : β) : (putG n k v).length ≤ n.length + 1 := by
  unfold putG
  split
  · rw [List.length_map]; omega
  · simp [runF, runI, runFr, startE, sSeq, sSet, sExpr, sRet, sRetN, sIf, sForE, mIf, mTru, mBool, mNotB, mAndB, mOrB, mCallF, mCall, aCons, aNil, var, getv, cst, mOp, mUn, mTup, mLst, mAnd, mOr, gSet, gOwn, gTpl, gsCons, gsNil, iSq, items, mDict0, R.bind, R.opt, R.nox, truD, tru, asB]
theorem fold_len {β : Type} : ∀ (m n : List (T × β)), (m.foldl (fun n e => putG n e.1 e.2) n).length ≤ n.length + m.length
  | [], n => by simp [runF, runI, runFr, startE, sSeq, sSet, sExpr, sRet, sRetN, sIf, sForE, mIf, mTru, mBool, mNotB, mAndB, mOrB, mCallF, mCall, aCons, aNil, var, getv, cst, mOp, mUn, mTup, mLst, mAnd, mOr, gSet, gOwn, gTpl, gsCons, gsNil, iSq, items, mDict0, R.bind, R.opt, R.nox, truD, tru, asB]
  | e :: m, n => by
    have h1 := fold_len m (putG n e.1 e.2)
    have h2 := put_len n e.1 e.2
    rw [List.foldl_cons, List.length_cons]
    omega
theorem m_tab (k : Kw) (hz : k.1.length ≤ 400) (hn : NnK k.1) : m_told_table [knD k] = .ok (.dict (dmD kD (tab k))) := by
  have e0 := m_broken k (by omega) hn
  have e1 := m_classes k (by omega) hn
  obtain ⟨ρ', h1, _, acc, v3, v4, v5, rfl, _, ha⟩ := for_all (g := gSet 3) (b := sSeq (sSet (gSet 4) (mIf (mTru (var 1)) (mCallF m_least_term (aCons (var 3) aNil)) (mCallF m_told_of_class (aCons (var 3) aNil)))) (sExpr (eUpd 2 (mCall dDict (aCons (mLc false (iSq (var 3)) [5] (gSet 5) bYes (mTup (aCons (var 5) (aCons (var 4) aNil)))) aNil))))) (enc := tpD kD)
    (I := fun l ρ => (∀ c ∈ l, c ∈ classesOf k.1) ∧ ∃ acc v3 v4 v5, ρ = [some (knD k), some (.bool (broken k)), some (.dict (dmD kD acc)), v3, v4, v5] ∧ acc.length + l.length * 800 ≤ 640000 ∧ (l.flatMap fun c => c.map fun x => (x, mark k c)).foldl (fun n e => putG n e.1 e.2) acc = tab k)
    (fun c l ρ h => by
      obtain ⟨hc, acc, v3, v4, v5, rfl, hl, ha⟩ := h
      have mc := hc c List.mem_cons_self
      have nn := conn_nn hn mc
      have cl := class_len mc
      have h0 : c ≠ [] := fun z => by have := (class_is mc).two; rw [z] at this; simp [runF, runI, runFr, startE, sSeq, sSet, sExpr, sRet, sRetN, sIf, sForE, mIf, mTru, mBool, mNotB, mAndB, mOrB, mCallF, mCall, aCons, aNil, var, getv, cst, mOp, mUn, mTup, mLst, mAnd, mOr, gSet, gOwn, gTpl, gsCons, gsNil, iSq, items, mDict0, R.bind, R.opt, R.nox, truD, tru, asB] at this
      have l1 : m_told_of_class [tpD kD c] = .ok (kD (toldOf c)) := m_told nn (by omega) h0
      have l2 : m_least_term [tpD kD c] = .ok (kD (least c)) := m_least nn h0
      have e := lc_map (g := gSet 5) (vs := [5]) (me := mTup (aCons (var 5) (aCons (var 4) aNil))) (ρ := [some (knD k), some (.bool (broken k)), some (.dict (dmD kD acc)), some (tpD kD c), some (kD (mark k c)), v5]) (enc := kD) (f := fun x => .tuple [kD x, kD (mark k c)]) (xs := c)
        fun x hx => ⟨[some (knD k), some (.bool (broken k)), some (.dict (dmD kD acc)), some (tpD kD c), some (kD (mark k c)), some (kD x)], _, rfl, by simp [runF, runI, runFr, startE, sSeq, sSet, sExpr, sRet, sRetN, sIf, sForE, mIf, mTru, mBool, mNotB, mAndB, mOrB, mCallF, mCall, aCons, aNil, var, getv, cst, mOp, mUn, mTup, mLst, mAnd, mOr, gSet, gOwn, gTpl, gsCons, gsNil, iSq, items, mDict0, R.bind, R.opt, R.nox, truD, tru, asB]; rfl⟩
      have ep : dDict [.list (c.map fun x => .tuple [kD x, kD (mark k c)])] = some (.dict (dmD kD (c.map fun x => (x, mark k c)))) := by
        have p1 := pairsOf_dm (f := kD) (c.map fun x => (x, mark k c))
        rw [List.map_map] at p1
        have p2 : pairsOf (c.map fun x => PyData.tuple [kD x, kD (mark k c)]) = some (dmD kD (c.map fun x => (x, mark k c))) := p1
        show (pairsOf _).map _ = _
        rw [p2]
        show some (PyData.dict (dmerge (dmD kD []) _)) = _
        rw [dmerge_dm, put_freshG _ [] (by rw [List.nil_append, List.map_map]; exact (show (c.map fun x => x).Nodup by rw [List.map_id']; exact (class_is mc).nd))]
        rfl
      rw [List.flatMap_cons, List.foldl_append] at ha
      rw [List.length_cons] at hl
      have hs : (dmD kD acc).length + (dmD kD (c.map fun x => (x, mark k c))).length ≤ sizeLine := by
        unfold dmD
        rw [List.length_map, List.length_map, List.length_map, sizeN]; omega
      refine ⟨_, [some (knD k), some (.bool (broken k)), some (.dict (dmD kD ((c.map fun x => (x, mark k c)).foldl (fun n e => putG n e.1 e.2) acc))), some (tpD kD c), some (kD (mark k c)), v5], rfl, .inl ?_, fun d hd => hc d (List.mem_cons_of_mem _ hd), _, _, _, _, rfl, ?_, ha⟩
      · have it : items (tpD kD c) = some (c.map kD) := rfl
        have em := dmerge_dm (f := kD) (c.map fun x => (x, mark k c)) acc
        unfold mark at e ep em hs ⊢
        cases hb : broken k <;> rw [hb] at e ep em hs <;> simp [runF, runI, runFr, startE, sSeq, sSet, sExpr, sRet, sRetN, sIf, sForE, mIf, mTru, mBool, mNotB, mAndB, mOrB, mCallF, mCall, aCons, aNil, var, getv, cst, mOp, mUn, mTup, mLst, mAnd, mOr, gSet, gOwn, gTpl, gsCons, gsNil, iSq, mDict0, R.bind, R.opt, R.nox, truD, tru, asB, hb, l1, l2, eUpd, mLc, it, asK_dm, asDict_dm] at e ep em hs ⊢ <;> simp [runF, runI, runFr, startE, sSeq, sSet, sExpr, sRet, sRetN, sIf, sForE, mIf, mTru, mBool, mNotB, mAndB, mOrB, mCallF, mCall, aCons, aNil, var, getv, cst, mOp, mUn, mTup, mLst, mAnd, mOr, gSet, gOwn, gTpl, gsCons, gsNil, iSq, items, mDict0, R.bind, R.opt, R.nox, truD, tru, asB, e, ep, asDict_dm, asK_dm, hs, em]
      · have := fold_len (c.map fun x => (x, mark k c)) acc
        rw [List.length_map] at this
        exact Nat.le_trans (Nat.add_le_add_right this _) (by omega)) (xs := classesOf k.1) (ρ := [some (knD k), some (.bool (broken k)), some (.dict []), none, none, none]) ⟨fun _ h => h, [], none, none, none, rfl, by have := classes_len k.1; simp [runF, runI, runFr, startE, sSeq, sSet, sExpr, sRet, sRetN, sIf, sForE, mIf, mTru, mBool, mNotB, mAndB, mOrB, mCallF, mCall, aCons, aNil, var, getv, cst, mOp, mUn, mTup, mLst, mAnd, mOr, gSet, gOwn, gTpl, gsCons, gsNil, iSq, items, mDict0, R.bind, R.opt, R.nox, truD, tru, asB]; omega, rfl⟩
  have ha : acc = tab k := by simpa using ha
  subst ha
  simp [runF, runI, runFr, startE, sSeq, sSet, sExpr, sRet, sRetN, sIf, sForE, mIf, mTru, mBool, mNotB, mAndB, mOrB, mCallF, mCall, aCons, aNil, var, getv, cst, mOp, mUn, mTup, mLst, mAnd, mOr, gSet, gOwn, gTpl, gsCons, gsNil, iSq, items, mDict0, R.bind, R.opt, R.nox, truD, tru, asB, m_told_table, b_told_table, e0, e1, h1]
end Lw

set_option Elab.async false
set_option linter.all false
set_option maxRecDepth 100000
set_option autoImplicit false
namespace Kn
open PySem Dt Dt.R
theorem least_mem {c : List T} (h0 : c ≠ []) : least c ∈ c := by
  unfold least inOrd
  have := srt_len (key := tkD) (xs := c)
  cases e : srt tkD c with
  | nil => rw [e] at this; exact absurd (List.length_eq_zero_iff.mp this.symm) h0
  | cons x xs => exact srt_mem.mp (e ▸ List.mem_cons_self)
theorem class_ne {ps : Ps} {c : List T} (hc : c ∈ classesOf ps) : c ≠ [] := fun z => by have := (class_is hc).two; rw [z] at this; simp at this
/-- a class has one mark, and a term one class -/
theorem class_one {ps : Ps} {c d : List T} {x : T} (hc : c ∈ classesOf ps) (hd : d ∈ classesOf ps) (xc : x ∈ c) (xd : x ∈ d) : ∀ y, y ∈ c ↔ y ∈ d := fun y => ((class_is hc).all x xc y).trans ((class_is hd).all x xd y).symm
theorem class_eq {ps : Ps} {c d : List T} {x : T} (hc : c ∈ classesOf ps) (hd : d ∈ classesOf ps) (xc : x ∈ c) (xd : x ∈ d) : c = d := by
  have S := says_cn ps
  have m := class_one hc hd xc xd
  obtain ⟨e, he, rfl⟩ := List.mem_map.mp (srt_mem.mp hc)
  obtain ⟨e2, he2, rfl⟩ := List.mem_map.mp (srt_mem.mp hd)
  obtain ⟨n, _, rfl⟩ := mem_grp.mp (List.mem_filter.mp he).1
  obtain ⟨n2, _, rfl⟩ := mem_grp.mp (List.mem_filter.mp he2).1
  exact srt_congr (apart_tk fun _ => True) (fun _ _ => True.intro) (clsAt_nodup S.nd n) (clsAt_nodup S.nd n2) fun y => by
    have := m y
    unfold inOrd at this
    rw [srt_mem, srt_mem] at this
    exact this
theorem rep_spec (k : Kw) (x : T) : (∃ c ∈ classesOf k.1, x ∈ c ∧ repK k x = mark k c) ∨ ((∀ c ∈ classesOf k.1, x ∉ c) ∧ repK k x = x) := by
  have key : ∀ e, e ∈ (classesOf k.1).flatMap (fun c => c.map fun x => (x, mark k c)) ↔ ∃ c ∈ classesOf k.1, e.1 ∈ c ∧ e.2 = mark k c := fun e => by
    rw [List.mem_flatMap]
    constructor
    · rintro ⟨c, hc, h⟩
      obtain ⟨y, hy, rfl⟩ := List.mem_map.mp h
      exact ⟨c, hc, hy, rfl⟩
    · rintro ⟨c, hc, h1, h2⟩
      exact ⟨c, hc, List.mem_map.mpr ⟨e.1, h1, Prod.ext rfl h2.symm⟩⟩
  unfold repK tab
  rw [lkG_fold _ x [] fun a ha b hb q => by
    obtain ⟨c, hc, c1, c2⟩ := (key a).mp ha
    obtain ⟨d, hd, d1, d2⟩ := (key b).mp hb
    rw [c2, d2, class_eq hc hd c1 (q ▸ d1)]]
  cases f : ((classesOf k.1).flatMap fun c => c.map fun x => (x, mark k c)).find? fun e => decide (e.1 = x) with
  | some e =>
    obtain ⟨c, hc, c1, c2⟩ := (key e).mp (List.mem_of_find?_eq_some f)
    have q : e.1 = x := of_decide_eq_true (List.find?_some (p := fun e : T × T => decide (e.1 = x)) f)
    exact .inl ⟨c, hc, q ▸ c1, c2⟩
  | none =>
    refine .inr ⟨fun c hc hx => ?_, rfl⟩
    have := List.find?_eq_none.mp f (x, mark k c) ((key _).mpr ⟨c, hc, hx, rfl⟩)
    simp at this
end Kn

set_option Elab.async false
set_option linter.all false
set_option maxRecDepth 100000
set_option autoImplicit false
namespace Kn
open PySem Dt Dt.R
def leUn0 (k : Kw) : Ps := (k.2.filter fun p => unk (repK k p.1) || unk (repK k p.2)).map fun p => turned (repK k p.1) (repK k p.2)
end Kn
namespace Lw
open PySem Kn Dt Dt.R
open L2 (Key)
/-- a term as the papers have it: no number below 0, a name that is a name -/
def Good (t : T) : Prop := Nn t ∧ m_is_name [kD t] = .ok (.bool (!unk t))
def GoodK (k : Kw) : Prop := ∀ x, In k.1 x ∨ In k.2 x → Good x
theorem GoodK.nn {k : Kw} (h : GoodK k) : NnK k.1 := fun x hx => (h x (.inl hx)).1
theorem class_in {ps : Ps} {c : List T} (hc : c ∈ classesOf ps) {t : T} (ht : t ∈ c) : In ps t := by
  have S := says_cn ps
  obtain ⟨e, he, rfl⟩ := List.mem_map.mp (srt_mem.mp hc)
  obtain ⟨n, _, rfl⟩ := mem_grp.mp (List.mem_filter.mp he).1
  have := (mem_clsAt S.nd).mp (srt_mem.mp ht)
  exact (S.keys t).mp (lk_mem.mp (by rw [this]; rfl))
theorem rep_good {k : Kw} (h : GoodK k) {x : T} (hx : Good x) : Good (repK k x) := by
  rcases rep_spec k x with ⟨c, hc, _, e⟩ | ⟨_, e⟩
  · rw [e]
    unfold mark
    split
    · exact h _ (.inl (class_in hc (least_mem (class_ne hc))))
    · exact h _ (.inl (class_in hc (told_nn (conn_nn h.nn hc) (class_ne hc))))
  · rw [e]; exact hx
theorem m_lun (k : Kw) (hz : k.1.length ≤ 400) (hz2 : k.2.length ≤ 1000000) (hg : GoodK k) : m_least_unlike [knD k] = .ok (psD (psOrd (dbl (leUn0 k)))) := by
  have e0 := m_tab k hz hg.nn
  obtain ⟨ρ', h1, _, acc, v3, v4, v5, v6, rfl, hl, ha⟩ := for_all (g := gTpl 2 (gsCons (gSet 3) (gsCons (gSet 4) gsNil))) (b := sSeq (sPar 5 6 (aCons (eGet2 (var 1) (var 3) (var 3)) (aCons (eGet2 (var 1) (var 4) (var 4)) aNil))) (sIf (mOrB (mNotB (mTru (mCallF m_is_name (aCons (var 5) aNil)))) (mNotB (mTru (mCallF m_is_name (aCons (var 6) aNil))))) (sExpr (eApp 2 (mCallF m_turned_in_order (aCons (var 5) (aCons (var 6) aNil))))) sNil)) (enc := pairD)
    (I := fun l ρ => (∀ p ∈ l, p ∈ k.2) ∧ ∃ acc v3 v4 v5 v6, ρ = [some (knD k), some (.dict (dmD kD (tab k))), some (.list (acc.map pairD)), v3, v4, v5, v6] ∧ acc.length + l.length ≤ 1000000 ∧ acc ++ (l.filter fun p => unk (repK k p.1) || unk (repK k p.2)).map (fun p => turned (repK k p.1) (repK k p.2)) = leUn0 k)
    (fun p l ρ h => by
      obtain ⟨hc, acc, v3, v4, v5, v6, rfl, hl, ha⟩ := h
      have mp := hc p List.mem_cons_self
      rw [List.length_cons] at hl
      have g1 := rep_good hg (hg p.1 (.inr ⟨p, mp, .inl rfl⟩))
      have g2 := rep_good hg (hg p.2 (.inr ⟨p, mp, .inr rfl⟩))
      have d1 : dGet2 (dmD kD (tab k)) (kD p.1) (kD p.1) = some (kD (repK k p.1)) := by rw [dGet2_dm]; unfold repK; cases lkG (tab k) p.1 <;> rfl
      have d2 : dGet2 (dmD kD (tab k)) (kD p.2) (kD p.2) = some (kD (repK k p.2)) := by rw [dGet2_dm]; unfold repK; cases lkG (tab k) p.2 <;> rfl
      have t := m_turned g1.1 g2.1
      have n1 := g1.2
      have n2 := g2.2
      have asl : ∀ ds : List D, asL (some (.list ds)) = some ds := fun _ => rfl
      have hs : acc.length < sizeLine := by rw [sizeN]; omega
      by_cases u : (unk (repK k p.1) || unk (repK k p.2)) = true
      · rw [List.filter_cons_of_pos (p := fun p : T × T => unk (repK k p.1) || unk (repK k p.2)) u, List.map_cons] at ha
        refine ⟨[some (knD k), some (.dict (dmD kD (tab k))), some (.list (acc.map pairD)), some (kD p.1), some (kD p.2), v5, v6], [some (knD k), some (.dict (dmD kD (tab k))), some (.list ((acc ++ [turned (repK k p.1) (repK k p.2)]).map pairD)), some (kD p.1), some (kD p.2), some (kD (repK k p.1)), some (kD (repK k p.2))], by simp [runF, runI, runFr, startE, sSeq, sSet, sExpr, sRet, sRetN, sIf, sForE, mIf, mTru, mBool, mNotB, mAndB, mOrB, mCallF, mCall, aCons, aNil, var, getv, cst, mOp, mUn, mTup, mLst, mAnd, mOr, gSet, gOwn, gTpl, gsCons, gsNil, iSq, mDict0, R.bind, R.opt, R.nox, truD, tru, asB, pairD, items], .inl ?_, fun q hq => hc q (List.mem_cons_of_mem _ hq), _, _, _, _, _, rfl, by rw [List.length_append, List.length_singleton]; omega, by rw [List.append_assoc]; exact ha⟩
        cases u1 : unk (repK k p.1) <;> cases u2 : unk (repK k p.2) <;> rw [u1, u2] at u <;> rw [u1] at n1 <;> rw [u2] at n2 <;> simp [runF, runI, runFr, startE, sSeq, sSet, sExpr, sRet, sRetN, sIf, sForE, mIf, mTru, mBool, mNotB, mAndB, mOrB, mCallF, mCall, aCons, aNil, var, getv, cst, mOp, mUn, mTup, mLst, mAnd, mOr, gSet, gOwn, gTpl, gsCons, gsNil, iSq, mDict0, R.bind, R.opt, R.nox, truD, tru, asB] at u n1 n2 <;> simp [runF, runI, runFr, startE, sSeq, sSet, sExpr, sRet, sRetN, sIf, sForE, mIf, mTru, mBool, mNotB, mAndB, mOrB, mCallF, mCall, aCons, aNil, var, getv, cst, mOp, mUn, mTup, mLst, mAnd, mOr, gSet, gOwn, gTpl, gsCons, gsNil, iSq, mDict0, R.bind, R.opt, R.nox, truD, tru, asB, sPar, eGet2, asDict_dm, d1, d2, n1, n2, t, eApp, asl, hs]
      · rw [List.filter_cons_of_neg (p := fun p : T × T => unk (repK k p.1) || unk (repK k p.2)) u] at ha
        refine ⟨[some (knD k), some (.dict (dmD kD (tab k))), some (.list (acc.map pairD)), some (kD p.1), some (kD p.2), v5, v6], [some (knD k), some (.dict (dmD kD (tab k))), some (.list (acc.map pairD)), some (kD p.1), some (kD p.2), some (kD (repK k p.1)), some (kD (repK k p.2))], by simp [runF, runI, runFr, startE, sSeq, sSet, sExpr, sRet, sRetN, sIf, sForE, mIf, mTru, mBool, mNotB, mAndB, mOrB, mCallF, mCall, aCons, aNil, var, getv, cst, mOp, mUn, mTup, mLst, mAnd, mOr, gSet, gOwn, gTpl, gsCons, gsNil, iSq, mDict0, R.bind, R.opt, R.nox, truD, tru, asB, pairD, items], .inl ?_, fun q hq => hc q (List.mem_cons_of_mem _ hq), _, _, _, _, _, rfl, by omega, ha⟩
        cases u1 : unk (repK k p.1) <;> cases u2 : unk (repK k p.2) <;> rw [u1, u2] at u <;> rw [u1] at n1 <;> rw [u2] at n2 <;> simp [runF, runI, runFr, startE, sSeq, sSet, sExpr, sRet, sRetN, sIf, sForE, mIf, mTru, mBool, mNotB, mAndB, mOrB, mCallF, mCall, aCons, aNil, var, getv, cst, mOp, mUn, mTup, mLst, mAnd, mOr, gSet, gOwn, gTpl, gsCons, gsNil, iSq, mDict0, R.bind, R.opt, R.nox, truD, tru, asB] at u n1 n2 <;> simp [runF, runI, runFr, startE, sSeq, sSet, sExpr, sRet, sRetN, sIf, sForE, mIf, mTru, mBool, mNotB, mAndB, mOrB, mCallF, mCall, aCons, aNil, var, getv, cst, mOp, mUn, mTup, mLst, mAnd, mOr, gSet, gOwn, gTpl, gsCons, gsNil, iSq, mDict0, R.bind, R.opt, R.nox, truD, tru, asB, sPar, eGet2, asDict_dm, d1, d2, n1, n2, t, sNil]) (xs := k.2) (ρ := [some (knD k), some (.dict (dmD kD (tab k))), some (.list []), none, none, none, none]) ⟨fun _ h => h, [], none, none, none, none, rfl, by simpa using hz2, rfl⟩
  have ha : acc = leUn0 k := by simpa using ha
  subst ha
  have nn : NnK (leUn0 k) := fun x hx => by
    obtain ⟨q, hq, hx⟩ := hx
    obtain ⟨p, hp, rfl⟩ := List.mem_map.mp hq
    have mp := (List.mem_filter.mp hp).1
    have g1 := rep_good hg (hg p.1 (.inr ⟨p, mp, .inl rfl⟩))
    have g2 := rep_good hg (hg p.2 (.inr ⟨p, mp, .inr rfl⟩))
    unfold turned at hx
    split at hx
    · rcases hx with rfl | rfl
      · exact g1.1
      · exact g2.1
    · rcases hx with rfl | rfl
      · exact g2.1
      · exact g1.1
  have e2 := m_psord nn (by simpa using hl)
  have it : items (psD k.2) = some (k.2.map pairD) := rfl
  simp [runF, runI, runFr, startE, sSeq, sSet, sExpr, sRet, sRetN, sIf, sForE, mIf, mTru, mBool, mNotB, mAndB, mOrB, mCallF, mCall, aCons, aNil, var, getv, cst, mOp, mUn, mTup, mLst, mAnd, mOr, gSet, gOwn, gTpl, gsCons, gsNil, iSq, mDict0, R.bind, R.opt, R.nox, truD, tru, asB, m_least_unlike, b_least_unlike, e0, ixk1, it, h1, e2]
end Lw

set_option Elab.async false
set_option linter.all false
set_option autoImplicit false
namespace Kn
open PySem Dt Dt.R
def nmA : T := .inr "a"
def nmB : T := .inr "b"
def BRK : Kw := ([(nmA, nmB)], [])
def leastK (k : Kw) : Kw := if broken k then BRK else (psOrd (dbl (leEq0 k.1)), psOrd (dbl (leUn0 k)))
def bothP (k l : Kw) : Kw := (k.1 ++ l.1, k.2 ++ l.2)
def telAll (k l : Kw) : Bool := broken k || (!broken l && (l.1.all (fun p => telEq k p.1 p.2) && l.2.all fun p => telUn k p.1 p.2))
end Kn

set_option Elab.async false
set_option linter.all false
set_option maxRecDepth 100000
set_option autoImplicit false
/-! The plain law, part one: a known and its worlds. -/
namespace Kn
open PySem Dt Dt.R
def pool : List T := [.inl 0, .inl 1, .inl 2, .inr "a", .inr "b"]
def InPool (k : Kw) : Prop := ∀ p, p ∈ k.1 ∨ p ∈ k.2 → p.1 ∈ pool ∧ p.2 ∈ pool
theorem pool_cases {t : T} (h : t ∈ pool) : t = .inl 0 ∨ t = .inl 1 ∨ t = .inl 2 ∨ t = .inr "a" ∨ t = .inr "b" := by
  simpa [pool] using h
theorem InPool.of {k : Kw} (h : InPool k) {t : T} (ht : In k.1 t) : t ∈ pool := by
  obtain ⟨p, hp, e | e⟩ := ht
  · exact e ▸ (h p (.inl hp)).1
  · exact e ▸ (h p (.inl hp)).2
theorem InPool.conn {k : Kw} (h : InPool k) {a b : T} (hc : Conn k.1 a b) (ha : a ∈ pool) : b ∈ pool := by
  rcases conn_in hc with e | e
  · exact e ▸ ha
  · exact h.of e
theorem InPool.cls {k : Kw} (h : InPool k) {c : List T} (hc : c ∈ classesOf k.1) {t : T} (ht : t ∈ c) : t ∈ pool := h.of (Lw.class_in hc ht)
/-- worlds: the names of the unknowns 0, 1, 2 -/
abbrev Row := List Str
def ev (w : Row) : T → Str
  | .inr s => s
  | .inl n => w.getD n.toNat ""
def nms5 : List Str := ["a", "b", "c", "d", "e"]
def longer (rows : List Row) : List Row := rows.flatMap fun r => nms5.map fun n => r ++ [n]
def allW : List Row := longer (longer (longer [[]]))
theorem mem_longer {rows : List Row} {w : Row} : w ∈ longer rows ↔ ∃ r ∈ rows, ∃ n ∈ nms5, w = r ++ [n] := by
  unfold longer
  rw [List.mem_flatMap]
  constructor
  · rintro ⟨r, hr, h⟩
    obtain ⟨n, hn, rfl⟩ := List.mem_map.mp h
    exact ⟨r, hr, n, hn, rfl⟩
  · rintro ⟨r, hr, n, hn, rfl⟩
    exact ⟨r, hr, List.mem_map.mpr ⟨n, hn, rfl⟩⟩
theorem mem_allW {x y z : Str} (hx : x ∈ nms5) (hy : y ∈ nms5) (hz : z ∈ nms5) : [x, y, z] ∈ allW :=
  mem_longer.mpr ⟨[x, y], mem_longer.mpr ⟨[x], mem_longer.mpr ⟨[], List.mem_singleton.mpr rfl, x, hx, rfl⟩, y, hy, rfl⟩, z, hz, rfl⟩
def Sat (w : Row) (k : Kw) : Prop := (∀ p ∈ k.1, ev w p.1 = ev w p.2) ∧ ∀ p ∈ k.2, ev w p.1 ≠ ev w p.2
theorem sat_conn {w : Row} {ps : Ps} (h : ∀ p ∈ ps, ev w p.1 = ev w p.2) {a b : T} (c : Conn ps a b) : ev w a = ev w b := by
  induction c with
  | refl => rfl
  | step _ e ih =>
    rcases e with e | e
    · exact ih.trans (h _ e)
    · exact ih.trans (h _ e).symm
theorem mem_nms {c : List T} {t : T} : t ∈ nmsIn c ↔ t ∈ c ∧ unk t = false := by
  unfold nmsIn once inOrd
  rw [srt_mem, dbl_mem, List.mem_filter]
  cases unk t <;> simp
theorem nms_nodup (c : List T) : (nmsIn c).Nodup := by
  unfold nmsIn once inOrd
  rw [srt_nodup]
  exact dbl_nodup _
theorem broken_unsat {k : Kw} (hb : broken k = true) {w : Row} : ¬ Sat w k := fun s => by
  unfold broken at hb
  rcases Bool.or_eq_true _ _ ▸ hb with h | h
  · obtain ⟨c, hc, h⟩ := List.any_eq_true.mp h
    have h := of_decide_eq_true h
    have nd := nms_nodup c
    have mm := fun t => @mem_nms c t
    cases e : nmsIn c with
    | nil => rw [e] at h; simp at h
    | cons x l => cases l with
      | nil => rw [e] at h; simp at h
      | cons y l =>
        rw [e] at nd mm
        have hx := (mm x).mp List.mem_cons_self
        have hy := (mm y).mp (List.mem_cons_of_mem _ List.mem_cons_self)
        have cc := ((class_is hc).all x hx.1 y).mp hy.1
        have q := sat_conn s.1 cc
        have ne : x ≠ y := fun z => by subst z; simp at nd
        cases x with
        | inl n => exact absurd hx.2 (by simp [unk])
        | inr u => cases y with
          | inl n => exact absurd hy.2 (by simp [unk])
          | inr v => exact ne (congrArg Sum.inr q)
  · obtain ⟨p, hp, h⟩ := List.any_eq_true.mp h
    exact s.2 p hp (sat_conn s.1 (joined_iff.mp h))
theorem unbroken {k : Kw} (hb : broken k = false) : (∀ c ∈ classesOf k.1, (nmsIn c).length ≤ 1) ∧ ∀ p ∈ k.2, ¬ Conn k.1 p.1 p.2 := by
  unfold broken at hb
  obtain ⟨h1, h2⟩ := Bool.or_eq_false_iff.mp hb
  refine ⟨fun c hc => ?_, fun p hp h => ?_⟩
  · have := List.any_eq_false.mp h1 c hc
    simpa using this
  · exact absurd (joined_iff.mpr h) (List.any_eq_false.mp h2 p hp)
section
variable {k : Kw} (hb : broken k = false)
theorem told_in {c : List T} (h0 : c ≠ []) : toldOf c ∈ c := by
  unfold toldOf
  split
  · next x e => exact (mem_nms.mp (e ▸ List.mem_singleton.mpr rfl : x ∈ nmsIn c)).1
  · exact least_mem h0
include hb
theorem rep_conn (x : T) : Conn k.1 x (repK k x) := by
  rcases rep_spec k x with ⟨c, hc, xc, e⟩ | ⟨_, e⟩
  · rw [e]
    unfold mark
    rw [hb]
    exact ((class_is hc).all x xc _).mp (told_in (class_ne hc))
  · rw [e]; exact .refl _
theorem rep_of {c : List T} (hc : c ∈ classesOf k.1) {x : T} (xc : x ∈ c) : repK k x = toldOf c := by
  rcases rep_spec k x with ⟨d, hd, xd, e⟩ | ⟨n, _⟩
  · rw [e, class_eq hd hc xd xc]
    unfold mark
    rw [hb]
    rfl
  · exact absurd xc (n c hc)
theorem rep_same {x y : T} (h : Conn k.1 x y) : repK k x = repK k y := by
  by_cases ne : x = y
  · rw [ne]
  · obtain ⟨c, hc, xc⟩ := class_of h ne
    rw [rep_of hb hc xc, rep_of hb hc (((class_is hc).all x xc y).mpr h)]
theorem rep_rep (x : T) : repK k (repK k x) = repK k x := (rep_same hb (rep_conn hb x)).symm
theorem rep_iff {x y : T} : repK k x = repK k y ↔ Conn k.1 x y := ⟨fun h => (rep_conn hb x).trans (h ▸ (rep_conn hb y).symm), rep_same hb⟩
theorem rep_name (s : Str) : repK k (.inr s) = .inr s := by
  rcases rep_spec k (.inr s) with ⟨c, hc, xc, _⟩ | ⟨_, e⟩
  · rw [rep_of hb hc xc]
    have l := (unbroken hb).1 c hc
    have m : (Sum.inr s : T) ∈ nmsIn c := mem_nms.mpr ⟨xc, rfl⟩
    unfold toldOf
    cases e : nmsIn c with
    | nil => rw [e] at m; cases m
    | cons x xs => cases xs with
      | nil => rw [e] at m; exact (List.mem_singleton.mp m).symm
      | cons y ys => rw [e] at l; simp at l
  · exact e
theorem rep_pool (hp : InPool k) {x : T} (hx : x ∈ pool) : repK k x ∈ pool := hp.conn (rep_conn hb x) hx
end
/-- a letter of its own for each term -/
def letter : T → Str
  | .inr s => s
  | .inl n => if n = 0 then "c" else if n = 1 then "d" else "e"
theorem letter_inj : ∀ a ∈ pool, ∀ b ∈ pool, letter a = letter b → a = b := by decide
theorem letter_mem : ∀ a ∈ pool, letter a ∈ nms5 := by decide
/-- a generic world, in which the class of `a` goes with that of `b` -/
def mrg (k : Kw) (a b x : T) : T := if repK k x = a then b else repK k x
def gen (k : Kw) (a b : T) : Row := [letter (mrg k a b (.inl 0)), letter (mrg k a b (.inl 1)), letter (mrg k a b (.inl 2))]
section
variable {k : Kw} (hb : broken k = false) (hp : InPool k) {a b : T} (hu : unk a = true) (pa : a ∈ pool) (pb : b ∈ pool)
include hb hp pb
theorem mrg_pool {x : T} (hx : x ∈ pool) : mrg k a b x ∈ pool := by
  unfold mrg
  split
  · exact pb
  · exact rep_pool hb hp hx
theorem gen_mem : gen k a b ∈ allW := mem_allW (letter_mem _ (mrg_pool hb hp pb (by decide))) (letter_mem _ (mrg_pool hb hp pb (by decide))) (letter_mem _ (mrg_pool hb hp pb (by decide)))
include hu
theorem ev_gen {t : T} (ht : t ∈ pool) : ev (gen k a b) t = letter (mrg k a b t) := by
  have nm : ∀ s, letter (mrg k a b (.inr s)) = s := fun s => by
    unfold mrg
    rw [rep_name hb, if_neg fun z => by rw [← z] at hu; cases hu]
    rfl
  rcases pool_cases ht with rfl | rfl | rfl | rfl | rfl
  · rfl
  · rfl
  · rfl
  · exact (nm _).symm
  · exact (nm _).symm
theorem gen_sat (h : ∀ p ∈ k.2, ¬ (repK k p.1 = a ∧ repK k p.2 = b) ∧ ¬ (repK k p.1 = b ∧ repK k p.2 = a)) : Sat (gen k a b) k := by
  constructor
  · intro p hq
    rw [ev_gen hb hp hu pb (hp p (.inl hq)).1, ev_gen hb hp hu pb (hp p (.inl hq)).2]
    unfold mrg
    rw [rep_same hb (.one (.inl hq))]
  · intro p hq e
    rw [ev_gen hb hp hu pb (hp p (.inr hq)).1, ev_gen hb hp hu pb (hp p (.inr hq)).2] at e
    have e := letter_inj _ (mrg_pool hb hp pb (hp p (.inr hq)).1) _ (mrg_pool hb hp pb (hp p (.inr hq)).2) e
    have ne : repK k p.1 ≠ repK k p.2 := fun z => (unbroken hb).2 p hq ((rep_iff hb).mp z)
    unfold mrg at e
    split at e
    · next h1 =>
      split at e
      · next h2 => exact ne (h1.trans h2.symm)
      · exact (h p hq).1 ⟨h1, e.symm⟩
    · split at e
      · next h2 => exact (h p hq).2 ⟨e, h2⟩
      · exact ne e
end
theorem gen_id {k : Kw} (hb : broken k = false) (hp : InPool k) : gen k (.inl 0) (.inl 0) ∈ allW ∧ Sat (gen k (.inl 0) (.inl 0)) k :=
  ⟨gen_mem hb hp (by decide), gen_sat hb hp rfl (by decide) fun p hq => ⟨fun z => (unbroken hb).2 p hq ((rep_iff hb).mp (z.1.trans z.2.symm)), fun z => (unbroken hb).2 p hq ((rep_iff hb).mp (z.1.trans z.2.symm))⟩⟩
theorem broken_iff {k : Kw} (hp : InPool k) : broken k = true ↔ ∀ w ∈ allW, ¬ Sat w k := by
  constructor
  · exact fun h w _ => broken_unsat h
  · intro h
    cases hb : broken k
    · exact absurd (gen_id hb hp).2 (h _ (gen_id hb hp).1)
    · rfl
theorem pool_with {k : Kw} (hp : InPool k) {x y : T} (hx : x ∈ pool) (hy : y ∈ pool) : InPool (withP k x y) := fun p h => by
  rcases h with h | h
  · rcases List.mem_append.mp h with h | h
    · exact hp p (.inl h)
    · rw [List.mem_singleton.mp h]; exact ⟨hx, hy⟩
  · exact hp p (.inr h)
def withU (k : Kw) (a b : T) : Kw := (k.1, k.2 ++ [(a, b)])
theorem pool_withU {k : Kw} (hp : InPool k) {x y : T} (hx : x ∈ pool) (hy : y ∈ pool) : InPool (withU k x y) := fun p h => by
  rcases h with h | h
  · exact hp p (.inl h)
  · rcases List.mem_append.mp h with h | h
    · exact hp p (.inr h)
    · rw [List.mem_singleton.mp h]; exact ⟨hx, hy⟩
theorem telEq_with (k : Kw) (x y : T) : telEq k x y = broken (withU k x y) := by
  unfold telEq broken withU
  rw [List.any_append]
  simp only [List.any_cons, List.any_nil, Bool.or_false]
  cases joined k.1 x y <;> simp
theorem telUn_iff {k : Kw} (hp : InPool k) {x y : T} (hx : x ∈ pool) (hy : y ∈ pool) : telUn k x y = true ↔ ∀ w ∈ allW, Sat w k → ev w x ≠ ev w y := by
  unfold telUn
  rw [broken_iff (pool_with hp hx hy)]
  constructor
  · intro h w hw s e
    refine h w hw ⟨fun p hp => ?_, s.2⟩
    rcases List.mem_append.mp hp with hp | hp
    · exact s.1 p hp
    · rw [List.mem_singleton.mp hp]; exact e
  · intro h w hw s
    exact h w hw ⟨fun p hp => s.1 p (List.mem_append_left _ hp), s.2⟩ (s.1 (x, y) (List.mem_append_right _ (List.mem_singleton.mpr rfl)))
theorem telEq_iff {k : Kw} (hp : InPool k) {x y : T} (hx : x ∈ pool) (hy : y ∈ pool) : telEq k x y = true ↔ ∀ w ∈ allW, Sat w k → ev w x = ev w y := by
  rw [telEq_with, broken_iff (pool_withU hp hx hy)]
  constructor
  · intro h w hw s
    refine Decidable.byContradiction fun e => h w hw ⟨s.1, fun p hp => ?_⟩
    rcases List.mem_append.mp hp with hp | hp
    · exact s.2 p hp
    · rw [List.mem_singleton.mp hp]; exact e
  · intro h w hw s
    exact s.2 (x, y) (List.mem_append_right _ (List.mem_singleton.mpr rfl)) (h w hw ⟨s.1, fun p hp => s.2 p (List.mem_append_left _ hp)⟩)
end Kn

set_option Elab.async false
set_option linter.all false
set_option maxRecDepth 100000
set_option autoImplicit false
/-! The plain law, part two: the least form of a known. -/
namespace Kn
open PySem Dt Dt.R
theorem sat_both {w : Row} {k l : Kw} : Sat w (bothP k l) ↔ Sat w k ∧ Sat w l := by
  constructor
  · intro h
    exact ⟨⟨fun p hp => h.1 p (List.mem_append_left _ hp), fun p hp => h.2 p (List.mem_append_left _ hp)⟩, fun p hp => h.1 p (List.mem_append_right _ hp), fun p hp => h.2 p (List.mem_append_right _ hp)⟩
  · rintro ⟨h, g⟩
    exact ⟨fun p hp => (List.mem_append.mp hp).elim (h.1 p) (g.1 p), fun p hp => (List.mem_append.mp hp).elim (h.2 p) (g.2 p)⟩
theorem pool_both {k l : Kw} (hk : InPool k) (hl : InPool l) : InPool (bothP k l) := fun p h => by
  rcases h with h | h <;> rcases List.mem_append.mp h with h | h
  · exact hk p (.inl h)
  · exact hl p (.inl h)
  · exact hk p (.inr h)
  · exact hl p (.inr h)
theorem telAll_iff {k l : Kw} (hk : InPool k) (hl : InPool l) : telAll k l = true ↔ ∀ w ∈ allW, Sat w k → Sat w l := by
  unfold telAll
  rw [Bool.or_eq_true, Bool.and_eq_true, Bool.and_eq_true, Bool.not_eq_true', List.all_eq_true, List.all_eq_true]
  constructor
  · rintro (h | ⟨h, h1, h2⟩) w hw s
    · exact absurd s (broken_unsat h)
    · exact ⟨fun p hp => (telEq_iff hk (hl p (.inl hp)).1 (hl p (.inl hp)).2).mp (h1 p hp) w hw s, fun p hp => (telUn_iff hk (hl p (.inr hp)).1 (hl p (.inr hp)).2).mp (h2 p hp) w hw s⟩
  · intro h
    cases hb : broken k
    · have g := gen_id hb hk
      refine .inr ⟨?_, fun p hp => (telEq_iff hk (hl p (.inl hp)).1 (hl p (.inl hp)).2).mpr fun w hw s => (h w hw s).1 p hp, fun p hp => (telUn_iff hk (hl p (.inr hp)).1 (hl p (.inr hp)).2).mpr fun w hw s => (h w hw s).2 p hp⟩
      cases hl2 : broken l
      · rfl
      · exact absurd (h _ g.1 g.2) (broken_unsat hl2)
    · exact .inl rfl
theorem mem_leEq {ps : Ps} {p : T × T} : p ∈ leEq0 ps ↔ ∃ c ∈ classesOf ps, ∃ x ∈ c, x ≠ toldOf c ∧ p = (toldOf c, x) := by
  unfold leEq0
  rw [List.mem_flatMap]
  constructor
  · rintro ⟨c, hc, h⟩
    obtain ⟨x, hx, rfl⟩ := List.mem_map.mp h
    obtain ⟨hx, ne⟩ := List.mem_filter.mp hx
    exact ⟨c, hc, x, hx, by simpa using ne, rfl⟩
  · rintro ⟨c, hc, x, hx, ne, rfl⟩
    exact ⟨c, hc, List.mem_map.mpr ⟨x, List.mem_filter.mpr ⟨hx, by simpa using ne⟩, rfl⟩⟩
theorem turned_two (a b : T) : turned a b = (a, b) ∨ turned a b = (b, a) := by
  unfold turned
  split
  · exact .inl rfl
  · exact .inr rfl
theorem turned_symm {a b : T} (ha : a ∈ pool) (hb : b ∈ pool) : turned a b = turned b a := by
  have : ∀ a ∈ pool, ∀ b ∈ pool, turned a b = turned b a := by decide
  exact this a ha b hb
theorem mem_leUn {k : Kw} {p : T × T} : p ∈ leUn0 k ↔ ∃ q ∈ k.2, (unk (repK k q.1) = true ∨ unk (repK k q.2) = true) ∧ p = turned (repK k q.1) (repK k q.2) := by
  unfold leUn0
  rw [List.mem_map]
  constructor
  · rintro ⟨q, hq, rfl⟩
    obtain ⟨hq, u⟩ := List.mem_filter.mp hq
    exact ⟨q, hq, by simpa using u, rfl⟩
  · rintro ⟨q, hq, u, rfl⟩
    exact ⟨q, List.mem_filter.mpr ⟨hq, by simpa using u⟩, rfl⟩
section
variable {k : Kw} (hb : broken k = false) (hp : InPool k)
include hb hp
theorem leEq_rep {p : T × T} : p ∈ leEq0 k.1 ↔ ∃ x ∈ pool, repK k x ≠ x ∧ p = (repK k x, x) := by
  rw [mem_leEq]
  constructor
  · rintro ⟨c, hc, x, hx, ne, rfl⟩
    rw [← rep_of hb hc hx] at ne ⊢
    exact ⟨x, hp.cls hc hx, ne.symm, rfl⟩
  · rintro ⟨x, hx, ne, rfl⟩
    rcases rep_spec k x with ⟨c, hc, xc, _⟩ | ⟨_, e⟩
    · rw [rep_of hb hc xc] at ne ⊢
      exact ⟨c, hc, x, xc, ne.symm, rfl⟩
    · exact absurd e ne
theorem leUn_rep {p : T × T} : p ∈ leUn0 k ↔ ∃ x ∈ pool, ∃ y ∈ pool, repK k x = x ∧ repK k y = y ∧ (unk x = true ∨ unk y = true) ∧ telUn k x y = true ∧ p = turned x y := by
  rw [mem_leUn]
  constructor
  · rintro ⟨q, hq, u, rfl⟩
    have p1 := (hp q (.inr hq)).1
    have p2 := (hp q (.inr hq)).2
    refine ⟨_, rep_pool hb hp p1, _, rep_pool hb hp p2, rep_rep hb _, rep_rep hb _, u, (telUn_iff hp (rep_pool hb hp p1) (rep_pool hb hp p2)).mpr fun w hw s => ?_, rfl⟩
    rw [← sat_conn s.1 (rep_conn hb q.1), ← sat_conn s.1 (rep_conn hb q.2)]
    exact s.2 q hq
  · rintro ⟨x, hx, y, hy, rx, ry, u, t, rfl⟩
    -- the unknown one of the two goes with the other
    have main : ∀ a b : T, a ∈ pool → b ∈ pool → unk a = true → repK k a = a → repK k b = b → (∀ w ∈ allW, Sat w k → ev w a ≠ ev w b) → ∃ q ∈ k.2, (repK k q.1 = a ∧ repK k q.2 = b) ∨ (repK k q.1 = b ∧ repK k q.2 = a) := by
      intro a b pa pb ua ra rb h
      refine Decidable.byContradiction fun no => ?_
      refine h _ (gen_mem (a := a) hb hp pb) (gen_sat hb hp ua pb fun q hq => ⟨fun z => no ⟨q, hq, .inl z⟩, fun z => no ⟨q, hq, .inr z⟩⟩) ?_
      rw [ev_gen hb hp ua pb pa, ev_gen hb hp ua pb pb]
      unfold mrg
      rw [ra, rb, if_pos rfl]
      split <;> rfl
    have t := (telUn_iff hp hx hy).mp t
    have got : ∃ q ∈ k.2, (repK k q.1 = x ∧ repK k q.2 = y) ∨ (repK k q.1 = y ∧ repK k q.2 = x) := by
      by_cases ux : unk x = true
      · exact main x y hx hy ux rx ry t
      · have uy := u.resolve_left ux
        obtain ⟨q, hq, h⟩ := main y x hy hx uy ry rx fun w hw s e => t w hw s e.symm
        exact ⟨q, hq, h.symm⟩
    obtain ⟨q, hq, ⟨e1, e2⟩ | ⟨e1, e2⟩⟩ := got
    · exact ⟨q, hq, by rw [e1, e2]; exact u, by rw [e1, e2]⟩
    · exact ⟨q, hq, by rw [e1, e2]; exact u.symm, by rw [e1, e2]; exact turned_symm hx hy⟩
theorem sat_least0 {w : Row} : Sat w (psOrd (dbl (leEq0 k.1)), psOrd (dbl (leUn0 k))) ↔ Sat w k := by
  have m1 : ∀ p, p ∈ psOrd (dbl (leEq0 k.1)) ↔ ∃ x ∈ pool, repK k x ≠ x ∧ p = (repK k x, x) := fun p => by
    unfold psOrd
    rw [srt_mem, dbl_mem, leEq_rep hb hp]
  have m2 : ∀ p, p ∈ psOrd (dbl (leUn0 k)) ↔ ∃ q ∈ k.2, (unk (repK k q.1) = true ∨ unk (repK k q.2) = true) ∧ p = turned (repK k q.1) (repK k q.2) := fun p => by
    unfold psOrd
    rw [srt_mem, dbl_mem, mem_leUn]
  constructor
  · rintro ⟨h1, h2⟩
    have rp : ∀ x ∈ pool, ev w (repK k x) = ev w x := fun x hx => by
      by_cases e : repK k x = x
      · rw [e]
      · exact h1 _ ((m1 _).mpr ⟨x, hx, e, rfl⟩)
    refine ⟨fun p hq => ?_, fun p hq e => ?_⟩
    · rw [← rp _ (hp p (.inl hq)).1, ← rp _ (hp p (.inl hq)).2, rep_same hb (.one (.inl hq))]
    · rw [← rp _ (hp p (.inr hq)).1, ← rp _ (hp p (.inr hq)).2] at e
      by_cases u : unk (repK k p.1) = true ∨ unk (repK k p.2) = true
      · have := h2 _ ((m2 _).mpr ⟨p, hq, u, rfl⟩)
        rcases turned_two (repK k p.1) (repK k p.2) with z | z <;> rw [z] at this
        · exact this e
        · exact this e.symm
      · have ne : repK k p.1 ≠ repK k p.2 := fun z => (unbroken hb).2 p hq ((rep_iff hb).mp z)
        cases r1 : repK k p.1 with
        | inl n => exact u (.inl (by rw [r1]; rfl))
        | inr s => cases r2 : repK k p.2 with
          | inl n => exact u (.inr (by rw [r2]; rfl))
          | inr v => rw [r1, r2] at e ne; exact ne (congrArg Sum.inr e)
  · intro s
    refine ⟨fun p hq => ?_, fun p hq => ?_⟩
    · obtain ⟨x, _, _, rfl⟩ := (m1 p).mp hq
      exact (sat_conn s.1 (rep_conn hb x)).symm
    · obtain ⟨q, h3, _, rfl⟩ := (m2 p).mp hq
      have ne := s.2 q h3
      rw [sat_conn s.1 (rep_conn hb q.1), sat_conn s.1 (rep_conn hb q.2)] at ne
      rcases turned_two (repK k q.1) (repK k q.2) with z | z <;> rw [z]
      · exact ne
      · exact ne.symm
theorem pool_least0 : InPool (psOrd (dbl (leEq0 k.1)), psOrd (dbl (leUn0 k))) := fun p h => by
  unfold psOrd at h
  rcases h with h | h <;> rw [srt_mem, dbl_mem] at h
  · obtain ⟨x, hx, _, rfl⟩ := (leEq_rep hb hp).mp h
    exact ⟨rep_pool hb hp hx, hx⟩
  · obtain ⟨x, hx, y, hy, _, _, _, _, rfl⟩ := (leUn_rep hb hp).mp h
    rcases turned_two x y with z | z <;> rw [z]
    · exact ⟨hx, hy⟩
    · exact ⟨hy, hx⟩
end
theorem brk_broken : broken BRK = true := by
  refine (broken_iff (k := BRK) fun p h => ?_).mpr fun w _ s => ?_
  · rcases h with h | h
    · rw [List.mem_singleton.mp h]; decide
    · cases h
  · exact absurd (s.1 (nmA, nmB) (List.mem_singleton.mpr rfl)) (by show ¬(("a" : Str) = "b"); decide)
theorem pool_least {k : Kw} (hp : InPool k) : InPool (leastK k) := by
  unfold leastK
  split
  · intro p h
    rcases h with h | h
    · rw [List.mem_singleton.mp h]; decide
    · cases h
  · next hb => exact pool_least0 (by simpa using hb) hp
theorem sat_least {k : Kw} (hp : InPool k) {w : Row} : Sat w (leastK k) ↔ Sat w k := by
  unfold leastK
  split
  · next hb => exact ⟨fun h => absurd h (broken_unsat brk_broken), fun h => absurd h (broken_unsat hb)⟩
  · next hb => exact sat_least0 (by simpa using hb) hp
theorem broken_congr {k l : Kw} (hk : InPool k) (hl : InPool l) (h : ∀ w ∈ allW, Sat w k ↔ Sat w l) : broken k = broken l := by
  rw [Bool.eq_iff_iff, broken_iff hk, broken_iff hl]
  exact ⟨fun g w hw s => g w hw ((h w hw).mpr s), fun g w hw s => g w hw ((h w hw).mp s)⟩
theorem class_like {ps qs : Ps} {c d : List T} (hc : c ∈ classesOf ps) (hd : d ∈ classesOf qs) (m : ∀ y, y ∈ c ↔ y ∈ d) : c = d := by
  obtain ⟨e, he, rfl⟩ := List.mem_map.mp (srt_mem.mp hc)
  obtain ⟨e2, he2, rfl⟩ := List.mem_map.mp (srt_mem.mp hd)
  obtain ⟨n, _, rfl⟩ := mem_grp.mp (List.mem_filter.mp he).1
  obtain ⟨n2, _, rfl⟩ := mem_grp.mp (List.mem_filter.mp he2).1
  exact srt_congr (apart_tk fun _ => True) (fun _ _ => True.intro) (clsAt_nodup (says_cn ps).nd n) (clsAt_nodup (says_cn qs).nd n2) fun y => by
    have := m y
    unfold inOrd at this
    rw [srt_mem, srt_mem] at this
    exact this
theorem rep_congr {k l : Kw} (bk : broken k = false) (bl : broken l = false) (c : ∀ x y, x ∈ pool → (Conn k.1 x y ↔ Conn l.1 x y)) {x : T} (hx : x ∈ pool) : repK k x = repK l x := by
  rcases rep_spec k x with ⟨a, ha, xa, _⟩ | ⟨na, ea⟩
  · rcases rep_spec l x with ⟨b, hb, xb, _⟩ | ⟨nb, _⟩
    · rw [rep_of bk ha xa, rep_of bl hb xb, class_like ha hb fun y => ((class_is ha).all x xa y).trans ((c x y hx).trans ((class_is hb).all x xb y).symm)]
    · exfalso
      have two := (class_is ha).two
      have nd := (class_is ha).nd
      have : ∃ y ∈ a, x ≠ y := by
        cases a with
        | nil => cases xa
        | cons u l1 => cases l1 with
          | nil => simp at two
          | cons v l2 =>
            by_cases e : x = u
            · exact ⟨v, by simp, fun z => by rw [← e, ← z] at nd; simp at nd⟩
            · exact ⟨u, by simp, e⟩
      obtain ⟨y, hy, ne⟩ := this
      obtain ⟨b, hb, xb⟩ := class_of ((c x y hx).mp (((class_is ha).all x xa y).mp hy)) ne
      exact nb b hb xb
  · rcases rep_spec l x with ⟨b, hb, xb, _⟩ | ⟨nb, eb⟩
    · exfalso
      have two := (class_is hb).two
      have nd := (class_is hb).nd
      have : ∃ y ∈ b, x ≠ y := by
        cases b with
        | nil => cases xb
        | cons u l1 => cases l1 with
          | nil => simp at two
          | cons v l2 =>
            by_cases e : x = u
            · exact ⟨v, by simp, fun z => by rw [← e, ← z] at nd; simp at nd⟩
            · exact ⟨u, by simp, e⟩
      obtain ⟨y, hy, ne⟩ := this
      obtain ⟨b, hb, xb⟩ := class_of ((c x y hx).mpr (((class_is hb).all x xb y).mp hy)) ne
      exact na b hb xb
    · rw [ea, eb]
/-- knowns with the same worlds have the same least form -/
theorem canon {k l : Kw} (hk : InPool k) (hl : InPool l) (h : ∀ w ∈ allW, Sat w k ↔ Sat w l) : leastK k = leastK l := by
  have bb := broken_congr hk hl h
  unfold leastK
  cases bl : broken l
  · have bk := bb.trans bl
    rw [bk]
    have te : ∀ x ∈ pool, ∀ y ∈ pool, telEq k x y = telEq l x y := fun x hx y hy => by
      rw [Bool.eq_iff_iff, telEq_iff hk hx hy, telEq_iff hl hx hy]
      exact ⟨fun g w hw s => g w hw ((h w hw).mpr s), fun g w hw s => g w hw ((h w hw).mp s)⟩
    have tu : ∀ x ∈ pool, ∀ y ∈ pool, telUn k x y = telUn l x y := fun x hx y hy => by
      rw [Bool.eq_iff_iff, telUn_iff hk hx hy, telUn_iff hl hx hy]
      exact ⟨fun g w hw s => g w hw ((h w hw).mpr s), fun g w hw s => g w hw ((h w hw).mp s)⟩
    have cc : ∀ x y, x ∈ pool → (Conn k.1 x y ↔ Conn l.1 x y) := fun x y hx => by
      constructor
      · intro c
        have := te x hx y (hk.conn c hx)
        unfold telEq at this
        rw [bk, bl, joined_iff.mpr c] at this
        exact joined_iff.mp (by simpa using this.symm)
      · intro c
        have := te x hx y (hl.conn c hx)
        unfold telEq at this
        rw [bk, bl, joined_iff.mpr c] at this
        exact joined_iff.mp (by simpa using this)
    have rr : ∀ x ∈ pool, repK k x = repK l x := fun x hx => rep_congr bk bl cc hx
    have e1 : psOrd (dbl (leEq0 k.1)) = psOrd (dbl (leEq0 l.1)) := srt_congr (apart_pk fun _ => True) (fun _ _ => True.intro) (dbl_nodup _) (dbl_nodup _) fun p => by
      rw [dbl_mem, dbl_mem, leEq_rep bk hk, leEq_rep bl hl]
      constructor
      · rintro ⟨x, hx, ne, rfl⟩
        exact ⟨x, hx, rr x hx ▸ ne, by rw [rr x hx]⟩
      · rintro ⟨x, hx, ne, rfl⟩
        exact ⟨x, hx, (rr x hx).symm ▸ ne, by rw [rr x hx]⟩
    have e2 : psOrd (dbl (leUn0 k)) = psOrd (dbl (leUn0 l)) := srt_congr (apart_pk fun _ => True) (fun _ _ => True.intro) (dbl_nodup _) (dbl_nodup _) fun p => by
      rw [dbl_mem, dbl_mem, leUn_rep bk hk, leUn_rep bl hl]
      constructor
      · rintro ⟨x, hx, y, hy, rx, ry, u, t, rfl⟩
        exact ⟨x, hx, y, hy, (rr x hx).symm.trans rx, (rr y hy).symm.trans ry, u, (tu x hx y hy).symm.trans t, rfl⟩
      · rintro ⟨x, hx, y, hy, rx, ry, u, t, rfl⟩
        exact ⟨x, hx, y, hy, (rr x hx).trans rx, (rr y hy).trans ry, u, (tu x hx y hy).trans t, rfl⟩
    rw [e1, e2]
  · rw [bb, bl]; rfl
/-- the least form is its own -/
theorem least_idem {k : Kw} (hp : InPool k) : leastK (leastK k) = leastK k := canon (pool_least hp) hp fun _ _ => sat_least hp
theorem same_iff {k l : Kw} (hk : InPool k) (hl : InPool l) : leastK k = leastK l ↔ ∀ w ∈ allW, Sat w k ↔ Sat w l :=
  ⟨fun e w _ => (sat_least hk).symm.trans (e ▸ sat_least hl), canon hk hl⟩
end Kn

set_option Elab.async false
set_option linter.all false
set_option maxRecDepth 100000
set_option autoImplicit false
/-! The plain law, part three: what the law asks. -/
namespace Kn
open PySem Dt Dt.R
def satB (k : Kw) (w : Row) : Bool := k.1.all (fun p => decide (ev w p.1 = ev w p.2)) && k.2.all fun p => !decide (ev w p.1 = ev w p.2)
theorem satB_iff {k : Kw} {w : Row} : satB k w = true ↔ Sat w k := by
  unfold satB Sat
  rw [Bool.and_eq_true, List.all_eq_true, List.all_eq_true]
  constructor
  · rintro ⟨h, g⟩
    exact ⟨fun p hp => of_decide_eq_true (h p hp), fun p hp => by simpa using g p hp⟩
  · rintro ⟨h, g⟩
    exact ⟨fun p hp => decide_eq_true (h p hp), fun p hp => by simpa using g p hp⟩
def wlds (k : Kw) : List Row := allW.filter (satB k)
theorem mem_wlds {k : Kw} {w : Row} : w ∈ wlds k ↔ w ∈ allW ∧ Sat w k := by
  unfold wlds
  rw [List.mem_filter, satB_iff]
/-- the pairs of unlike places of a list -/
def prs : List T → Ps
  | [] => []
  | x :: xs => xs.map (fun y => (x, y)) ++ prs xs
theorem prs_mem : ∀ {ts : List T} {p : T × T}, p ∈ prs ts → p.1 ∈ ts ∧ p.2 ∈ ts
  | [], _, h => by cases h
  | x :: xs, p, h => by
    rcases List.mem_append.mp h with h | h
    · obtain ⟨y, hy, rfl⟩ := List.mem_map.mp h
      exact ⟨List.mem_cons_self, List.mem_cons_of_mem _ hy⟩
    · exact ⟨List.mem_cons_of_mem _ (prs_mem h).1, List.mem_cons_of_mem _ (prs_mem h).2⟩
theorem prs_all : ∀ {ts : List T} {a b : T}, a ∈ ts → b ∈ ts → a ≠ b → (a, b) ∈ prs ts ∨ (b, a) ∈ prs ts
  | [], _, _, h, _, _ => by cases h
  | x :: xs, a, b, ha, hb, ne => by
    unfold prs
    rw [List.mem_append, List.mem_append]
    rcases List.mem_cons.mp ha with ea | ha
    · rcases List.mem_cons.mp hb with eb | hb
      · exact absurd (ea.trans eb.symm) ne
      · exact .inl (.inl (List.mem_map.mpr ⟨b, hb, by rw [ea]⟩))
    · rcases List.mem_cons.mp hb with eb | hb
      · exact .inr (.inl (List.mem_map.mpr ⟨a, ha, by rw [eb]⟩))
      · exact (prs_all ha hb ne).imp .inr .inr
theorem prs_len : ∀ ts : List T, (prs ts).length ≤ ts.length * ts.length
  | [] => Nat.zero_le _
  | x :: xs => by
    have := prs_len xs
    unfold prs
    rw [List.length_append, List.length_map, List.length_cons, Nat.add_mul, Nat.mul_add]
    omega
theorem mem_once {ts : List T} {t : T} : t ∈ once ts ↔ t ∈ ts := by
  unfold once inOrd
  rw [srt_mem, dbl_mem]
def abt (k : Kw) (ts : List T) : Kw := ((prs (once ts)).filter fun p => telEq k p.1 p.2, (prs (once ts)).filter fun p => telUn k p.1 p.2)
def aboutK (k : Kw) (ts : List T) : Kw := if broken k then BRK else leastK (abt k ts)
def moreK (k l : Kw) : Kw := ((leastK l).1.filter fun p => !telEq k p.1 p.2, (leastK l).2.filter fun p => !telUn k p.1 p.2)
theorem pool_brk : InPool BRK := fun p h => by
  rcases h with h | h
  · rw [List.mem_singleton.mp h]; decide
  · cases h
theorem least_brk : leastK BRK = BRK := by
  unfold leastK
  rw [brk_broken]
  rfl
section
variable {k : Kw} (hp : InPool k) {ts : List T} (ht : ∀ t ∈ ts, t ∈ pool)
include hp ht
theorem pool_abt : InPool (abt k ts) := fun p h => by
  have : p ∈ prs (once ts) := by
    rcases h with h | h
    · exact (List.mem_filter.mp h).1
    · exact (List.mem_filter.mp h).1
  exact ⟨ht _ (mem_once.mp (prs_mem this).1), ht _ (mem_once.mp (prs_mem this).2)⟩
theorem pool_about : InPool (aboutK k ts) := by
  unfold aboutK
  split
  · exact pool_brk
  · exact pool_least (pool_abt hp ht)
theorem about_idem : leastK (aboutK k ts) = aboutK k ts := by
  unfold aboutK
  split
  · exact least_brk
  · exact least_idem (pool_abt hp ht)
theorem sat_about {w : Row} (hw : w ∈ allW) (s : Sat w k) : Sat w (aboutK k ts) := by
  unfold aboutK
  split
  · next hb => exact absurd s (broken_unsat hb)
  · refine (sat_least (pool_abt hp ht)).mpr ⟨fun p h => ?_, fun p h => ?_⟩
    · have q := List.mem_filter.mp h
      have m := prs_mem q.1
      exact (telEq_iff hp (ht _ (mem_once.mp m.1)) (ht _ (mem_once.mp m.2))).mp q.2 w hw s
    · have q := List.mem_filter.mp h
      have m := prs_mem q.1
      exact (telUn_iff hp (ht _ (mem_once.mp m.1)) (ht _ (mem_once.mp m.2))).mp q.2 w hw s
theorem about_all : telAll k (aboutK k ts) = true := (telAll_iff hp (pool_about hp ht)).mpr fun _ hw s => sat_about hp ht hw s
theorem about_eq {x y : T} (hx : x ∈ ts) (hy : y ∈ ts) : telEq (aboutK k ts) x y = telEq k x y := by
  rw [Bool.eq_iff_iff, telEq_iff (pool_about hp ht) (ht x hx) (ht y hy), telEq_iff hp (ht x hx) (ht y hy)]
  constructor
  · exact fun h w hw s => h w hw (sat_about hp ht hw s)
  · intro h w hw s
    unfold aboutK at s
    split at s
    · exact absurd s (broken_unsat brk_broken)
    · by_cases ne : x = y
      · rw [ne]
      · have s := (sat_least (pool_abt hp ht)).mp s
        have te : ∀ a b, a ∈ ts → b ∈ ts → (∀ w ∈ allW, Sat w k → ev w a = ev w b) → (a, b) ∈ prs (once ts) → ev w a = ev w b := fun a b ha hb h m =>
          s.1 (a, b) (List.mem_filter.mpr ⟨m, (telEq_iff hp (ht a ha) (ht b hb)).mpr h⟩)
        rcases prs_all (mem_once.mpr hx) (mem_once.mpr hy) ne with m | m
        · exact te x y hx hy h m
        · exact (te y x hy hx (fun w hw s => (h w hw s).symm) m).symm
theorem about_un {x y : T} (hx : x ∈ ts) (hy : y ∈ ts) : telUn (aboutK k ts) x y = telUn k x y := by
  rw [Bool.eq_iff_iff, telUn_iff (pool_about hp ht) (ht x hx) (ht y hy), telUn_iff hp (ht x hx) (ht y hy)]
  constructor
  · exact fun h w hw s => h w hw (sat_about hp ht hw s)
  · intro h w hw s
    unfold aboutK at s
    split at s
    · exact absurd s (broken_unsat brk_broken)
    · next hb =>
      have g := gen_id (by simpa using hb) hp
      by_cases ne : x = y
      · subst ne
        exact absurd rfl (h _ g.1 g.2)
      · have s := (sat_least (pool_abt hp ht)).mp s
        have te : ∀ a b, a ∈ ts → b ∈ ts → (∀ w ∈ allW, Sat w k → ev w a ≠ ev w b) → (a, b) ∈ prs (once ts) → ev w a ≠ ev w b := fun a b ha hb h m =>
          s.2 (a, b) (List.mem_filter.mpr ⟨m, (telUn_iff hp (ht a ha) (ht b hb)).mpr h⟩)
        rcases prs_all (mem_once.mpr hx) (mem_once.mpr hy) ne with m | m
        · exact te x y hx hy h m
        · exact (te y x hy hx (fun w hw s => (h w hw s).symm) m).symm
theorem about_wider : ∀ w ∈ wlds k, w ∈ wlds (aboutK k ts) := fun w h => by
  have h := mem_wlds.mp h
  exact mem_wlds.mpr ⟨h.1, sat_about hp ht h.1 h.2⟩
theorem about_full (full : ∀ t ∈ pool, t ∈ ts) : leastK (aboutK k ts) = leastK k := canon (pool_about hp ht) hp fun w hw => by
  refine ⟨fun s => ⟨fun p h => ?_, fun p h => ?_⟩, sat_about hp ht hw⟩
  · have q := hp p (.inl h)
    have t := (telEq_iff hp q.1 q.2).mpr fun w _ s => s.1 p h
    rw [← about_eq hp ht (full _ q.1) (full _ q.2)] at t
    exact (telEq_iff (pool_about hp ht) q.1 q.2).mp t w hw s
  · have q := hp p (.inr h)
    have t := (telUn_iff hp q.1 q.2).mpr fun w _ s => s.2 p h
    rw [← about_un hp ht (full _ q.1) (full _ q.2)] at t
    exact (telUn_iff (pool_about hp ht) q.1 q.2).mp t w hw s
end
section
variable {k l : Kw} (hk : InPool k) (hl : InPool l)
include hk hl
theorem pool_more : InPool (moreK k l) := fun p h => by
  refine pool_least hl p ?_
  rcases h with h | h
  · exact .inl (List.mem_filter.mp h).1
  · exact .inr (List.mem_filter.mp h).1
theorem held_eq : (wlds k).filter (fun w => decide (w ∈ wlds l)) = wlds (leastK (bothP k l)) := by
  unfold wlds
  rw [List.filter_filter]
  refine List.filter_congr fun w hw => ?_
  rw [Bool.eq_iff_iff, Bool.and_eq_true, satB_iff, satB_iff, sat_least (pool_both hk hl), sat_both, decide_eq_true_iff, List.mem_filter, satB_iff]
  exact ⟨fun h => ⟨h.2, h.1.2⟩, fun h => ⟨⟨hw, h.2⟩, h.1⟩⟩
theorem broken_least : broken (leastK k) = broken k := broken_congr (pool_least hk) hk fun _ _ => sat_least hk
theorem held_nil : broken (leastK (bothP k l)) = decide (wlds (leastK (bothP k l)) = []) := by
  have pb := pool_least (pool_both hk hl)
  rw [Bool.eq_iff_iff, broken_iff pb, decide_eq_true_iff, List.eq_nil_iff_forall_not_mem]
  constructor
  · exact fun h w hw => h w (mem_wlds.mp hw).1 (mem_wlds.mp hw).2
  · exact fun h w hw s => h w (mem_wlds.mpr ⟨hw, s⟩)
theorem both_all : telAll (leastK (bothP k l)) k = true ∧ telAll (leastK (bothP k l)) l = true := by
  have pb := pool_both hk hl
  exact ⟨(telAll_iff (pool_least pb) hk).mpr fun w _ s => (sat_both.mp ((sat_least pb).mp s)).1, (telAll_iff (pool_least pb) hl).mpr fun w _ s => (sat_both.mp ((sat_least pb).mp s)).2⟩
theorem all_held : telAll k l = decide (wlds (leastK (bothP k l)) = wlds k) := by
  have pb := pool_both hk hl
  rw [Bool.eq_iff_iff, telAll_iff hk hl, decide_eq_true_iff]
  constructor
  · intro h
    unfold wlds
    refine List.filter_congr fun w hw => ?_
    rw [Bool.eq_iff_iff, satB_iff, satB_iff, sat_least pb, sat_both]
    exact ⟨fun s => s.1, fun s => ⟨s, h w hw s⟩⟩
  · intro h w hw s
    have : w ∈ wlds k := mem_wlds.mpr ⟨hw, s⟩
    rw [← h] at this
    exact (sat_both.mp ((sat_least pb).mp (mem_wlds.mp this).2)).2
theorem more_none : decide (moreK k l = ([], [])) = telAll k l := by
  have pl := pool_least hl
  rw [Bool.eq_iff_iff, decide_eq_true_iff, telAll_iff hk hl]
  unfold moreK
  rw [Prod.mk.injEq, List.filter_eq_nil_iff, List.filter_eq_nil_iff]
  constructor
  · rintro ⟨h1, h2⟩ w hw s
    refine (sat_least hl).mp ⟨fun p hp => ?_, fun p hp => ?_⟩
    · exact (telEq_iff hk (pl p (.inl hp)).1 (pl p (.inl hp)).2).mp (by simpa using h1 p hp) w hw s
    · exact (telUn_iff hk (pl p (.inr hp)).1 (pl p (.inr hp)).2).mp (by simpa using h2 p hp) w hw s
  · intro h
    refine ⟨fun p hp => ?_, fun p hp => ?_⟩
    · have := (telEq_iff hk (pl p (.inl hp)).1 (pl p (.inl hp)).2).mpr fun w hw s => ((sat_least hl).mpr (h w hw s)).1 p hp
      simp [this]
    · have := (telUn_iff hk (pl p (.inr hp)).1 (pl p (.inr hp)).2).mpr fun w hw s => ((sat_least hl).mpr (h w hw s)).2 p hp
      simp [this]
theorem more_both : leastK (bothP k (moreK k l)) = leastK (bothP k l) := canon (pool_both hk (pool_more hk hl)) (pool_both hk hl) fun w hw => by
  have pl := pool_least hl
  rw [sat_both, sat_both]
  refine ⟨fun ⟨s, m⟩ => ⟨s, (sat_least hl).mp ⟨fun p hp => ?_, fun p hp => ?_⟩⟩, fun ⟨s, t⟩ => ⟨s, ?_⟩⟩
  · cases e : telEq k p.1 p.2
    · exact m.1 p (List.mem_filter.mpr ⟨hp, by rw [e]; rfl⟩)
    · exact (telEq_iff hk (pl p (.inl hp)).1 (pl p (.inl hp)).2).mp e w hw s
  · cases e : telUn k p.1 p.2
    · exact m.2 p (List.mem_filter.mpr ⟨hp, by rw [e]; rfl⟩)
    · exact (telUn_iff hk (pl p (.inr hp)).1 (pl p (.inr hp)).2).mp e w hw s
  · have t := (sat_least hl).mpr t
    exact ⟨fun p hp => t.1 p (List.mem_filter.mp hp).1, fun p hp => t.2 p (List.mem_filter.mp hp).1⟩
end
/-- what the law tells of worlds -/
def tellsW (ws : List Row) (x y : T) (alike : Bool) : Bool := ws.all fun w => decide (ev w x = ev w y) == alike
theorem tells_eq {k : Kw} (hp : InPool k) {x y : T} (hx : x ∈ pool) (hy : y ∈ pool) : tellsW (wlds k) x y true = telEq k x y := by
  rw [Bool.eq_iff_iff, telEq_iff hp hx hy]
  unfold tellsW
  rw [List.all_eq_true]
  constructor
  · exact fun h w hw s => by simpa using h w (mem_wlds.mpr ⟨hw, s⟩)
  · exact fun h w hw => by simpa using h w (mem_wlds.mp hw).1 (mem_wlds.mp hw).2
theorem tells_un {k : Kw} (hp : InPool k) {x y : T} (hx : x ∈ pool) (hy : y ∈ pool) : tellsW (wlds k) x y false = telUn k x y := by
  rw [Bool.eq_iff_iff, telUn_iff hp hx hy]
  unfold tellsW
  rw [List.all_eq_true]
  constructor
  · exact fun h w hw s => by simpa using h w (mem_wlds.mpr ⟨hw, s⟩)
  · exact fun h w hw => by simpa using h w (mem_wlds.mp hw).1 (mem_wlds.mp hw).2
theorem due_eq {k l : Kw} (hk : InPool k) (hl : InPool l) : ((leastK l).1.filter fun p => !tellsW (wlds k) p.1 p.2 true, (leastK l).2.filter fun p => !tellsW (wlds k) p.1 p.2 false) = moreK k l := by
  have pl := pool_least hl
  unfold moreK
  refine Prod.ext (List.filter_congr fun p hp => ?_) (List.filter_congr fun p hp => ?_)
  · rw [tells_eq hk (pl p (.inl hp)).1 (pl p (.inl hp)).2]
  · rw [tells_un hk (pl p (.inr hp)).1 (pl p (.inr hp)).2]
end Kn

set_option Elab.async false
set_option linter.all false
set_option maxRecDepth 100000
set_option autoImplicit false
namespace Lw
open PySem Kn Dt Dt.R
open L2 (Key)
theorem cBRK : c_BROKEN = knD BRK := rfl
structure Fit4 (k : Kw) : Prop where
  e : k.1.length ≤ 400
  u : k.2.length ≤ 400
  g : GoodK k
theorem m_lk {k : Kw} (F : Fit4 k) : m_least_known [knD k] = .ok (knD (leastK k)) := by
  have e0 := m_broken k (by have := F.e; omega) F.g.nn
  have e1 := m_leq k F.e F.g.nn
  have e2 := m_lun k F.e (by have := F.u; omega) F.g
  unfold leastK
  cases h : broken k <;> rw [h] at e0 <;> simp [runF, runI, runFr, startE, sSeq, sSet, sExpr, sRet, sRetN, sIf, sForE, mIf, mTru, mBool, mNotB, mAndB, mOrB, mCallF, mCall, aCons, aNil, var, getv, cst, mOp, mUn, mTup, mLst, mAnd, mOr, gSet, gOwn, gTpl, gsCons, gsNil, iSq, mDict0, R.bind, R.opt, R.nox, truD, tru, asB, m_least_known, b_least_known, e0, e1, e2, sNil, cBRK] <;> rfl
theorem m_same {k l : Kw} (F : Fit4 k) (G : Fit4 l) : m_same_known [knD k, knD l] = .ok (.bool (decide (leastK k = leastK l))) := by
  have e := code_kn.dEq (by decide) (leastK k) (leastK l)
  simp [runF, runI, runFr, startE, sSeq, sSet, sExpr, sRet, sRetN, sIf, sForE, mIf, mTru, mBool, mNotB, mAndB, mOrB, mCallF, mCall, aCons, aNil, var, getv, cst, mOp, mUn, mTup, mLst, mAnd, mOr, gSet, gOwn, gTpl, gsCons, gsNil, iSq, mDict0, R.bind, R.opt, R.nox, truD, tru, asB, m_same_known, b_same_known, m_lk F, m_lk G, e]
theorem m_tall {k l : Kw} (F : Fit4 k) (G : Fit4 l) : m_tells_all [knD k, knD l] = .ok (.bool (telAll k l)) := by
  have e0 := m_broken k (by have := F.e; omega) F.g.nn
  have e1 := m_broken l (by have := G.e; omega) G.g.nn
  have e2 := lc_map (g := gTpl 2 (gsCons (gSet 2) (gsCons (gSet 3) gsNil))) (vs := [2, 3]) (me := mCallF m_tells_equal (aCons (var 0) (aCons (var 2) (aCons (var 3) aNil)))) (ρ := [some (knD k), some (knD l), none, none]) (enc := pairD) (f := fun p => .bool (telEq k p.1 p.2)) (xs := l.1)
    fun p hp => ⟨[some (knD k), some (knD l), some (kD p.1), some (kD p.2)], _, by simp [runF, runI, runFr, startE, sSeq, sSet, sExpr, sRet, sRetN, sIf, sForE, mIf, mTru, mBool, mNotB, mAndB, mOrB, mCallF, mCall, aCons, aNil, var, getv, cst, mOp, mUn, mTup, mLst, mAnd, mOr, gSet, gOwn, gTpl, gsCons, gsNil, iSq, mDict0, R.bind, R.opt, R.nox, truD, tru, asB, pairD, wipeE, items], by simp [runF, runI, runFr, startE, sSeq, sSet, sExpr, sRet, sRetN, sIf, sForE, mIf, mTru, mBool, mNotB, mAndB, mOrB, mCallF, mCall, aCons, aNil, var, getv, cst, mOp, mUn, mTup, mLst, mAnd, mOr, gSet, gOwn, gTpl, gsCons, gsNil, iSq, mDict0, R.bind, R.opt, R.nox, truD, tru, asB, m_teq k p.1 p.2 (by have := F.e; omega) F.g.nn]; rfl⟩
  have e3 := lc_map (g := gTpl 2 (gsCons (gSet 2) (gsCons (gSet 3) gsNil))) (vs := [2, 3]) (me := mCallF m_tells_unlike (aCons (var 0) (aCons (var 2) (aCons (var 3) aNil)))) (ρ := [some (knD k), some (knD l), none, none]) (enc := pairD) (f := fun p => .bool (telUn k p.1 p.2)) (xs := l.2)
    fun p hp => ⟨[some (knD k), some (knD l), some (kD p.1), some (kD p.2)], _, by simp [runF, runI, runFr, startE, sSeq, sSet, sExpr, sRet, sRetN, sIf, sForE, mIf, mTru, mBool, mNotB, mAndB, mOrB, mCallF, mCall, aCons, aNil, var, getv, cst, mOp, mUn, mTup, mLst, mAnd, mOr, gSet, gOwn, gTpl, gsCons, gsNil, iSq, mDict0, R.bind, R.opt, R.nox, truD, tru, asB, pairD, wipeE, items], by simp [runF, runI, runFr, startE, sSeq, sSet, sExpr, sRet, sRetN, sIf, sForE, mIf, mTru, mBool, mNotB, mAndB, mOrB, mCallF, mCall, aCons, aNil, var, getv, cst, mOp, mUn, mTup, mLst, mAnd, mOr, gSet, gOwn, gTpl, gsCons, gsNil, iSq, mDict0, R.bind, R.opt, R.nox, truD, tru, asB, m_tun k p.1 p.2 (by have := F.e; omega) F.g.nn (G.g p.1 (.inr ⟨p, hp, .inl rfl⟩)).1 (G.g p.2 (.inr ⟨p, hp, .inr rfl⟩)).1]; rfl⟩
  have a2 := dAll_map (fun p : T × T => telEq k p.1 p.2) l.1
  have a3 := dAll_map (fun p : T × T => telUn k p.1 p.2) l.2
  have i1 : items (psD l.1) = some (l.1.map pairD) := rfl
  have i2 : items (psD l.2) = some (l.2.map pairD) := rfl
  unfold telAll
  cases h : broken k
  · cases g : broken l
    · rw [h] at e0
      rw [g] at e1
      cases q : l.1.all (fun p => telEq k p.1 p.2) <;> rw [q] at a2 <;> simp [runF, runI, runFr, startE, sSeq, sSet, sExpr, sRet, sRetN, sIf, sForE, mIf, mTru, mBool, mNotB, mAndB, mOrB, mCallF, mCall, aCons, aNil, var, getv, cst, mOp, mUn, mTup, mLst, mAnd, mOr, gSet, gOwn, gTpl, gsCons, gsNil, iSq, mDict0, R.bind, R.opt, R.nox, truD, tru, asB, m_tells_all, b_tells_all, e0, e1, sNil, mLc, ixk0, ixk1, i1, i2, e2, e3, a2, a3]
    · rw [h] at e0
      rw [g] at e1
      simp [runF, runI, runFr, startE, sSeq, sSet, sExpr, sRet, sRetN, sIf, sForE, mIf, mTru, mBool, mNotB, mAndB, mOrB, mCallF, mCall, aCons, aNil, var, getv, cst, mOp, mUn, mTup, mLst, mAnd, mOr, gSet, gOwn, gTpl, gsCons, gsNil, iSq, mDict0, R.bind, R.opt, R.nox, truD, tru, asB, m_tells_all, b_tells_all, e0, e1, sNil]
  · rw [h] at e0
    simp [runF, runI, runFr, startE, sSeq, sSet, sExpr, sRet, sRetN, sIf, sForE, mIf, mTru, mBool, mNotB, mAndB, mOrB, mCallF, mCall, aCons, aNil, var, getv, cst, mOp, mUn, mTup, mLst, mAnd, mOr, gSet, gOwn, gTpl, gsCons, gsNil, iSq, mDict0, R.bind, R.opt, R.nox, truD, tru, asB, m_tells_all, b_tells_all, e0]
end Lw

set_option Elab.async false
set_option linter.all false
set_option maxRecDepth 100000
set_option autoImplicit false
namespace Kn
open PySem Dt Dt.R
theorem getD_range {α : Type} (d : α) : ∀ xs : List α, (List.range xs.length).map (fun j => xs.getD j d) = xs
  | [] => rfl
  | x :: xs => by
    rw [List.length_cons, List.range_succ_eq_map, List.map_cons, List.map_map]
    have : ((fun j => (x :: xs).getD j d) ∘ Nat.succ) = fun j => xs.getD j d := rfl
    rw [this, getD_range d xs]
    rfl
theorem prs_ix (d : T) : ∀ ts : List T, (List.range ts.length).flatMap (fun i => ((List.range (ts.length - (i + 1))).map (fun j => i + 1 + j)).map fun j => (ts.getD i d, ts.getD j d)) = prs ts
  | [] => rfl
  | x :: xs => by
    rw [List.length_cons, List.range_succ_eq_map, List.flatMap_cons, List.flatMap_map]
    unfold prs
    congr 1
    · rw [List.map_map, Nat.zero_add, Nat.add_sub_cancel]
      have : ((fun j => ((x :: xs).getD 0 d, (x :: xs).getD j d)) ∘ fun j => 1 + j) = fun j => (x, xs.getD j d) := by
        funext j
        show (x, (x :: xs).getD (1 + j) d) = _
        rw [Nat.add_comm]
        rfl
      rw [this]
      have h := congrArg (List.map fun y => (x, y)) (getD_range d xs)
      rw [List.map_map] at h
      exact h
    · rw [← prs_ix d xs]
      congr 1
      funext i
      rw [show xs.length + 1 - (i.succ + 1) = xs.length - (i + 1) by omega, List.map_map, List.map_map]
      congr 1
      funext j
      show ((x :: xs).getD (i + 1) d, (x :: xs).getD (i + 1 + 1 + j) d) = (xs.getD i d, xs.getD (i + 1 + j) d)
      rw [show i + 1 + 1 + j = (i + 1 + j) + 1 by omega]
      rfl
theorem sum_le {α : Type} (f : α → Nat) (m : Nat) : ∀ xs : List α, (∀ x ∈ xs, f x ≤ m) → (xs.map f).sum ≤ xs.length * m
  | [], _ => Nat.zero_le _
  | x :: xs, h => by
    have := sum_le f m xs fun y hy => h y (List.mem_cons_of_mem _ hy)
    have := h x List.mem_cons_self
    rw [List.map_cons, List.sum_cons, List.length_cons, Nat.succ_mul]
    omega
theorem once_len (ts : List T) : (once ts).length ≤ ts.length := by
  unfold once inOrd
  rw [srt_len]
  have := dbl_len ts []
  unfold dbl
  simpa using this
end Kn
namespace Lw
open PySem Kn Dt Dt.R
open L2 (Key)
theorem ix_at {α : Type} (enc : α → D) (d : α) (xs : List α) {i : Nat} (h : i < xs.length) : dIxA (.tuple (xs.map enc)) (.int (i : Int)) = some (enc (xs.getD i d)) := by
  show L2.atI (xs.map enc) (i : Int) = _
  unfold L2.atI L2.ixN
  rw [List.length_map, if_pos (by omega), if_pos (by omega)]
  show (xs.map enc)[((i : Int)).toNat]? = _
  rw [Int.toNat_natCast, List.getElem?_map, List.getElem?_eq_getElem h, List.getD_eq_getElem?_getD, List.getElem?_eq_getElem h]
  rfl
theorem rng_at (n : Nat) (h : n ≤ 1000000) : rng1 [.int (n : Int)] = some ((List.range n).map fun i => .int ((i : Nat) : Int)) := by
  have h1 : decide ((n : Int) ≤ 16777216) = true := decide_eq_true (by omega)
  have h2 : decide (-16777216 ≤ (n : Int)) = true := decide_eq_true (by omega)
  show (if (decide ((n : Int) ≤ 16777216) && decide (-16777216 ≤ (n : Int))) = true then some (rng 0 (n : Int).toNat) else none) = _
  rw [h1, h2, if_pos (by rfl), Int.toNat_natCast]
  unfold rng
  simp [runF, runI, runFr, startE, sSeq, sSet, sExpr, sRet, sRetN, sIf, sForE, mIf, mTru, mBool, mNotB, mAndB, mOrB, mCallF, mCall, aCons, aNil, var, getv, cst, mOp, mUn, mTup, mLst, mAnd, mOr, gSet, gOwn, gTpl, gsCons, gsNil, iSq, mDict0, R.bind, R.opt, R.nox, truD, tru, asB]
theorem rng_from (i n : Nat) (h : n ≤ 1000000) (hi : i ≤ n) : rng2 [.int (i : Int), .int (n : Int)] = some (((List.range (n - i)).map fun j => i + j).map fun i => .int ((i : Nat) : Int)) := by
  have h1 : small62 (i : Int) = true := by unfold small62; rw [Bool.and_eq_true, decide_eq_true_iff, decide_eq_true_iff]; omega
  have h2 : small62 (n : Int) = true := by unfold small62; rw [Bool.and_eq_true, decide_eq_true_iff, decide_eq_true_iff]; omega
  have h3 : decide ((n : Int) - (i : Int) ≤ 16777216) = true := decide_eq_true (by omega)
  show (if (small62 (i : Int) && (small62 (n : Int) && decide ((n : Int) - (i : Int) ≤ 16777216))) = true then some (rng i ((n : Int) - (i : Int)).toNat) else none) = _
  rw [h1, h2, h3, if_pos (by rfl), show ((n : Int) - (i : Int)).toNat = n - i by omega, List.map_map]
  unfold rng
  rfl
end Lw

set_option Elab.async false
set_option linter.all false
set_option maxRecDepth 100000
set_option autoImplicit false
namespace Kn
open PySem Dt Dt.R
theorem len_sub {α : Type} [DecidableEq α] : ∀ {xs ys : List α}, xs.Nodup → (∀ x ∈ xs, x ∈ ys) → xs.length ≤ ys.length
  | [], _, _, _ => Nat.zero_le _
  | x :: xs, ys, nd, h => by
    have nd := List.nodup_cons.mp nd
    have hx := h x List.mem_cons_self
    have := len_sub (xs := xs) (ys := ys.erase x) nd.2 fun y hy => (List.mem_erase_of_ne (show y ≠ x from fun z => nd.1 (z ▸ hy))).mpr (h y (List.mem_cons_of_mem _ hy))
    have l := List.length_erase_of_mem hx
    have p := List.length_pos_of_mem hx
    rw [List.length_cons]
    omega
def pp : Ps := pool.flatMap fun x => pool.map fun y => (x, y)
theorem mem_pp {p : T × T} (h : p.1 ∈ pool ∧ p.2 ∈ pool) : p ∈ pp := List.mem_flatMap.mpr ⟨p.1, h.1, List.mem_map.mpr ⟨p.2, h.2, rfl⟩⟩
theorem small_ps {ps : Ps} (nd : ps.Nodup) (h : ∀ p ∈ ps, p.1 ∈ pool ∧ p.2 ∈ pool) : ps.length ≤ 25 := len_sub (ys := pp) nd fun p hp => mem_pp (h p hp)
theorem nodup_ord (ps : Ps) : (psOrd (dbl ps)).Nodup := by
  unfold psOrd
  rw [srt_nodup]
  exact dbl_nodup _
theorem least_small {k : Kw} (hp : InPool k) : (leastK k).1.length ≤ 25 ∧ (leastK k).2.length ≤ 25 := by
  have pl := pool_least hp
  have nd : (leastK k).1.Nodup ∧ (leastK k).2.Nodup := by
    unfold leastK
    split
    · exact ⟨by decide, by decide⟩
    · exact ⟨nodup_ord _, nodup_ord _⟩
  exact ⟨small_ps nd.1 fun p h => pl p (.inl h), small_ps nd.2 fun p h => pl p (.inr h)⟩
end Kn
namespace Lw
open PySem Kn Dt Dt.R
open L2 (Key)
theorem good_pool {t : T} (h : t ∈ pool) : Good t := by
  rcases pool_cases h with rfl | rfl | rfl | rfl | rfl
  · exact ⟨(by decide : (0 : Int) ≤ 0), rfl⟩
  · exact ⟨(by decide : (0 : Int) ≤ 1), rfl⟩
  · exact ⟨(by decide : (0 : Int) ≤ 2), rfl⟩
  · exact ⟨trivial, rfl⟩
  · exact ⟨trivial, rfl⟩
theorem fit_pool {k : Kw} (hp : InPool k) (h1 : k.1.length ≤ 400) (h2 : k.2.length ≤ 400) : Fit4 k := ⟨h1, h2, fun x hx => by
  rcases hx with ⟨p, h, e | e⟩ | ⟨p, h, e | e⟩
  · exact e ▸ good_pool (hp p (.inl h)).1
  · exact e ▸ good_pool (hp p (.inl h)).2
  · exact e ▸ good_pool (hp p (.inr h)).1
  · exact e ▸ good_pool (hp p (.inr h)).2⟩
theorem fit_least {k : Kw} (hp : InPool k) : Fit4 (leastK k) := fit_pool (pool_least hp) (by have := (least_small hp).1; omega) (by have := (least_small hp).2; omega)
theorem px0 (p : T × T) : dIxA (pairD p) (.int 0) = some (kD p.1) := rfl
theorem px1 (p : T × T) : dIxA (pairD p) (.int 1) = some (kD p.2) := rfl
theorem tup_ps (ps : Ps) : dTuple [.list (ps.map pairD)] = some (psD ps) := rfl
theorem it_ps (ps : Ps) : items (psD ps) = some (ps.map pairD) := rfl
theorem it_list (ds : List D) : items (.list ds) = some ds := rfl
theorem kn_eta (a b : Ps) : (PyData.tuple [psD a, psD b] : D) = knD (a, b) := rfl
end Lw

set_option Elab.async false
set_option linter.all false
set_option maxRecDepth 100000
set_option autoImplicit false
namespace Kn
open PySem Dt Dt.R
def rowD (w : Row) : D := .tuple (w.map PyData.str)
theorem allW_row {w : Row} (h : w ∈ allW) : ∃ x ∈ nms5, ∃ y ∈ nms5, ∃ z ∈ nms5, w = [x, y, z] := by
  obtain ⟨r1, h1, z, hz, rfl⟩ := mem_longer.mp h
  obtain ⟨r2, h2, y, hy, rfl⟩ := mem_longer.mp h1
  obtain ⟨r3, h3, x, hx, rfl⟩ := mem_longer.mp h2
  have := List.mem_singleton.mp h3
  subst this
  exact ⟨x, hx, y, hy, z, hz, rfl⟩
def unT : D := .tuple [.int 0, .int 1, .int 2]
def unL : D := .list [.int 0, .int 1, .int 2]
def nmT : D := .tuple (nms5.map PyData.str)
theorem rows_asc : allW.Pairwise fun a b => PySem.W.dataLe false rowD a b = true := by decide +kernel
theorem sort_rows {c : Row → Bool} : sortP ((allW.filter c).map rowD) = (allW.filter c).map rowD := by
  unfold sortP
  refine List.mergeSort_of_pairwise ?_
  rw [List.pairwise_map]
  exact rows_asc.filter _
theorem keys_rows {c : Row → Bool} : keysOk ((allW.filter c).map rowD) = true := by
  have h : ∀ w ∈ (allW.filter c).map rowD, ∃ x y z : Str, w = .tuple [.str x, .str y, .str z] := fun d hd => by
    obtain ⟨w, hw, rfl⟩ := List.mem_map.mp hd
    obtain ⟨x, _, y, _, z, _, rfl⟩ := allW_row (List.mem_filter.mp hw).1
    exact ⟨x, y, z, rfl⟩
  unfold keysOk
  rw [Bool.and_eq_true, Bool.and_eq_true, Bool.or_eq_true]
  refine ⟨⟨List.all_eq_true.mpr fun a ha => List.all_eq_true.mpr fun b hb => ?_, .inl (List.all_eq_true.mpr fun a ha => ?_)⟩, List.all_eq_true.mpr fun a ha => ?_⟩
  · obtain ⟨x, y, z, rfl⟩ := h a ha
    obtain ⟨u, v, w, rfl⟩ := h b hb
    rfl
  · obtain ⟨x, y, z, rfl⟩ := h a ha
    rfl
  · obtain ⟨x, y, z, rfl⟩ := h a ha
    rfl
theorem sorted_rows {c : Row → Bool} : dSorted [.list ((allW.filter c).map rowD)] = some (.list ((allW.filter c).map rowD)) := by
  show (if keysOk ((allW.filter c).map rowD) = true then some (PyData.list (sortP ((allW.filter c).map rowD))) else none) = _
  rw [keys_rows, if_pos rfl, sort_rows]
theorem eq_strD (a b : Str) : dEq (.str a) (.str b) = some (.bool (decide (a = b))) := by
  have := dEq_kD (.inr a) (.inr b)
  have q : (decide ((Sum.inr a : T) = Sum.inr b)) = decide (a = b) := decide_eq_decide.mpr ⟨fun h => by injection h, fun h => by rw [h]⟩
  rw [q] at this
  exact this
theorem ne_strD (a b : Str) : dNe (.str a) (.str b) = some (.bool (!decide (a = b))) := by
  have := dNe_kD (.inr a) (.inr b)
  have q : (decide ((Sum.inr a : T) = Sum.inr b)) = decide (a = b) := decide_eq_decide.mpr ⟨fun h => by injection h, fun h => by rw [h]⟩
  rw [q] at this
  exact this
end Kn
namespace Lw
open PySem Kn Dt Dt.R
open L2 (Key)
theorem m_inw {t : T} (ht : t ∈ pool) {w : Row} (hw : w ∈ allW) : m_in_world [kD t, unT, rowD w] = .ok (.str (ev w t)) := by
  obtain ⟨x, _, y, _, z, _, rfl⟩ := allW_row hw
  rcases pool_cases ht with rfl | rfl | rfl | rfl | rfl <;> rfl
theorem m_name {t : T} (ht : t ∈ pool) {w : Row} (hw : w ∈ allW) : m__law_name [kD t, unT, rowD w] = .ok (.str (ev w t)) := by
  obtain ⟨x, _, y, _, z, _, rfl⟩ := allW_row hw
  rcases pool_cases ht with rfl | rfl | rfl | rfl | rfl <;> rfl
theorem m_nameL {t : T} (ht : t ∈ pool) {w : Row} (hw : w ∈ allW) : m__law_name [kD t, unL, rowD w] = .ok (.str (ev w t)) := by
  obtain ⟨x, _, y, _, z, _, rfl⟩ := allW_row hw
  rcases pool_cases ht with rfl | rfl | rfl | rfl | rfl <;> rfl
end Lw

set_option Elab.async false
set_option linter.all false
set_option maxRecDepth 100000
set_option autoImplicit false
namespace Lw
open PySem Kn Dt Dt.R
open L2 (Key)
theorem it_pair (p : T × T) : items (pairD p) = some [kD p.1, kD p.2] := rfl
theorem m_holds {k : Kw} (hp : InPool k) {w : Row} (hw : w ∈ allW) : m_holds_in [knD k, unT, rowD w] = .ok (.bool (satB k w)) := by
  have e2 := lc_map (g := gTpl 2 (gsCons (gSet 3) (gsCons (gSet 4) gsNil))) (vs := [3, 4]) (me := mOp dEq (mCallF m_in_world (aCons (var 3) (aCons (var 1) (aCons (var 2) aNil)))) (mCallF m_in_world (aCons (var 4) (aCons (var 1) (aCons (var 2) aNil))))) (ρ := [some (knD k), some unT, some (rowD w), none, none]) (enc := pairD) (f := fun p => .bool (decide (ev w p.1 = ev w p.2))) (xs := k.1)
    fun p h => ⟨[some (knD k), some unT, some (rowD w), some (kD p.1), some (kD p.2)], [some (knD k), some unT, some (rowD w), some (kD p.1), some (kD p.2)], by simp [runF, runI, runFr, startE, sSeq, sSet, sExpr, sRet, sRetN, sIf, sForE, mIf, mTru, mBool, mNotB, mAndB, mOrB, mCallF, mCall, aCons, aNil, var, getv, cst, mOp, mUn, mTup, mLst, mAnd, mOr, gSet, gOwn, gTpl, gsCons, gsNil, iSq, mDict0, R.bind, R.opt, R.nox, truD, tru, asB, pairD, wipeE], by simp [runF, runI, runFr, startE, sSeq, sSet, sExpr, sRet, sRetN, sIf, sForE, mIf, mTru, mBool, mNotB, mAndB, mOrB, mCallF, mCall, aCons, aNil, var, getv, cst, mOp, mUn, mTup, mLst, mAnd, mOr, gSet, gOwn, gTpl, gsCons, gsNil, iSq, mDict0, R.bind, R.opt, R.nox, truD, tru, asB, m_inw (hp p (.inl h)).1 hw, m_inw (hp p (.inl h)).2 hw, eq_strD]⟩
  have e3 := lc_map (g := gTpl 2 (gsCons (gSet 3) (gsCons (gSet 4) gsNil))) (vs := [3, 4]) (me := mOp dNe (mCallF m_in_world (aCons (var 3) (aCons (var 1) (aCons (var 2) aNil)))) (mCallF m_in_world (aCons (var 4) (aCons (var 1) (aCons (var 2) aNil))))) (ρ := [some (knD k), some unT, some (rowD w), none, none]) (enc := pairD) (f := fun p => .bool (!decide (ev w p.1 = ev w p.2))) (xs := k.2)
    fun p h => ⟨[some (knD k), some unT, some (rowD w), some (kD p.1), some (kD p.2)], [some (knD k), some unT, some (rowD w), some (kD p.1), some (kD p.2)], by simp [runF, runI, runFr, startE, sSeq, sSet, sExpr, sRet, sRetN, sIf, sForE, mIf, mTru, mBool, mNotB, mAndB, mOrB, mCallF, mCall, aCons, aNil, var, getv, cst, mOp, mUn, mTup, mLst, mAnd, mOr, gSet, gOwn, gTpl, gsCons, gsNil, iSq, mDict0, R.bind, R.opt, R.nox, truD, tru, asB, pairD, wipeE], by simp [runF, runI, runFr, startE, sSeq, sSet, sExpr, sRet, sRetN, sIf, sForE, mIf, mTru, mBool, mNotB, mAndB, mOrB, mCallF, mCall, aCons, aNil, var, getv, cst, mOp, mUn, mTup, mLst, mAnd, mOr, gSet, gOwn, gTpl, gsCons, gsNil, iSq, mDict0, R.bind, R.opt, R.nox, truD, tru, asB, m_inw (hp p (.inr h)).1 hw, m_inw (hp p (.inr h)).2 hw, ne_strD]⟩
  have a2 := dAll_map (fun p : T × T => decide (ev w p.1 = ev w p.2)) k.1
  have a3 := dAll_map (fun p : T × T => !decide (ev w p.1 = ev w p.2)) k.2
  unfold satB
  cases q : k.1.all (fun p => decide (ev w p.1 = ev w p.2)) <;> rw [q] at a2
  · simp [runF, runI, runFr, startE, sSeq, sSet, sExpr, sRet, sRetN, sIf, sForE, mIf, mTru, mBool, mNotB, mAndB, mOrB, mCallF, mCall, aCons, aNil, var, getv, cst, mOp, mUn, mTup, mLst, mAnd, mOr, gSet, gOwn, gTpl, gsCons, gsNil, iSq, mDict0, R.bind, R.opt, R.nox, truD, tru, asB, m_holds_in, b_holds_in, sNil, mLc, ixk0, ixk1, it_ps, e2, e3, a2, a3, -decide_eq_true_eq, -List.map_inj_left]
  · simp [runF, runI, runFr, startE, sSeq, sSet, sExpr, sRet, sRetN, sIf, sForE, mIf, mTru, mBool, mNotB, mAndB, mOrB, mCallF, mCall, aCons, aNil, var, getv, cst, mOp, mUn, mTup, mLst, mAnd, mOr, gSet, gOwn, gTpl, gsCons, gsNil, iSq, mDict0, R.bind, R.opt, R.nox, truD, tru, asB, m_holds_in, b_holds_in, sNil, mLc, ixk0, ixk1, it_ps, e2, e3, a2, a3, -decide_eq_true_eq, -List.map_inj_left]
theorem m_lholds {k : Kw} (hp : InPool k) {w : Row} (hw : w ∈ allW) : m__law_holds [knD k, unT, rowD w] = .ok (.bool (satB k w)) := by
  have e2 := for_ret (g := gTpl 2 (gsCons (gSet 3) (gsCons (gSet 4) gsNil))) (b := sIf (mBool (mOp dNe (mCallF m__law_name (aCons (var 3) (aCons (var 1) (aCons (var 2) aNil)))) (mCallF m__law_name (aCons (var 4) (aCons (var 1) (aCons (var 2) aNil)))))) (sRet (cst (.bool false))) sNil) (enc := pairD) (p := fun p : T × T => decide (ev w p.1 = ev w p.2)) (r := .bool false)
    (I := fun l ρ => (∀ p ∈ l, p ∈ k.1) ∧ ∃ a b, ρ = [some (knD k), some unT, some (rowD w), a, b]) (fun p l ρ h => by
      obtain ⟨hl, a, b, rfl⟩ := h
      have h := hp p (.inl (hl p List.mem_cons_self))
      refine ⟨[some (knD k), some unT, some (rowD w), some (kD p.1), some (kD p.2)], [some (knD k), some unT, some (rowD w), some (kD p.1), some (kD p.2)], by simp [runF, runI, runFr, startE, sSeq, sSet, sExpr, sRet, sRetN, sIf, sForE, mIf, mTru, mBool, mNotB, mAndB, mOrB, mCallF, mCall, aCons, aNil, var, getv, cst, mOp, mUn, mTup, mLst, mAnd, mOr, gSet, gOwn, gTpl, gsCons, gsNil, iSq, mDict0, R.bind, R.opt, R.nox, truD, tru, asB, pairD], fun z => ⟨?_, fun q hq => hl q (List.mem_cons_of_mem _ hq), _, _, rfl⟩, fun z => ?_⟩
      · simp [runF, runI, runFr, startE, sSeq, sSet, sExpr, sRet, sRetN, sIf, sForE, mIf, mTru, mBool, mNotB, mAndB, mOrB, mCallF, mCall, aCons, aNil, var, getv, cst, mOp, mUn, mTup, mLst, mAnd, mOr, gSet, gOwn, gTpl, gsCons, gsNil, iSq, mDict0, R.bind, R.opt, R.nox, truD, tru, asB, m_name h.1 hw, m_name h.2 hw, ne_strD, of_decide_eq_true z, sNil]
      · simp [runF, runI, runFr, startE, sSeq, sSet, sExpr, sRet, sRetN, sIf, sForE, mIf, mTru, mBool, mNotB, mAndB, mOrB, mCallF, mCall, aCons, aNil, var, getv, cst, mOp, mUn, mTup, mLst, mAnd, mOr, gSet, gOwn, gTpl, gsCons, gsNil, iSq, mDict0, R.bind, R.opt, R.nox, truD, tru, asB, m_name h.1 hw, m_name h.2 hw, ne_strD, of_decide_eq_false z])
    (xs := k.1) (ρ := [some (knD k), some unT, some (rowD w), none, none]) ⟨fun _ h => h, _, _, rfl⟩
  obtain ⟨ρ1, t1, f1⟩ := e2
  unfold satB
  cases q : k.1.all (fun p => decide (ev w p.1 = ev w p.2))
  · simp [runF, runI, runFr, startE, sSeq, sSet, sExpr, sRet, sRetN, sIf, sForE, mIf, mTru, mBool, mNotB, mAndB, mOrB, mCallF, mCall, aCons, aNil, var, getv, cst, mOp, mUn, mTup, mLst, mAnd, mOr, gSet, gOwn, gTpl, gsCons, gsNil, iSq, mDict0, R.bind, R.opt, R.nox, truD, tru, asB, m__law_holds, b__law_holds, sNil, ixk0, it_ps, f1 q]
  · obtain ⟨t1, _, a, b, rfl⟩ := t1 q
    have e3 := for_ret (g := gTpl 2 (gsCons (gSet 3) (gsCons (gSet 4) gsNil))) (b := sIf (mBool (mOp dEq (mCallF m__law_name (aCons (var 3) (aCons (var 1) (aCons (var 2) aNil)))) (mCallF m__law_name (aCons (var 4) (aCons (var 1) (aCons (var 2) aNil)))))) (sRet (cst (.bool false))) sNil) (enc := pairD) (p := fun p : T × T => !decide (ev w p.1 = ev w p.2)) (r := .bool false)
      (I := fun l ρ => (∀ p ∈ l, p ∈ k.2) ∧ ∃ a b, ρ = [some (knD k), some unT, some (rowD w), a, b]) (fun p l ρ h => by
        obtain ⟨hl, a, b, rfl⟩ := h
        have h := hp p (.inr (hl p List.mem_cons_self))
        refine ⟨[some (knD k), some unT, some (rowD w), some (kD p.1), some (kD p.2)], [some (knD k), some unT, some (rowD w), some (kD p.1), some (kD p.2)], by simp [runF, runI, runFr, startE, sSeq, sSet, sExpr, sRet, sRetN, sIf, sForE, mIf, mTru, mBool, mNotB, mAndB, mOrB, mCallF, mCall, aCons, aNil, var, getv, cst, mOp, mUn, mTup, mLst, mAnd, mOr, gSet, gOwn, gTpl, gsCons, gsNil, iSq, mDict0, R.bind, R.opt, R.nox, truD, tru, asB, pairD], fun z => ⟨?_, fun q hq => hl q (List.mem_cons_of_mem _ hq), _, _, rfl⟩, fun z => ?_⟩
        · simp [runF, runI, runFr, startE, sSeq, sSet, sExpr, sRet, sRetN, sIf, sForE, mIf, mTru, mBool, mNotB, mAndB, mOrB, mCallF, mCall, aCons, aNil, var, getv, cst, mOp, mUn, mTup, mLst, mAnd, mOr, gSet, gOwn, gTpl, gsCons, gsNil, iSq, mDict0, R.bind, R.opt, R.nox, truD, tru, asB] at z
          simp [runF, runI, runFr, startE, sSeq, sSet, sExpr, sRet, sRetN, sIf, sForE, mIf, mTru, mBool, mNotB, mAndB, mOrB, mCallF, mCall, aCons, aNil, var, getv, cst, mOp, mUn, mTup, mLst, mAnd, mOr, gSet, gOwn, gTpl, gsCons, gsNil, iSq, mDict0, R.bind, R.opt, R.nox, truD, tru, asB, m_name h.1 hw, m_name h.2 hw, eq_strD, z, sNil]
        · simp [runF, runI, runFr, startE, sSeq, sSet, sExpr, sRet, sRetN, sIf, sForE, mIf, mTru, mBool, mNotB, mAndB, mOrB, mCallF, mCall, aCons, aNil, var, getv, cst, mOp, mUn, mTup, mLst, mAnd, mOr, gSet, gOwn, gTpl, gsCons, gsNil, iSq, mDict0, R.bind, R.opt, R.nox, truD, tru, asB] at z
          simp [runF, runI, runFr, startE, sSeq, sSet, sExpr, sRet, sRetN, sIf, sForE, mIf, mTru, mBool, mNotB, mAndB, mOrB, mCallF, mCall, aCons, aNil, var, getv, cst, mOp, mUn, mTup, mLst, mAnd, mOr, gSet, gOwn, gTpl, gsCons, gsNil, iSq, mDict0, R.bind, R.opt, R.nox, truD, tru, asB, m_name h.1 hw, m_name h.2 hw, eq_strD, z])
      (xs := k.2) (ρ := [some (knD k), some unT, some (rowD w), a, b]) ⟨fun _ h => h, _, _, rfl⟩
    obtain ⟨ρ2, t2, f2⟩ := e3
    cases q2 : k.2.all (fun p => !decide (ev w p.1 = ev w p.2))
    · simp [runF, runI, runFr, startE, sSeq, sSet, sExpr, sRet, sRetN, sIf, sForE, mIf, mTru, mBool, mNotB, mAndB, mOrB, mCallF, mCall, aCons, aNil, var, getv, cst, mOp, mUn, mTup, mLst, mAnd, mOr, gSet, gOwn, gTpl, gsCons, gsNil, iSq, mDict0, R.bind, R.opt, R.nox, truD, tru, asB, m__law_holds, b__law_holds, sNil, ixk0, ixk1, it_ps, t1, f2 q2]
    · simp [runF, runI, runFr, startE, sSeq, sSet, sExpr, sRet, sRetN, sIf, sForE, mIf, mTru, mBool, mNotB, mAndB, mOrB, mCallF, mCall, aCons, aNil, var, getv, cst, mOp, mUn, mTup, mLst, mAnd, mOr, gSet, gOwn, gTpl, gsCons, gsNil, iSq, mDict0, R.bind, R.opt, R.nox, truD, tru, asB, m__law_holds, b__law_holds, sNil, ixk0, ixk1, it_ps, t1, (t2 q2).1]
theorem ne_boolD (a b : Bool) : dNe (.bool a) (.bool b) = some (.bool (!(a == b))) := by cases a <;> cases b <;> rfl
theorem m_tells {ws : List Row} (hw : ∀ w ∈ ws, w ∈ allW) {x y : T} (hx : x ∈ pool) (hy : y ∈ pool) (al : Bool) : m__law_tells [.list (ws.map rowD), unL, kD x, kD y, .bool al] = .ok (.bool (tellsW ws x y al)) := by
  have e2 := for_ret (g := gSet 5) (b := sIf (mBool (mOp dNe (mOp dEq (mCallF m__law_name (aCons (var 2) (aCons (var 1) (aCons (var 5) aNil)))) (mCallF m__law_name (aCons (var 3) (aCons (var 1) (aCons (var 5) aNil))))) (var 4))) (sRet (cst (.bool false))) sNil) (enc := rowD) (p := fun w => decide (ev w x = ev w y) == al) (r := .bool false)
    (I := fun l ρ => (∀ w ∈ l, w ∈ allW) ∧ ∃ a, ρ = [some (.list (ws.map rowD)), some unL, some (kD x), some (kD y), some (.bool al), a]) (fun w l ρ h => by
      obtain ⟨hl, a, rfl⟩ := h
      have h := hl w List.mem_cons_self
      refine ⟨[some (.list (ws.map rowD)), some unL, some (kD x), some (kD y), some (.bool al), some (rowD w)], [some (.list (ws.map rowD)), some unL, some (kD x), some (kD y), some (.bool al), some (rowD w)], rfl, fun z => ⟨?_, fun q hq => hl q (List.mem_cons_of_mem _ hq), _, rfl⟩, fun z => ?_⟩
      · simp [runF, runI, runFr, startE, sSeq, sSet, sExpr, sRet, sRetN, sIf, sForE, mIf, mTru, mBool, mNotB, mAndB, mOrB, mCallF, mCall, aCons, aNil, var, getv, cst, mOp, mUn, mTup, mLst, mAnd, mOr, gSet, gOwn, gTpl, gsCons, gsNil, iSq, mDict0, R.bind, R.opt, R.nox, truD, tru, asB, m_nameL hx h, m_nameL hy h, eq_strD, ne_boolD, z, sNil, -Bool.not_eq_eq_eq_not, -beq_iff_eq]
      · simp [runF, runI, runFr, startE, sSeq, sSet, sExpr, sRet, sRetN, sIf, sForE, mIf, mTru, mBool, mNotB, mAndB, mOrB, mCallF, mCall, aCons, aNil, var, getv, cst, mOp, mUn, mTup, mLst, mAnd, mOr, gSet, gOwn, gTpl, gsCons, gsNil, iSq, mDict0, R.bind, R.opt, R.nox, truD, tru, asB, m_nameL hx h, m_nameL hy h, eq_strD, ne_boolD, z, -Bool.not_eq_eq_eq_not, -beq_iff_eq])
    (xs := ws) (ρ := [some (.list (ws.map rowD)), some unL, some (kD x), some (kD y), some (.bool al), none]) ⟨hw, _, rfl⟩
  obtain ⟨ρ1, t1, f1⟩ := e2
  unfold tellsW
  cases q : ws.all (fun w => decide (ev w x = ev w y) == al)
  · simp [runF, runI, runFr, startE, sSeq, sSet, sExpr, sRet, sRetN, sIf, sForE, mIf, mTru, mBool, mNotB, mAndB, mOrB, mCallF, mCall, aCons, aNil, var, getv, cst, mOp, mUn, mTup, mLst, mAnd, mOr, gSet, gOwn, gTpl, gsCons, gsNil, iSq, mDict0, R.bind, R.opt, R.nox, truD, tru, asB, m__law_tells, b__law_tells, sNil, it_list, f1 q]
  · simp [runF, runI, runFr, startE, sSeq, sSet, sExpr, sRet, sRetN, sIf, sForE, mIf, mTru, mBool, mNotB, mAndB, mOrB, mCallF, mCall, aCons, aNil, var, getv, cst, mOp, mUn, mTup, mLst, mAnd, mOr, gSet, gOwn, gTpl, gsCons, gsNil, iSq, mDict0, R.bind, R.opt, R.nox, truD, tru, asB, m__law_tells, b__law_tells, sNil, it_list, (t1 q).1]
end Lw

set_option Elab.async false
set_option linter.all false
set_option maxRecDepth 100000
set_option autoImplicit false
namespace Lw
open PySem Kn Dt Dt.R
open L2 (Key)
def Few (rows : List Row) : Prop := rows.length ≤ 125 ∧ ∀ r ∈ rows, r.length ≤ 5
theorem few0 : Few [[]] := ⟨by decide, by decide⟩
theorem few1 : Few (longer [[]]) := ⟨by decide, by decide⟩
theorem few2 : Few (longer (longer [[]])) := ⟨by decide, by decide⟩
theorem few3 : Few allW := ⟨by decide +kernel, by decide +kernel⟩
theorem add_row (r : Row) (n : Str) (h : r.length ≤ 5) : dAdd (rowD r) (.tuple [.str n]) = some (rowD (r ++ [n])) := by
  have hw : (r.map PyData.str).length + [PyData.str n].length ≤ sizeLine := by rw [List.length_map, sizeN]; simp [runF, runI, runFr, startE, sSeq, sSet, sExpr, sRet, sRetN, sIf, sForE, mIf, mTru, mBool, mNotB, mAndB, mOrB, mCallF, mCall, aCons, aNil, var, getv, cst, mOp, mUn, mTup, mLst, mAnd, mOr, gSet, gOwn, gTpl, gsCons, gsNil, iSq, mDict0, R.bind, R.opt, R.nox, truD, tru, asB]; omega
  show (if (r.map PyData.str).length + [PyData.str n].length ≤ sizeLine then some (PyData.tuple (r.map PyData.str ++ [PyData.str n])) else none) = _
  rw [if_pos hw]
  unfold rowD
  rw [List.map_append]
  rfl
theorem it_nms : items nmT = some (nms5.map PyData.str) := rfl
theorem m_allw : m_all_worlds [.int 3, nmT] = .ok (.list (allW.map rowD)) := by
  obtain ⟨ρ', h1, rows, a, b, c, rfl, hr⟩ := for_all (g := gSet 3) (b := sSet (gSet 2) (mLc2 false (iSq (var 2)) [4, 5] [5] (gSet 4) bYes (iSq (var 1)) (gSet 5) bYes (mOp dAdd (var 4) (mTup (aCons (var 5) aNil))))) (enc := fun i : Nat => PyData.int (i : Int))
    (I := fun l ρ => ∃ rows a b c, ρ = [some (.int 3), some nmT, some (.list (rows.map rowD)), a, b, c] ∧ ((l.length = 3 ∧ rows = [[]]) ∨ (l.length = 2 ∧ rows = longer [[]]) ∨ (l.length = 1 ∧ rows = longer (longer [[]])) ∨ (l.length = 0 ∧ rows = allW)))
    (fun i l ρ h => by
      obtain ⟨rows, a, b, c, rfl, hr⟩ := h
      have fw : Few rows ∧ ((l.length = 2 ∧ longer rows = longer [[]]) ∨ (l.length = 1 ∧ longer rows = longer (longer [[]])) ∨ (l.length = 0 ∧ longer rows = allW)) := by
        rw [List.length_cons] at hr
        rcases hr with ⟨h, rfl⟩ | ⟨h, rfl⟩ | ⟨h, rfl⟩ | ⟨h, rfl⟩
        · exact ⟨few0, .inl ⟨by omega, rfl⟩⟩
        · exact ⟨few1, .inr (.inl ⟨by omega, rfl⟩)⟩
        · exact ⟨few2, .inr (.inr ⟨by omega, rfl⟩)⟩
        · omega
      have e := lc2_eval (g := gSet 4) (vs := [4, 5]) (vs1 := [5]) (mi1 := iSq (var 1)) (g1 := gSet 5) (me := mOp dAdd (var 4) (mTup (aCons (var 5) aNil))) (ρ := [some (.int 3), some nmT, some (.list (rows.map rowD)), some (.int (i : Int)), b, c])
        (enc := rowD) (enc1 := PyData.str) (ys := fun _ => nms5) (f := fun r n => rowD (r ++ [n])) (xs := rows) (c := 0)
        (fun r hr => ⟨[some (.int 3), some nmT, some (.list (rows.map rowD)), some (.int (i : Int)), some (rowD r), none], [some (.int 3), some nmT, some (.list (rows.map rowD)), some (.int (i : Int)), some (rowD r), none], rfl, by simp [runF, runI, runFr, startE, sSeq, sSet, sExpr, sRet, sRetN, sIf, sForE, mIf, mTru, mBool, mNotB, mAndB, mOrB, mCallF, mCall, aCons, aNil, var, getv, cst, mOp, mUn, mTup, mLst, mAnd, mOr, gSet, gOwn, gTpl, gsCons, gsNil, iSq, mDict0, R.bind, R.opt, R.nox, truD, tru, asB, it_nms], fun n hn =>
          ⟨[some (.int 3), some nmT, some (.list (rows.map rowD)), some (.int (i : Int)), some (rowD r), some (.str n)], [some (.int 3), some nmT, some (.list (rows.map rowD)), some (.int (i : Int)), some (rowD r), some (.str n)], rfl, by simp [runF, runI, runFr, startE, sSeq, sSet, sExpr, sRet, sRetN, sIf, sForE, mIf, mTru, mBool, mNotB, mAndB, mOrB, mCallF, mCall, aCons, aNil, var, getv, cst, mOp, mUn, mTup, mLst, mAnd, mOr, gSet, gOwn, gTpl, gsCons, gsNil, iSq, mDict0, R.bind, R.opt, R.nox, truD, tru, asB, add_row r n (fw.1.2 r hr)]⟩⟩)
        (by
          have := sum_le (fun _ : Row => nms5.length) 5 rows fun _ _ => (by decide : nms5.length ≤ 5)
          have := fw.1.1
          rw [sizeN]; omega)
      have e3 : (rows.flatMap fun r => nms5.map fun n => rowD (r ++ [n])) = (longer rows).map rowD := by
        unfold longer
        rw [List.map_flatMap]
        congr 1
      have e := e.trans (congrArg (fun z => R.ok (z, _)) e3)
      refine ⟨[some (.int 3), some nmT, some (.list (rows.map rowD)), some (.int (i : Int)), b, c], [some (.int 3), some nmT, some (.list ((longer rows).map rowD)), some (.int (i : Int)), b, c], rfl, .inl ?_, longer rows, _, _, _, rfl, .inr fw.2⟩
      simp [runF, runI, runFr, startE, sSeq, sSet, sExpr, sRet, sRetN, sIf, sForE, mIf, mTru, mBool, mNotB, mAndB, mOrB, mCallF, mCall, aCons, aNil, var, getv, cst, mOp, mUn, mTup, mLst, mAnd, mOr, gSet, gOwn, gTpl, gsCons, gsNil, iSq, mDict0, R.bind, R.opt, R.nox, truD, tru, asB, mLc2, it_list, e]) (xs := [0, 1, 2]) (ρ := [some (.int 3), some nmT, some (.list [.tuple []]), none, none, none]) ⟨[[]], none, none, none, rfl, .inl ⟨rfl, rfl⟩⟩
  have hr : rows = allW := by
    rcases hr with ⟨h, _⟩ | ⟨h, _⟩ | ⟨h, _⟩ | ⟨_, h⟩
    · cases h
    · cases h
    · cases h
    · exact h
  subst hr
  have r3 : rng1 [.int 3] = some ([0, 1, 2].map fun i : Nat => PyData.int (i : Int)) := rng_at 3 (by decide)
  have r3' : rng1 [.int 3] = some [.int 0, .int 1, .int 2] := r3
  have h1' : sFor (gSet 3) (sSet (gSet 2) (mLc2 false (iSq (var 2)) [4, 5] [5] (gSet 4) bYes (iSq (var 1)) (gSet 5) bYes (mOp dAdd (var 4) (mTup (aCons (var 5) aNil))))) [.int 0, .int 1, .int 2] [some (.int 3), some nmT, some (.list [.tuple []]), none, none, none] = .ok (.nx, [some (.int 3), some nmT, some (.list (allW.map rowD)), a, b, c]) := h1
  simp [runF, runI, runFr, startE, sSeq, sSet, sExpr, sRet, sRetN, sIf, sForE, mIf, mTru, mBool, mNotB, mAndB, mOrB, mCallF, mCall, aCons, aNil, var, getv, cst, mOp, mUn, mTup, mLst, mAnd, mOr, gSet, gOwn, gTpl, gsCons, gsNil, iSq, mDict0, R.bind, R.opt, R.nox, truD, tru, asB, m_all_worlds, b_all_worlds, iRg, r3', h1']
theorem seq_nx {m m' : MS} {ρ ρ1 : Ev} (h : m ρ = .ok (.nx, ρ1)) : sSeq m m' ρ = m' ρ1 := by
  simp [runF, runI, runFr, startE, sSeq, sSet, sExpr, sRet, sRetN, sIf, sForE, mIf, mTru, mBool, mNotB, mAndB, mOrB, mCallF, mCall, aCons, aNil, var, getv, cst, mOp, mUn, mTup, mLst, mAnd, mOr, gSet, gOwn, gTpl, gsCons, gsNil, iSq, mDict0, R.bind, R.opt, R.nox, truD, tru, asB, h]
theorem forE_eq {i : MA} {g : MG} {b : MS} {ρ ρ1 : Ev} {ds : List D} (h : i ρ = .ok (ds, ρ1)) : sForE i g b ρ = sFor g b ds ρ1 := by
  simp [runF, runI, runFr, startE, sSeq, sSet, sExpr, sRet, sRetN, sIf, sForE, mIf, mTru, mBool, mNotB, mAndB, mOrB, mCallF, mCall, aCons, aNil, var, getv, cst, mOp, mUn, mTup, mLst, mAnd, mOr, gSet, gOwn, gTpl, gsCons, gsNil, iSq, mDict0, R.bind, R.opt, R.nox, truD, tru, asB, h]
theorem for3 {g : MG} {b : MS} {d1 d2 d3 : D} {ρ0 ρ1 ρ2 ρ3 ρ4 ρ5 ρ6 : Ev} (h1 : g d1 ρ0 = .ok ρ1) (b1 : b ρ1 = .ok (.nx, ρ2)) (h2 : g d2 ρ2 = .ok ρ3) (b2 : b ρ3 = .ok (.nx, ρ4)) (h3 : g d3 ρ4 = .ok ρ5) (b3 : b ρ5 = .ok (.nx, ρ6)) : sFor g b [d1, d2, d3] ρ0 = .ok (.nx, ρ6) := by
  simp [runF, runI, runFr, startE, sSeq, sSet, sExpr, sRet, sRetN, sIf, sForE, mIf, mTru, mBool, mNotB, mAndB, mOrB, mCallF, mCall, aCons, aNil, var, getv, cst, mOp, mUn, mTup, mLst, mAnd, mOr, gSet, gOwn, gTpl, gsCons, gsNil, iSq, mDict0, R.bind, R.opt, R.nox, truD, tru, asB, sFor, h1, b1, h2, b2, h3, b3]
theorem it_rows (rows : List Row) : items (.list (rows.map rowD)) = some (rows.map rowD) := rfl
theorem ln_un : dLenA [unT] = some (.int 3) := rfl
theorem m_worlds {k : Kw} (hp : InPool k) : m_worlds_of [knD k, unT, nmT] = .ok (.tuple ((wlds k).map rowD)) := by
  have e1 := m_allw
  have e2 := lc_eval (g := gSet 3) (vs := [3]) (tt := mTru (mCallF m_holds_in (aCons (var 0) (aCons (var 1) (aCons (var 3) aNil))))) (me := var 3) (ρ := [some (knD k), some unT, some nmT, none]) (enc := rowD) (c := satB k) (f := rowD) (xs := allW)
    fun w hw => ⟨[some (knD k), some unT, some nmT, some (rowD w)], _, rfl, by simp [runF, runI, runFr, startE, sSeq, sSet, sExpr, sRet, sRetN, sIf, sForE, mIf, mTru, mBool, mNotB, mAndB, mOrB, mCallF, mCall, aCons, aNil, var, getv, cst, mOp, mUn, mTup, mLst, mAnd, mOr, gSet, gOwn, gTpl, gsCons, gsNil, iSq, mDict0, R.bind, R.opt, R.nox, truD, tru, asB, m_holds hp hw]; rfl, fun _ => ⟨_, rfl⟩⟩
  have e3 := sorted_rows (c := satB k)
  simp [runF, runI, runFr, startE, sSeq, sSet, sExpr, sRet, sRetN, sIf, sForE, mIf, mTru, mBool, mNotB, mAndB, mOrB, mCallF, mCall, aCons, aNil, var, getv, cst, mOp, mUn, mTup, mLst, mAnd, mOr, gSet, gOwn, gTpl, gsCons, gsNil, iSq, mDict0, R.bind, R.opt, R.nox, truD, tru, asB, m_worlds_of, b_worlds_of, ln_un, e1, mLc, it_rows, e2, e3, dTuple, wlds]
theorem m_lworlds {k : Kw} (hp : InPool k) : m__law_worlds [knD k, unT, nmT] = .ok (.list ((wlds k).map rowD)) := by
  have inner : ∀ rows, Few rows → ∀ (t : D) (c d : Option D), ∃ e f, sFor (gSet 6) (sSet (gSet 5) (mOp dAdd (var 5) (mLc false (iSq (var 2)) [7] (gSet 7) bYes (mOp dAdd (var 6) (mTup (aCons (var 7) aNil)))))) (rows.map rowD) [some (knD k), some unT, some nmT, some (.list (rows.map rowD)), some t, some (.list []), c, d] = .ok (.nx, [some (knD k), some unT, some nmT, some (.list (rows.map rowD)), some t, some (.list ((longer rows).map rowD)), e, f]) := fun rows fw t c d => by
    obtain ⟨ρ', h1, _, acc, e, f, rfl, ha, hl⟩ := for_all (g := gSet 6) (b := sSet (gSet 5) (mOp dAdd (var 5) (mLc false (iSq (var 2)) [7] (gSet 7) bYes (mOp dAdd (var 6) (mTup (aCons (var 7) aNil)))))) (enc := rowD)
      (I := fun l ρ => (∀ r ∈ l, r ∈ rows) ∧ ∃ acc e f, ρ = [some (knD k), some unT, some nmT, some (.list (rows.map rowD)), some t, some (.list (acc.map rowD)), e, f] ∧ acc ++ longer l = longer rows ∧ acc.length + l.length * 5 ≤ 10000)
      (fun r l ρ h => by
        obtain ⟨hl, acc, e, f, rfl, ha, hs⟩ := h
        have e2 := lc_map (g := gSet 7) (vs := [7]) (me := mOp dAdd (var 6) (mTup (aCons (var 7) aNil))) (ρ := [some (knD k), some unT, some nmT, some (.list (rows.map rowD)), some t, some (.list (acc.map rowD)), some (rowD r), f]) (enc := PyData.str) (f := fun n => rowD (r ++ [n])) (xs := nms5)
          fun n hn => ⟨[some (knD k), some unT, some nmT, some (.list (rows.map rowD)), some t, some (.list (acc.map rowD)), some (rowD r), some (.str n)], [some (knD k), some unT, some nmT, some (.list (rows.map rowD)), some t, some (.list (acc.map rowD)), some (rowD r), some (.str n)], rfl, by simp [runF, runI, runFr, startE, sSeq, sSet, sExpr, sRet, sRetN, sIf, sForE, mIf, mTru, mBool, mNotB, mAndB, mOrB, mCallF, mCall, aCons, aNil, var, getv, cst, mOp, mUn, mTup, mLst, mAnd, mOr, gSet, gOwn, gTpl, gsCons, gsNil, iSq, mDict0, R.bind, R.opt, R.nox, truD, tru, asB, add_row r n (fw.2 r (hl r List.mem_cons_self))]⟩
        have ad : dAdd (.list (acc.map rowD)) (.list (nms5.map fun n => rowD (r ++ [n]))) = some (.list ((acc ++ nms5.map fun n => r ++ [n]).map rowD)) := by
          have hw : (acc.map rowD).length + (nms5.map fun n => rowD (r ++ [n])).length ≤ sizeLine := by
            rw [List.length_map, List.length_map, sizeN]
            rw [List.length_cons] at hs
            have : nms5.length = 5 := rfl
            omega
          show (if (acc.map rowD).length + (nms5.map fun n => rowD (r ++ [n])).length ≤ sizeLine then some (PyData.list (acc.map rowD ++ nms5.map fun n => rowD (r ++ [n]))) else none) = _
          rw [if_pos hw, List.map_append, List.map_map]
          rfl
        refine ⟨[some (knD k), some unT, some nmT, some (.list (rows.map rowD)), some t, some (.list (acc.map rowD)), some (rowD r), f], [some (knD k), some unT, some nmT, some (.list (rows.map rowD)), some t, some (.list ((acc ++ nms5.map fun n => r ++ [n]).map rowD)), some (rowD r), f], rfl, .inl ?_, fun q hq => hl q (List.mem_cons_of_mem _ hq), _, _, _, rfl, ?_, ?_⟩
        · simp only [sSet, mOp, var, getv, mLc, iSq, it_nms, e2, ad, R.bind, R.opt, R.nox, List.getElem?_cons_succ, List.getElem?_cons_zero]
          rfl
        · rw [← ha]
          unfold longer
          rw [List.flatMap_cons, List.append_assoc]
        · rw [List.length_append, List.length_map]
          rw [List.length_cons] at hs
          have : nms5.length = 5 := rfl
          omega) (xs := rows) (ρ := [some (knD k), some unT, some nmT, some (.list (rows.map rowD)), some t, some (.list []), c, d]) ⟨fun _ h => h, [], c, d, rfl, rfl, by have := fw.1; simp [runF, runI, runFr, startE, sSeq, sSet, sExpr, sRet, sRetN, sIf, sForE, mIf, mTru, mBool, mNotB, mAndB, mOrB, mCallF, mCall, aCons, aNil, var, getv, cst, mOp, mUn, mTup, mLst, mAnd, mOr, gSet, gOwn, gTpl, gsCons, gsNil, iSq, mDict0, R.bind, R.opt, R.nox, truD, tru, asB]; omega⟩
    have ha : acc = longer rows := by simpa [longer] using ha
    subst ha
    exact ⟨e, f, h1⟩
  have outer : ∀ rows, Few rows → ∀ (t : D) (o c d : Option D), ∃ e f, (sSeq (sSet (gSet 5) (mLst aNil)) (sSeq (sForE (iSq (var 3)) (gSet 6) (sSet (gSet 5) (mOp dAdd (var 5) (mLc false (iSq (var 2)) [7] (gSet 7) bYes (mOp dAdd (var 6) (mTup (aCons (var 7) aNil))))))) (sSet (gSet 3) (var 5)))) [some (knD k), some unT, some nmT, some (.list (rows.map rowD)), some t, o, c, d] = .ok (.nx, [some (knD k), some unT, some nmT, some (.list ((longer rows).map rowD)), some t, some (.list ((longer rows).map rowD)), e, f]) := fun rows fw t o c d => by
    obtain ⟨e, f, h⟩ := inner rows fw t c d
    refine ⟨e, f, ?_⟩
    simp [runF, runI, runFr, startE, sSeq, sSet, sExpr, sRet, sRetN, sIf, sForE, mIf, mTru, mBool, mNotB, mAndB, mOrB, mCallF, mCall, aCons, aNil, var, getv, cst, mOp, mUn, mTup, mLst, mAnd, mOr, gSet, gOwn, gTpl, gsCons, gsNil, iSq, mDict0, R.bind, R.opt, R.nox, truD, tru, asB, it_rows] at h ⊢
    simp [runF, runI, runFr, startE, sSeq, sSet, sExpr, sRet, sRetN, sIf, sForE, mIf, mTru, mBool, mNotB, mAndB, mOrB, mCallF, mCall, aCons, aNil, var, getv, cst, mOp, mUn, mTup, mLst, mAnd, mOr, gSet, gOwn, gTpl, gsCons, gsNil, iSq, mDict0, R.bind, R.opt, R.nox, truD, tru, asB, h]
  obtain ⟨e1, f1, h1⟩ := outer [[]] few0 (.int 0) none none none
  obtain ⟨e2, f2, h2⟩ := outer _ few1 (.int 1) (some (.list ((longer [[]]).map rowD))) e1 f1
  obtain ⟨e3, f3, h3⟩ := outer _ few2 (.int 2) (some (.list ((longer (longer [[]])).map rowD))) e2 f2
  have w : longer (longer (longer [[]])) = allW := rfl
  rw [w] at h3
  have h := for3 (g := gSet 4) (d1 := .int 0) (d2 := .int 1) (d3 := .int 2) (ρ0 := [some (knD k), some unT, some nmT, some (.list [.tuple []]), none, none, none, none]) rfl h1 rfl h2 rfl h3
  have e4 := lc_eval (g := gSet 6) (vs := [6]) (tt := mTru (mCallF m__law_holds (aCons (var 0) (aCons (var 1) (aCons (var 6) aNil))))) (me := var 6) (ρ := [some (knD k), some unT, some nmT, some (.list (allW.map rowD)), some (.int 2), some (.list (allW.map rowD)), e3, f3]) (enc := rowD) (c := satB k) (f := rowD) (xs := allW)
    fun w hw => ⟨[some (knD k), some unT, some nmT, some (.list (allW.map rowD)), some (.int 2), some (.list (allW.map rowD)), some (rowD w), f3], _, rfl, by simp [runF, runI, runFr, startE, sSeq, sSet, sExpr, sRet, sRetN, sIf, sForE, mIf, mTru, mBool, mNotB, mAndB, mOrB, mCallF, mCall, aCons, aNil, var, getv, cst, mOp, mUn, mTup, mLst, mAnd, mOr, gSet, gOwn, gTpl, gsCons, gsNil, iSq, mDict0, R.bind, R.opt, R.nox, truD, tru, asB, m_lholds hp hw]; rfl, fun _ => ⟨_, rfl⟩⟩
  have a : (sSet (gSet 3) (mLst (aCons (mTup aNil) aNil))) [some (knD k), some unT, some nmT, none, none, none, none, none] = .ok (.nx, [some (knD k), some unT, some nmT, some (.list [.tuple []]), none, none, none, none]) := rfl
  have i : iSq (var 1) [some (knD k), some unT, some nmT, some (.list [.tuple []]), none, none, none, none] = .ok ([.int 0, .int 1, .int 2], [some (knD k), some unT, some nmT, some (.list [.tuple []]), none, none, none, none]) := rfl
  have f := (forE_eq (g := gSet 4) (b := sSeq (sSet (gSet 5) (mLst aNil)) (sSeq (sForE (iSq (var 3)) (gSet 6) (sSet (gSet 5) (mOp dAdd (var 5) (mLc false (iSq (var 2)) [7] (gSet 7) bYes (mOp dAdd (var 6) (mTup (aCons (var 7) aNil))))))) (sSet (gSet 3) (var 5)))) i).trans h
  have c : (sRet (mLc false (iSq (var 3)) [6] (gSet 6) (mTru (mCallF m__law_holds (aCons (var 0) (aCons (var 1) (aCons (var 6) aNil))))) (var 6))) [some (knD k), some unT, some nmT, some (.list (allW.map rowD)), some (.int 2), some (.list (allW.map rowD)), e3, f3] = .ok (.rt (.list ((wlds k).map rowD)), [some (knD k), some unT, some nmT, some (.list (allW.map rowD)), some (.int 2), some (.list (allW.map rowD)), e3, f3]) := by
    simp [runF, runI, runFr, startE, sSeq, sSet, sExpr, sRet, sRetN, sIf, sForE, mIf, mTru, mBool, mNotB, mAndB, mOrB, mCallF, mCall, aCons, aNil, var, getv, cst, mOp, mUn, mTup, mLst, mAnd, mOr, gSet, gOwn, gTpl, gsCons, gsNil, iSq, mDict0, R.bind, R.opt, R.nox, truD, tru, asB, mLc, it_rows, e4]
    rfl
  have t : b__law_worlds [some (knD k), some unT, some nmT, none, none, none, none, none] = _ := (seq_nx a).trans ((seq_nx f).trans c)
  have st : startE 3 8 [knD k, unT, nmT] = [some (knD k), some unT, some nmT, none, none, none, none, none] := rfl
  unfold m__law_worlds runF
  rw [st, t]
  rfl
end Lw

set_option Elab.async false
set_option linter.all false
set_option maxRecDepth 100000
set_option autoImplicit false
namespace Lw
open PySem Kn Dt Dt.R
open L2 (Key)
def intsD (xs : List Int) : D := .list (xs.map PyData.int)
theorem asInts_map : ∀ xs : List Int, asInts (xs.map PyData.int) = some xs
  | [] => rfl
  | x :: xs => by
    show (asInts (xs.map PyData.int)).map (x :: ·) = _
    rw [asInts_map xs]; rfl
theorem it_scr (ns : List Int) : items (scrD ns) = some (ns.map PyData.int) := by
  show (asInts (ns.map PyData.int)).map _ = _
  rw [asInts_map]; rfl
theorem ix_int (xs : List Int) {a : Nat} (h : a < xs.length) : dIxA (intsD xs) (.int (a : Int)) = some (.int (xs.getD a 0)) := by
  show L2.atI (xs.map PyData.int) (a : Int) = _
  unfold L2.atI L2.ixN
  rw [List.length_map, if_pos (by omega), if_pos (by omega)]
  show (xs.map PyData.int)[((a : Int)).toNat]? = _
  rw [Int.toNat_natCast, List.getElem?_map, List.getElem?_eq_getElem h, List.getD_eq_getElem?_getD, List.getElem?_eq_getElem h]
  rfl
theorem ixN_nat {n a : Nat} (h : a < n) : L2.ixN n (a : Int) = some a := by
  unfold L2.ixN
  rw [if_pos (by omega), if_pos (by omega), Int.toNat_natCast]
theorem mod_pos (i j : Int) (h : 0 < j) : dMod (.int i) (.int j) = some (.int (i % j)) := by
  show (if 0 < j then some (PyData.int (i % j)) else none) = _
  rw [if_pos h]
theorem mulI_r (i j : Int) (h : small64 j = true) : dMulI (.int i) (.int j) = some (.int (i * j)) := by
  show (if (small64 i || small64 j) = true then some (PyData.int (i * j)) else none) = _
  rw [h, Bool.or_true, if_pos rfl]
theorem mulI_l (i j : Int) (h : small64 i = true) : dMulI (.int i) (.int j) = some (.int (i * j)) := by
  show (if (small64 i || small64 j) = true then some (PyData.int (i * j)) else none) = _
  rw [h, Bool.true_or, if_pos rfl]
theorem seqF_nx {m m' : MS} {ρ ρ1 : Ev} (h : m ρ = .ok (.nx, ρ1)) : sSeqF m m' ρ = m' ρ1 := by
  unfold sSeqF
  rw [h]; rfl
def bDraw : MS := (sSeq (sSet (gSet 6) (mOp dMod (var 5) (mCall dLenA (aCons (var 2) aNil)))) (sIf (mAndB (mBool (mOp dGe (mOp dIxA (var 2) (var 6)) (mOp dPow (cst (.int 10)) (cst (.int 18))))) (mBool (mOp dGt (mOp dIxA (var 3) (var 6)) (cst (.int 0))))) (sSeq (sExpr (eApp 4 (mOp dMod (mCall dInt (aCons (mOp dIxA (var 3) (var 6)) aNil)) (cst (.int 1000))))) (sPutL 3 (mOp dFdiv (mOp dIxA (var 3) (var 6)) (cst (.int 1000))) (var 6))) (sSeq (sSet (gSet 7) (mOp dMod (mCall dInt (aCons (mOp dAdd (mOp dAdd (mOp dMulI (mOp dIxA (var 2) (var 6)) (cst (.int 48271))) (mOp dMulI (var 5) (cst (.int 69621)))) (cst (.int 11))) aNil)) (cst (.int 2147483647)))) (sExpr (eApp 4 (mOp dMod (mCall dInt (aCons (mOp dAdd (mOp dAdd (mOp dMulI (var 7) (var 7)) (mOp dMulI (cst (.int 3)) (var 7))) (var 5)) aNil)) (cst (.int 1000003))))))))
theorem lnI (xs : List Int) : dLenA [intsD xs] = some (.int (xs.length : Int)) := by
  show some (PyData.int ((xs.map PyData.int).length : Int)) = _
  rw [List.length_map]
theorem asl_ints (xs : List Int) : asL (some (intsD xs)) = some (xs.map PyData.int) := rfl
theorem draw_step (s m : D) (cs rs ds : List Int) (i : Nat) (v6 v7 v8 : Option D) (h0 : 0 < cs.length) (h1 : rs.length = cs.length) (hd : ds.length < 1000000) :
    ∃ rs' ds' w6 w7, bDraw [some s, some m, some (intsD cs), some (intsD rs), some (intsD ds), some (.int (i : Int)), v6, v7, v8] = .ok (.nx, [some s, some m, some (intsD cs), some (intsD rs'), some (intsD ds'), some (.int (i : Int)), w6, w7, v8]) ∧ rs'.length = cs.length ∧ ds'.length = ds.length + 1 := by
  have ha : i % cs.length < cs.length := Nat.mod_lt _ h0
  have m1 : dMod (.int (i : Int)) (.int (cs.length : Int)) = some (.int ((i % cs.length : Nat) : Int)) := by
    rw [mod_pos _ _ (by omega)]; rfl
  have c1 := ix_int cs ha
  have r1 := ix_int rs (a := i % cs.length) (by rw [h1]; exact ha)
  generalize cs.getD (i % cs.length) 0 = c at c1
  generalize rs.getD (i % cs.length) 0 = r at r1
  have pw : dPow (.int 10) (.int 18) = some (.int 1000000000000000000) := rfl
  have ge : dGe (.int c) (.int 1000000000000000000) = some (.bool (decide (1000000000000000000 ≤ c))) := rfl
  have gt : dGt (.int r) (.int 0) = some (.bool (decide (0 < r))) := rfl
  have hs : ds.length < sizeLine := by rw [sizeN]; omega
  have ln := lnI cs
  have s1 : sSet (gSet 6) (mOp dMod (var 5) (mCall dLenA (aCons (var 2) aNil))) [some s, some m, some (intsD cs), some (intsD rs), some (intsD ds), some (.int (i : Int)), v6, v7, v8] = .ok (.nx, [some s, some m, some (intsD cs), some (intsD rs), some (intsD ds), some (.int (i : Int)), some (.int ((i % cs.length : Nat) : Int)), v7, v8]) := by
    simp only [sSet, mOp, var, getv, mCall, aCons, aNil, R.bind, R.opt, R.nox, List.getElem?_cons_succ, List.getElem?_cons_zero, ln, m1]
    rfl
  have t1 : (mAndB (mBool (mOp dGe (mOp dIxA (var 2) (var 6)) (mOp dPow (cst (.int 10)) (cst (.int 18))))) (mBool (mOp dGt (mOp dIxA (var 3) (var 6)) (cst (.int 0))))) [some s, some m, some (intsD cs), some (intsD rs), some (intsD ds), some (.int (i : Int)), some (.int ((i % cs.length : Nat) : Int)), v7, v8] = .ok (decide (1000000000000000000 ≤ c) && decide (0 < r), [some s, some m, some (intsD cs), some (intsD rs), some (intsD ds), some (.int (i : Int)), some (.int ((i % cs.length : Nat) : Int)), v7, v8]) := by
    cases q : decide (1000000000000000000 ≤ c) <;> rw [q] at ge <;> simp only [mAndB, mBool, mOp, var, getv, cst, R.bind, R.opt, R.nox, List.getElem?_cons_succ, List.getElem?_cons_zero, c1, r1, pw, ge, gt, asB] <;> rfl
  cases t : (decide (1000000000000000000 ≤ c) && decide (0 < r)) <;> rw [t] at t1
  · have m2 := mulI_r c 48271 rfl
    have hz : small64 ((c * 48271 + i * 69621 + 11) % 2147483647) = true := by
      have h1 := Int.emod_nonneg (c * 48271 + i * 69621 + 11) (show (2147483647 : Int) ≠ 0 by decide)
      have h2 := Int.emod_lt_of_pos (c * 48271 + i * 69621 + 11) (show (0 : Int) < 2147483647 by decide)
      unfold small64
      rw [Bool.and_eq_true, decide_eq_true_iff, decide_eq_true_iff]
      omega
    have ad : ∀ x y : Int, dAdd (.int x) (.int y) = some (.int (x + y)) := fun _ _ => rfl
    have it : ∀ x : Int, dInt [.int x] = some (.int x) := fun _ => rfl
    have s2 : ∀ z : Int, sSet (gSet 7) (mOp dMod (mCall dInt (aCons (mOp dAdd (mOp dAdd (mOp dMulI (mOp dIxA (var 2) (var 6)) (cst (.int 48271))) (mOp dMulI (var 5) (cst (.int 69621)))) (cst (.int 11))) aNil)) (cst (.int 2147483647))) [some s, some m, some (intsD cs), some (intsD rs), some (intsD ds), some (.int z), some (.int ((i % cs.length : Nat) : Int)), v7, v8] = .ok (.nx, [some s, some m, some (intsD cs), some (intsD rs), some (intsD ds), some (.int z), some (.int ((i % cs.length : Nat) : Int)), some (.int ((c * 48271 + z * 69621 + 11) % 2147483647)), v8]) := fun z => by
      have m3 := mulI_r z 69621 rfl
      have m4 := mod_pos (c * 48271 + z * 69621 + 11) 2147483647 (by decide)
      simp only [sSet, mOp, var, getv, cst, mCall, aCons, aNil, R.bind, R.opt, R.nox, List.getElem?_cons_succ, List.getElem?_cons_zero, c1, m2, m3, m4, ad, it]
      rfl
    have s2 := s2 (i : Int)
    generalize (c * 48271 + i * 69621 + 11) % 2147483647 = g at s2 hz
    have m5 := mulI_l g g hz
    have m6 := mulI_r 3 g hz
    have m7 := mod_pos (g * g + 3 * g + i) 1000003 (by decide)
    have s3 : sExpr (eApp 4 (mOp dMod (mCall dInt (aCons (mOp dAdd (mOp dAdd (mOp dMulI (var 7) (var 7)) (mOp dMulI (cst (.int 3)) (var 7))) (var 5)) aNil)) (cst (.int 1000003)))) [some s, some m, some (intsD cs), some (intsD rs), some (intsD ds), some (.int (i : Int)), some (.int ((i % cs.length : Nat) : Int)), some (.int g), v8] = .ok (.nx, [some s, some m, some (intsD cs), some (intsD rs), some (intsD (ds ++ [(g * g + 3 * g + i) % 1000003])), some (.int (i : Int)), some (.int ((i % cs.length : Nat) : Int)), some (.int g), v8]) := by
      simp only [sExpr, eApp, mOp, var, getv, cst, mCall, aCons, aNil, R.bind, R.opt, R.nox, List.getElem?_cons_succ, List.getElem?_cons_zero, asl_ints, m5, m6, m7, ad, it, List.length_map, hs, if_true]
      simp [runF, runI, runFr, startE, sSeq, sSet, sExpr, sRet, sRetN, sIf, sForE, mIf, mTru, mBool, mNotB, mAndB, mOrB, mCallF, mCall, aCons, aNil, var, getv, cst, mOp, mUn, mTup, mLst, mAnd, mOr, gSet, gOwn, gTpl, gsCons, gsNil, iSq, mDict0, R.bind, R.opt, R.nox, truD, tru, asB, intsD]
    refine ⟨rs, ds ++ [(g * g + 3 * g + i) % 1000003], some (.int ((i % cs.length : Nat) : Int)), some (.int g), ?_, h1, by rw [List.length_append]; rfl⟩
    unfold bDraw
    rw [seq_nx s1]
    unfold sIf
    rw [t1]
    show (sSeq _ _) _ = _
    rw [seq_nx s2, s3]
  · have m2 := mod_pos r 1000 (by decide)
    have fd : dFdiv (.int r) (.int 1000) = some (.int (r / 1000)) := rfl
    have it : ∀ x : Int, dInt [.int x] = some (.int x) := fun _ => rfl
    have s2 : sExpr (eApp 4 (mOp dMod (mCall dInt (aCons (mOp dIxA (var 3) (var 6)) aNil)) (cst (.int 1000)))) [some s, some m, some (intsD cs), some (intsD rs), some (intsD ds), some (.int (i : Int)), some (.int ((i % cs.length : Nat) : Int)), v7, v8] = .ok (.nx, [some s, some m, some (intsD cs), some (intsD rs), some (intsD (ds ++ [r % 1000])), some (.int (i : Int)), some (.int ((i % cs.length : Nat) : Int)), v7, v8]) := by
      simp only [sExpr, eApp, mOp, var, getv, cst, mCall, aCons, aNil, R.bind, R.opt, R.nox, List.getElem?_cons_succ, List.getElem?_cons_zero, asl_ints, r1, m2, it, List.length_map, hs, if_true]
      simp [runF, runI, runFr, startE, sSeq, sSet, sExpr, sRet, sRetN, sIf, sForE, mIf, mTru, mBool, mNotB, mAndB, mOrB, mCallF, mCall, aCons, aNil, var, getv, cst, mOp, mUn, mTup, mLst, mAnd, mOr, gSet, gOwn, gTpl, gsCons, gsNil, iSq, mDict0, R.bind, R.opt, R.nox, truD, tru, asB, intsD]
    have ixn : L2.ixN rs.length ((i % cs.length : Nat) : Int) = some (i % cs.length) := ixN_nat (by rw [h1]; exact ha)
    have asi : ∀ x : Int, asI (.int x) = some x := fun _ => rfl
    have s3 : sPutL 3 (mOp dFdiv (mOp dIxA (var 3) (var 6)) (cst (.int 1000))) (var 6) [some s, some m, some (intsD cs), some (intsD rs), some (intsD (ds ++ [r % 1000])), some (.int (i : Int)), some (.int ((i % cs.length : Nat) : Int)), v7, v8] = .ok (.nx, [some s, some m, some (intsD cs), some (intsD (rs.set (i % cs.length) (r / 1000))), some (intsD (ds ++ [r % 1000])), some (.int (i : Int)), some (.int ((i % cs.length : Nat) : Int)), v7, v8]) := by
      simp only [sPutL, mOp, var, getv, cst, R.bind, R.opt, R.nox, List.getElem?_cons_succ, List.getElem?_cons_zero, asl_ints, r1, fd, asi, List.length_map, ixn]
      simp [runF, runI, runFr, startE, sSeq, sSet, sExpr, sRet, sRetN, sIf, sForE, mIf, mTru, mBool, mNotB, mAndB, mOrB, mCallF, mCall, aCons, aNil, var, getv, cst, mOp, mUn, mTup, mLst, mAnd, mOr, gSet, gOwn, gTpl, gsCons, gsNil, iSq, mDict0, R.bind, R.opt, R.nox, truD, tru, asB, intsD]
    refine ⟨rs.set (i % cs.length) (r / 1000), ds ++ [r % 1000], some (.int ((i % cs.length : Nat) : Int)), v7, ?_, by rw [List.length_set, h1], by rw [List.length_append]; rfl⟩
    unfold bDraw
    rw [seq_nx s1]
    unfold sIf
    rw [t1]
    show (sSeq _ _) _ = _
    rw [seq_nx s2, s3]
theorem m_draws (ns : List Int) (hn : ns.length ≤ 63) (n : Nat) (hz : n ≤ 100000) : ∃ ds : List Int, m__law_draws [scrD ns, .int (n : Int)] = .ok (intsD ds) := by
  have e1 := lc_map (g := gSet 8) (vs := [8]) (me := mCall dInt (aCons (var 8) aNil)) (ρ := [some (scrD ns), some (.int (n : Int)), none, none, none, none, none, none, none]) (enc := PyData.int) (f := PyData.int) (xs := ns)
    fun c _ => ⟨[some (scrD ns), some (.int (n : Int)), none, none, none, none, none, none, some (.int c)], [some (scrD ns), some (.int (n : Int)), none, none, none, none, none, none, some (.int c)], rfl, by simp [runF, runI, runFr, startE, sSeq, sSet, sExpr, sRet, sRetN, sIf, sForE, mIf, mTru, mBool, mNotB, mAndB, mOrB, mCallF, mCall, aCons, aNil, var, getv, cst, mOp, mUn, mTup, mLst, mAnd, mOr, gSet, gOwn, gTpl, gsCons, gsNil, iSq, mDict0, R.bind, R.opt, R.nox, truD, tru, asB, dInt]⟩
  have s1 : sSet (gOwn 2) (mLc false (iSq (var 0)) [8] (gSet 8) bYes (mCall dInt (aCons (var 8) aNil))) [some (scrD ns), some (.int (n : Int)), none, none, none, none, none, none, none] = .ok (.nx, [some (scrD ns), some (.int (n : Int)), some (intsD ns), none, none, none, none, none, none]) := by
    simp only [sSet, mLc, iSq, var, getv, R.bind, R.opt, R.nox, List.getElem?_cons_zero, it_scr, e1]
    rfl
  have s2 : ∃ cs : List Int, 0 < cs.length ∧ sIf (mBool (mOp dEq (mCall dLenA (aCons (var 2) aNil)) (cst (.int 0)))) (sExpr (eApp 2 (cst (.int 0)))) sNil [some (scrD ns), some (.int (n : Int)), some (intsD ns), none, none, none, none, none, none] = .ok (.nx, [some (scrD ns), some (.int (n : Int)), some (intsD cs), none, none, none, none, none, none]) := by
    have ln := lnI ns
    cases ns with
    | nil =>
      refine ⟨[0], by decide, ?_⟩
      have q : dEq (.int 0) (.int 0) = some (.bool true) := rfl
      have ln : dLenA [intsD []] = some (.int 0) := ln
      have al : asL (some (intsD [])) = some [] := rfl
      have hs : ([] : List D).length < sizeLine := by rw [sizeN]; decide
      simp only [sIf, mBool, mOp, mCall, aCons, aNil, var, getv, cst, R.bind, R.opt, R.nox, List.getElem?_cons_succ, List.getElem?_cons_zero, ln, q, asB, sExpr, eApp, al, hs, if_true]
      rfl
    | cons c cs =>
      refine ⟨c :: cs, by simp [runF, runI, runFr, startE, sSeq, sSet, sExpr, sRet, sRetN, sIf, sForE, mIf, mTru, mBool, mNotB, mAndB, mOrB, mCallF, mCall, aCons, aNil, var, getv, cst, mOp, mUn, mTup, mLst, mAnd, mOr, gSet, gOwn, gTpl, gsCons, gsNil, iSq, mDict0, R.bind, R.opt, R.nox, truD, tru, asB], ?_⟩
      have q : dEq (.int ((c :: cs).length : Int)) (.int 0) = some (.bool false) := by
        have := dEq_kD (.inl ((c :: cs).length : Int)) (.inl 0)
        rw [decide_eq_false (by intro h; injection h with h; rw [List.length_cons] at h; omega)] at this
        exact this
      simp only [sIf, mBool, mOp, mCall, aCons, aNil, var, getv, cst, R.bind, R.opt, R.nox, List.getElem?_cons_succ, List.getElem?_cons_zero, ln, q, asB]
      rfl
  obtain ⟨cs, h0, s2⟩ := s2
  have s3 : sSet (gOwn 3) (mCall dList (aCons (var 2) aNil)) [some (scrD ns), some (.int (n : Int)), some (intsD cs), none, none, none, none, none, none] = .ok (.nx, [some (scrD ns), some (.int (n : Int)), some (intsD cs), some (intsD cs), none, none, none, none, none]) := rfl
  have s4 : sSet (gOwn 4) (mLst aNil) [some (scrD ns), some (.int (n : Int)), some (intsD cs), some (intsD cs), none, none, none, none, none] = .ok (.nx, [some (scrD ns), some (.int (n : Int)), some (intsD cs), some (intsD cs), some (intsD []), none, none, none, none]) := rfl
  obtain ⟨ρ', h1, rs, ds, v5, v6, v7, v8, rfl, _, _⟩ := for_all (g := gSet 5) (b := bDraw) (enc := fun i : Nat => PyData.int (i : Int))
    (I := fun l ρ => ∃ rs ds v5 v6 v7 v8, ρ = [some (scrD ns), some (.int (n : Int)), some (intsD cs), some (intsD rs), some (intsD ds), v5, v6, v7, v8] ∧ rs.length = cs.length ∧ ds.length + l.length ≤ 100000)
    (fun i l ρ h => by
      obtain ⟨rs, ds, v5, v6, v7, v8, rfl, hr, hl⟩ := h
      rw [List.length_cons] at hl
      obtain ⟨rs', ds', w6, w7, e, h2, h3⟩ := draw_step (scrD ns) (.int (n : Int)) cs rs ds i v6 v7 v8 h0 hr (by omega)
      exact ⟨_, _, rfl, .inl e, _, _, _, _, _, _, rfl, h2, by omega⟩)
    (xs := List.range n) (ρ := [some (scrD ns), some (.int (n : Int)), some (intsD cs), some (intsD cs), some (intsD []), none, none, none, none]) ⟨cs, [], none, none, none, none, rfl, rfl, by rw [List.length_range]; simpa using hz⟩
  have r1 := rng_at n (by omega)
  have i1 : iRg rng1 (aCons (var 1) aNil) [some (scrD ns), some (.int (n : Int)), some (intsD cs), some (intsD cs), some (intsD []), none, none, none, none] = .ok ((List.range n).map fun i => .int ((i : Nat) : Int), [some (scrD ns), some (.int (n : Int)), some (intsD cs), some (intsD cs), some (intsD []), none, none, none, none]) := by
    simp only [iRg, aCons, aNil, var, getv, R.bind, R.opt, List.getElem?_cons_succ, List.getElem?_cons_zero, r1]
  have f1 := (forE_eq (g := gSet 5) (b := bDraw) i1).trans h1
  have s5 : sExpr (eRev 4) [some (scrD ns), some (.int (n : Int)), some (intsD cs), some (intsD rs), some (intsD ds), v5, v6, v7, v8] = .ok (.nx, [some (scrD ns), some (.int (n : Int)), some (intsD cs), some (intsD rs), some (intsD ds.reverse), v5, v6, v7, v8]) := by
    simp only [sExpr, eRev, getv, R.bind, R.opt, List.getElem?_cons_succ, List.getElem?_cons_zero, asl_ints]
    simp [runF, runI, runFr, startE, sSeq, sSet, sExpr, sRet, sRetN, sIf, sForE, mIf, mTru, mBool, mNotB, mAndB, mOrB, mCallF, mCall, aCons, aNil, var, getv, cst, mOp, mUn, mTup, mLst, mAnd, mOr, gSet, gOwn, gTpl, gsCons, gsNil, iSq, mDict0, R.bind, R.opt, R.nox, truD, tru, asB, intsD]
  have s6 : sRet (var 4) [some (scrD ns), some (.int (n : Int)), some (intsD cs), some (intsD rs), some (intsD ds.reverse), v5, v6, v7, v8] = .ok (.rt (intsD ds.reverse), [some (scrD ns), some (.int (n : Int)), some (intsD cs), some (intsD rs), some (intsD ds.reverse), v5, v6, v7, v8]) := rfl
  refine ⟨ds.reverse, ?_⟩
  have t : b__law_draws [some (scrD ns), some (.int (n : Int)), none, none, none, none, none, none, none] = _ := (seqF_nx s1).trans ((seqF_nx s2).trans ((seqF_nx s3).trans ((seqF_nx s4).trans ((seqF_nx f1).trans ((seqF_nx s5).trans s6)))))
  have st : startE 2 9 [scrD ns, .int (n : Int)] = [some (scrD ns), some (.int (n : Int)), none, none, none, none, none, none, none] := rfl
  unfold m__law_draws runFr
  rw [st, t]
  rfl
end Lw

set_option Elab.async false
set_option linter.all false
set_option maxRecDepth 100000
set_option autoImplicit false
/-! Mirrors, step by step: each combinator by one lemma. -/
namespace Dt.St
open PySem L2 Dt R
section
variable {ρ ρ1 ρ2 ρ3 : Ev} {d x y r : D} {ds : List D}
theorem vr {i : Nat} (h : getv ρ i = some d) : var i ρ = .ok (d, ρ) := by
  unfold var; rw [h]; rfl
theorem cs : cst d ρ = .ok (d, ρ) := rfl
theorem a0 : aNil ρ = .ok ([], ρ) := rfl
theorem ac {m : ME} {ms : MA} (h : m ρ = .ok (d, ρ1)) (hs : ms ρ1 = .ok (ds, ρ2)) : aCons m ms ρ = .ok (d :: ds, ρ2) := by
  unfold aCons; rw [h]; show (ms ρ1).bind _ = _; rw [hs]; rfl
theorem a1 {m : ME} (h : m ρ = .ok (d, ρ1)) : aCons m aNil ρ = .ok ([d], ρ1) := ac h a0
theorem call {g : GA} {ms : MA} (h : ms ρ = .ok (ds, ρ1)) (hg : g ds = some r) : mCall g ms ρ = .ok (r, ρ1) := by
  unfold mCall; rw [h]; show (R.opt (g ds)).bind _ = _; rw [hg]; rfl
theorem callF {fn : List D → R D} {ms : MA} (h : ms ρ = .ok (ds, ρ1)) (hg : fn ds = .ok r) : mCallF fn ms ρ = .ok (r, ρ1) := by
  unfold mCallF; rw [h]; show (fn ds).bind _ = _; rw [hg]; rfl
theorem op {g : G2} {a b : ME} (h1 : a ρ = .ok (x, ρ1)) (h2 : b ρ1 = .ok (y, ρ2)) (h3 : g x y = some r) : mOp g a b ρ = .ok (r, ρ2) := by
  unfold mOp; rw [h1]; show (b ρ1).bind _ = _; rw [h2]; show (R.opt (g x y)).bind _ = _; rw [h3]; rfl
theorem tup {ms : MA} (h : ms ρ = .ok (ds, ρ1)) (hz : ds.length ≤ 1000) : mTup ms ρ = .ok (.tuple ds, ρ1) := by
  unfold mTup; rw [h]; show (if ds.length ≤ 1000 then _ else _) = _; rw [if_pos hz]
theorem set {g : MG} {m : ME} (h : m ρ = .ok (d, ρ1)) (hg : g d ρ1 = .ok ρ2) : sSet g m ρ = .ok (.nx, ρ2) := by
  unfold sSet; rw [h]; show (g d ρ1).nox.bind _ = _; rw [hg]; rfl
theorem ret {m : ME} (h : m ρ = .ok (d, ρ1)) : sRet m ρ = .ok (.rt d, ρ1) := by
  unfold sRet; rw [h]; rfl
theorem seq {m m' : MS} (h : m ρ = .ok (.nx, ρ1)) : sSeq m m' ρ = m' ρ1 := by
  unfold sSeq; rw [h]; rfl
theorem ift {t : MB} {a b : MS} (h : t ρ = .ok (true, ρ1)) : sIf t a b ρ = a ρ1 := by
  unfold sIf; rw [h]; rfl
theorem iff {t : MB} {a b : MS} (h : t ρ = .ok (false, ρ1)) : sIf t a b ρ = b ρ1 := by
  unfold sIf; rw [h]; rfl
/-- an if that is passed by -/
theorem pass {t : MB} {a : MS} (h : t ρ = .ok (false, ρ1)) : sIf t a sNil ρ = .ok (.nx, ρ1) := by
  rw [iff h]; rfl
theorem tr {m : ME} {b : Bool} (h : m ρ = .ok (d, ρ1)) (hd : truD d = some b) : mTru m ρ = .ok (b, ρ1) := by
  unfold mTru; rw [h]; show (R.opt (truD d)).bind _ = _; rw [hd]; rfl
theorem trB {m : ME} {b : Bool} (h : m ρ = .ok (.bool b, ρ1)) : mTru m ρ = .ok (b, ρ1) := tr h rfl
theorem bl {m : ME} {b : Bool} (h : m ρ = .ok (.bool b, ρ1)) : mBool m ρ = .ok (b, ρ1) := by
  unfold mBool; rw [h]; rfl
theorem nt {t : MB} {b : Bool} (h : t ρ = .ok (b, ρ1)) : mNotB t ρ = .ok (!b, ρ1) := by
  unfold mNotB; rw [h]; rfl
theorem orf {t s : MB} {b : Bool} (h : t ρ = .ok (false, ρ1)) (g : s ρ1 = .ok (b, ρ2)) : mOrB t s ρ = .ok (b, ρ2) := by
  unfold mOrB; rw [h]; exact g
theorem ort {t s : MB} (h : t ρ = .ok (true, ρ1)) : mOrB t s ρ = .ok (true, ρ1) := by
  unfold mOrB; rw [h]; rfl
theorem it {m : ME} (h : m ρ = .ok (d, ρ1)) (hi : items d = some ds) : iSq m ρ = .ok (ds, ρ1) := by
  unfold iSq; rw [h]; show (R.opt (items d)).bind _ = _; rw [hi]; rfl
theorem rg {g : List D → Option (List D)} {ms : MA} {rs : List D} (h : ms ρ = .ok (ds, ρ1)) (hg : g ds = some rs) : iRg g ms ρ = .ok (rs, ρ1) := by
  unfold iRg; rw [h]; show (R.opt (g ds)).bind _ = _; rw [hg]; rfl
theorem lc {k : Bool} {mi : MA} {vs : List Nat} {g : MG} {tt : MB} {me : ME} {rs : List D} (h : mi ρ = .ok (ds, ρ1)) (hg : lcG k vs g tt me ds ρ1 = .ok (rs, ρ2)) : mLc k mi vs g tt me ρ = .ok (.list rs, ρ2) := by
  unfold mLc; rw [h]; show (lcG k vs g tt me ds ρ1).nox.bind _ = _; rw [hg]; rfl
theorem fr {i : MA} {g : MG} {b : MS} {z : Fl × Ev} (h : i ρ = .ok (ds, ρ1)) (hf : sFor g b ds ρ1 = .ok z) : sForE i g b ρ = .ok z := by
  unfold sForE; rw [h]; exact hf
theorem mif_t {t : MB} {a b : ME} (h : t ρ = .ok (true, ρ1)) (g : a ρ1 = .ok (d, ρ2)) : mIf t a b ρ = .ok (d, ρ2) := by
  unfold mIf; rw [h]; exact g
theorem mif_f {t : MB} {a b : ME} (h : t ρ = .ok (false, ρ1)) (g : b ρ1 = .ok (d, ρ2)) : mIf t a b ρ = .ok (d, ρ2) := by
  unfold mIf; rw [h]; exact g
theorem sl {ma : ME} {ml mh : MO} {lo hi : Option Int} (h : ma ρ = .ok (d, ρ1)) (hl : ml ρ1 = .ok (lo, ρ2)) (hh : mh ρ2 = .ok (hi, ρ3)) (hg : dSl d lo hi = some r) : mSl ma ml mh ρ = .ok (r, ρ3) := by
  unfold mSl; rw [h]; show (ml ρ1).bind _ = _; rw [hl]; show (mh ρ2).bind _ = _; rw [hh]; show (R.opt (dSl d lo hi)).bind _ = _; rw [hg]; rfl
theorem orT {ma mb : ME} (h : ma ρ = .ok (.bool true, ρ1)) : mOr ma mb ρ = .ok (.bool true, ρ1) := by
  unfold mOr; rw [h]; rfl
theorem orF {ma mb : ME} (h : ma ρ = .ok (.bool false, ρ1)) (g : mb ρ1 = .ok (d, ρ2)) : mOr ma mb ρ = .ok (d, ρ2) := by
  unfold mOr; rw [h]; exact g
theorem andT {ma mb : ME} (h : ma ρ = .ok (.bool true, ρ1)) (g : mb ρ1 = .ok (d, ρ2)) : mAnd ma mb ρ = .ok (d, ρ2) := by
  unfold mAnd; rw [h]; exact g
theorem runF_rt {n N : Nat} {b : MS} (hl : ds.length = n) (h : b (startE n N ds) = .ok (.rt d, ρ1)) : runF n N b ds = .ok d := by
  unfold runF; rw [if_pos hl, h]; rfl
theorem runI_rt {n N j : Nat} {b : MS} (hl : ds.length = n) (h : b (startE n N ds) = .ok (.rt d, ρ1)) (hj : getv ρ1 j = some x) : runI n N j b ds = .ok (d, x) := by
  unfold runI; rw [if_pos hl, h]; show (R.opt (getv ρ1 j)).bind _ = _; rw [hj]; rfl
end
end Dt.St

set_option Elab.async false
set_option linter.all false
set_option maxRecDepth 100000
set_option autoImplicit false
namespace Lw
open PySem Kn Dt Dt.R
open L2 (Key)
theorem m_take (xs : List Int) (n : Int) (h0 : 0 < n) : ∃ (r : Int) (ys : List Int), 0 ≤ r ∧ r < n ∧ m__law_take [intsD xs, .int n] = .ok (.int r, intsD ys) := by
  have ln := lnI xs
  rcases List.eq_nil_or_concat xs with rfl | ⟨ys, x, rfl⟩
  · refine ⟨0, [], Int.le_refl _, h0, ?_⟩
    have ln : dLenA [intsD []] = some (.int 0) := ln
    have q : dEq (.int 0) (.int 0) = some (.bool true) := rfl
    simp [runF, runI, runFr, startE, sSeq, sSet, sExpr, sRet, sRetN, sIf, sForE, mIf, mTru, mBool, mNotB, mAndB, mOrB, mCallF, mCall, aCons, aNil, var, getv, cst, mOp, mUn, mTup, mLst, mAnd, mOr, gSet, gOwn, gTpl, gsCons, gsNil, iSq, mDict0, R.bind, R.opt, R.nox, truD, tru, asB, m__law_take, b__law_take, ln, q]
  · refine ⟨x % n, ys, Int.emod_nonneg _ (by omega), Int.emod_lt_of_pos _ h0, ?_⟩
    have q : dEq (.int ((ys.concat x).length : Int)) (.int 0) = some (.bool false) := by
      have := dEq_kD (.inl ((ys.concat x).length : Int)) (.inl 0)
      rw [decide_eq_false (by intro h; injection h with h; rw [List.length_concat] at h; omega)] at this
      exact this
    have m1 := mod_pos x n h0
    have it : dInt [.int x] = some (.int x) := rfl
    have al : asL (some (intsD (ys.concat x))) = some ((ys.concat x).map PyData.int) := rfl
    have gl : ((ys.concat x).map PyData.int).getLast? = some (PyData.int x) := by simp [runF, runI, runFr, startE, sSeq, sSet, sExpr, sRet, sRetN, sIf, sForE, mIf, mTru, mBool, mNotB, mAndB, mOrB, mCallF, mCall, aCons, aNil, var, getv, cst, mOp, mUn, mTup, mLst, mAnd, mOr, gSet, gOwn, gTpl, gsCons, gsNil, iSq, mDict0, R.bind, R.opt, R.nox, truD, tru, asB]
    have dl : ((ys.concat x).map PyData.int).dropLast = ys.map PyData.int := by simp [runF, runI, runFr, startE, sSeq, sSet, sExpr, sRet, sRetN, sIf, sForE, mIf, mTru, mBool, mNotB, mAndB, mOrB, mCallF, mCall, aCons, aNil, var, getv, cst, mOp, mUn, mTup, mLst, mAnd, mOr, gSet, gOwn, gTpl, gsCons, gsNil, iSq, mDict0, R.bind, R.opt, R.nox, truD, tru, asB]
    have s1 : sIf (mBool (mOp dEq (mCall dLenA (aCons (var 0) aNil)) (cst (.int 0)))) (sRet (cst (.int 0))) sNil [some (intsD (ys.concat x)), some (.int n)] = .ok (.nx, [some (intsD (ys.concat x)), some (.int n)]) := by
      simp only [sIf, mBool, mOp, mCall, aCons, aNil, var, getv, cst, R.bind, R.opt, R.nox, List.getElem?_cons_succ, List.getElem?_cons_zero, ln, q, asB]
      rfl
    have s2 : sRet (mOp dMod (mCall dInt (aCons (ePop 0) aNil)) (var 1)) [some (intsD (ys.concat x)), some (.int n)] = .ok (.rt (.int (x % n)), [some (intsD ys), some (.int n)]) := by
      simp only [sRet, mOp, mCall, aCons, aNil, ePop, var, getv, R.bind, R.opt, R.nox, List.getElem?_cons_succ, List.getElem?_cons_zero, al, gl, dl, it, m1, List.set_cons_zero]
      rfl
    have t : b__law_take [some (intsD (ys.concat x)), some (.int n)] = _ := (seq_nx s1).trans s2
    have st : startE 2 2 [intsD (ys.concat x), .int n] = [some (intsD (ys.concat x)), some (.int n)] := rfl
    unfold m__law_take runI
    rw [st, t]
    rfl
/-- a def that draws, called -/
theorem callI2 {fn : List D → R (D × D)} {m : ME} {ρ : Ev} {i : Nat} {a d b c : D} (h1 : getv ρ i = some a) (h2 : m ρ = .ok (d, ρ)) (h3 : fn [a, d] = .ok (b, c)) : mCallI 0 fn (rAt i (rVal m rNil)) ρ = .ok (b, ρ.set i (some c)) := by
  simp [runF, runI, runFr, startE, sSeq, sSet, sExpr, sRet, sRetN, sIf, sForE, mIf, mTru, mBool, mNotB, mAndB, mOrB, mCallF, mCall, aCons, aNil, var, cst, mOp, mUn, mTup, mLst, mAnd, mOr, gSet, gOwn, gTpl, gsCons, gsNil, iSq, mDict0, R.bind, R.opt, R.nox, truD, tru, asB, mCallI, rAt, rVal, rNil, h1, h2, arD, isVal, h3]
theorem callI1 {fn : List D → R (D × D)} {ρ : Ev} {i : Nat} {a b c : D} (h1 : getv ρ i = some a) (h3 : fn [a] = .ok (b, c)) : mCallI 0 fn (rAt i rNil) ρ = .ok (b, ρ.set i (some c)) := by
  simp [runF, runI, runFr, startE, sSeq, sSet, sExpr, sRet, sRetN, sIf, sForE, mIf, mTru, mBool, mNotB, mAndB, mOrB, mCallF, mCall, aCons, aNil, var, cst, mOp, mUn, mTup, mLst, mAnd, mOr, gSet, gOwn, gTpl, gsCons, gsNil, iSq, mDict0, R.bind, R.opt, R.nox, truD, tru, asB, mCallI, rAt, rNil, h1, arD, isVal, h3]
theorem op_eq {g : G2} {a b : ME} {ρ ρ1 ρ2 : Ev} {x y r : D} (h1 : a ρ = .ok (x, ρ1)) (h2 : b ρ1 = .ok (y, ρ2)) (h3 : g x y = some r) : mOp g a b ρ = .ok (r, ρ2) := by
  simp [runF, runI, runFr, startE, sSeq, sSet, sExpr, sRet, sRetN, sIf, sForE, mIf, mTru, mBool, mNotB, mAndB, mOrB, mCallF, mCall, aCons, aNil, var, getv, cst, mOp, mUn, mTup, mLst, mAnd, mOr, gSet, gOwn, gTpl, gsCons, gsNil, iSq, mDict0, R.bind, R.opt, R.nox, truD, tru, asB, h1, h2, h3]
theorem ret_eq {m : ME} {ρ ρ1 : Ev} {d : D} (h : m ρ = .ok (d, ρ1)) : sRet m ρ = .ok (.rt d, ρ1) := by
  simp [runF, runI, runFr, startE, sSeq, sSet, sExpr, sRet, sRetN, sIf, sForE, mIf, mTru, mBool, mNotB, mAndB, mOrB, mCallF, mCall, aCons, aNil, var, getv, cst, mOp, mUn, mTup, mLst, mAnd, mOr, gSet, gOwn, gTpl, gsCons, gsNil, iSq, mDict0, R.bind, R.opt, R.nox, truD, tru, asB, h]
theorem m_term (xs : List Int) : ∃ (t : T) (ys : List Int), t ∈ pool ∧ m__law_term [intsD xs] = .ok (kD t, intsD ys) := by
  obtain ⟨r, ys, h0, h1, e⟩ := m_take xs 5 (by decide)
  have ci := callI2 (fn := m__law_take) (m := cst (.int 5)) (ρ := [some (intsD xs)]) (i := 0) rfl rfl e
  have l0 : mLst (aCons (cst (.int 0)) (aCons (cst (.int 1)) (aCons (cst (.int 2)) (aCons (cst (.str "a")) (aCons (cst (.str "b")) aNil))))) [some (intsD xs)] = .ok (.list (pool.map kD), [some (intsD xs)]) := rfl
  have ix : ∃ t ∈ pool, dIxA (.list (pool.map kD)) (.int r) = some (kD t) := by
    have : r = 0 ∨ r = 1 ∨ r = 2 ∨ r = 3 ∨ r = 4 := by omega
    rcases this with rfl | rfl | rfl | rfl | rfl
    · exact ⟨.inl 0, by decide, rfl⟩
    · exact ⟨.inl 1, by decide, rfl⟩
    · exact ⟨.inl 2, by decide, rfl⟩
    · exact ⟨.inr "a", by decide, rfl⟩
    · exact ⟨.inr "b", by decide, rfl⟩
  obtain ⟨t, ht, ix⟩ := ix
  refine ⟨t, ys, ht, ?_⟩
  have b : b__law_term [some (intsD xs)] = .ok (.rt (kD t), [some (intsD ys)]) := ret_eq (op_eq l0 ci ix)
  have st : startE 1 1 [intsD xs] = [some (intsD xs)] := rfl
  unfold m__law_term runI
  rw [st, b]
  rfl
theorem tup2_eq {a b : ME} {ρ ρ1 ρ2 : Ev} {x y : D} (h1 : a ρ = .ok (x, ρ1)) (h2 : b ρ1 = .ok (y, ρ2)) : mTup (aCons a (aCons b aNil)) ρ = .ok (.tuple [x, y], ρ2) := by
  simp [runF, runI, runFr, startE, sSeq, sSet, sExpr, sRet, sRetN, sIf, sForE, mIf, mTru, mBool, mNotB, mAndB, mOrB, mCallF, mCall, aCons, aNil, var, getv, cst, mOp, mUn, mTup, mLst, mAnd, mOr, gSet, gOwn, gTpl, gsCons, gsNil, iSq, mDict0, R.bind, R.opt, R.nox, truD, tru, asB, h1, h2]
theorem pairs_lc (m : D) : ∀ (ds : List D) (xs : List Int), ∃ (ps : Ps) (ys : List Int), lcG true [2] (gSet 2) bYes (mTup (aCons (mCallI 0 m__law_term (rAt 0 rNil)) (aCons (mCallI 0 m__law_term (rAt 0 rNil)) aNil))) ds [some (intsD xs), some m, none] = .ok (ps.map pairD, [some (intsD ys), some m, none]) ∧ ps.length = ds.length ∧ ∀ p ∈ ps, p.1 ∈ pool ∧ p.2 ∈ pool
  | [], xs => ⟨[], xs, rfl, rfl, fun _ h => by cases h⟩
  | d :: ds, xs => by
    obtain ⟨t1, ys1, h1, e1⟩ := m_term xs
    obtain ⟨t2, ys2, h2, e2⟩ := m_term ys1
    obtain ⟨ps, ys, e3, h3, h4⟩ := pairs_lc m ds ys2
    have c1 := callI1 (fn := m__law_term) (ρ := [some (intsD xs), some m, some d]) (i := 0) rfl e1
    have c2 := callI1 (fn := m__law_term) (ρ := [some (intsD ys1), some m, some d]) (i := 0) rfl e2
    have tp := tup2_eq c1 c2
    refine ⟨(t1, t2) :: ps, ys, ?_, by rw [List.length_cons, List.length_cons, h3], fun p hp => ?_⟩
    · unfold lcG
      show (R.nox (.ok [some (intsD xs), some m, some d])).bind _ = _
      show ((mTup _ [some (intsD xs), some m, some d]).nox.bind _) = _
      rw [tp]
      show (lcG true [2] (gSet 2) bYes _ ds [some (intsD ys2), some m, none]).bind _ = _
      rw [e3]
      rfl
    · rcases List.mem_cons.mp hp with rfl | hp
      · exact ⟨h1, h2⟩
      · exact h4 p hp
theorem m_pairs (xs : List Int) (m : Nat) (hm : m ≤ 100) : ∃ (ps : Ps) (ys : List Int), ps.length ≤ m ∧ (∀ p ∈ ps, p.1 ∈ pool ∧ p.2 ∈ pool) ∧ m__law_pairs [intsD xs, .int (m : Int)] = .ok (psD ps, intsD ys) := by
  obtain ⟨r, ys, h0, h1, e⟩ := m_take xs ((m : Int) + 1) (by omega)
  obtain ⟨n, rfl⟩ : ∃ n : Nat, r = n := ⟨r.toNat, by omega⟩
  have ad : mOp dAdd (var 1) (cst (.int 1)) [some (intsD xs), some (.int (m : Int)), none] = .ok (.int ((m : Int) + 1), [some (intsD xs), some (.int (m : Int)), none]) := rfl
  have ci := callI2 (fn := m__law_take) (ρ := [some (intsD xs), some (.int (m : Int)), none]) (i := 0) rfl ad e
  have r1 := rng_at n (by omega)
  obtain ⟨ps, zs, e3, h3, h4⟩ := pairs_lc (.int (m : Int)) ((List.range n).map fun i => .int ((i : Nat) : Int)) ys
  rw [List.length_map, List.length_range] at h3
  refine ⟨ps, zs, by omega, h4, ?_⟩
  have i1 : iRg rng1 (aCons (mCallI 0 m__law_take (rAt 0 (rVal (mOp dAdd (var 1) (cst (.int 1))) rNil))) aNil) [some (intsD xs), some (.int (m : Int)), none] = .ok ((List.range n).map fun i => .int ((i : Nat) : Int), [some (intsD ys), some (.int (m : Int)), none]) := by
    unfold iRg aCons
    rw [ci]
    simp only [aNil, R.bind, R.opt, r1, List.set_cons_zero]
  have c : (mCall dTuple (aCons (mLc true (iRg rng1 (aCons (mCallI 0 m__law_take (rAt 0 (rVal (mOp dAdd (var 1) (cst (.int 1))) rNil))) aNil)) [2] (gSet 2) bYes (mTup (aCons (mCallI 0 m__law_term (rAt 0 rNil)) (aCons (mCallI 0 m__law_term (rAt 0 rNil)) aNil)))) aNil)) [some (intsD xs), some (.int (m : Int)), none] = .ok (psD ps, [some (intsD zs), some (.int (m : Int)), none]) := by
    exact St.call (St.a1 (St.lc i1 e3)) rfl
  have b : b__law_pairs [some (intsD xs), some (.int (m : Int)), none] = .ok (.rt (psD ps), [some (intsD zs), some (.int (m : Int)), none]) := ret_eq c
  have st : startE 2 3 [intsD xs, .int (m : Int)] = [some (intsD xs), some (.int (m : Int)), none] := rfl
  unfold m__law_pairs runI
  rw [st, b]
  rfl
end Lw

set_option Elab.async false
set_option linter.all false
set_option maxRecDepth 100000
set_option autoImplicit false
namespace Lw
open PySem Kn Dt Dt.R
open L2 (Key)
def okD : Nat → D → Bool
  | 0, _ => false
  | _ + 1, .bool _ => true
  | _ + 1, .int _ => true
  | _ + 1, .str _ => true
  | n + 1, .tuple ds => decide (ds.length ≤ 100000) && ds.all (okD n)
  | _ + 1, _ => false
theorem ix_tup (ds : List D) {i : Nat} (h : i < ds.length) : ∃ d ∈ ds, dIxA (.tuple ds) (.int (i : Int)) = some d := by
  refine ⟨ds[i], List.getElem_mem h, ?_⟩
  show L2.atI ds (i : Int) = _
  unfold L2.atI L2.ixN
  rw [if_pos (by omega), if_pos (by omega)]
  show ds[((i : Int)).toNat]? = _
  rw [Int.toNat_natCast, List.getElem?_eq_getElem h]
theorem eq_int (i : Int) : dEq (.int i) (.int i) = some (.bool true) := by
  have := dEq_kD (.inl i) (.inl i)
  rw [decide_eq_true rfl] at this
  exact this
theorem ne_int (i : Int) : dNe (.int i) (.int i) = some (.bool false) := by
  have := dNe_kD (.inl i) (.inl i)
  rw [decide_eq_true rfl] at this
  exact this
theorem eq_str (s : Str) : dEq (.str s) (.str s) = some (.bool true) := by
  have := dEq_kD (.inr s) (.inr s)
  rw [decide_eq_true rfl] at this
  exact this
section
theorem same_ok : ∀ (n : Nat) (d : D), okD n d = true → m__law_same n [d, d] = .ok (.bool true)
  | 0, _, h => by cases h
  | n + 1, d, h => by
    cases d with
    | none => cases h
    | list _ => cases h
    | dict _ => cases h
    | bool b => cases b <;> rfl
    | int i =>
      unfold m__law_same b__law_same
      simp [runF, runI, runFr, startE, sSeq, sSet, sExpr, sRet, sRetN, sIf, sForE, mIf, mTru, mBool, mNotB, mAndB, mOrB, mCallF, mCall, aCons, aNil, var, getv, cst, mOp, mUn, mTup, mLst, mAnd, mOr, gSet, gOwn, gTpl, gsCons, gsNil, iSq, mDict0, R.bind, R.opt, R.nox, truD, tru, asB, mIsi, dIsi, eq_int, sNil, gNot]
    | str s =>
      unfold m__law_same b__law_same
      simp [runF, runI, runFr, startE, sSeq, sSet, sExpr, sRet, sRetN, sIf, sForE, mIf, mTru, mBool, mNotB, mAndB, mOrB, mCallF, mCall, aCons, aNil, var, getv, cst, mOp, mUn, mTup, mLst, mAnd, mOr, gSet, gOwn, gTpl, gsCons, gsNil, iSq, mDict0, R.bind, R.opt, R.nox, truD, tru, asB, mIsi, dIsi, eq_str, sNil, gNot]
    | tuple ds =>
      unfold okD at h
      obtain ⟨hz, ha⟩ := Bool.and_eq_true_iff.mp h
      have hz := of_decide_eq_true hz
      have i1 : (PyData.tuple ds : D).plain = (PyData.tuple ds : D).plain := rfl
      obtain ⟨ρ', h1, _, v, rfl⟩ := for_all (g := gSet 2) (b := sIf (mNotB (mTru (mCallF (m__law_same n) (aCons (mOp dIxA (var 0) (var 2)) (aCons (mOp dIxA (var 1) (var 2)) aNil))))) (sRet (cst (.bool false))) sNil) (enc := fun i : Nat => PyData.int (i : Int))
        (I := fun l ρ => (∀ i ∈ l, i < ds.length) ∧ ∃ v, ρ = [some (.tuple ds), some (.tuple ds), v])
        (fun i l ρ h => by
          obtain ⟨hl, v, rfl⟩ := h
          obtain ⟨e, me, ix⟩ := ix_tup ds (hl i List.mem_cons_self)
          have ih := same_ok n e (List.all_eq_true.mp ha e me)
          refine ⟨[some (.tuple ds), some (.tuple ds), some (.int (i : Int))], [some (.tuple ds), some (.tuple ds), some (.int (i : Int))], rfl, .inl ?_, fun j hj => hl j (List.mem_cons_of_mem _ hj), _, rfl⟩
          exact St.pass (St.nt (St.trB (St.callF (St.ac (St.op (St.vr rfl) (St.vr rfl) ix) (St.a1 (St.op (St.vr rfl) (St.vr rfl) ix))) ih))))
        (xs := List.range ds.length) (ρ := [some (.tuple ds), some (.tuple ds), none]) ⟨fun i hi => List.mem_range.mp hi, none, rfl⟩
      have r1 := rng_at ds.length (by omega)
      have s6 : sForE (iRg rng1 (aCons (mCall dLenA (aCons (var 1) aNil)) aNil)) (gSet 2) (sIf (mNotB (mTru (mCallF (m__law_same n) (aCons (mOp dIxA (var 0) (var 2)) (aCons (mOp dIxA (var 1) (var 2)) aNil))))) (sRet (cst (.bool false))) sNil) [some (.tuple ds), some (.tuple ds), none] = .ok (.nx, _) :=
        St.fr (St.rg (St.a1 (St.call (St.a1 (St.vr rfl)) (dLen_tup ds))) r1) h1
      unfold m__law_same b__law_same
      have n1 := ne_int (ds.length : Int)
      refine St.runF_rt (ρ1 := [some (.tuple ds), some (.tuple ds), v]) rfl ?_
      have is : ∀ T : String, mIsi T (var 1) [some (.tuple ds), some (.tuple ds), none] = .ok (.bool (T == "tuple"), [some (.tuple ds), some (.tuple ds), none]) := fun T => by simp [runF, runI, runFr, startE, sSeq, sSet, sExpr, sRet, sRetN, sIf, sForE, mIf, mTru, mBool, mNotB, mAndB, mOrB, mCallF, mCall, aCons, aNil, var, getv, cst, mOp, mUn, mTup, mLst, mAnd, mOr, gSet, gOwn, gTpl, gsCons, gsNil, iSq, mDict0, R.bind, R.opt, R.nox, truD, tru, asB, mIsi, dIsi]
      have is0 : mIsi "tuple" (var 0) [some (.tuple ds), some (.tuple ds), none] = .ok (.bool true, [some (.tuple ds), some (.tuple ds), none]) := by simp [runF, runI, runFr, startE, sSeq, sSet, sExpr, sRet, sRetN, sIf, sForE, mIf, mTru, mBool, mNotB, mAndB, mOrB, mCallF, mCall, aCons, aNil, var, getv, cst, mOp, mUn, mTup, mLst, mAnd, mOr, gSet, gOwn, gTpl, gsCons, gsNil, iSq, mDict0, R.bind, R.opt, R.nox, truD, tru, asB, mIsi, dIsi]
      have s1 : ∀ (a : MS) (T : String), (T == "tuple") = false → sIf (mTru (mIsi T (var 1))) a sNil [some (.tuple ds), some (.tuple ds), none] = .ok (.nx, [some (.tuple ds), some (.tuple ds), none]) := fun a T hT => St.pass (St.trB (hT ▸ is T))
      have nn : mOp dIsN (var 1) (cst .none) [some (.tuple ds), some (.tuple ds), none] = .ok (.bool false, [some (.tuple ds), some (.tuple ds), none]) := rfl
      have s5 : sIf (mOrB (mNotB (mTru (mIsi "tuple" (var 0)))) (mBool (mOp dNe (mCall dLenA (aCons (var 0) aNil)) (mCall dLenA (aCons (var 1) aNil))))) (sRet (cst (.bool false))) sNil [some (.tuple ds), some (.tuple ds), none] = .ok (.nx, [some (.tuple ds), some (.tuple ds), none]) :=
        St.pass (St.orf (St.nt (St.trB is0)) (St.bl (St.op (St.call (St.a1 (St.vr rfl)) (dLen_tup ds)) (St.call (St.a1 (St.vr rfl)) (dLen_tup ds)) n1)))
      have st : startE 2 3 [PyData.tuple ds, PyData.tuple ds] = [some (.tuple ds), some (.tuple ds), none] := rfl
      rw [st, St.seq (s1 _ "bool" rfl), St.seq (s1 _ "int" rfl), St.seq (s1 _ "str" rfl), St.seq (St.pass (St.bl nn)), St.seq s5, St.seq s6]
      exact St.ret St.cs
end
theorem okD_ps (n : Nat) (ps : Ps) (h : ps.length ≤ 100000) : okD (n + 3) (psD ps) = true := by
  show (decide ((ps.map pairD).length ≤ 100000) && (ps.map pairD).all (okD (n + 2))) = true
  rw [Bool.and_eq_true, decide_eq_true_iff, List.length_map, List.all_eq_true]
  refine ⟨h, fun d hd => ?_⟩
  obtain ⟨p, _, rfl⟩ := List.mem_map.mp hd
  obtain ⟨a, b⟩ := p
  cases a <;> cases b <;> rfl
theorem same_kn {k : Kw} (h1 : k.1.length ≤ 100000) (h2 : k.2.length ≤ 100000) : m__law_same 12 [knD k, knD k] = .ok (.bool true) := by
  refine same_ok 12 _ ?_
  show (decide (2 ≤ 100000) && (okD 11 (psD k.1) && (okD 11 (psD k.2) && true))) = true
  rw [okD_ps 8 _ h1, okD_ps 8 _ h2]
  rfl
theorem same_bool (b : Bool) : m__law_same 12 [.bool b, .bool b] = .ok (.bool true) := same_ok 12 _ rfl
theorem allW_len : allW.length = 125 := by decide +kernel
theorem wlds_len (k : Kw) : (wlds k).length ≤ 125 := by
  rw [← allW_len]
  exact List.length_filter_le _ _
theorem same_rows {ws : List Row} (hl : ws.length ≤ 100000) (hw : ∀ w ∈ ws, w ∈ allW) : m__law_same 12 [.tuple (ws.map rowD), .tuple (ws.map rowD)] = .ok (.bool true) := by
  refine same_ok 12 _ ?_
  show (decide ((ws.map rowD).length ≤ 100000) && (ws.map rowD).all (okD 11)) = true
  rw [Bool.and_eq_true, decide_eq_true_iff, List.length_map, List.all_eq_true]
  refine ⟨hl, fun d hd => ?_⟩
  obtain ⟨w, h, rfl⟩ := List.mem_map.mp hd
  obtain ⟨x, _, y, _, z, _, rfl⟩ := allW_row (hw w h)
  rfl
end Lw

set_option Elab.async false
set_option linter.all false
set_option maxRecDepth 100000
set_option autoImplicit false
namespace Kn
open PySem Dt Dt.R
open L2 (Key)
theorem code_str : IsCode PyData.str 0 where
  plain := fun a => plain_kD (.inr a)
  depth := fun a => Nat.le_of_eq (depth_kD (.inr a))
  eqv := fun a b => by
    have := eqv_kD (.inr a) (.inr b)
    have q : (decide ((Sum.inr a : T) = Sum.inr b)) = decide (a = b) := decide_eq_decide.mpr ⟨fun h => by injection h, fun h => by rw [h]⟩
    rw [q] at this
    exact this
  scal := fun a es => by simp
theorem code_row : IsCode rowD 1 := code_str.tup
theorem eq_rows (xs ys : List Row) : dEq (.list (xs.map rowD)) (.list (ys.map rowD)) = some (.bool (decide (xs = ys))) := by
  have h1 : eqOk (.list (xs.map rowD)) (.list (ys.map rowD)) = true := by
    have p1 := code_row.plainAll xs
    have p2 := code_row.plainAll ys
    have d1 := code_row.depthAll xs
    unfold eqOk
    rw [Bool.and_eq_true, Bool.and_eq_true, decide_eq_true_iff]
    refine ⟨⟨p1, p2⟩, ?_⟩
    rw [PyData.depth]
    omega
  unfold dEq
  rw [if_pos h1]
  congr 2
  exact code_row.eqvAll xs ys
end Kn
namespace Lw
open PySem Kn Dt Dt.R
open L2 (Key)
theorem held_lc (k l : Kw) (ws vs : List Row) (a b c d : D) : lcG false [11] (gSet 11) (mBool (mOp dInA (var 11) (var 3))) (var 11) (ws.map rowD) [some a, some b, some c, some (.list (vs.map rowD)), some d, none, none, none, none, none, none, none, none] = .ok ((ws.filter fun w => decide (w ∈ vs)).map rowD, [some a, some b, some c, some (.list (vs.map rowD)), some d, none, none, none, none, none, none, none, none]) :=
  lc_eval (enc := rowD) (c := fun w => decide (w ∈ vs)) (f := rowD) fun w hw => ⟨[some a, some b, some c, some (.list (vs.map rowD)), some d, none, none, none, none, none, none, some (rowD w), none], [some a, some b, some c, some (.list (vs.map rowD)), some d, none, none, none, none, none, none, some (rowD w), none], rfl, by
    have := code_row.inL (by decide) vs w
    refine St.bl (St.op (St.vr rfl) (St.vr rfl) (this.trans ?_))
    congr 2
    exact decide_eq_decide.mpr Iff.rfl, fun _ => ⟨_, rfl⟩⟩
theorem due_lc (ws : List Row) (hw : ∀ w ∈ ws, w ∈ allW) (al : Bool) (ps : Ps) (hp : ∀ p ∈ ps, p.1 ∈ pool ∧ p.2 ∈ pool) (a b c d e f g h : D) (i j : Option D) : lcG false [12] (gSet 12) (mNotB (mTru (mCallF m__law_tells (aCons (var 2) (aCons (mLst (aCons (cst (.int 0)) (aCons (cst (.int 1)) (aCons (cst (.int 2)) aNil)))) (aCons (mOp dIxA (var 12) (cst (.int 0))) (aCons (mOp dIxA (var 12) (cst (.int 1))) (aCons (cst (.bool al)) aNil)))))))) (var 12) (ps.map pairD) [some a, some b, some (.list (ws.map rowD)), some c, some d, some e, some f, some g, some h, i, j, none, none] = .ok ((ps.filter fun p => !tellsW ws p.1 p.2 al).map pairD, [some a, some b, some (.list (ws.map rowD)), some c, some d, some e, some f, some g, some h, i, j, none, none]) :=
  lc_eval (enc := pairD) (c := fun p => !tellsW ws p.1 p.2 al) (f := pairD) fun p hq => ⟨[some a, some b, some (.list (ws.map rowD)), some c, some d, some e, some f, some g, some h, i, j, none, some (pairD p)], [some a, some b, some (.list (ws.map rowD)), some c, some d, some e, some f, some g, some h, i, j, none, some (pairD p)], rfl,
    St.nt (St.trB (St.callF (St.ac (St.vr rfl) (St.ac (show mLst _ _ = .ok (unL, _) from rfl) (St.ac (St.op (St.vr rfl) St.cs (px0 p)) (St.ac (St.op (St.vr rfl) St.cs (px1 p)) (St.a1 St.cs))))) (m_tells hw (hp p hq).1 (hp p hq).2 al))), fun _ => ⟨_, rfl⟩⟩
theorem ne_true (b : Bool) (h : b = true) : dNotB (.bool b) (.bool true) = some (.bool false) := by subst h; rfl
end Lw

set_option Elab.async false
set_option linter.all false
set_option maxRecDepth 100000
set_option autoImplicit false
/-! Sorting that the kernel can run. -/
namespace Kn
open PySem Dt Dt.R
section
variable {α : Type} {le : α → α → Bool}
def insT (le : α → α → Bool) (a : α) : List α → List α
  | [] => [a]
  | b :: l => if le a b = true then a :: b :: l else b :: insT le a l
def isrt (le : α → α → Bool) : List α → List α
  | [] => []
  | a :: l => insT le a (isrt le l)
theorem insT_split {a : α} : ∀ {l1 l2 : List α}, (∀ b ∈ l1, le a b = false) → (∀ b ∈ l2.head?, le a b = true) → insT le a (l1 ++ l2) = l1 ++ a :: l2
  | [], [], _, _ => rfl
  | [], b :: l2, _, h => by
    show (if le a b = true then a :: b :: l2 else b :: insT le a l2) = a :: b :: l2
    rw [if_pos (h b rfl)]
  | b :: l1, l2, h1, h2 => by
    show (if le a b = true then a :: b :: (l1 ++ l2) else b :: insT le a (l1 ++ l2)) = b :: (l1 ++ a :: l2)
    rw [if_neg (by rw [h1 b List.mem_cons_self]; decide), insT_split (fun c hc => h1 c (List.mem_cons_of_mem _ hc)) h2]
theorem sort_isrt (T : PySem.W.TotalLe le) : ∀ l : List α, l.mergeSort le = isrt le l
  | [] => by simp [isrt]
  | a :: l => by
    obtain ⟨l1, l2, e1, e2, h⟩ := List.mergeSort_cons T.trans (fun a b => by rw [Bool.or_eq_true]; exact T.total a b) a l
    have pw := PySem.W.sort_pairwise T (a :: l)
    rw [e1] at pw ⊢
    show _ = insT le a (isrt le l)
    rw [← sort_isrt T l, e2, insT_split (fun b hb => by have := h b hb; simpa using this)]
    intro b hb
    have pw2 := (List.pairwise_append.mp pw).2.1
    cases l2 with
    | nil => cases hb
    | cons c l2 =>
      have : c = b := Option.some.inj hb
      subst this
      exact (List.pairwise_cons.mp pw2).1 c List.mem_cons_self
theorem srt_isrt (key : α → D) (xs : List α) : srt key xs = isrt (PySem.W.dataLe false key) xs := sort_isrt (le_total key) xs
end
end Kn

set_option Elab.async false
set_option linter.all false
set_option maxRecDepth 100000
set_option autoImplicit false
/-! What a known tells of a name that it has not. -/
namespace Kn
open PySem Dt Dt.R
def nmC : T := .inr "c"
def pool6 : List T := [.inl 0, .inl 1, .inl 2, .inr "a", .inr "b", .inr "c"]
theorem pool6_cases {t : T} (h : t ∈ pool6) : t ∈ pool ∨ t = nmC := by
  have : t = .inl 0 ∨ t = .inl 1 ∨ t = .inl 2 ∨ t = .inr "a" ∨ t = .inr "b" ∨ t = .inr "c" := by simpa [pool6] using h
  rcases this with rfl | rfl | rfl | rfl | rfl | rfl
  · exact .inl (by decide)
  · exact .inl (by decide)
  · exact .inl (by decide)
  · exact .inl (by decide)
  · exact .inl (by decide)
  · exact .inr rfl
def cyc (s : Str) : Str := if s = "c" then "d" else if s = "d" then "e" else if s = "e" then "c" else s
theorem cyc_mem : ∀ s ∈ nms5, cyc s ∈ nms5 := by decide
theorem cyc_inj : ∀ a ∈ nms5, ∀ b ∈ nms5, cyc a = cyc b → a = b := by decide
theorem ev_mem {w : Row} (hw : w ∈ allW) {t : T} (ht : t ∈ pool) : ev w t ∈ nms5 := by
  obtain ⟨x, hx, y, hy, z, hz, rfl⟩ := allW_row hw
  rcases pool_cases ht with rfl | rfl | rfl | rfl | rfl
  · exact hx
  · exact hy
  · exact hz
  · exact (by decide : ("a" : Str) ∈ nms5)
  · exact (by decide : ("b" : Str) ∈ nms5)
theorem ev_cyc {w : Row} (hw : w ∈ allW) {t : T} (ht : t ∈ pool) : ev (w.map cyc) t = cyc (ev w t) := by
  obtain ⟨x, hx, y, hy, z, hz, rfl⟩ := allW_row hw
  rcases pool_cases ht with rfl | rfl | rfl | rfl | rfl
  · rfl
  · rfl
  · rfl
  · exact (by decide : ("a" : Str) = cyc "a")
  · exact (by decide : ("b" : Str) = cyc "b")
theorem mem_cyc {w : Row} (hw : w ∈ allW) : w.map cyc ∈ allW := by
  obtain ⟨x, hx, y, hy, z, hz, rfl⟩ := allW_row hw
  exact mem_allW (cyc_mem x hx) (cyc_mem y hy) (cyc_mem z hz)
theorem wlds_cyc {k : Kw} (hp : InPool k) {w : Row} (h : w ∈ wlds k) : w.map cyc ∈ wlds k := by
  obtain ⟨hw, s⟩ := mem_wlds.mp h
  refine mem_wlds.mpr ⟨mem_cyc hw, fun p hq => ?_, fun p hq e => ?_⟩
  · rw [ev_cyc hw (hp p (.inl hq)).1, ev_cyc hw (hp p (.inl hq)).2, s.1 p hq]
  · rw [ev_cyc hw (hp p (.inr hq)).1, ev_cyc hw (hp p (.inr hq)).2] at e
    exact s.2 p hq (cyc_inj _ (ev_mem hw (hp p (.inr hq)).1) _ (ev_mem hw (hp p (.inr hq)).2) e)
theorem gen_w {k : Kw} (hb : broken k = false) (hp : InPool k) : gen k (.inl 0) (.inl 0) ∈ wlds k := mem_wlds.mpr (gen_id hb hp)
theorem ev_gen0 {k : Kw} (hb : broken k = false) (hp : InPool k) {t : T} (ht : t ∈ pool) : ev (gen k (.inl 0) (.inl 0)) t = letter (repK k t) := by
  rw [ev_gen hb hp rfl (by decide) ht]
  unfold mrg
  split
  · next h => rw [h]
  · rfl
theorem names_only {s : Str} (h : (Sum.inr s : T) ∈ pool) : s ≠ "c" := by
  intro z
  subst z
  exact absurd h (by decide)
section
variable {k : Kw} (hb : broken k = false) (hp : InPool k) {x : T} (hx : x ∈ pool)
include hb hp hx
theorem some_not_c : ∃ w ∈ wlds k, ev w x ≠ "c" := by
  by_cases h : ev (gen k (.inl 0) (.inl 0)) x = "c"
  · refine ⟨_, wlds_cyc hp (gen_w hb hp), ?_⟩
    rw [ev_cyc (mem_wlds.mp (gen_w hb hp)).1 hx, h]
    decide
  · exact ⟨_, gen_w hb hp, h⟩
theorem name_or_c : (∃ s, repK k x = .inr s) ∨ ∃ w ∈ wlds k, ev w x = "c" := by
  have e := ev_gen0 hb hp hx
  have g := gen_w hb hp
  have g1 := wlds_cyc hp g
  have g2 := wlds_cyc hp g1
  have m := (mem_wlds.mp g).1
  have m1 := (mem_wlds.mp g1).1
  have rp := rep_pool hb hp hx
  rcases pool_cases rp with h | h | h | h | h
  · exact .inr ⟨_, g, by rw [e, h]; decide⟩
  · exact .inr ⟨_, g2, by rw [ev_cyc m1 hx, ev_cyc m hx, e, h]; decide⟩
  · exact .inr ⟨_, g1, by rw [ev_cyc m hx, e, h]; decide⟩
  · exact .inl ⟨_, h⟩
  · exact .inl ⟨_, h⟩
theorem name_worlds {s : Str} (h : repK k x = .inr s) : ∀ w ∈ wlds k, ev w x ≠ "c" := fun w hw e => by
  have := sat_conn (mem_wlds.mp hw).2.1 (rep_conn hb x)
  rw [h, e] at this
  exact names_only (h ▸ rep_pool hb hp hx) this.symm
end
theorem broken_conn {k : Kw} : broken k = true ↔ (∃ s t : Str, s ≠ t ∧ Conn k.1 (.inr s) (.inr t)) ∨ ∃ p ∈ k.2, Conn k.1 p.1 p.2 := by
  unfold broken
  rw [Bool.or_eq_true, List.any_eq_true, List.any_eq_true]
  constructor
  · rintro (⟨c, hc, h⟩ | ⟨p, hp, h⟩)
    · have h := of_decide_eq_true h
      have nd := nms_nodup c
      have mm := fun t => @mem_nms c t
      cases e : nmsIn c with
      | nil => rw [e] at h; simp at h
      | cons x l => cases l with
        | nil => rw [e] at h; simp at h
        | cons y l =>
          rw [e] at nd mm
          have hx := (mm x).mp List.mem_cons_self
          have hy := (mm y).mp (List.mem_cons_of_mem _ List.mem_cons_self)
          have cc := ((class_is hc).all x hx.1 y).mp hy.1
          have ne : x ≠ y := fun z => by subst z; simp at nd
          cases x with
          | inl n => exact absurd hx.2 (by simp [unk])
          | inr u => cases y with
            | inl n => exact absurd hy.2 (by simp [unk])
            | inr v => exact .inl ⟨u, v, fun z => ne (congrArg Sum.inr z), cc⟩
    · exact .inr ⟨p, hp, joined_iff.mp h⟩
  · rintro (⟨s, t, ne, h⟩ | ⟨p, hp, h⟩)
    · have ne2 : (Sum.inr s : T) ≠ .inr t := fun z => ne (by injection z)
      obtain ⟨c, hc, xc⟩ := class_of h ne2
      have yc := ((class_is hc).all _ xc _).mpr h
      have m1 : (Sum.inr s : T) ∈ nmsIn c := mem_nms.mpr ⟨xc, rfl⟩
      have m2 : (Sum.inr t : T) ∈ nmsIn c := mem_nms.mpr ⟨yc, rfl⟩
      refine .inl ⟨c, hc, decide_eq_true ?_⟩
      cases e : nmsIn c with
      | nil => rw [e] at m1; cases m1
      | cons x l => cases l with
        | nil =>
          rw [e] at m1 m2
          exact absurd ((List.mem_singleton.mp m1).trans (List.mem_singleton.mp m2).symm) ne2
        | cons y l => simp
    · exact .inr ⟨p, hp, joined_iff.mpr h⟩
theorem broken_mono {k l : Kw} (h1 : ∀ a b, Conn k.1 a b → Conn l.1 a b) (h2 : ∀ p ∈ k.2, p ∈ l.2) (h : broken k = true) : broken l = true := by
  rw [broken_conn] at h ⊢
  rcases h with ⟨s, t, ne, h⟩ | ⟨p, hp, h⟩
  · exact .inl ⟨s, t, ne, h1 _ _ h⟩
  · exact .inr ⟨p, h2 p hp, h1 _ _ h⟩
theorem conn_with {k : Kw} (x y : T) {a b : T} (h : Conn k.1 a b) : Conn (withP k x y).1 a b := h.mono fun p hp => List.mem_append_left _ hp
theorem telUn_symm (k : Kw) (x y : T) : telUn k x y = telUn k y x := by
  have one : ∀ x y, telUn k x y = true → telUn k y x = true := fun x y => broken_mono (fun a b h => h.le fun u v hq => by
    rcases List.mem_append.mp hq with hq | hq
    · exact .one (.inl (List.mem_append_left _ hq))
    · have := List.mem_singleton.mp hq
      injection this with e1 e2
      subst e1 e2
      exact .one (.inr (List.mem_append_right _ (List.mem_singleton.mpr rfl)))) fun p hp => hp
  exact Bool.eq_iff_iff.mpr ⟨one x y, one y x⟩
theorem telEq_symm (k : Kw) (x y : T) : telEq k x y = telEq k y x := by
  unfold telEq
  rw [joined_symm]
theorem tellsW_symm (ws : List Row) (x y : T) (al : Bool) : tellsW ws x y al = tellsW ws y x al := by
  unfold tellsW
  congr 1
  funext w
  congr 1
  exact decide_eq_decide.mpr ⟨Eq.symm, Eq.symm⟩
theorem wlds_broken {k : Kw} (hb : broken k = true) : wlds k = [] := List.eq_nil_iff_forall_not_mem.mpr fun w hw => broken_unsat hb (mem_wlds.mp hw).2
theorem tells_false {ws : List Row} {x y : T} {al : Bool} {w : Row} (hw : w ∈ ws) (h : decide (ev w x = ev w y) ≠ al) : tellsW ws x y al = false := by
  unfold tellsW
  exact List.all_eq_false.mpr ⟨w, hw, by simpa using h⟩
theorem tells_one {k : Kw} (hp : InPool k) {x : T} (hx : x ∈ pool) : telEq k x nmC = tellsW (wlds k) x nmC true ∧ telUn k x nmC = tellsW (wlds k) x nmC false := by
  cases hb : broken k
  · constructor
    · have j : joined k.1 x nmC = false := by
        cases j : joined k.1 x nmC
        · rfl
        · exact absurd (hp.conn (joined_iff.mp j) hx) (by decide)
      obtain ⟨w, hw, h⟩ := some_not_c hb hp hx
      rw [tells_false hw (by rw [decide_eq_false (show ¬ ev w x = ev w nmC from h)]; decide)]
      unfold telEq
      rw [j, hb]
      rfl
    · rcases name_or_c hb hp hx with ⟨s, h⟩ | ⟨w, hw, h⟩
      · have t : tellsW (wlds k) x nmC false = true := by
          unfold tellsW
          rw [List.all_eq_true]
          intro w hw
          rw [decide_eq_false (show ¬ ev w x = ev w nmC from name_worlds hb hp hx h w hw)]
          rfl
        rw [t]
        unfold telUn
        rw [broken_conn]
        refine .inl ⟨s, "c", names_only (h ▸ rep_pool hb hp hx), ?_⟩
        have c1 := conn_with x nmC (rep_conn hb x)
        rw [h] at c1
        exact c1.symm.trans (.one (.inl (List.mem_append_right _ (List.mem_singleton.mpr rfl))))
      · rw [tells_false hw (by rw [decide_eq_true (show ev w x = ev w nmC from h)]; decide)]
        unfold telUn
        cases hb2 : broken (withP k x nmC)
        · rfl
        · have s := (mem_wlds.mp hw).2
          refine absurd ⟨fun p hp => ?_, s.2⟩ (broken_unsat hb2 (w := w))
          rcases List.mem_append.mp hp with hp | hp
          · exact s.1 p hp
          · rw [List.mem_singleton.mp hp]; exact h
  · have e1 : telEq k x nmC = true := by unfold telEq; rw [hb, Bool.or_true]
    have e2 : telUn k x nmC = true := broken_mono (fun a b h => conn_with _ _ h) (fun p hp => hp) hb
    rw [e1, e2, wlds_broken hb]
    exact ⟨rfl, rfl⟩
theorem tells_self {k : Kw} (hp : InPool k) : telEq k nmC nmC = tellsW (wlds k) nmC nmC true ∧ telUn k nmC nmC = tellsW (wlds k) nmC nmC false := by
  constructor
  · have e1 : telEq k nmC nmC = true := by unfold telEq; rw [joined_refl]; rfl
    rw [e1]
    unfold tellsW
    exact (List.all_eq_true.mpr fun w _ => by rw [decide_eq_true (rfl : ev w nmC = ev w nmC)]; rfl).symm
  · cases hb : broken k
    · rw [tells_false (gen_w hb hp) (by rw [decide_eq_true (rfl : ev (gen k (.inl 0) (.inl 0)) nmC = _)]; decide)]
      unfold telUn
      cases hb2 : broken (withP k nmC nmC)
      · rfl
      · have s := (mem_wlds.mp (gen_w hb hp)).2
        refine absurd ⟨fun p hp => ?_, s.2⟩ (broken_unsat hb2 (w := gen k (.inl 0) (.inl 0)))
        rcases List.mem_append.mp hp with hp | hp
        · exact s.1 p hp
        · rw [List.mem_singleton.mp hp]
    · have e2 : telUn k nmC nmC = true := broken_mono (fun a b h => conn_with _ _ h) (fun p hp => hp) hb
      rw [e2, wlds_broken hb]
      rfl
theorem tells6 {k : Kw} (hp : InPool k) {x y : T} (hx : x ∈ pool6) (hy : y ∈ pool6) : telEq k x y = tellsW (wlds k) x y true ∧ telUn k x y = tellsW (wlds k) x y false := by
  rcases pool6_cases hx with hx | rfl <;> rcases pool6_cases hy with hy | rfl
  · exact ⟨(tells_eq hp hx hy).symm, (tells_un hp hx hy).symm⟩
  · exact tells_one hp hx
  · rw [telEq_symm, telUn_symm, tellsW_symm, tellsW_symm _ _ _ false]
    exact tells_one hp hy
  · exact tells_self hp
/-- what the law asks of what is told -/
theorem told_both {k : Kw} (hp : InPool k) {x y : T} (hx : x ∈ pool6) (hy : y ∈ pool6) (h1 : telEq k x y = true) (h2 : telUn k x y = true) : wlds k = [] := by
  rw [(tells6 hp hx hy).1] at h1
  rw [(tells6 hp hx hy).2] at h2
  unfold tellsW at h1 h2
  refine List.eq_nil_iff_forall_not_mem.mpr fun w hw => ?_
  have a := List.all_eq_true.mp h1 w hw
  have b := List.all_eq_true.mp h2 w hw
  revert a b
  cases decide (ev w x = ev w y) <;> simp
theorem told_third {k : Kw} (hp : InPool k) {x y z : T} (hx : x ∈ pool6) (hy : y ∈ pool6) (hz : z ∈ pool6) (h : telEq k x y = true) : telEq k y z = telEq k x z ∧ telUn k y z = telUn k x z := by
  rw [(tells6 hp hx hy).1] at h
  have e : ∀ w ∈ wlds k, ev w x = ev w y := fun w hw => by
    have := List.all_eq_true.mp h w hw
    simpa using this
  have q : ∀ al, tellsW (wlds k) y z al = tellsW (wlds k) x z al := fun al => by
    unfold tellsW
    rw [Bool.eq_iff_iff, List.all_eq_true, List.all_eq_true]
    constructor
    · intro h w hw; rw [e w hw]; exact h w hw
    · intro h w hw; rw [← e w hw]; exact h w hw
  rw [(tells6 hp hy hz).1, (tells6 hp hy hz).2, (tells6 hp hx hz).1, (tells6 hp hx hz).2]
  exact ⟨q true, q false⟩
end Kn

set_option Elab.async false
set_option linter.all false
set_option maxRecDepth 100000
set_option autoImplicit false
/-! Classes and told terms, as the law asks them. -/
namespace Kn
open PySem Dt Dt.R
def Asc (xs : List T) : Prop := xs.Pairwise fun a b => PySem.W.dataLe false tkD a b = true
theorem srt_asc {xs : List T} (h : Asc xs) : srt tkD xs = xs := List.mergeSort_of_pairwise h
theorem asc_eq {xs ys : List T} (hx : Asc xs) (hy : Asc ys) (nx : xs.Nodup) (ny : ys.Nodup) (e : ∀ t, t ∈ xs ↔ t ∈ ys) : xs = ys := by
  rw [← srt_asc hx, ← srt_asc hy]
  exact srt_congr (apart_tk fun _ => True) (fun _ _ => True.intro) nx ny e
theorem asc_pool : Asc pool := by unfold Asc; decide +kernel
theorem pool_nodup : pool.Nodup := by decide
def cls (k : Kw) (t : T) : List T := pool.filter fun o => joined k.1 t o
theorem cls_asc (k : Kw) (t : T) : Asc (cls k t) := asc_pool.filter _
theorem cls_nodup (k : Kw) (t : T) : (cls k t).Nodup := pool_nodup.filter _
theorem mem_cls {k : Kw} (hp : InPool k) {t : T} (ht : t ∈ pool) {o : T} : o ∈ cls k t ↔ Conn k.1 t o := by
  unfold cls
  rw [List.mem_filter, joined_iff]
  exact ⟨fun h => h.2, fun h => ⟨hp.conn h ht, h⟩⟩
theorem asc_class {ps : Ps} {c : List T} (hc : c ∈ classesOf ps) : Asc c := by
  obtain ⟨e, he, rfl⟩ := List.mem_map.mp (srt_mem.mp hc)
  exact srt_sorted
theorem class_cls {k : Kw} (hp : InPool k) {t : T} (ht : t ∈ pool) {c : List T} (hc : c ∈ classesOf k.1) (tc : t ∈ c) : c = cls k t :=
  asc_eq (asc_class hc) (cls_asc k t) (class_is hc).nd (cls_nodup k t) fun o => ((class_is hc).all t tc o).trans (mem_cls hp ht).symm
theorem alone_cls {k : Kw} (hp : InPool k) {t : T} (ht : t ∈ pool) (h : ∀ c ∈ classesOf k.1, t ∉ c) : cls k t = [t] :=
  asc_eq (cls_asc k t) (List.pairwise_singleton _ _) (cls_nodup k t) (by simp) fun o => by
    rw [mem_cls hp ht, List.mem_singleton]
    constructor
    · intro c
      by_cases e : t = o
      · exact e.symm
      · obtain ⟨d, hd, td⟩ := class_of c e
        exact absurd td (h d hd)
    · intro e
      rw [e]
      exact .refl _
theorem nms_filter {c : List T} (ha : Asc c) (nd : c.Nodup) : nmsIn c = c.filter fun o => !unk o := by
  refine asc_eq ?_ (ha.filter _) (nms_nodup c) (nd.filter _) fun o => ?_
  · unfold nmsIn once inOrd Asc
    exact srt_sorted
  · rw [mem_nms, List.mem_filter]
    cases unk o <;> simp
theorem least_head {c : List T} (ha : Asc c) : least c = c.headD (.inl 0) := by
  unfold least inOrd
  rw [srt_asc ha]
theorem rep_broken {k : Kw} (hb : broken k = true) (hp : InPool k) {t : T} (ht : t ∈ pool) : repK k t = (cls k t).headD (.inl 0) := by
  rcases rep_spec k t with ⟨c, hc, tc, e⟩ | ⟨n, e⟩
  · rw [e, ← class_cls hp ht hc tc]
    unfold mark
    rw [hb, if_pos rfl, least_head (asc_class hc)]
  · rw [e, alone_cls hp ht n]
    rfl
theorem rep_unbroken {k : Kw} (hb : broken k = false) (hp : InPool k) {t : T} (ht : t ∈ pool) : repK k t = (((cls k t).filter fun o => !unk o) ++ cls k t).headD (.inl 0) := by
  rcases rep_spec k t with ⟨c, hc, tc, e⟩ | ⟨n, e⟩
  · rw [rep_of hb hc tc, ← class_cls hp ht hc tc]
    have l := (unbroken hb).1 c hc
    have f := nms_filter (asc_class hc) (class_is hc).nd
    rw [← f]
    unfold toldOf
    cases q : nmsIn c with
    | nil => exact least_head (asc_class hc)
    | cons x xs => cases xs with
      | nil => rfl
      | cons y ys => rw [q] at l; simp at l
  · rw [e, alone_cls hp ht n]
    cases q : unk t <;> simp [q]
theorem cls_ne {k : Kw} (hp : InPool k) {t : T} (ht : t ∈ pool) : cls k t ≠ [] := fun z => by
  have : t ∈ cls k t := (mem_cls hp ht).mpr (.refl _)
  rw [z] at this
  cases this
end Kn
namespace Lw
open PySem Kn Dt Dt.R
open L2 (Key)
theorem it_cls (k : Kw) : items (.tuple ((classesOf k.1).map (tpD kD))) = some ((classesOf k.1).map (tpD kD)) := rfl
theorem gt_list {α : Type} (enc : α → D) (x : α) (xs : List α) : dGt (.int ((((x :: xs).map enc).length : Nat) : Int)) (.int 0) = some (.bool true) := by
  show some (PyData.bool (decide ((0 : Int) < ((((x :: xs).map enc).length : Nat) : Int)))) = _
  rw [decide_eq_true (by rw [List.map_cons, List.length_cons]; omega)]
theorem m_classof {k : Kw} (hp : InPool k) (F : Fit4 k) {t : T} (ht : t ∈ pool) : m_class_of [knD k, kD t] = .ok (.tuple ((cls k t).map kD)) := by
  have e1 := m_classes k (by have := F.e; omega) F.g.nn
  have e2 := lc_eval (g := gSet 3) (vs := [3]) (tt := mBool (mOp dInA (var 1) (var 3))) (me := var 3) (ρ := [some (knD k), some (kD t), none, none]) (enc := tpD kD) (c := fun c => decide (t ∈ c)) (f := tpD kD) (xs := classesOf k.1)
    fun c _ => ⟨[some (knD k), some (kD t), none, some (tpD kD c)], [some (knD k), some (kD t), none, some (tpD kD c)], rfl, St.bl (St.op (St.vr rfl) (St.vr rfl) (code_kD.inT (by decide) c t)), fun _ => ⟨_, rfl⟩⟩
  have fin : ∃ ρ1, b_class_of [some (knD k), some (kD t), none, none] = .ok (.rt (.tuple ((cls k t).map kD)), ρ1) := by
    refine ⟨[some (knD k), some (kD t), some (.list (((classesOf k.1).filter fun c => decide (t ∈ c)).map (tpD kD))), none], ?_⟩
    unfold b_class_of
    refine Eq.trans (St.seq (St.set (St.lc (St.it (St.callF (St.a1 (St.vr rfl)) e1) (it_cls k)) e2) rfl)) ?_
    refine St.ret ?_
    cases q : (classesOf k.1).filter (fun c => decide (t ∈ c)) with
    | nil =>
      have n : ∀ c ∈ classesOf k.1, t ∉ c := fun c hc tc => by
        have : c ∈ (classesOf k.1).filter (fun c => decide (t ∈ c)) := List.mem_filter.mpr ⟨hc, decide_eq_true tc⟩
        rw [q] at this
        cases this
      rw [alone_cls hp ht n]
      exact St.mif_f (St.bl (St.op (St.call (St.a1 (St.vr rfl)) (dLen_list [])) St.cs rfl)) (St.tup (St.a1 (St.vr rfl)) (show 1 ≤ 1000 from by decide))
    | cons c cs =>
      have mc : c ∈ (classesOf k.1).filter (fun c => decide (t ∈ c)) := by rw [q]; exact List.mem_cons_self
      have mc := List.mem_filter.mp mc
      rw [← class_cls hp ht mc.1 (of_decide_eq_true mc.2)]
      exact St.mif_t (St.bl (St.op (St.call (St.a1 (St.vr rfl)) (dLen_list _)) St.cs (gt_list (tpD kD) c cs))) (St.op (St.vr rfl) St.cs (show dIxA (.list (tpD kD c :: cs.map (tpD kD))) (.int 0) = some (.tuple (c.map kD)) from by
        show dIx (.list (tpD kD c :: cs.map (tpD kD))) (.int 0) = _
        simp [dIx, L2.atI, L2.ixN, tpD]))
  obtain ⟨ρ1, fin⟩ := fin
  exact St.runF_rt rfl fin
theorem m_toldterm {k : Kw} (F : Fit4 k) {t : T} : m_told_term [knD k, kD t] = .ok (kD (repK k t)) := by
  have e0 := m_tab k F.e F.g.nn
  have d1 : dGet2 (dmD kD (tab k)) (kD t) (kD t) = some (kD (repK k t)) := by rw [dGet2_dm]; unfold repK; cases lkG (tab k) t <;> rfl
  have st : startE 2 2 [knD k, kD t] = [some (knD k), some (kD t)] := rfl
  refine St.runF_rt (ρ1 := [some (knD k), some (kD t)]) rfl ?_
  rw [st]
  unfold b_told_term
  refine St.ret ?_
  unfold eGet2
  rw [St.callF (St.a1 (St.vr rfl)) e0]
  show (R.opt (asDict (.dict (dmD kD (tab k))))).bind _ = _
  rw [asDict_dm]
  show (R.bind (R.opt (dGet2 (dmD kD (tab k)) (kD t) (kD t))) _) = _
  rw [d1]
  rfl
end Lw

set_option Elab.async false
set_option linter.all false
set_option maxRecDepth 100000
set_option autoImplicit false
/-! Terms joined step by step, as the law does it. -/
namespace Kn
open PySem Dt Dt.R
def stepL (A : List T) (p : T × T) : List T := if p.1 ∈ A ∧ p.2 ∉ A then A ++ [p.2] else A
def stepR (A : List T) (p : T × T) : List T := if p.2 ∈ A ∧ p.1 ∉ A then A ++ [p.1] else A
def stepA (A : List T) (p : T × T) : List T := stepR (stepL A p) p
def roundA (ps : Ps) (A : List T) : List T := ps.foldl stepA A
def iterA (ps : Ps) : Nat → List T → List T
  | 0, A => A
  | n + 1, A => iterA ps n (roundA ps A)
structure Part (k : Kw) (t : T) (A : List T) : Prop where
  nd : A.Nodup
  on : ∀ x ∈ A, x ∈ pool ∧ Conn k.1 t x
  me : t ∈ A
theorem stepL_pre (A : List T) (p : T × T) : ∃ B, stepL A p = A ++ B := by
  unfold stepL
  split
  · exact ⟨_, rfl⟩
  · exact ⟨[], (List.append_nil A).symm⟩
theorem stepR_pre (A : List T) (p : T × T) : ∃ B, stepR A p = A ++ B := by
  unfold stepR
  split
  · exact ⟨_, rfl⟩
  · exact ⟨[], (List.append_nil A).symm⟩
theorem stepA_pre (A : List T) (p : T × T) : ∃ B, stepA A p = A ++ B := by
  obtain ⟨B, e⟩ := stepL_pre A p
  obtain ⟨C, f⟩ := stepR_pre (stepL A p) p
  exact ⟨B ++ C, by unfold stepA; rw [f, e, List.append_assoc]⟩
theorem round_pre : ∀ (ps : Ps) (A : List T), ∃ B, roundA ps A = A ++ B
  | [], A => ⟨[], (List.append_nil A).symm⟩
  | p :: ps, A => by
    obtain ⟨B, e⟩ := stepA_pre A p
    obtain ⟨C, f⟩ := round_pre ps (stepA A p)
    refine ⟨B ++ C, ?_⟩
    show roundA ps (stepA A p) = _
    rw [f, e, List.append_assoc]
theorem stepA_len (A : List T) (p : T × T) : (stepA A p).length ≤ A.length + 2 := by
  have h1 : (stepL A p).length ≤ A.length + 1 := by
    unfold stepL
    split
    · rw [List.length_append, List.length_singleton]; omega
    · omega
  unfold stepA stepR
  split
  · rw [List.length_append, List.length_singleton]; omega
  · omega
section
variable {k : Kw} (hp : InPool k) {t : T}
include hp
theorem Part.stepL {A : List T} (h : Part k t A) {p : T × T} (m : p ∈ k.1) : Part k t (Kn.stepL A p) := by
  unfold Kn.stepL
  split
  · next c =>
    refine ⟨List.nodup_append.mpr ⟨h.nd, by simp, fun a ha b hb e => ?_⟩, fun x hx => ?_, List.mem_append_left _ h.me⟩
    · rw [List.mem_singleton] at hb
      exact c.2 (by rw [← hb, ← e]; exact ha)
    · rcases List.mem_append.mp hx with hx | hx
      · exact h.on x hx
      · rw [List.mem_singleton.mp hx]
        exact ⟨(hp p (.inl m)).2, (h.on _ c.1).2.trans (.one (.inl m))⟩
  · exact h
theorem Part.stepR {A : List T} (h : Part k t A) {p : T × T} (m : p ∈ k.1) : Part k t (Kn.stepR A p) := by
  unfold Kn.stepR
  split
  · next c =>
    refine ⟨List.nodup_append.mpr ⟨h.nd, by simp, fun a ha b hb e => ?_⟩, fun x hx => ?_, List.mem_append_left _ h.me⟩
    · rw [List.mem_singleton] at hb
      exact c.2 (by rw [← hb, ← e]; exact ha)
    · rcases List.mem_append.mp hx with hx | hx
      · exact h.on x hx
      · rw [List.mem_singleton.mp hx]
        exact ⟨(hp p (.inl m)).1, (h.on _ c.1).2.trans (.one (.inr m))⟩
  · exact h
theorem Part.step {A : List T} (h : Part k t A) {p : T × T} (m : p ∈ k.1) : Part k t (stepA A p) := (h.stepL hp m).stepR hp m
theorem Part.round : ∀ (ps : Ps) {A : List T}, (∀ p ∈ ps, p ∈ k.1) → Part k t A → Part k t (roundA ps A)
  | [], _, _, h => h
  | p :: ps, _, hs, h => Part.round ps (fun q hq => hs q (List.mem_cons_of_mem _ hq)) (h.step hp (hs p List.mem_cons_self))
theorem Part.iter : ∀ (n : Nat) {A : List T}, Part k t A → Part k t (iterA k.1 n A)
  | 0, _, h => h
  | n + 1, _, h => Part.iter n (h.round hp k.1 fun _ h => h)
end
def Shut (ps : Ps) (A : List T) : Prop := ∀ p ∈ ps, (p.1 ∈ A ↔ p.2 ∈ A)
theorem step_same {A : List T} {p : T × T} (h : stepA A p = A) : p.1 ∈ A ↔ p.2 ∈ A := by
  obtain ⟨B, e⟩ := stepL_pre A p
  obtain ⟨C, f⟩ := stepR_pre (stepL A p) p
  have eL : stepL A p = A := by
    unfold stepA at h
    rw [f, e] at h
    have := congrArg List.length h
    rw [List.length_append, List.length_append] at this
    have b0 : B = [] := List.length_eq_zero_iff.mp (by omega)
    rw [e, b0, List.append_nil]
  have eR : stepR A p = A := by
    unfold stepA at h
    rw [eL] at h
    exact h
  constructor
  · intro h1
    refine Decidable.byContradiction fun h2 => ?_
    unfold stepL at eL
    rw [if_pos ⟨h1, h2⟩] at eL
    have := congrArg List.length eL
    rw [List.length_append, List.length_singleton] at this
    omega
  · intro h2
    refine Decidable.byContradiction fun h1 => ?_
    unfold stepR at eR
    rw [if_pos ⟨h2, h1⟩] at eR
    have := congrArg List.length eR
    rw [List.length_append, List.length_singleton] at this
    omega
theorem round_same : ∀ (ps : Ps) {A : List T}, roundA ps A = A → Shut ps A
  | [], _, _ => fun _ h => by cases h
  | p :: ps, A, h => by
    obtain ⟨B, e⟩ := stepA_pre A p
    obtain ⟨C, f⟩ := round_pre ps (stepA A p)
    have h : roundA ps (stepA A p) = A := h
    have eS : stepA A p = A := by
      rw [f, e] at h
      have := congrArg List.length h
      rw [List.length_append, List.length_append] at this
      have b0 : B = [] := List.length_eq_zero_iff.mp (by omega)
      rw [e, b0, List.append_nil]
    rw [eS] at h
    intro q hq
    rcases List.mem_cons.mp hq with rfl | hq
    · exact step_same eS
    · exact round_same ps h q hq
theorem iter_same (ps : Ps) {A : List T} (h : roundA ps A = A) : ∀ n, iterA ps n A = A
  | 0 => rfl
  | n + 1 => by
    show iterA ps n (roundA ps A) = A
    rw [h, iter_same ps h n]
theorem iter_grow (ps : Ps) : ∀ (n : Nat) (A : List T), Shut ps (iterA ps n A) ∨ A.length + n ≤ (iterA ps n A).length
  | 0, A => .inr (Nat.le_refl _)
  | n + 1, A => by
    by_cases h : roundA ps A = A
    · rw [iter_same ps h]
      exact .inl (round_same ps h)
    · obtain ⟨B, e⟩ := round_pre ps A
      have : B ≠ [] := fun z => h (by rw [e, z, List.append_nil])
      have : 0 < B.length := List.length_pos_iff.mpr this
      show Shut ps (iterA ps n (roundA ps A)) ∨ A.length + (n + 1) ≤ (iterA ps n (roundA ps A)).length
      rcases iter_grow ps n (roundA ps A) with h2 | h2
      · exact .inl h2
      · refine .inr ?_
        have l := congrArg List.length e
        rw [List.length_append] at l
        omega
theorem shut_conn {ps : Ps} {A : List T} (h : Shut ps A) {a b : T} (c : Conn ps a b) (ha : a ∈ A) : b ∈ A := by
  induction c with
  | refl => exact ha
  | step _ e ih =>
    rcases e with e | e
    · exact (h _ e).mp ih
    · exact (h _ e).mpr ih
theorem part_len {k : Kw} {t : T} {A : List T} (h : Part k t A) : A.length ≤ 5 := len_sub (ys := pool) h.nd fun x hx => (h.on x hx).1
theorem part0 {k : Kw} {t : T} (ht : t ∈ pool) : Part k t [t] := ⟨by simp, fun x hx => by rw [List.mem_singleton.mp hx]; exact ⟨ht, .refl _⟩, List.mem_singleton.mpr rfl⟩
theorem iter_cls {k : Kw} (hp : InPool k) {t : T} (ht : t ∈ pool) (o : T) : o ∈ iterA k.1 5 [t] ↔ Conn k.1 t o := by
  have P := (part0 (k := k) ht).iter hp 5
  constructor
  · exact fun h => (P.on o h).2
  · intro c
    rcases iter_grow k.1 5 [t] with h | h
    · exact shut_conn h c P.me
    · have := part_len P
      rw [List.length_singleton] at h
      omega
theorem due_cls {k : Kw} (hp : InPool k) {t : T} (ht : t ∈ pool) : pool.filter (fun o => decide (o ∈ iterA k.1 5 [t])) = cls k t := by
  unfold cls
  refine List.filter_congr fun o _ => ?_
  rw [Bool.eq_iff_iff, joined_iff, decide_eq_true_iff]
  exact iter_cls hp ht o
theorem ne_rows (xs ys : List Row) : dNe (.list (xs.map rowD)) (.list (ys.map rowD)) = some (.bool (!decide (xs = ys))) := by
  have h1 : eqOk (.list (xs.map rowD)) (.list (ys.map rowD)) = true := by
    have p1 := code_row.plainAll xs
    have p2 := code_row.plainAll ys
    have d1 := code_row.depthAll xs
    unfold eqOk
    rw [Bool.and_eq_true, Bool.and_eq_true, decide_eq_true_iff]
    refine ⟨⟨p1, p2⟩, ?_⟩
    rw [PyData.depth]
    omega
  unfold dNe
  rw [if_pos h1]
  exact congrArg (fun b => some (PyData.bool (!b))) (code_row.eqvAll xs ys)
end Kn

set_option Elab.async false
set_option linter.all false
set_option maxRecDepth 100000
set_option autoImplicit false
namespace Dt.St
open PySem L2 Dt R
section
variable {ρ ρ1 ρ2 ρ3 : Ev} {d x y r : D} {ds es : List D}
theorem anT {t s : MB} {b : Bool} (h : t ρ = .ok (true, ρ1)) (g : s ρ1 = .ok (b, ρ2)) : mAndB t s ρ = .ok (b, ρ2) := by
  unfold mAndB; rw [h]; exact g
theorem anF {t s : MB} (h : t ρ = .ok (false, ρ1)) : mAndB t s ρ = .ok (false, ρ1) := by
  unfold mAndB; rw [h]; rfl
theorem app {i : Nat} {m : ME} (h0 : asL (getv ρ i) = some ds) (h : m ρ = .ok (d, ρ1)) (h1 : asL (getv ρ1 i) = some es) (hz : es.length < 1000000) : eApp i m ρ = .ok (.none, ρ1.set i (some (.list (es ++ [d])))) := by
  unfold eApp
  rw [h0]
  show (m ρ).bind _ = _
  rw [h]
  show (R.opt (asL (getv ρ1 i))).bind _ = _
  rw [h1]
  show (if es.length < sizeLine then _ else _) = _
  rw [if_pos (by rw [sizeN]; omega)]
theorem ex {m : ME} (h : m ρ = .ok (d, ρ1)) : sExpr m ρ = .ok (.nx, ρ1) := by
  unfold sExpr; rw [h]; rfl
theorem mand {t s : MB} {a b : Bool} (h : t ρ = .ok (a, ρ)) (g : s ρ = .ok (b, ρ)) : mAndB t s ρ = .ok (a && b, ρ) := by
  cases a
  · exact anF h
  · exact anT h g
end
end Dt.St
namespace Lw
open PySem Kn Dt Dt.R
open L2 (Key)
theorem in_kL (t : T) (A : List T) : dInA (kD t) (.list (A.map kD)) = some (.bool (decide (t ∈ A))) := code_kD.inL (by decide) A t
theorem nin_kL (t : T) (A : List T) : dNotInA (kD t) (.list (A.map kD)) = some (.bool (!decide (t ∈ A))) := code_kD.ninL (by decide) A t
theorem asl_k (A : List T) : asL (some (.list (A.map kD))) = some (A.map kD) := rfl
def bJoin : MS := (sSeq (sIf (mAndB (mBool (mOp dInA (var 7) (var 4))) (mBool (mOp dNotInA (var 8) (var 4)))) (sExpr (eApp 4 (var 8))) sNil) (sIf (mAndB (mBool (mOp dInA (var 8) (var 4))) (mBool (mOp dNotInA (var 7) (var 4)))) (sExpr (eApp 4 (var 7))) sNil))
theorem join_pair (a b c d : D) (e f g h : Option D) (p : T × T) (A : List T) (hA : A.length ≤ 10000) :
    bJoin [some a, some b, some c, some d, some (.list (A.map kD)), e, f, some (kD p.1), some (kD p.2), g, h] = .ok (.nx, [some a, some b, some c, some d, some (.list ((stepA A p).map kD)), e, f, some (kD p.1), some (kD p.2), g, h]) := by
  have one : sIf (mAndB (mBool (mOp dInA (var 7) (var 4))) (mBool (mOp dNotInA (var 8) (var 4)))) (sExpr (eApp 4 (var 8))) sNil [some a, some b, some c, some d, some (.list (A.map kD)), e, f, some (kD p.1), some (kD p.2), g, h] = .ok (.nx, [some a, some b, some c, some d, some (.list ((stepL A p).map kD)), e, f, some (kD p.1), some (kD p.2), g, h]) := by
    have t := St.mand (St.bl (St.op (St.vr (ρ := [some a, some b, some c, some d, some (.list (A.map kD)), e, f, some (kD p.1), some (kD p.2), g, h]) (i := 7) rfl) (St.vr (i := 4) rfl) (in_kL p.1 A))) (St.bl (St.op (St.vr (i := 8) rfl) (St.vr (i := 4) rfl) (nin_kL p.2 A)))
    unfold stepL
    by_cases q : p.1 ∈ A ∧ p.2 ∉ A
    · rw [if_pos q]
      rw [decide_eq_true q.1, decide_eq_false q.2] at t
      rw [St.ift t]
      have ap := St.app (i := 4) (m := var 8) (ρ := [some a, some b, some c, some d, some (.list (A.map kD)), e, f, some (kD p.1), some (kD p.2), g, h]) (asl_k A) (St.vr rfl) (asl_k A) (by rw [List.length_map]; omega)
      rw [St.ex ap, List.map_append]
      rfl
    · rw [if_neg q]
      have f0 : (decide (p.1 ∈ A) && !decide (p.2 ∈ A)) = false := by
        by_cases q1 : p.1 ∈ A
        · by_cases q2 : p.2 ∈ A
          · rw [decide_eq_true q1, decide_eq_true q2]; rfl
          · exact absurd ⟨q1, q2⟩ q
        · rw [decide_eq_false q1]; rfl
      rw [f0] at t
      exact St.pass t
  have hL : (stepL A p).length ≤ 10001 := by
    unfold stepL
    split
    · rw [List.length_append, List.length_singleton]; omega
    · omega
  have two : sIf (mAndB (mBool (mOp dInA (var 8) (var 4))) (mBool (mOp dNotInA (var 7) (var 4)))) (sExpr (eApp 4 (var 7))) sNil [some a, some b, some c, some d, some (.list ((stepL A p).map kD)), e, f, some (kD p.1), some (kD p.2), g, h] = .ok (.nx, [some a, some b, some c, some d, some (.list ((stepR (stepL A p) p).map kD)), e, f, some (kD p.1), some (kD p.2), g, h]) := by
    generalize stepL A p = A at hL
    have t := St.mand (St.bl (St.op (St.vr (ρ := [some a, some b, some c, some d, some (.list (A.map kD)), e, f, some (kD p.1), some (kD p.2), g, h]) (i := 8) rfl) (St.vr (i := 4) rfl) (in_kL p.2 A))) (St.bl (St.op (St.vr (i := 7) rfl) (St.vr (i := 4) rfl) (nin_kL p.1 A)))
    unfold stepR
    by_cases q : p.2 ∈ A ∧ p.1 ∉ A
    · rw [if_pos q]
      rw [decide_eq_true q.1, decide_eq_false q.2] at t
      rw [St.ift t]
      have ap := St.app (i := 4) (m := var 7) (ρ := [some a, some b, some c, some d, some (.list (A.map kD)), e, f, some (kD p.1), some (kD p.2), g, h]) (asl_k A) (St.vr rfl) (asl_k A) (by rw [List.length_map]; omega)
      rw [St.ex ap, List.map_append]
      rfl
    · rw [if_neg q]
      have f0 : (decide (p.2 ∈ A) && !decide (p.1 ∈ A)) = false := by
        by_cases q1 : p.2 ∈ A
        · by_cases q2 : p.1 ∈ A
          · rw [decide_eq_true q1, decide_eq_true q2]; rfl
          · exact absurd ⟨q1, q2⟩ q
        · rw [decide_eq_false q1]; rfl
      rw [f0] at t
      exact St.pass t
  unfold bJoin
  rw [St.seq one]
  exact two
def bRound : MS := sForE (iSq (mOp dIxA (var 0) (cst (.int 0)))) (gTpl 2 (gsCons (gSet 7) (gsCons (gSet 8) gsNil))) bJoin
theorem round_ok (k : Kw) (hk : k.1.length ≤ 400) (b c d : D) (e f g h i j : Option D) (A : List T) (hA : A.length ≤ 5) :
    ∃ i' j', bRound [some (knD k), some b, some c, some d, some (.list (A.map kD)), e, f, i, j, g, h] = .ok (.nx, [some (knD k), some b, some c, some d, some (.list ((roundA k.1 A).map kD)), e, f, i', j', g, h]) := by
  obtain ⟨ρ', h1, A', i', j', rfl, _, ha⟩ := for_all (g := gTpl 2 (gsCons (gSet 7) (gsCons (gSet 8) gsNil))) (b := bJoin) (enc := pairD)
    (I := fun l ρ => ∃ A' i j, ρ = [some (knD k), some b, some c, some d, some (.list (A'.map kD)), e, f, i, j, g, h] ∧ A'.length + 2 * l.length ≤ 10000 ∧ roundA l A' = roundA k.1 A)
    (fun p l ρ hh => by
      obtain ⟨A', i, j, rfl, hl, ha⟩ := hh
      rw [List.length_cons] at hl
      refine ⟨[some (knD k), some b, some c, some d, some (.list (A'.map kD)), e, f, some (kD p.1), some (kD p.2), g, h], _, rfl, .inl (join_pair (knD k) b c d e f g h p A' (by omega)), stepA A' p, _, _, rfl, by have := stepA_len A' p; omega, ha⟩)
    (xs := k.1) (ρ := [some (knD k), some b, some c, some d, some (.list (A.map kD)), e, f, i, j, g, h]) ⟨A, i, j, rfl, by omega, rfl⟩
  have ha : A' = roundA k.1 A := ha
  subst ha
  exact ⟨i', j', St.fr (St.it (St.op (St.vr rfl) St.cs (ixk0 k)) (it_ps k.1)) h1⟩
theorem rounds_ok {k : Kw} (hp : InPool k) (hk : k.1.length ≤ 400) {t : T} (ht : t ∈ pool) (b : D) (e f g h i j : Option D) :
    ∃ e' i' j', sForE (iRg rng1 (aCons (mCall dLenA (aCons (var 2) aNil)) aNil)) (gSet 5) bRound [some (knD k), some b, some (.list (pool.map kD)), some (kD t), some (.list ([t].map kD)), e, f, i, j, g, h] = .ok (.nx, [some (knD k), some b, some (.list (pool.map kD)), some (kD t), some (.list ((iterA k.1 5 [t]).map kD)), e', f, i', j', g, h]) := by
  obtain ⟨ρ', h1, A', e', i', j', rfl, _, ha⟩ := for_all (g := gSet 5) (b := bRound) (enc := fun i : Nat => PyData.int (i : Int))
    (I := fun l ρ => ∃ A' e i j, ρ = [some (knD k), some b, some (.list (pool.map kD)), some (kD t), some (.list (A'.map kD)), e, f, i, j, g, h] ∧ Part k t A' ∧ iterA k.1 l.length A' = iterA k.1 5 [t])
    (fun n l ρ hh => by
      obtain ⟨A', e, i, j, rfl, P, ha⟩ := hh
      obtain ⟨i', j', r⟩ := round_ok k hk b (.list (pool.map kD)) (kD t) (some (.int (n : Int))) f g h i j A' (part_len P)
      exact ⟨_, _, rfl, .inl r, _, _, _, _, rfl, P.round hp k.1 fun _ h => h, ha⟩)
    (xs := List.range 5) (ρ := [some (knD k), some b, some (.list (pool.map kD)), some (kD t), some (.list ([t].map kD)), e, f, i, j, g, h]) ⟨[t], e, i, j, rfl, part0 ht, rfl⟩
  have ha : A' = iterA k.1 5 [t] := ha
  subst ha
  have r5 := rng_at 5 (by decide)
  have ln : dLenA [.list (pool.map kD)] = some (.int ((5 : Nat) : Int)) := rfl
  exact ⟨e', i', j', St.fr (St.rg (St.a1 (St.call (St.a1 (St.vr rfl)) ln)) r5) h1⟩
end Lw
namespace Lw
open PySem Kn Dt Dt.R
open L2 (Key)
theorem same_kDs (ts : List T) (h : ts.length ≤ 100000) : m__law_same 12 [.tuple (ts.map kD), .tuple (ts.map kD)] = .ok (.bool true) := by
  refine same_ok 12 _ ?_
  show (decide ((ts.map kD).length ≤ 100000) && (ts.map kD).all (okD 11)) = true
  rw [Bool.and_eq_true, decide_eq_true_iff, List.length_map, List.all_eq_true]
  refine ⟨h, fun d hd => ?_⟩
  obtain ⟨t, _, rfl⟩ := List.mem_map.mp hd
  cases t <;> rfl
theorem same_kD (t : T) : m__law_same 12 [kD t, kD t] = .ok (.bool true) := same_ok 12 _ (by cases t <;> rfl)
theorem isi_str (t : T) : dIsi "str" (kD t) = !unk t := by cases t <;> rfl
theorem it_kds (ts : List T) : items (.tuple (ts.map kD)) = some (ts.map kD) := rfl
theorem head_ix (ts : List T) (h : ts ≠ []) : dIxA (.tuple (ts.map kD)) (.int 0) = some (kD (ts.headD (.inl 0))) := by
  cases ts with
  | nil => exact absurd rfl h
  | cons t ts => exact ix0 (kD t) (ts.map kD)
theorem head_ixL (ts : List T) (h : ts ≠ []) : dIxA (.list (ts.map kD)) (.int 0) = some (kD (ts.headD (.inl 0))) := by
  cases ts with
  | nil => exact absurd rfl h
  | cons t ts =>
    show dIx (.list (kD t :: ts.map kD)) (.int 0) = _
    simp [dIx, L2.atI, L2.ixN]
def bClass : MS := (sSeq (sSet (gOwn 4) (mLst (aCons (var 3) aNil))) (sSeq (sForE (iRg rng1 (aCons (mCall dLenA (aCons (var 2) aNil)) aNil)) (gSet 5) bRound) (sSeq (sSet (gSet 6) (mCall dTuple (aCons (mLc false (iSq (var 2)) [10] (gSet 10) (mBool (mOp dInA (var 10) (var 4))) (var 10)) aNil))) (sSeq (sIf (mNotB (mTru (mCallF (m__law_same 12) (aCons (mCallF m_class_of (aCons (var 0) (aCons (var 3) aNil))) (aCons (var 6) aNil))))) (sRet (cst (.bool false))) sNil) (sSeq (sIf (mBool (mOp dNe (var 1) (mLst aNil))) (sSeq (sSet (gSet 9) (mLc false (iSq (var 6)) [10] (gSet 10) (mTru (mIsi "str" (var 10))) (var 10))) (sIf (mNotB (mTru (mCallF (m__law_same 12) (aCons (mCallF m_told_term (aCons (var 0) (aCons (var 3) aNil))) (aCons (mOp dIxA (mOp dAdd (var 9) (mCall dList (aCons (var 6) aNil))) (cst (.int 0))) aNil))))) (sRet (cst (.bool false))) sNil)) (sIf (mNotB (mTru (mCallF (m__law_same 12) (aCons (mCallF m_told_term (aCons (var 0) (aCons (var 3) aNil))) (aCons (mOp dIxA (var 6) (cst (.int 0))) aNil))))) (sRet (cst (.bool false))) sNil)) sNil)))))
theorem class_step {k : Kw} (hp : InPool k) (F : Fit4 k) {t : T} (ht : t ∈ pool) (d e f g h i j : Option D) :
    ∃ d' e' f' g' h' i' j', bClass [some (knD k), some (.list ((wlds k).map rowD)), some (.list (pool.map kD)), some (kD t), d, e, f, i, j, g, h] = .ok (.nx, [some (knD k), some (.list ((wlds k).map rowD)), some (.list (pool.map kD)), some (kD t), d', e', f', i', j', g', h']) := by
  obtain ⟨e', i', j', r⟩ := rounds_ok hp F.e ht (.list ((wlds k).map rowD)) e f g h i j
  have e6 := lc_eval (g := gSet 10) (vs := [10]) (tt := mBool (mOp dInA (var 10) (var 4))) (me := var 10) (ρ := [some (knD k), some (.list ((wlds k).map rowD)), some (.list (pool.map kD)), some (kD t), some (.list ((iterA k.1 5 [t]).map kD)), e', f, i', j', g, h]) (enc := kD) (c := fun o => decide (o ∈ iterA k.1 5 [t])) (f := kD) (xs := pool)
    fun o _ => ⟨[some (knD k), some (.list ((wlds k).map rowD)), some (.list (pool.map kD)), some (kD t), some (.list ((iterA k.1 5 [t]).map kD)), e', f, i', j', g, some (kD o)], [some (knD k), some (.list ((wlds k).map rowD)), some (.list (pool.map kD)), some (kD t), some (.list ((iterA k.1 5 [t]).map kD)), e', f, i', j', g, some (kD o)], rfl, St.bl (St.op (St.vr rfl) (St.vr rfl) (in_kL o _)), fun _ => ⟨_, rfl⟩⟩
  rw [due_cls hp ht] at e6
  have co := m_classof hp F ht
  have tt := m_toldterm F (t := t)
  have cl : (cls k t).length ≤ 5 := List.length_filter_le _ _
  have sk := same_kDs (cls k t) (by omega)
  have nr := ne_rows (wlds k) []
  have e9 := lc_eval (g := gSet 10) (vs := [10]) (tt := mTru (mIsi "str" (var 10))) (me := var 10) (ρ := [some (knD k), some (.list ((wlds k).map rowD)), some (.list (pool.map kD)), some (kD t), some (.list ((iterA k.1 5 [t]).map kD)), e', some (.tuple ((cls k t).map kD)), i', j', g, h]) (enc := kD) (c := fun o => !unk o) (f := kD) (xs := cls k t)
    fun o _ => ⟨[some (knD k), some (.list ((wlds k).map rowD)), some (.list (pool.map kD)), some (kD t), some (.list ((iterA k.1 5 [t]).map kD)), e', some (.tuple ((cls k t).map kD)), i', j', g, some (kD o)], [some (knD k), some (.list ((wlds k).map rowD)), some (.list (pool.map kD)), some (kD t), some (.list ((iterA k.1 5 [t]).map kD)), e', some (.tuple ((cls k t).map kD)), i', j', g, some (kD o)], rfl, by
      refine St.trB ?_
      rw [← isi_str]
      cases o <;> rfl, fun _ => ⟨_, rfl⟩⟩
  cases hw : decide (wlds k = [])
  · have hb : broken k = false := by
      cases q : broken k
      · rfl
      · rw [decide_eq_true (wlds_broken q)] at hw; cases hw
    rw [hw] at nr
    have rp := rep_unbroken hb hp ht
    have ad : dAdd (.list (((cls k t).filter fun o => !unk o).map kD)) (.list ((cls k t).map kD)) = some (.list ((((cls k t).filter fun o => !unk o) ++ cls k t).map kD)) := by
      have hz : (((cls k t).filter fun o => !unk o).map kD).length + ((cls k t).map kD).length ≤ sizeLine := by
        rw [List.length_map, List.length_map, sizeN]
        have := List.length_filter_le (fun o => !unk o) (cls k t)
        omega
      show (if (((cls k t).filter fun o => !unk o).map kD).length + ((cls k t).map kD).length ≤ sizeLine then some (PyData.list (((cls k t).filter fun o => !unk o).map kD ++ (cls k t).map kD)) else none) = _
      rw [if_pos hz, List.map_append]
    have hx := head_ixL (((cls k t).filter fun o => !unk o) ++ cls k t) (by
      intro z
      exact cls_ne hp ht (List.append_eq_nil_iff.mp z).2)
    rw [← rp] at hx
    refine ⟨some (.list ((iterA k.1 5 [t]).map kD)), e', some (.tuple ((cls k t).map kD)), some (.list (((cls k t).filter fun o => !unk o).map kD)), h, i', j', ?_⟩
    unfold bClass
    refine Eq.trans (St.seq (St.set (show mLst _ _ = .ok (.list ([t].map kD), _) from rfl) rfl)) ?_
    refine Eq.trans (St.seq r) ?_
    refine Eq.trans (St.seq (St.set (St.call (St.a1 (St.lc (St.it (St.vr rfl) rfl) e6)) rfl) rfl)) ?_
    refine Eq.trans (St.seq (St.pass (St.nt (St.trB (St.callF (St.ac (St.callF (St.ac (St.vr rfl) (St.a1 (St.vr rfl))) co) (St.a1 (St.vr rfl))) sk))))) ?_
    refine Eq.trans (St.seq (Eq.trans (St.ift (St.bl (St.op (St.vr rfl) (show mLst aNil _ = .ok (.list [], _) from rfl) nr))) ?_)) rfl
    refine Eq.trans (St.seq (St.set (St.lc (St.it (St.vr rfl) (it_kds _)) e9) rfl)) ?_
    exact St.pass (St.nt (St.trB (St.callF (St.ac (St.callF (St.ac (St.vr rfl) (St.a1 (St.vr rfl))) tt) (St.a1 (St.op (St.op (St.vr rfl) (St.call (St.a1 (St.vr rfl)) (show dList [.tuple ((cls k t).map kD)] = some (.list ((cls k t).map kD)) from rfl)) ad) St.cs hx))) (same_kD _))))
  · have hb : broken k = true := by
      cases q : broken k
      · have := gen_w q hp
        rw [of_decide_eq_true hw] at this
        cases this
      · rfl
    rw [hw] at nr
    have rp := rep_broken hb hp ht
    have hx := head_ix (cls k t) (cls_ne hp ht)
    rw [← rp] at hx
    refine ⟨some (.list ((iterA k.1 5 [t]).map kD)), e', some (.tuple ((cls k t).map kD)), g, h, i', j', ?_⟩
    unfold bClass
    refine Eq.trans (St.seq (St.set (show mLst _ _ = .ok (.list ([t].map kD), _) from rfl) rfl)) ?_
    refine Eq.trans (St.seq r) ?_
    refine Eq.trans (St.seq (St.set (St.call (St.a1 (St.lc (St.it (St.vr rfl) rfl) e6)) rfl) rfl)) ?_
    refine Eq.trans (St.seq (St.pass (St.nt (St.trB (St.callF (St.ac (St.callF (St.ac (St.vr rfl) (St.a1 (St.vr rfl))) co) (St.a1 (St.vr rfl))) sk))))) ?_
    refine Eq.trans (St.seq (Eq.trans (St.iff (St.bl (St.op (St.vr rfl) (show mLst aNil _ = .ok (.list [], _) from rfl) nr))) ?_)) rfl
    exact St.pass (St.nt (St.trB (St.callF (St.ac (St.callF (St.ac (St.vr rfl) (St.a1 (St.vr rfl))) tt) (St.a1 (St.op (St.vr rfl) St.cs hx))) (same_kD _))))
theorem m_classR {k : Kw} (hp : InPool k) (F : Fit4 k) : m__law_is_class_right [knD k, .list ((wlds k).map rowD)] = .ok (.bool true) := by
  obtain ⟨ρ', h1, _, c, d, e, f, g, h, i, j, rfl⟩ := for_all (g := gSet 3) (b := bClass) (enc := kD)
    (I := fun l ρ => (∀ t ∈ l, t ∈ pool) ∧ ∃ c d e f g h i j, ρ = [some (knD k), some (.list ((wlds k).map rowD)), some (.list (pool.map kD)), c, d, e, f, i, j, g, h])
    (fun t l ρ hh => by
      obtain ⟨hl, c, d, e, f, g, h, i, j, rfl⟩ := hh
      obtain ⟨d', e', f', g', h', i', j', r⟩ := class_step hp F (hl t List.mem_cons_self) d e f g h i j
      exact ⟨_, _, rfl, .inl r, fun z hz => hl z (List.mem_cons_of_mem _ hz), _, _, _, _, _, _, _, _, rfl⟩)
    (xs := pool) (ρ := [some (knD k), some (.list ((wlds k).map rowD)), some (.list (pool.map kD)), none, none, none, none, none, none, none, none]) ⟨fun _ h => h, _, _, _, _, _, _, _, _, rfl⟩
  have fin : ∃ ρ1, b__law_is_class_right [some (knD k), some (.list ((wlds k).map rowD)), none, none, none, none, none, none, none, none, none] = .ok (.rt (.bool true), ρ1) := by
    apply Exists.intro
    unfold b__law_is_class_right
    refine Eq.trans (St.seq (St.set (show mLst _ _ = .ok (.list (pool.map kD), _) from rfl) rfl)) ?_
    refine Eq.trans (St.seq (St.fr (St.it (St.vr rfl) rfl) h1)) ?_
    exact St.ret St.cs
  obtain ⟨ρ1, fin⟩ := fin
  exact St.runF_rt rfl fin
end Lw

set_option Elab.async false
set_option linter.all false
set_option maxRecDepth 100000
set_option autoImplicit false
namespace Dt.St
open PySem L2 Dt R
section
variable {ρ ρ1 ρ2 ρ3 : Ev} {d x y r : D} {ds : List D} {es : List (D × D)}
theorem getT {mo : ME} {mk : MA} {ks : List Key} (h : mo ρ = .ok (.dict (tH :: es), ρ1)) (hk : mk ρ1 = .ok (ds, ρ2)) (e : keysOf ds = some ks) (hz : ds.length ≤ 1000) (hl : tlook es ks = some d) : eGetT mo mk ρ = .ok (d, ρ2) := by
  unfold eGetT
  rw [h]
  show (mk ρ1).bind _ = _
  rw [hk]
  show (R.opt (keysOf ds)).bind _ = _
  rw [e]
  show (if ds.length ≤ 1000 then (R.opt (tlook es ks)).bind _ else _) = _
  rw [if_pos hz, hl]
  rfl
theorem putT {o : Nat} {mv : ME} {mk : MA} {ks : List Key} {es : List (D × D)} (h : mv ρ = .ok (x, ρ1)) (hk : mk ρ1 = .ok (ds, ρ2)) (ho : getv ρ2 o = some (.dict (tH :: es))) (e : keysOf ds = some ks) (hz : es.length < 1000000) (hz2 : ds.length ≤ 1000) : sPutT o mv mk ρ = .ok (.nx, ρ2.set o (some (.dict (tH :: tput es ks x)))) := by
  unfold sPutT
  rw [h]
  show (mk ρ1).bind _ = _
  rw [hk]
  show (R.opt (asTo (getv ρ2 o))).bind _ = _
  rw [ho]
  show (R.opt (keysOf ds)).bind _ = _
  rw [e]
  show (if es.length < sizeLine ∧ ds.length ≤ 1000 then _ else _) = _
  rw [if_pos ⟨by rw [sizeN]; omega, hz2⟩]
end
end Dt.St
namespace Kn
open PySem Dt Dt.R
def valT (k : Kw) (p : T × T) : D := .tuple [.bool (telEq k p.1 p.2), .bool (telUn k p.1 p.2)]
def tdE (k : Kw) (ps : Ps) : List (D × D) := ps.map fun p => (kT [p.1, p.2], valT k p)
theorem key2 {p q : T × T} : tkey (kT [p.1, p.2]) = some [q.1, q.2] ↔ p = q := by
  rw [tkey_kT]
  constructor
  · intro h
    injection h with h
    injection h with h1 h
    injection h with h2 _
    exact Prod.ext h1 h2
  · intro h; rw [h]
theorem look_td (k : Kw) : ∀ {ps : Ps} {p : T × T}, p ∈ ps → tlook (tdE k ps) [p.1, p.2] = some (valT k p)
  | [], _, h => by cases h
  | q :: ps, p, h => by
    have ih : ∀ h, tlook (tdE k ps) [p.1, p.2] = some (valT k p) := fun h => look_td k h
    unfold tlook tdE at ih ⊢
    rw [List.map_cons, List.find?_cons]
    by_cases e : q = p
    · rw [decide_eq_true (key2.mpr e), e]
      rfl
    · rw [decide_eq_false (fun z => e (key2.mp z))]
      rcases List.mem_cons.mp h with h | h
      · exact absurd h.symm e
      · exact ih h
theorem put_td (k : Kw) {ps : Ps} {p : T × T} (h : p ∉ ps) : tput (tdE k ps) [p.1, p.2] (valT k p) = tdE k (ps ++ [p]) := by
  unfold tput
  have : ((tdE k ps).any fun e => decide (tkey e.1 = some [p.1, p.2])) = false := by
    rw [List.any_eq_false]
    intro e he z
    obtain ⟨q, hq, rfl⟩ := List.mem_map.mp he
    have := key2.mp (of_decide_eq_true z)
    exact h (this ▸ hq)
  rw [this, if_neg (by decide)]
  unfold tdE
  rw [List.map_append]
  rfl
theorem keys_td (k : Kw) (ps : Ps) : keysD (tdE k ps) = ps.map pairD := by
  unfold keysD tdE
  rw [List.map_map]
  rfl
def row6 (x : T) : Ps := pool6.map fun y => (x, y)
def all6 : Ps := pool6.flatMap row6
theorem all6_nodup : all6.Nodup := by decide +kernel
theorem mem_all6 {x y : T} : (x, y) ∈ all6 ↔ x ∈ pool6 ∧ y ∈ pool6 := by
  unfold all6 row6
  rw [List.mem_flatMap]
  constructor
  · rintro ⟨a, ha, h⟩
    obtain ⟨b, hb, e⟩ := List.mem_map.mp h
    injection e with e1 e2
    subst e1 e2
    exact ⟨ha, hb⟩
  · rintro ⟨ha, hb⟩
    exact ⟨x, ha, List.mem_map.mpr ⟨y, hb, rfl⟩⟩
theorem broken_wlds {k : Kw} (hp : InPool k) : broken k = decide (wlds k = []) := by
  rw [Bool.eq_iff_iff, broken_iff hp, decide_eq_true_iff, List.eq_nil_iff_forall_not_mem]
  constructor
  · exact fun h w hw => h w (mem_wlds.mp hw).1 (mem_wlds.mp hw).2
  · exact fun h w hw s => h w (mem_wlds.mpr ⟨hw, s⟩)
end Kn
namespace Lw
open PySem Kn Dt Dt.R
open L2 (Key)
theorem m_name6 {t : T} (ht : t ∈ pool6) {w : Row} (hw : w ∈ allW) : m__law_name [kD t, unL, rowD w] = .ok (.str (ev w t)) := by
  rcases pool6_cases ht with h | rfl
  · exact m_nameL h hw
  · obtain ⟨x, _, y, _, z, _, rfl⟩ := allW_row hw
    rfl
theorem m_tells6 {ws : List Row} (hw : ∀ w ∈ ws, w ∈ allW) {x y : T} (hx : x ∈ pool6) (hy : y ∈ pool6) (al : Bool) : m__law_tells [.list (ws.map rowD), unL, kD x, kD y, .bool al] = .ok (.bool (tellsW ws x y al)) := by
  have e2 := for_ret (g := gSet 5) (b := sIf (mBool (mOp dNe (mOp dEq (mCallF m__law_name (aCons (var 2) (aCons (var 1) (aCons (var 5) aNil)))) (mCallF m__law_name (aCons (var 3) (aCons (var 1) (aCons (var 5) aNil))))) (var 4))) (sRet (cst (.bool false))) sNil) (enc := rowD) (p := fun w => decide (ev w x = ev w y) == al) (r := .bool false)
    (I := fun l ρ => (∀ w ∈ l, w ∈ allW) ∧ ∃ a, ρ = [some (.list (ws.map rowD)), some unL, some (kD x), some (kD y), some (.bool al), a]) (fun w l ρ h => by
      obtain ⟨hl, a, rfl⟩ := h
      have h := hl w List.mem_cons_self
      refine ⟨[some (.list (ws.map rowD)), some unL, some (kD x), some (kD y), some (.bool al), some (rowD w)], [some (.list (ws.map rowD)), some unL, some (kD x), some (kD y), some (.bool al), some (rowD w)], rfl, fun z => ⟨?_, fun q hq => hl q (List.mem_cons_of_mem _ hq), _, rfl⟩, fun z => ?_⟩
      · simp [runF, runI, runFr, startE, sSeq, sSet, sExpr, sRet, sRetN, sIf, sForE, mIf, mTru, mBool, mNotB, mAndB, mOrB, mCallF, mCall, aCons, aNil, var, getv, cst, mOp, mUn, mTup, mLst, mAnd, mOr, gSet, gOwn, gTpl, gsCons, gsNil, iSq, mDict0, R.bind, R.opt, R.nox, truD, tru, asB, m_name6 hx h, m_name6 hy h, eq_strD, ne_boolD, z, sNil, -Bool.not_eq_eq_eq_not, -beq_iff_eq]
      · simp [runF, runI, runFr, startE, sSeq, sSet, sExpr, sRet, sRetN, sIf, sForE, mIf, mTru, mBool, mNotB, mAndB, mOrB, mCallF, mCall, aCons, aNil, var, getv, cst, mOp, mUn, mTup, mLst, mAnd, mOr, gSet, gOwn, gTpl, gsCons, gsNil, iSq, mDict0, R.bind, R.opt, R.nox, truD, tru, asB, m_name6 hx h, m_name6 hy h, eq_strD, ne_boolD, z, -Bool.not_eq_eq_eq_not, -beq_iff_eq])
    (xs := ws) (ρ := [some (.list (ws.map rowD)), some unL, some (kD x), some (kD y), some (.bool al), none]) ⟨hw, _, rfl⟩
  obtain ⟨ρ1, t1, f1⟩ := e2
  unfold tellsW
  cases q : ws.all (fun w => decide (ev w x = ev w y) == al)
  · simp [runF, runI, runFr, startE, sSeq, sSet, sExpr, sRet, sRetN, sIf, sForE, mIf, mTru, mBool, mNotB, mAndB, mOrB, mCallF, mCall, aCons, aNil, var, getv, cst, mOp, mUn, mTup, mLst, mAnd, mOr, gSet, gOwn, gTpl, gsCons, gsNil, iSq, mDict0, R.bind, R.opt, R.nox, truD, tru, asB, m__law_tells, b__law_tells, sNil, it_list, f1 q]
  · simp [runF, runI, runFr, startE, sSeq, sSet, sExpr, sRet, sRetN, sIf, sForE, mIf, mTru, mBool, mNotB, mAndB, mOrB, mCallF, mCall, aCons, aNil, var, getv, cst, mOp, mUn, mTup, mLst, mAnd, mOr, gSet, gOwn, gTpl, gsCons, gsNil, iSq, mDict0, R.bind, R.opt, R.nox, truD, tru, asB, m__law_tells, b__law_tells, sNil, it_list, (t1 q).1]
end Lw
namespace Lw
open PySem Kn Dt Dt.R
open L2 (Key)
theorem nn6 {t : T} (h : t ∈ pool6) : Nn t := by
  rcases pool6_cases h with h | rfl
  · exact (good_pool h).1
  · trivial
def bTold : MS := (sSeq (sSet (gSet 8) (mCallF m_tells_equal (aCons (var 0) (aCons (var 5) (aCons (var 6) aNil))))) (sSeq (sSet (gSet 9) (mCallF m_tells_unlike (aCons (var 0) (aCons (var 5) (aCons (var 6) aNil))))) (sSeq (sIf (mOrB (mNotB (mTru (mCallF (m__law_same 12) (aCons (var 8) (aCons (mCallF m__law_tells (aCons (var 1) (aCons (mLst (aCons (cst (.int 0)) (aCons (cst (.int 1)) (aCons (cst (.int 2)) aNil)))) (aCons (var 5) (aCons (var 6) (aCons (cst (.bool true)) aNil)))))) aNil))))) (mNotB (mTru (mCallF (m__law_same 12) (aCons (var 9) (aCons (mCallF m__law_tells (aCons (var 1) (aCons (mLst (aCons (cst (.int 0)) (aCons (cst (.int 1)) (aCons (cst (.int 2)) aNil)))) (aCons (var 5) (aCons (var 6) (aCons (cst (.bool false)) aNil)))))) aNil)))))) (sRet (cst (.bool false))) sNil) (sSeq (sIf (mAndB (mTru (var 8)) (mAndB (mTru (var 9)) (mNotB (mTru (var 4))))) (sRet (cst (.bool false))) sNil) (sPutT 3 (mTup (aCons (var 8) (aCons (var 9) aNil))) (aCons (var 5) (aCons (var 6) aNil)))))))
theorem told_step {k : Kw} (hp : InPool k) (F : Fit4 k) {x y : T} (hx : x ∈ pool6) (hy : y ∈ pool6) (ps : Ps) (hz : ps.length ≤ 1000) (hn : (x, y) ∉ ps) (o7 o8 o9 : Option D) :
    bTold [some (knD k), some (.list ((wlds k).map rowD)), some (.list (pool6.map kD)), some (.dict (tH :: tdE k ps)), some (.bool (decide (wlds k = []))), some (kD x), some (kD y), o7, o8, o9] = .ok (.nx, [some (knD k), some (.list ((wlds k).map rowD)), some (.list (pool6.map kD)), some (.dict (tH :: tdE k (ps ++ [(x, y)]))), some (.bool (decide (wlds k = []))), some (kD x), some (kD y), o7, some (.bool (telEq k x y)), some (.bool (telUn k x y))]) := by
  have e1 := m_teq k x y (by have := F.e; omega) F.g.nn
  have e2 := m_tun k x y (by have := F.e; omega) F.g.nn (nn6 hx) (nn6 hy)
  have ae : ∀ w ∈ wlds k, w ∈ allW := fun w h => (mem_wlds.mp h).1
  have t1 := m_tells6 ae hx hy true
  have t2 := m_tells6 ae hx hy false
  rw [← (tells6 hp hx hy).1] at t1
  rw [← (tells6 hp hx hy).2] at t2
  have pt := put_td k hn
  unfold bTold
  refine Eq.trans (St.seq (St.set (St.callF (St.ac (St.vr rfl) (St.ac (St.vr rfl) (St.a1 (St.vr rfl)))) e1) rfl)) ?_
  refine Eq.trans (St.seq (St.set (St.callF (St.ac (St.vr rfl) (St.ac (St.vr rfl) (St.a1 (St.vr rfl)))) e2) rfl)) ?_
  refine Eq.trans (St.seq (St.pass (St.orf (St.nt (St.trB (St.callF (St.ac (St.vr rfl) (St.a1 (St.callF (St.ac (St.vr rfl) (St.ac (show mLst _ _ = .ok (unL, _) from rfl) (St.ac (St.vr rfl) (St.ac (St.vr rfl) (St.a1 St.cs))))) t1))) (same_bool _)))) (St.nt (St.trB (St.callF (St.ac (St.vr rfl) (St.a1 (St.callF (St.ac (St.vr rfl) (St.ac (show mLst _ _ = .ok (unL, _) from rfl) (St.ac (St.vr rfl) (St.ac (St.vr rfl) (St.a1 St.cs))))) t2))) (same_bool _))))))) ?_
  have no : (telEq k x y && (telUn k x y && !decide (wlds k = []))) = false := by
    cases h1 : telEq k x y
    · rfl
    · cases h2 : telUn k x y
      · rfl
      · rw [told_both hp hx hy h1 h2]; rfl
  have t := St.mand (St.trB (St.vr (ρ := [some (knD k), some (.list ((wlds k).map rowD)), some (.list (pool6.map kD)), some (.dict (tH :: tdE k ps)), some (.bool (decide (wlds k = []))), some (kD x), some (kD y), o7, some (.bool (telEq k x y)), some (.bool (telUn k x y))]) (i := 8) (d := .bool (telEq k x y)) rfl)) (St.mand (St.trB (St.vr (i := 9) (d := .bool (telUn k x y)) rfl)) (St.nt (St.trB (St.vr (i := 4) (d := .bool (decide (wlds k = []))) rfl))))
  rw [no] at t
  refine Eq.trans (St.seq (St.pass t)) ?_
  refine Eq.trans (St.putT (es := tdE k ps) (ks := [x, y]) (St.tup (St.ac (St.vr rfl) (St.a1 (St.vr rfl))) (show 2 ≤ 1000 from by decide)) (St.ac (St.vr rfl) (St.a1 (St.vr rfl))) rfl (keysOf_kD [x, y]) (by unfold tdE; rw [List.length_map]; omega) (show 2 ≤ 1000 from by decide)) ?_
  show R.ok (Fl.nx, [some (knD k), some (.list ((wlds k).map rowD)), some (.list (pool6.map kD)), some (.dict (tH :: tput (tdE k ps) [x, y] (valT k (x, y)))), some (.bool (decide (wlds k = []))), some (kD x), some (kD y), o7, some (.bool (telEq k x y)), some (.bool (telUn k x y))]) = _
  rw [show tput (tdE k ps) [x, y] (valT k (x, y)) = tdE k (ps ++ [(x, y)]) from pt]
end Lw

set_option Elab.async false
set_option linter.all false
set_option maxRecDepth 100000
set_option autoImplicit false
namespace Lw
open PySem Kn Dt Dt.R
open L2 (Key)
theorem it_pool6 : items (.list (pool6.map kD)) = some (pool6.map kD) := rfl
theorem row_loop {k : Kw} (hp : InPool k) (F : Fit4 k) {x : T} (hx : x ∈ pool6) (ps : Ps) (hz : ps.length ≤ 900) (rest : Ps) (ha : ps ++ (row6 x ++ rest) = all6) (o6 o7 o8 o9 : Option D) :
    ∃ o6' o8' o9', sForE (iSq (var 2)) (gSet 6) bTold [some (knD k), some (.list ((wlds k).map rowD)), some (.list (pool6.map kD)), some (.dict (tH :: tdE k ps)), some (.bool (decide (wlds k = []))), some (kD x), o6, o7, o8, o9] = .ok (.nx, [some (knD k), some (.list ((wlds k).map rowD)), some (.list (pool6.map kD)), some (.dict (tH :: tdE k (ps ++ row6 x))), some (.bool (decide (wlds k = []))), some (kD x), o6', o7, o8', o9']) := by
  obtain ⟨ρ', h1, _, qs, o6', o8', o9', rfl, _, hq⟩ := for_all (g := gSet 6) (b := bTold) (enc := kD)
    (I := fun l ρ => (∀ y ∈ l, y ∈ pool6) ∧ ∃ qs o6 o8 o9, ρ = [some (knD k), some (.list ((wlds k).map rowD)), some (.list (pool6.map kD)), some (.dict (tH :: tdE k qs)), some (.bool (decide (wlds k = []))), some (kD x), o6, o7, o8, o9] ∧ qs.length + l.length ≤ 1000 ∧ qs ++ l.map (fun y => (x, y)) = ps ++ row6 x)
    (fun y l ρ h => by
      obtain ⟨hl, qs, o6, o8, o9, rfl, hs, hq⟩ := h
      rw [List.length_cons] at hs
      have nd := all6_nodup
      rw [← ha, ← List.append_assoc, ← hq, List.map_cons, List.append_assoc] at nd
      have hn : (x, y) ∉ qs := fun m => (List.nodup_append.mp nd).2.2 _ m _ (List.mem_append_left _ List.mem_cons_self) rfl
      have e := told_step hp F hx (hl y List.mem_cons_self) qs (by omega) hn o7 o8 o9
      refine ⟨_, _, rfl, .inl e, fun z hz => hl z (List.mem_cons_of_mem _ hz), _, _, _, _, rfl, by rw [List.length_append, List.length_singleton]; omega, ?_⟩
      rw [← hq, List.map_cons, List.append_assoc]
      rfl)
    (xs := pool6) (ρ := [some (knD k), some (.list ((wlds k).map rowD)), some (.list (pool6.map kD)), some (.dict (tH :: tdE k ps)), some (.bool (decide (wlds k = []))), some (kD x), o6, o7, o8, o9]) ⟨fun _ h => h, ps, o6, o8, o9, rfl, by have : pool6.length = 6 := rfl; omega, rfl⟩
  have hq : qs = ps ++ row6 x := by simpa using hq
  subst hq
  exact ⟨o6', o8', o9', St.fr (St.it (St.vr rfl) it_pool6) h1⟩
def bThird : MS := (sIf (mAndB (mTru (mOp dIxA (eGetT (var 3) (aCons (var 5) (aCons (var 6) aNil))) (cst (.int 0)))) (mBool (mOp dNe (eGetT (var 3) (aCons (var 6) (aCons (var 7) aNil))) (eGetT (var 3) (aCons (var 5) (aCons (var 7) aNil)))))) (sRet (cst (.bool false))) sNil)
def bPair : MS := (sSeq (sIf (mBool (mOp dNe (eGetT (var 3) (aCons (var 5) (aCons (var 6) aNil))) (eGetT (var 3) (aCons (var 6) (aCons (var 5) aNil))))) (sRet (cst (.bool false))) sNil) (sForE (iSq (var 2)) (gSet 7) bThird))
theorem ne_val (a b : Bool) : dNe (.tuple [.bool a, .bool b]) (.tuple [.bool a, .bool b]) = some (.bool false) := by cases a <;> cases b <;> rfl
theorem pair_step {k : Kw} (hp : InPool k) {x y : T} (hx : x ∈ pool6) (hy : y ∈ pool6) (o4 o7 o8 o9 : Option D) :
    ∃ o7', bPair [some (knD k), some (.list ((wlds k).map rowD)), some (.list (pool6.map kD)), some (.dict (tH :: tdE k all6)), o4, some (kD x), some (kD y), o7, o8, o9] = .ok (.nx, [some (knD k), some (.list ((wlds k).map rowD)), some (.list (pool6.map kD)), some (.dict (tH :: tdE k all6)), o4, some (kD x), some (kD y), o7', o8, o9]) := by
  have lxy := look_td k (mem_all6.mpr ⟨hx, hy⟩)
  have lyx := look_td k (mem_all6.mpr ⟨hy, hx⟩)
  have sy : valT k (y, x) = valT k (x, y) := by
    unfold valT
    rw [telEq_symm, telUn_symm]
  rw [sy] at lyx
  have nv : dNe (valT k (x, y)) (valT k (x, y)) = some (.bool false) := ne_val _ _
  have s1 : sIf (mBool (mOp dNe (eGetT (var 3) (aCons (var 5) (aCons (var 6) aNil))) (eGetT (var 3) (aCons (var 6) (aCons (var 5) aNil))))) (sRet (cst (.bool false))) sNil [some (knD k), some (.list ((wlds k).map rowD)), some (.list (pool6.map kD)), some (.dict (tH :: tdE k all6)), o4, some (kD x), some (kD y), o7, o8, o9] = .ok (.nx, [some (knD k), some (.list ((wlds k).map rowD)), some (.list (pool6.map kD)), some (.dict (tH :: tdE k all6)), o4, some (kD x), some (kD y), o7, o8, o9]) :=
    St.pass (St.bl (St.op (St.getT (St.vr rfl) (St.ac (St.vr rfl) (St.a1 (St.vr rfl))) (keysOf_kD [x, y]) (show 2 ≤ 1000 from by decide) lxy) (St.getT (St.vr rfl) (St.ac (St.vr rfl) (St.a1 (St.vr rfl))) (keysOf_kD [y, x]) (show 2 ≤ 1000 from by decide) lyx) nv))
  obtain ⟨ρ', h1, _, o7', rfl⟩ := for_all (g := gSet 7) (b := bThird) (enc := kD)
    (I := fun l ρ => (∀ z ∈ l, z ∈ pool6) ∧ ∃ o7, ρ = [some (knD k), some (.list ((wlds k).map rowD)), some (.list (pool6.map kD)), some (.dict (tH :: tdE k all6)), o4, some (kD x), some (kD y), o7, o8, o9])
    (fun z l ρ h => by
      obtain ⟨hl, o7, rfl⟩ := h
      have hz := hl z List.mem_cons_self
      have lyz := look_td k (mem_all6.mpr ⟨hy, hz⟩)
      have lxz := look_td k (mem_all6.mpr ⟨hx, hz⟩)
      have g0 : ∀ a b c : T, (a, b) ∈ all6 → ∀ (i j : Nat), getv [some (knD k), some (.list ((wlds k).map rowD)), some (.list (pool6.map kD)), some (.dict (tH :: tdE k all6)), o4, some (kD x), some (kD y), some (kD z), o8, o9] i = some (kD a) → getv [some (knD k), some (.list ((wlds k).map rowD)), some (.list (pool6.map kD)), some (.dict (tH :: tdE k all6)), o4, some (kD x), some (kD y), some (kD z), o8, o9] j = some (kD b) →
          eGetT (var 3) (aCons (var i) (aCons (var j) aNil)) [some (knD k), some (.list ((wlds k).map rowD)), some (.list (pool6.map kD)), some (.dict (tH :: tdE k all6)), o4, some (kD x), some (kD y), some (kD z), o8, o9] = .ok (valT k (a, b), [some (knD k), some (.list ((wlds k).map rowD)), some (.list (pool6.map kD)), some (.dict (tH :: tdE k all6)), o4, some (kD x), some (kD y), some (kD z), o8, o9]) := fun a b c hab i j hi hj =>
        St.getT (St.vr rfl) (St.ac (St.vr hi) (St.a1 (St.vr hj))) (keysOf_kD [a, b]) (show 2 ≤ 1000 from by decide) (look_td k hab)
      refine ⟨[some (knD k), some (.list ((wlds k).map rowD)), some (.list (pool6.map kD)), some (.dict (tH :: tdE k all6)), o4, some (kD x), some (kD y), some (kD z), o8, o9], [some (knD k), some (.list ((wlds k).map rowD)), some (.list (pool6.map kD)), some (.dict (tH :: tdE k all6)), o4, some (kD x), some (kD y), some (kD z), o8, o9], rfl, .inl ?_, fun w hw => hl w (List.mem_cons_of_mem _ hw), _, rfl⟩
      have e1 := g0 x y z (mem_all6.mpr ⟨hx, hy⟩) 5 6 rfl rfl
      have f1 : mTru (mOp dIxA (eGetT (var 3) (aCons (var 5) (aCons (var 6) aNil))) (cst (.int 0))) [some (knD k), some (.list ((wlds k).map rowD)), some (.list (pool6.map kD)), some (.dict (tH :: tdE k all6)), o4, some (kD x), some (kD y), some (kD z), o8, o9] = .ok (telEq k x y, [some (knD k), some (.list ((wlds k).map rowD)), some (.list (pool6.map kD)), some (.dict (tH :: tdE k all6)), o4, some (kD x), some (kD y), some (kD z), o8, o9]) := St.trB (St.op e1 St.cs rfl)
      cases q : telEq k x y
      · rw [q] at f1
        exact St.pass (St.anF f1)
      · rw [q] at f1
        have th := told_third hp hx hy hz q
        have sv : valT k (y, z) = valT k (x, z) := by
          unfold valT
          rw [th.1, th.2]
        have e2 := g0 y z z (mem_all6.mpr ⟨hy, hz⟩) 6 7 rfl rfl
        have e3 := g0 x z z (mem_all6.mpr ⟨hx, hz⟩) 5 7 rfl rfl
        rw [sv] at e2
        exact St.pass (St.anT f1 (St.bl (St.op e2 e3 (ne_val _ _)))))
    (xs := pool6) (ρ := [some (knD k), some (.list ((wlds k).map rowD)), some (.list (pool6.map kD)), some (.dict (tH :: tdE k all6)), o4, some (kD x), some (kD y), o7, o8, o9]) ⟨fun _ h => h, o7, rfl⟩
  refine ⟨o7', ?_⟩
  unfold bPair
  rw [St.seq s1]
  exact St.fr (St.it (St.vr rfl) it_pool6) h1
theorem m_toldR {k : Kw} (hp : InPool k) (F : Fit4 k) : m__law_is_told_right [knD k, .list ((wlds k).map rowD)] = .ok (.bool true) := by
  have hb := m_broken k (by have := F.e; omega) F.g.nn
  rw [broken_wlds hp] at hb
  have eq0 := eq_rows (wlds k) []
  obtain ⟨ρ1, h1, _, ps, o5, o6, o7, o8, o9, rfl, _, hps⟩ := for_all (g := gSet 5) (b := sForE (iSq (var 2)) (gSet 6) bTold) (enc := kD)
    (I := fun l ρ => (∀ x ∈ l, x ∈ pool6) ∧ ∃ ps o5 o6 o7 o8 o9, ρ = [some (knD k), some (.list ((wlds k).map rowD)), some (.list (pool6.map kD)), some (.dict (tH :: tdE k ps)), some (.bool (decide (wlds k = []))), o5, o6, o7, o8, o9] ∧ ps.length + 6 * l.length ≤ 900 ∧ ps ++ l.flatMap row6 = all6)
    (fun x l ρ h => by
      obtain ⟨hl, ps, o5, o6, o7, o8, o9, rfl, hs, hq⟩ := h
      rw [List.length_cons] at hs
      rw [List.flatMap_cons] at hq
      obtain ⟨o6', o8', o9', e⟩ := row_loop hp F (hl x List.mem_cons_self) ps (by omega) _ hq o6 o7 o8 o9
      exact ⟨_, _, rfl, .inl e, fun z hz => hl z (List.mem_cons_of_mem _ hz), _, _, _, _, _, _, rfl, by rw [List.length_append]; have : (row6 x).length = 6 := rfl; omega, by rw [List.append_assoc]; exact hq⟩)
    (xs := pool6) (ρ := [some (knD k), some (.list ((wlds k).map rowD)), some (.list (pool6.map kD)), some (.dict [tH]), some (.bool (decide (wlds k = []))), none, none, none, none, none]) ⟨fun _ h => h, [], none, none, none, none, none, rfl, by decide, rfl⟩
  have hps : ps = all6 := by simpa using hps
  subst hps
  obtain ⟨ρ2, h2, _, p5, p6, p7, rfl⟩ := for_all (g := gTpl 2 (gsCons (gSet 5) (gsCons (gSet 6) gsNil))) (b := bPair) (enc := pairD)
    (I := fun l ρ => (∀ p ∈ l, p ∈ all6) ∧ ∃ o5 o6 o7, ρ = [some (knD k), some (.list ((wlds k).map rowD)), some (.list (pool6.map kD)), some (.dict (tH :: tdE k all6)), some (.bool (decide (wlds k = []))), o5, o6, o7, o8, o9])
    (fun p l ρ h => by
      obtain ⟨hl, o5, o6, o7, rfl⟩ := h
      have m := mem_all6.mp (show (p.1, p.2) ∈ all6 from hl p List.mem_cons_self)
      obtain ⟨o7', e⟩ := pair_step hp m.1 m.2 (some (.bool (decide (wlds k = [])))) o7 o8 o9
      exact ⟨_, _, rfl, .inl e, fun z hz => hl z (List.mem_cons_of_mem _ hz), _, _, _, rfl⟩)
    (xs := all6) (ρ := [some (knD k), some (.list ((wlds k).map rowD)), some (.list (pool6.map kD)), some (.dict (tH :: tdE k all6)), some (.bool (decide (wlds k = []))), o5, o6, o7, o8, o9]) ⟨fun _ h => h, o5, o6, o7, rfl⟩
  have kl : (tdE k all6).length ≤ sizeLine := by
    unfold tdE
    rw [List.length_map, sizeN]
    have : all6.length = 36 := by decide +kernel
    omega
  have s2 : sLkT 3 (sForE (iKyT 3) (gTpl 2 (gsCons (gSet 5) (gsCons (gSet 6) gsNil))) bPair) [some (knD k), some (.list ((wlds k).map rowD)), some (.list (pool6.map kD)), some (.dict (tH :: tdE k all6)), some (.bool (decide (wlds k = []))), o5, o6, o7, o8, o9] = .ok (.nx, [some (knD k), some (.list ((wlds k).map rowD)), some (.list (pool6.map kD)), some (.dict (tH :: tdE k all6)), some (.bool (decide (wlds k = []))), p5, p6, p7, o8, o9]) := by
    have i1 : iKyT 3 [some (knD k), some (.list ((wlds k).map rowD)), some (.list (pool6.map kD)), some (.dict (tH :: tdE k all6)), some (.bool (decide (wlds k = []))), o5, o6, o7, o8, o9] = .ok (all6.map pairD, [some (knD k), some (.list ((wlds k).map rowD)), some (.list (pool6.map kD)), some (.dict (tH :: tdE k all6)), some (.bool (decide (wlds k = []))), o5, o6, o7, o8, o9]) := by
      unfold iKyT
      show (R.bind (R.ok (tdE k all6)) _) = _
      show (if (tdE k all6).length ≤ sizeLine then R.ok (keysD (tdE k all6), _) else .no) = _
      rw [if_pos kl, keys_td]
    have f := St.fr (g := gTpl 2 (gsCons (gSet 5) (gsCons (gSet 6) gsNil))) (b := bPair) i1 h2
    unfold sLkT
    show (R.bind (R.ok (tdE k all6)) _) = _
    show (sForE (iKyT 3) _ bPair _).nox = _
    rw [f]
    rfl
  have fin : ∃ ρ1, b__law_is_told_right [some (knD k), some (.list ((wlds k).map rowD)), none, none, none, none, none, none, none, none] = .ok (.rt (.bool true), ρ1) := by
    apply Exists.intro
    unfold b__law_is_told_right
    refine Eq.trans (St.seq (St.set (show mLst _ _ = .ok (.list (pool6.map kD), _) from rfl) rfl)) ?_
    refine Eq.trans (St.seq (St.set (show mDictT _ = .ok (.dict [tH], _) from rfl) rfl)) ?_
    refine Eq.trans (St.seq (St.set (St.op (St.vr rfl) (show mLst aNil _ = .ok (.list [], _) from rfl) eq0) rfl)) ?_
    refine Eq.trans (St.seq (St.pass (St.nt (St.trB (St.callF (St.ac (St.callF (St.a1 (St.vr rfl)) hb) (St.a1 (St.vr rfl))) (same_bool _)))))) ?_
    refine Eq.trans (St.seq (St.fr (St.it (St.vr rfl) it_pool6) h1)) ?_
    refine Eq.trans (St.seq s2) ?_
    exact St.ret St.cs
  obtain ⟨ρ1, fin⟩ := fin
  exact St.runF_rt rfl fin
end Lw

set_option Elab.async false
set_option linter.all false
set_option maxRecDepth 100000
set_option autoImplicit false
namespace Kn
open PySem Dt Dt.R
theorem wlds_iff {k l : Kw} : wlds k = wlds l ↔ ∀ w ∈ allW, Sat w k ↔ Sat w l := by
  constructor
  · intro h w hw
    constructor
    · intro s
      have : w ∈ wlds k := mem_wlds.mpr ⟨hw, s⟩
      rw [h] at this
      exact (mem_wlds.mp this).2
    · intro s
      have : w ∈ wlds l := mem_wlds.mpr ⟨hw, s⟩
      rw [← h] at this
      exact (mem_wlds.mp this).2
  · intro h
    unfold wlds
    refine List.filter_congr fun w hw => ?_
    rw [Bool.eq_iff_iff, satB_iff, satB_iff]
    exact h w hw
theorem same_wlds {k l : Kw} (hk : InPool k) (hl : InPool l) : decide (leastK k = leastK l) = decide (wlds k = wlds l) := decide_eq_decide.mpr ((same_iff hk hl).trans wlds_iff.symm)
theorem kept_all {k l : Kw} (hk : InPool k) (hl : InPool l) : telAll k l = decide ((wlds k).filter (fun w => !satB l w) = []) := by
  rw [Bool.eq_iff_iff, telAll_iff hk hl, decide_eq_true_iff, List.filter_eq_nil_iff]
  constructor
  · intro h w hw z
    have := satB_iff.mpr (h w (mem_wlds.mp hw).1 (mem_wlds.mp hw).2)
    rw [this] at z
    cases z
  · intro h w hw s
    have := h w (mem_wlds.mpr ⟨hw, s⟩)
    exact satB_iff.mp (by simpa using this)
def swp (p : T × T) : T × T := (p.2, p.1)
def turnK (k : Kw) : Kw := ((k.1.map swp).reverse, k.2.map swp ++ k.2.take 1)
theorem turn_pool {k : Kw} (hp : InPool k) : InPool (turnK k) := fun p h => by
  rcases h with h | h
  · obtain ⟨q, hq, rfl⟩ := List.mem_map.mp (List.mem_reverse.mp h)
    exact ⟨(hp q (.inl hq)).2, (hp q (.inl hq)).1⟩
  · rcases List.mem_append.mp h with h | h
    · obtain ⟨q, hq, rfl⟩ := List.mem_map.mp h
      exact ⟨(hp q (.inr hq)).2, (hp q (.inr hq)).1⟩
    · exact hp p (.inr (List.mem_of_mem_take h))
theorem turn_sat {k : Kw} {w : Row} : Sat w (turnK k) ↔ Sat w k := by
  constructor
  · rintro ⟨h1, h2⟩
    exact ⟨fun p hp => (h1 (swp p) (List.mem_reverse.mpr (List.mem_map.mpr ⟨p, hp, rfl⟩))).symm, fun p hp e => h2 (swp p) (List.mem_append_left _ (List.mem_map.mpr ⟨p, hp, rfl⟩)) e.symm⟩
  · rintro ⟨h1, h2⟩
    refine ⟨fun p hp => ?_, fun p hp => ?_⟩
    · obtain ⟨q, hq, rfl⟩ := List.mem_map.mp (List.mem_reverse.mp hp)
      exact (h1 q hq).symm
    · rcases List.mem_append.mp hp with hp | hp
      · obtain ⟨q, hq, rfl⟩ := List.mem_map.mp hp
        exact fun e => h2 q hq e.symm
      · exact h2 p (List.mem_of_mem_take hp)
end Kn
namespace Lw
open PySem Kn Dt Dt.R
open L2 (Key)
theorem tup_rows (ws : List Row) : dTuple [.list (ws.map rowD)] = some (.tuple (ws.map rowD)) := rfl
theorem take1p (ps : Ps) : dSl (psD ps) none (some 1) = some (psD (ps.take 1)) := by
  show some (PyData.tuple (cut (ps.map pairD) none (some 1))) = _
  unfold psD
  congr 2
  cases ps with
  | nil => rfl
  | cons t ts =>
    unfold cut HT.sIx
    simp
theorem add_ps (p q : Ps) (h : p.length + q.length ≤ 1000) : dAdd (psD p) (psD q) = some (psD (p ++ q)) := by
  have hw : (p.map pairD).length + (q.map pairD).length ≤ sizeLine := by rw [List.length_map, List.length_map, sizeN]; omega
  show (if (p.map pairD).length + (q.map pairD).length ≤ sizeLine then some (PyData.tuple (p.map pairD ++ q.map pairD)) else none) = _
  rw [if_pos hw]
  unfold psD
  rw [List.map_append]
theorem un_eq {g : G1} {m : ME} {ρ ρ1 : Ev} {x r : D} (h : m ρ = .ok (x, ρ1)) (hg : g x = some r) : mUn g m ρ = .ok (r, ρ1) := by
  unfold mUn; rw [h]; show (R.opt (g x)).bind _ = _; rw [hg]; rfl
def bTurn2 : MS := (sSeq (sSet (gSet 6) (mTup (aCons (mCallI 0 m__law_pairs (rAt 1 (rVal (mOp dSub (cst (.int 5)) (mOp dMulI (cst (.int 2)) (var 5))) rNil))) (aCons (mCallI 0 m__law_pairs (rAt 1 (rVal (cst (.int 4)) rNil))) aNil)))) (sSeq (sSet (gSet 7) (mCallF m__law_worlds (aCons (var 6) (aCons (mTup (aCons (cst (.int 0)) (aCons (cst (.int 1)) (aCons (cst (.int 2)) aNil)))) (aCons (var 3) aNil))))) (sSeq (sIf (mOrB (mNotB (mTru (mCallF m__law_is_told_right (aCons (var 6) (aCons (var 7) aNil))))) (mOrB (mNotB (mTru (mCallF m__law_is_class_right (aCons (var 6) (aCons (var 7) aNil))))) (mNotB (mTru (mCallF (m__law_same 12) (aCons (mCallF m_worlds_of (aCons (var 6) (aCons (mTup (aCons (cst (.int 0)) (aCons (cst (.int 1)) (aCons (cst (.int 2)) aNil)))) (aCons (var 3) aNil)))) (aCons (mCall dTuple (aCons (var 7) aNil)) aNil))))))) (sRet (cst (.bool false))) sNil) (sSeq (sIf (mNotB (mTru (mCallF (m__law_same 12) (aCons (mCallF m_same_known (aCons (var 6) (aCons (var 2) aNil))) (aCons (mOp dEq (var 7) (var 4)) aNil))))) (sRet (cst (.bool false))) sNil) (sSeq (sSet (gSet 8) (mLc false (iSq (var 7)) [10] (gSet 10) (mNotB (mTru (mCallF m__law_holds (aCons (var 2) (aCons (mTup (aCons (cst (.int 0)) (aCons (cst (.int 1)) (aCons (cst (.int 2)) aNil)))) (aCons (var 10) aNil)))))) (var 10))) (sSeq (sIf (mOrB (mNotB (mTru (mCallF (m__law_same 12) (aCons (mCallF m_tells_all (aCons (var 6) (aCons (var 2) aNil))) (aCons (mOp dEq (var 8) (mLst aNil)) aNil))))) (mBool (mOp dNotB (mCallF m_tells_all (aCons (var 6) (aCons (var 6) aNil))) (cst (.bool true))))) (sRet (cst (.bool false))) sNil) (sSeq (sSet (gSet 9) (mTup (aCons (mCall dTuple (aCons (mUn dRevL (mLc false (iSq (mOp dIxA (var 6) (cst (.int 0)))) [11, 12] (gTpl 2 (gsCons (gSet 11) (gsCons (gSet 12) gsNil))) bYes (mTup (aCons (var 12) (aCons (var 11) aNil))))) aNil)) (aCons (mOp dAdd (mCall dTuple (aCons (mLc false (iSq (mOp dIxA (var 6) (cst (.int 1)))) [11, 12] (gTpl 2 (gsCons (gSet 11) (gsCons (gSet 12) gsNil))) bYes (mTup (aCons (var 12) (aCons (var 11) aNil)))) aNil)) (mSl (mOp dIxA (var 6) (cst (.int 1))) oNone (oSome (cst (.int 1))))) aNil)))) (sSeq (sIf (mBool (mOp dNotB (mCallF m_same_known (aCons (var 9) (aCons (var 6) aNil))) (cst (.bool true)))) (sRet (cst (.bool false))) sNil) (sSeq (sSet (gSet 2) (var 6)) (sSet (gSet 4) (var 7)))))))))))
theorem turn2_step (ns xs : List Int) (i : Nat) (hi : i < 2) {b : Kw} (hb : InPool b) (B : Fit4 b) (o6 o7 o8 o9 : Option D) :
    ∃ (ys : List Int) (k : Kw) (o8' o9' : Option D), InPool k ∧ Fit4 k ∧ bTurn2 [some (scrD ns), some (intsD xs), some (knD b), some nmT, some (.list ((wlds b).map rowD)), some (.int (i : Int)), o6, o7, o8, o9, none, none, none] = .ok (.nx, [some (scrD ns), some (intsD ys), some (knD k), some nmT, some (.list ((wlds k).map rowD)), some (.int (i : Int)), some (knD k), some (.list ((wlds k).map rowD)), o8', o9', none, none, none]) := by
  have ia : ∃ m : Nat, m ≤ 5 ∧ ∀ ρ : Ev, getv ρ 5 = some (.int (i : Int)) → mOp dSub (cst (.int 5)) (mOp dMulI (cst (.int 2)) (var 5)) ρ = .ok (.int (m : Int), ρ) := by
    have : i = 0 ∨ i = 1 := by omega
    rcases this with rfl | rfl
    · exact ⟨5, by decide, fun ρ h => St.op St.cs (St.op St.cs (St.vr h) (show dMulI (.int 2) (.int 0) = some (.int 0) from rfl)) rfl⟩
    · exact ⟨3, by decide, fun ρ h => St.op St.cs (St.op St.cs (St.vr h) (show dMulI (.int 2) (.int 1) = some (.int 2) from rfl)) rfl⟩
  obtain ⟨ma, ha, ia⟩ := ia
  obtain ⟨q1, x1, l1, c1, e1⟩ := m_pairs xs ma (by omega)
  obtain ⟨q2, x2, l2, c2, e2⟩ := m_pairs x1 4 (by omega)
  have hk : InPool (q1, q2) := fun p h => h.elim (c1 p) (c2 p)
  have F : Fit4 (q1, q2) := fit_pool hk (show q1.length ≤ 400 by omega) (show q2.length ≤ 400 by omega)
  have w1 := m_lworlds hk
  have tr := m_toldR hk F
  have cr := m_classR hk F
  have wo := m_worlds hk
  have ae : ∀ w ∈ wlds (q1, q2), w ∈ allW := fun w h => (mem_wlds.mp h).1
  have rs := same_rows (ws := wlds (q1, q2)) (by have := wlds_len (q1, q2); omega) ae
  have sk := m_same F B
  rw [same_wlds hk hb] at sk
  have er := eq_rows (wlds (q1, q2)) (wlds b)
  have e8 := lc_eval (g := gSet 10) (vs := [10]) (tt := mNotB (mTru (mCallF m__law_holds (aCons (var 2) (aCons (mTup (aCons (cst (.int 0)) (aCons (cst (.int 1)) (aCons (cst (.int 2)) aNil)))) (aCons (var 10) aNil)))))) (me := var 10) (ρ := [some (scrD ns), some (intsD x2), some (knD b), some nmT, some (.list ((wlds b).map rowD)), some (.int (i : Int)), some (knD (q1, q2)), some (.list ((wlds (q1, q2)).map rowD)), o8, o9, none, none, none]) (enc := rowD) (c := fun w => !satB b w) (f := rowD) (xs := wlds (q1, q2))
    fun w hw => ⟨[some (scrD ns), some (intsD x2), some (knD b), some nmT, some (.list ((wlds b).map rowD)), some (.int (i : Int)), some (knD (q1, q2)), some (.list ((wlds (q1, q2)).map rowD)), o8, o9, some (rowD w), none, none], [some (scrD ns), some (intsD x2), some (knD b), some nmT, some (.list ((wlds b).map rowD)), some (.int (i : Int)), some (knD (q1, q2)), some (.list ((wlds (q1, q2)).map rowD)), o8, o9, some (rowD w), none, none], rfl,
      St.nt (St.trB (St.callF (St.ac (St.vr rfl) (St.ac (show mTup _ _ = .ok (unT, _) from rfl) (St.a1 (St.vr rfl)))) (m_lholds hb (ae w hw)))), fun _ => ⟨_, rfl⟩⟩
  have ta := m_tall F B
  rw [kept_all hk hb] at ta
  have ek := eq_rows ((wlds (q1, q2)).filter fun w => !satB b w) []
  have tk := m_tall F F
  rw [(telAll_iff hk hk).mpr fun _ _ s => s] at tk
  have f11 : ∀ (o8' : D) (ps : Ps), lcG false [11, 12] (gTpl 2 (gsCons (gSet 11) (gsCons (gSet 12) gsNil))) bYes (mTup (aCons (var 12) (aCons (var 11) aNil))) (ps.map pairD) [some (scrD ns), some (intsD x2), some (knD b), some nmT, some (.list ((wlds b).map rowD)), some (.int (i : Int)), some (knD (q1, q2)), some (.list ((wlds (q1, q2)).map rowD)), some o8', o9, none, none, none] = .ok ((ps.map fun p => pairD (swp p)), [some (scrD ns), some (intsD x2), some (knD b), some nmT, some (.list ((wlds b).map rowD)), some (.int (i : Int)), some (knD (q1, q2)), some (.list ((wlds (q1, q2)).map rowD)), some o8', o9, none, none, none]) := fun o8' ps =>
    lc_map fun p _ => ⟨[some (scrD ns), some (intsD x2), some (knD b), some nmT, some (.list ((wlds b).map rowD)), some (.int (i : Int)), some (knD (q1, q2)), some (.list ((wlds (q1, q2)).map rowD)), some o8', o9, none, some (kD p.1), some (kD p.2)], [some (scrD ns), some (intsD x2), some (knD b), some nmT, some (.list ((wlds b).map rowD)), some (.int (i : Int)), some (knD (q1, q2)), some (.list ((wlds (q1, q2)).map rowD)), some o8', o9, none, some (kD p.1), some (kD p.2)], rfl, St.tup (St.ac (St.vr rfl) (St.a1 (St.vr rfl))) (show 2 ≤ 1000 from by decide)⟩
  have pT := turn_pool hk
  have FT : Fit4 (turnK (q1, q2)) := fit_pool pT (by show (q1.map swp).reverse.length ≤ 400; rw [List.length_reverse, List.length_map]; omega) (by show (q2.map swp ++ q2.take 1).length ≤ 400; rw [List.length_append, List.length_map, List.length_take]; omega)
  have sT := m_same FT F
  rw [decide_eq_true (canon pT hk fun w _ => turn_sat)] at sT
  have rv : dRevL (.list (q1.map fun p => pairD (swp p))) = some (.list (((q1.map swp).reverse).map pairD)) := by
    show some (PyData.list (q1.map fun p => pairD (swp p)).reverse) = _
    rw [← List.map_reverse, ← List.map_reverse, List.map_map]
    rfl
  have t2 : dTuple [.list (q2.map fun p => pairD (swp p))] = some (psD (q2.map swp)) := by
    show some (PyData.tuple (q2.map fun p => pairD (swp p))) = _
    unfold psD
    rw [List.map_map]
    rfl
  have a2 := add_ps (q2.map swp) (q2.take 1) (by rw [List.length_map, List.length_take]; omega)
  refine ⟨x2, (q1, q2), some (.list (((wlds (q1, q2)).filter fun w => !satB b w).map rowD)), some (knD (turnK (q1, q2))), hk, F, ?_⟩
  unfold bTurn2
  refine Eq.trans (St.seq (St.set (tup2_eq (callI2 rfl (ia _ rfl) e1) (callI2 rfl St.cs e2)) rfl)) ?_
  refine Eq.trans (St.seq (St.set (St.callF (St.ac (St.vr rfl) (St.ac (show mTup _ _ = .ok (unT, _) from rfl) (St.a1 (St.vr rfl)))) w1) rfl)) ?_
  refine Eq.trans (St.seq (St.pass (St.orf (St.nt (St.trB (St.callF (St.ac (St.vr rfl) (St.a1 (St.vr rfl))) tr))) (St.orf (St.nt (St.trB (St.callF (St.ac (St.vr rfl) (St.a1 (St.vr rfl))) cr))) (St.nt (St.trB (St.callF (St.ac (St.callF (St.ac (St.vr rfl) (St.ac (show mTup _ _ = .ok (unT, _) from rfl) (St.a1 (St.vr rfl)))) wo) (St.a1 (St.call (St.a1 (St.vr rfl)) (tup_rows _)))) rs))))))) ?_
  refine Eq.trans (St.seq (St.pass (St.nt (St.trB (St.callF (St.ac (St.callF (St.ac (St.vr rfl) (St.a1 (St.vr rfl))) sk) (St.a1 (St.op (St.vr rfl) (St.vr rfl) er))) (same_bool _)))))) ?_
  refine Eq.trans (St.seq (St.set (St.lc (St.it (St.vr rfl) (it_rows _)) e8) rfl)) ?_
  refine Eq.trans (St.seq (St.pass (St.orf (St.nt (St.trB (St.callF (St.ac (St.callF (St.ac (St.vr rfl) (St.a1 (St.vr rfl))) ta) (St.a1 (St.op (St.vr rfl) (show mLst aNil _ = .ok (.list [], _) from rfl) ek))) (same_bool _)))) (St.bl (St.op (St.callF (St.ac (St.vr rfl) (St.a1 (St.vr rfl))) tk) St.cs rfl))))) ?_
  refine Eq.trans (St.seq (St.set (tup2_eq (St.call (St.a1 (un_eq (St.lc (St.it (St.op (St.vr rfl) St.cs (ixk0 (q1, q2))) (it_ps q1)) (f11 _ q1)) rv)) (tup_ps _)) (St.op (St.call (St.a1 (St.lc (St.it (St.op (St.vr rfl) St.cs (ixk1 (q1, q2))) (it_ps q2)) (f11 _ q2))) t2) (St.sl (St.op (St.vr rfl) St.cs (ixk1 (q1, q2))) (show oNone _ = .ok (none, _) from rfl) (show oSome _ _ = .ok (some 1, _) from rfl) (take1p q2)) a2)) rfl)) ?_
  refine Eq.trans (St.seq (St.pass (St.bl (St.op (St.callF (St.ac (St.vr rfl) (St.a1 (St.vr rfl))) sT) St.cs rfl)))) ?_
  refine Eq.trans (St.seq (St.set (St.vr rfl) rfl)) ?_
  exact St.set (St.vr rfl) rfl
end Lw

set_option Elab.async false
set_option linter.all false
set_option maxRecDepth 100000
set_option autoImplicit false
namespace Kn
open PySem Dt Dt.R
def clsG (k : Kw) (t : T) : List T := match (classesOf k.1).filter (fun c => decide (t ∈ c)) with
  | [] => [t]
  | c :: _ => c
end Kn
namespace Lw
open PySem Kn Dt Dt.R
open L2 (Key)
theorem m_classG {k : Kw} (hz : k.1.length ≤ 1000000) (hn : NnK k.1) {t : T} : m_class_of [knD k, kD t] = .ok (.tuple ((clsG k t).map kD)) := by
  have e1 := m_classes k hz hn
  have e2 := lc_eval (g := gSet 3) (vs := [3]) (tt := mBool (mOp dInA (var 1) (var 3))) (me := var 3) (ρ := [some (knD k), some (kD t), none, none]) (enc := tpD kD) (c := fun c => decide (t ∈ c)) (f := tpD kD) (xs := classesOf k.1)
    fun c _ => ⟨[some (knD k), some (kD t), none, some (tpD kD c)], [some (knD k), some (kD t), none, some (tpD kD c)], rfl, St.bl (St.op (St.vr rfl) (St.vr rfl) (code_kD.inT (by decide) c t)), fun _ => ⟨_, rfl⟩⟩
  have fin : ∃ ρ1, b_class_of [some (knD k), some (kD t), none, none] = .ok (.rt (.tuple ((clsG k t).map kD)), ρ1) := by
    refine ⟨[some (knD k), some (kD t), some (.list (((classesOf k.1).filter fun c => decide (t ∈ c)).map (tpD kD))), none], ?_⟩
    unfold b_class_of
    refine Eq.trans (St.seq (St.set (St.lc (St.it (St.callF (St.a1 (St.vr rfl)) e1) (it_cls k)) e2) rfl)) ?_
    refine St.ret ?_
    unfold clsG
    cases q : (classesOf k.1).filter (fun c => decide (t ∈ c)) with
    | nil => exact St.mif_f (St.bl (St.op (St.call (St.a1 (St.vr rfl)) (dLen_list [])) St.cs rfl)) (St.tup (St.a1 (St.vr rfl)) (show 1 ≤ 1000 from by decide))
    | cons c cs =>
      exact St.mif_t (St.bl (St.op (St.call (St.a1 (St.vr rfl)) (dLen_list _)) St.cs (gt_list (tpD kD) c cs))) (St.op (St.vr rfl) St.cs (show dIxA (.list (tpD kD c :: cs.map (tpD kD))) (.int 0) = some (.tuple (c.map kD)) from by
        show dIx (.list (tpD kD c :: cs.map (tpD kD))) (.int 0) = _
        simp [dIx, L2.atI, L2.ixN, tpD]))
  obtain ⟨ρ1, fin⟩ := fin
  exact St.runF_rt rfl fin
def k3 : Kw := ([(.inl 0, .inl 1), (.inl 1, .inr "a")], [(.inl 2, .inl 0), (.inl 3, .inr "b")])
def k2 : Kw := ([(.inl 0, .inr "a"), (.inl 0, .inr "b")], [])
def k4 : Kw := ([(.inl 0, .inl 1)], [(.inl 1, .inl 0)])
def k5 : Kw := ([], [(.inl 0, .inl 0)])
def k6 : Kw := ([(.inl 0, .inl 1)], [(.inl 0, .inr "a")])
theorem y1 : telEq k3 (.inl 0) (.inr "a") = true := by
  simp only [telEq, broken, classesOf, big, inOrd, nmsIn, once, srt_isrt]
  decide +kernel
theorem y2 : telUn k3 (.inl 2) (.inl 1) = true := by
  simp only [telUn, withP, broken, classesOf, big, inOrd, nmsIn, once, srt_isrt]
  decide +kernel
theorem y3 : telUn k3 (.inl 0) (.inr "b") = true := by
  simp only [telUn, withP, broken, classesOf, big, inOrd, nmsIn, once, srt_isrt]
  decide +kernel
theorem y4 : telEq k3 (.inl 2) (.inl 3) = false := by
  simp only [telEq, broken, classesOf, big, inOrd, nmsIn, once, srt_isrt]
  decide +kernel
theorem y5 : clsG k3 (.inl 1) = [.inl 0, .inl 1, .inr "a"] := by
  simp only [clsG, classesOf, big, inOrd, srt_isrt]
  decide +kernel
theorem y6 : repK k3 (.inl 0) = .inr "a" := by
  simp only [repK, tab, mark, toldOf, least, broken, classesOf, big, inOrd, nmsIn, once, srt_isrt]
  decide +kernel
theorem y7 : repK k3 (.inl 2) = .inl 2 := by
  simp only [repK, tab, mark, toldOf, least, broken, classesOf, big, inOrd, nmsIn, once, srt_isrt]
  decide +kernel
theorem y8 : broken k3 = false := by
  simp only [broken, classesOf, big, inOrd, nmsIn, once, srt_isrt]
  decide +kernel
theorem y9 : broken k2 = true := by
  simp only [broken, classesOf, big, inOrd, nmsIn, once, srt_isrt]
  decide +kernel
theorem y10 : broken k4 = true := by
  simp only [broken, classesOf, big, inOrd, nmsIn, once, srt_isrt]
  decide +kernel
theorem y11 : broken k5 = true := by
  simp only [broken, classesOf, big, inOrd, nmsIn, once, srt_isrt]
  decide +kernel
theorem y12 : telUn ([], []) (.inr "a") (.inr "b") = true := by
  simp only [telUn, withP, broken, classesOf, big, inOrd, nmsIn, once, srt_isrt]
  decide +kernel
theorem y13 : repK k2 (.inr "b") = .inl 0 := by
  simp only [repK, tab, mark, toldOf, least, broken, classesOf, big, inOrd, nmsIn, once, srt_isrt]
  decide +kernel
theorem pool_dec {k : Kw} (h : (k.1 ++ k.2).all (fun p => decide (p.1 ∈ pool) && decide (p.2 ∈ pool)) = true) : InPool k := fun p hp => by
  have := List.all_eq_true.mp h p (List.mem_append.mpr hp)
  rw [Bool.and_eq_true, decide_eq_true_iff, decide_eq_true_iff] at this
  exact this
theorem good_of {k : Kw} (h : ∀ p ∈ k.1 ++ k.2, Good p.1 ∧ Good p.2) : GoodK k := fun x hx => by
  rcases hx with ⟨p, hp, e | e⟩ | ⟨p, hp, e | e⟩
  · exact e ▸ (h p (List.mem_append_left _ hp)).1
  · exact e ▸ (h p (List.mem_append_left _ hp)).2
  · exact e ▸ (h p (List.mem_append_right _ hp)).1
  · exact e ▸ (h p (List.mem_append_right _ hp)).2
theorem good3 : Good (.inl 3) := ⟨(by decide : (0 : Int) ≤ 3), rfl⟩
theorem F3 : Fit4 k3 := ⟨by decide, by decide, good_of fun p hp => by
  have g : ∀ t ∈ pool, Good t := fun t h => good_pool h
  have hp : p = (.inl 0, .inl 1) ∨ p = (.inl 1, .inr "a") ∨ p = (.inl 2, .inl 0) ∨ p = (.inl 3, .inr "b") := by simpa [k3] using hp
  rcases hp with rfl | rfl | rfl | rfl
  · exact ⟨g _ (by decide), g _ (by decide)⟩
  · exact ⟨g _ (by decide), g _ (by decide)⟩
  · exact ⟨g _ (by decide), g _ (by decide)⟩
  · exact ⟨good3, g _ (by decide)⟩⟩
theorem F2 : Fit4 k2 := fit_pool (pool_dec (by decide)) (by decide) (by decide)
theorem F4 : Fit4 k4 := fit_pool (pool_dec (by decide)) (by decide) (by decide)
theorem F5 : Fit4 k5 := fit_pool (pool_dec (by decide)) (by decide) (by decide)
theorem FE : Fit4 ([], []) := fit_pool (pool_dec (by decide)) (by decide) (by decide)
theorem teq_is {k : Kw} (F : Fit4 k) {x y : T} {b : Bool} (e : telEq k x y = b) : m_tells_equal [knD k, kD x, kD y] = .ok (.bool b) := by
  rw [← e]
  exact m_teq k x y (by have := F.e; omega) F.g.nn
theorem tun_is {k : Kw} (F : Fit4 k) {x y : T} (hx : Nn x) (hy : Nn y) {b : Bool} (e : telUn k x y = b) : m_tells_unlike [knD k, kD x, kD y] = .ok (.bool b) := by
  rw [← e]
  exact m_tun k x y (by have := F.e; omega) F.g.nn hx hy
theorem bro_is {k : Kw} (F : Fit4 k) {b : Bool} (e : broken k = b) : m_is_broken [knD k] = .ok (.bool b) := by
  rw [← e]
  exact m_broken k (by have := F.e; omega) F.g.nn
theorem rep_is {k : Kw} (F : Fit4 k) {t u : T} (e : repK k t = u) : m_told_term [knD k, kD t] = .ok (kD u) := by
  rw [← e]
  exact m_toldterm F
theorem aw2 : m_all_worlds [.int 2, .tuple [.str "a", .str "b"]] = .ok (.list [.tuple [.str "a", .str "a"], .tuple [.str "a", .str "b"], .tuple [.str "b", .str "a"], .tuple [.str "b", .str "b"]]) := by kernel_rfl
theorem wo2 : m_worlds_of [knD k6, .tuple [.int 0, .int 1], .tuple [.str "a", .str "b"]] = .ok (.tuple [.tuple [.str "b", .str "b"]]) := by
  have e1 := aw2
  have e2 : lcG false [3] (gSet 3) (mTru (mCallF m_holds_in (aCons (var 0) (aCons (var 1) (aCons (var 3) aNil))))) (var 3) [.tuple [.str "a", .str "a"], .tuple [.str "a", .str "b"], .tuple [.str "b", .str "a"], .tuple [.str "b", .str "b"]] [some (knD k6), some (.tuple [.int 0, .int 1]), some (.tuple [.str "a", .str "b"]), none] = .ok ([.tuple [.str "b", .str "b"]], [some (knD k6), some (.tuple [.int 0, .int 1]), some (.tuple [.str "a", .str "b"]), none]) := by kernel_rfl
  have e3 : dSorted [.list [.tuple [.str "b", .str "b"]]] = some (.list [.tuple [.str "b", .str "b"]]) := by
    show (if keysOk [.tuple [.str "b", .str "b"]] = true then some (PyData.list (sortP [.tuple [.str "b", .str "b"]])) else none) = _
    rw [if_pos (by rfl)]
    unfold sortP
    rw [List.mergeSort_singleton]
  have st : startE 3 4 [knD k6, .tuple [.int 0, .int 1], .tuple [.str "a", .str "b"]] = [some (knD k6), some (.tuple [.int 0, .int 1]), some (.tuple [.str "a", .str "b"]), none] := rfl
  refine St.runF_rt (ρ1 := [some (knD k6), some (.tuple [.int 0, .int 1]), some (.tuple [.str "a", .str "b"]), none]) rfl ?_
  rw [st]
  unfold b_worlds_of
  exact St.ret (St.call (St.a1 (St.call (St.a1 (St.lc (St.it (St.callF (St.ac (St.call (St.a1 (St.vr rfl)) rfl) (St.a1 (St.vr rfl))) e1) rfl) e2)) e3)) rfl)
end Lw

set_option Elab.async false
set_option linter.all false
set_option maxRecDepth 100000
set_option autoImplicit false
namespace Lw
open PySem Kn Dt Dt.R
open L2 (Key)
theorem pE : InPool ([], []) := pool_dec (by decide)
theorem law_ok (ns : List Int) (h : ns.length ≤ 63) : m_law [scrD ns] = .ok (.bool true) := by
  obtain ⟨ds, hd⟩ := m_draws ns h 320 (by decide)
  have w0 := m_lworlds pE
  have t1 := teq_is F3 y1
  have t2 := tun_is F3 (good_pool (by decide)).1 (good_pool (by decide)).1 y2
  have t3 := tun_is F3 (good_pool (by decide)).1 (good_pool (by decide)).1 y3
  have t4 := teq_is F3 y4
  have t5 := m_classG (k := k3) (t := .inl 1) (by have := F3.e; omega) F3.g.nn
  rw [y5] at t5
  have t6 := rep_is F3 y6
  have t7 := rep_is F3 y7
  have t8 := bro_is F3 y8
  have t9 := bro_is F2 y9
  have t10 := bro_is F4 y10
  have t11 := bro_is F5 y11
  have t12 := tun_is FE (good_pool (by decide)).1 (good_pool (by decide)).1 y12
  have t13 := rep_is F2 y13
  obtain ⟨ρ', h1, _, xs, b, o5, o6, o7, o8, o9, _, _, rfl⟩ := for_all (g := gSet 5) (b := bTurn2) (enc := fun i : Nat => PyData.int (i : Int))
    (I := fun l ρ => (∀ i ∈ l, i < 2) ∧ ∃ xs b o5 o6 o7 o8 o9, InPool b ∧ Fit4 b ∧ ρ = [some (scrD ns), some (intsD xs), some (knD b), some nmT, some (.list ((wlds b).map rowD)), o5, o6, o7, o8, o9, none, none, none])
    (fun i l ρ h => by
      obtain ⟨hl, xs, b, o5, o6, o7, o8, o9, hb, B, rfl⟩ := h
      obtain ⟨ys, k, p8, p9, hk, K, e⟩ := turn2_step ns xs i (hl i List.mem_cons_self) hb B o6 o7 o8 o9
      exact ⟨_, _, rfl, .inl e, fun z hz => hl z (List.mem_cons_of_mem _ hz), _, _, _, _, _, _, _, hk, K, rfl⟩)
    (xs := List.range 2) (ρ := [some (scrD ns), some (intsD ds), some (knD ([], [])), some nmT, some (.list ((wlds ([], [])).map rowD)), none, none, none, none, none, none, none, none]) ⟨fun i hi => List.mem_range.mp hi, _, _, _, _, _, _, _, pE, FE, rfl⟩
  have r2 := rng_at 2 (by decide)
  have fin : ∃ ρ1, b_law [some (scrD ns), none, none, none, none, none, none, none, none, none, none, none, none] = .ok (.rt (.bool true), ρ1) := by
    apply Exists.intro
    unfold b_law
    refine Eq.trans (St.seq (St.set (St.callF (St.ac (St.vr rfl) (St.a1 St.cs)) hd) rfl)) ?_
    refine Eq.trans (St.seq (St.set (show mTup _ _ = .ok (knD ([], []), _) from rfl) rfl)) ?_
    refine Eq.trans (St.seq (St.set (show mTup _ _ = .ok (nmT, _) from rfl) rfl)) ?_
    refine Eq.trans (St.seq (St.set (St.callF (St.ac (St.vr rfl) (St.ac (show mTup _ _ = .ok (unT, _) from rfl) (St.a1 (St.vr rfl)))) w0) rfl)) ?_
    refine Eq.trans (St.seq (St.fr (St.rg (St.a1 St.cs) r2) h1)) ?_
    refine Eq.trans (St.seq (St.set (show mTup _ _ = .ok (knD k3, _) from rfl) rfl)) ?_
    refine Eq.trans (St.seq (St.pass (St.orf (St.nt (St.trB (St.callF (St.ac (St.callF (St.ac (St.vr rfl) (St.ac St.cs (St.a1 St.cs))) t1) (St.a1 St.cs)) (same_bool true)))) (St.nt (St.trB (St.callF (St.ac (St.callF (St.ac (St.vr rfl) (St.ac St.cs (St.a1 St.cs))) t2) (St.a1 St.cs)) (same_bool true))))))) ?_
    refine Eq.trans (St.seq (St.pass (St.orf (St.nt (St.trB (St.callF (St.ac (St.callF (St.ac (St.vr rfl) (St.ac St.cs (St.a1 St.cs))) t3) (St.a1 St.cs)) (same_bool true)))) (St.nt (St.trB (St.callF (St.ac (St.callF (St.ac (St.vr rfl) (St.ac St.cs (St.a1 St.cs))) t4) (St.a1 St.cs)) (same_bool false))))))) ?_
    refine Eq.trans (St.seq (St.pass (St.orf (St.nt (St.trB (St.callF (St.ac (St.callF (St.ac (St.vr rfl) (St.a1 St.cs)) t5) (St.a1 (show mTup _ _ = .ok (.tuple (([.inl 0, .inl 1, .inr "a"] : List T).map kD), _) from rfl))) (same_kDs _ (by decide))))) (St.orf (St.nt (St.trB (St.callF (St.ac (St.callF (St.ac (St.vr rfl) (St.a1 St.cs)) t6) (St.a1 St.cs)) (same_kD (.inr "a"))))) (St.orf (St.nt (St.trB (St.callF (St.ac (St.callF (St.ac (St.vr rfl) (St.a1 St.cs)) t7) (St.a1 St.cs)) (same_kD (.inl 2))))) (St.nt (St.trB (St.callF (St.ac (St.callF (St.a1 (St.vr rfl)) t8) (St.a1 St.cs)) (same_bool false))))))))) ?_
    refine Eq.trans (St.seq (St.pass (St.orf (St.nt (St.trB (St.callF (St.ac (St.callF (St.a1 (show mTup _ _ = .ok (knD k2, _) from rfl)) t9) (St.a1 St.cs)) (same_bool true)))) (St.orf (St.nt (St.trB (St.callF (St.ac (St.callF (St.a1 (show mTup _ _ = .ok (knD k4, _) from rfl)) t10) (St.a1 St.cs)) (same_bool true)))) (St.nt (St.trB (St.callF (St.ac (St.callF (St.a1 (show mTup _ _ = .ok (knD k5, _) from rfl)) t11) (St.a1 St.cs)) (same_bool true)))))))) ?_
    refine Eq.trans (St.seq (St.pass (St.nt (St.trB (St.callF (St.ac (St.callF (St.ac (show mTup _ _ = .ok (knD k6, _) from rfl) (St.ac (show mTup _ _ = .ok (.tuple [.int 0, .int 1], _) from rfl) (St.a1 (show mTup _ _ = .ok (.tuple [.str "a", .str "b"], _) from rfl)))) wo2) (St.a1 (show mTup _ _ = .ok (.tuple [.tuple [.str "b", .str "b"]], _) from rfl))) (same_ok 12 _ rfl)))))) ?_
    exact St.ret (St.andT (St.callF (St.ac (St.callF (St.ac (show mTup _ _ = .ok (knD ([], []), _) from rfl) (St.ac St.cs (St.a1 St.cs))) t12) (St.a1 St.cs)) (same_bool true)) (St.callF (St.ac (St.callF (St.ac (show mTup _ _ = .ok (knD k2, _) from rfl) (St.a1 St.cs)) t13) (St.a1 St.cs)) (same_kD (.inl 0))))
  obtain ⟨ρ1, fin⟩ := fin
  exact St.runF_rt rfl fin
end Lw

set_option maxRecDepth 100000
set_option autoImplicit false
set_option maxHeartbeats 0
namespace Lw
open PySem PySem.Spec PyProof.Rows L2 Dt Dt.R
def loose0 : List Str := ["LETTERS", "SIGNS", "is_unknown", "is_name", "term_key", "terms_key", "is_ahead", "in_order", "without_doubles", "each_once", "least_term", "names_in", "BROKEN", "class_numbers", "terms_by_class", "class_of", "classes_of", "told_of_class", "told_table", "told_term", "is_joined", "is_broken", "tells_equal", "with_pair", "tells_unlike", "pairs_in_order", "turned_in_order", "least_equal", "least_unlike", "least_known"]
def loose1 : List Str := ["same_known", "tells_all", "in_world", "holds_in", "all_worlds", "worlds_of", "_law_draws", "_law_take", "_law_same", "_law_term", "_law_pairs", "_law_name", "_law_holds", "_law_worlds", "_law_tells", "_law_is_told_right", "_law_is_class_right"]
def loose : List Str := loose0 ++ loose1
abbrev Rw : PySem.W.OpenRow := PySem.W.OpenLaw.row PySem.Challenge.rw_meetingsjoin_k02_whole_known_by_all_worl
abbrev hk : PySem.W.Hook := He.hookX 5 fal fnl [] [] exl
def ob (s : PySem.W.SharedT) : He.AlX := He.obsX 5 fal fnl [] [] exl (HandSHeadRun.getT s)
theorem ob_eq (s : PySem.W.SharedT) : ob s = hk.obs s.abs := He.obsX_eq (HandSHeadRun.getT_eq s)
theorem run (w : World) : HandSHeadRun.RunEq Rw (PySem.W.view Rw.prog [50]) hk ob 5500 loose w := by
  intro os
  kernel_rfl
theorem facts {P : Program} {w : World} {K : Fg} {h : Heap} {mg : Str → Option Value} {f : Addr} (X : K.In h) (G : h.Ns mainGlobals mg) (hfa : mg ("law" : Str) = some (.ref f)) (c : He.SaysX fal fnl [] [] exl w h K) :
    ∃ fd : FuncData, (∀ (s : Shared) (v : Value), BindsTo s fd ⟨[v], []⟩ [("script", v)]) ∧ ∀ base : Heap, K.In base → base.Ns mainGlobals mg → FnOk P w K mg base (L2.CX P w) 14 f fd ["script"] (spP K mg m_law) := by
  have Z : Fz K mg := ⟨⟨h, X, G⟩, c.t.d⟩
  have hx : exl K = true := c.more
  have Zc : Cn K mg := ⟨trivial, conB_ok X G ((He.ba (He.ba hx).1).1), conB_ok X G ((He.ba (He.ba hx).1).2), conB_ok X G ((He.ba hx).2)⟩
  have e := hfa.symm.trans (Fx.glo Z 56)
  cases e
  have b := FunD.bindsA (ps := ["script"]) (F_law Z) fun _ _ _ _ _ _ us hl => match us, hl with | [_], _ => rfl
  exact ⟨fd_law Z, fun s v => b s [v] rfl, fun base _ _ => ok_law Z Zc⟩

end Lw

open PySem PySem.W PySem.Calls PyProof.Rows
theorem PySem.Challenge.cw_meetingsjoin_k02_whole_known_by_all_worl_holds : PySem.Challenge.rw_meetingsjoin_k02_whole_known_by_all_worl.Holds := by
  w_on; o_law
  refine HandSHeadRun.head_any (r := OpenLaw.row PySem.Challenge.rw_meetingsjoin_k02_whole_known_by_all_worl) (q := view (OpenLaw.row PySem.Challenge.rw_meetingsjoin_k02_whole_known_by_all_worl).prog [50]) (H := Lw.hk) (ob := Lw.ob) (M := 5500) (loose := Lw.loose) (d := HandSHeadRun.topDef (OpenLaw.row PySem.Challenge.rw_meetingsjoin_k02_whole_known_by_all_worl).prog 50) (kwd := []) Lw.ob_eq
    (by kernel_rfl) (fun s => by kernel_rfl) Lw.run (by kernel_rfl) (by kernel_rfl) (by kernel_rfl) (by rfl) (by first | assumption | decide +kernel) (by decide +kernel) ⟨rfl, rfl, rfl, rfl, rfl, by decide +kernel⟩ ?hw ?hc
  case hw => w_witness2
  case hc =>
    refine Dt.walkW (l := PySem.Challenge.rw_meetingsjoin_k02_whole_known_by_all_worl) (m := 63) (k := 14) (y := "script") (C := fun w => L2.CX (PySem.Challenge.rw_meetingsjoin_k02_whole_known_by_all_worl).prog w) rfl (by decide) (by kernel_rfl) ⟨rfl, by decide, by decide⟩ ?F (fun w => Dt.cx_no)
    intro w mg fa h Y G hmg0
    obtain ⟨K, KX, c⟩ := Y
    have hmg : mg ("law" : PySem.Str) = some (.ref fa) := by
      have e : (HandSHeadRun.topDef (OpenLaw.row PySem.Challenge.rw_meetingsjoin_k02_whole_known_by_all_worl).prog 50).name = ("law" : PySem.Str) := by kernel_rfl
      rw [← e]
      exact hmg0
    obtain ⟨fd, hb, hF⟩ := Lw.facts (P := (PySem.Challenge.rw_meetingsjoin_k02_whole_known_by_all_worl).prog) (w := w) KX G hmg c
    exact ⟨K, fd, _, KX, hb, fun H a ns hl hS => Dt.law_start hS (Lw.law_ok ns hl), hF⟩

