import PyProof.Rows.All
import Wide.All
import OpenK.AllK
import Wide.FinOn
import HandS.ForMost
import HandS.ForExc
import HandS.IsInst
import HandS.Deep
import HandS.TupAny
import HandS.Style
import HandS.Flow
import HandS.Conv
import KE.SortData
import KE.SortKeyHeap
import KE.DataFind
import HandS.Defaults
import KE.KSortKey
import KE.KSortKeySt
import HandS.SortKw
import HandS.Strs
import HandS.Words
import HandS.HeadEnd
import HandS.HeadHook1
import HandS.HeadHook2
import HandS.HeadHook3
import HandS.HeadHook4
import HandS.Head0
import HandS.Head1
import HandS.Head2
import HandS.More
import KE.KDictPairs
import HandS.ExcOwn
import HandS.TryOnly
import PyProof.ExcBaseAll.ValueError
import HandS.TupSets
import KE.KeyNested
import PySem.Challenge.RW_meetingsjoin_k22_marks_and_their_tags
set_option maxRecDepth 100000
set_option autoImplicit false
set_option maxHeartbeats 0
set_option Elab.async false
set_option linter.all false
namespace Dt
open PySem PySem.Spec PyProof.Rows L2
abbrev D := PyData
abbrev Fg := PySem.W.Frag
def datB (K : Fg) : Nat → Value → D → Bool
  | 0, _, _ => false
  | _ + 1, .none, .none => true
  | _ + 1, .bool b, .bool c => b == c
  | _ + 1, .int i _, .int j => decide (i = j)
  | _ + 1, .str x _, .str y => decide (x = y)
  | n + 1, .ref a, .tuple ds => match K.lookup a with
    | some ⟨.type c, none, .seq its _, _⟩ => decide (c = "tuple") && (decide (its.size ≤ sizeLine) && ((its.toList.length == ds.length) && ((its.toList.zip ds).all fun p => datB K n p.1 p.2)))
    | _ => false
  | _ + 1, _, _ => false
def conB (K : Fg) (x : Str) (d : D) : Bool := match PySem.W.nsIn K mainGlobals x with
  | some (some u) => datB K 12 u d
  | _ => false
end Dt
namespace Lw
open PySem PySem.Spec PyProof.Rows L2 Dt
abbrev top (i : Nat) : Stmt := PySem.Challenge.pw_meetingsjoin_k22_marks_and_their_tags.main.body.getD i (.Pass ⟨0, 0, 0, 0⟩)
def dd_ (i : Nat) (x : Str) : He.DefD := ⟨(x, none), x, x, defArgs (top i), defBody (top i), defScope (top i), [], []⟩
def fnl : List He.DefD := [dd_ 4 "tags_of", dd_ 5 "without_rows", dd_ 6 "without_tags", dd_ 7 "tag_changed", dd_ 9 "marks_in_order", dd_ 10 "is_marked", dd_ 11 "with_marks", dd_ 12 "with_mark", dd_ 13 "cleared", dd_ 14 "marks_with", dd_ 15 "are_tags_in", dd_ 16 "dead_marks", dd_ 17 "marks_carried", dd_ 18 "marks_moved", dd_ 20 "_law_draws", dd_ 21 "_law_take", dd_ 22 "_law_cell", dd_ 23 "_law_same", dd_ 24 "_law_tags", dd_ 25 "_law_row_of", dd_ 26 "_law_marks_of", dd_ 27 "_law_marked_store", dd_ 28 "_law_are_marks_right", dd_ 29 "_law_are_carried_right", dd_ 30 "law"]
def fal : List He.Fa := [.free "tuple", .free "any", .glo "tags_of", .free "all", .glo "without_rows", .free "sorted", .free "set", .glo "marks_in_order", .glo "with_marks", .glo "are_tags_in", .glo "tag_changed", .free "int", .free "len", .free "list", .free "range", .glo "_law_take", .free "abs", .free "isinstance", .free "bool", .free "str", .glo "_law_same", .free "min", .glo "_law_row_of", .glo "_law_marks_of", .glo "is_marked", .glo "with_mark", .glo "marks_with", .glo "cleared", .glo "dead_marks", .glo "without_tags", .glo "_law_tags", .glo "marks_carried", .glo "marks_moved", .glo "_law_draws", .glo "_law_cell", .glo "_law_marked_store", .glo "_law_are_marks_right", .glo "_law_are_carried_right", .glo "law"]
def exl (K : Fg) : Bool := true
def loose0 : List Str := ["RulesError", "NoTag", "tags_of", "without_rows", "without_tags", "tag_changed", "marks_in_order", "is_marked", "with_marks", "with_mark", "cleared", "marks_with", "are_tags_in", "dead_marks", "marks_carried", "marks_moved", "_law_draws", "_law_take", "_law_cell", "_law_same", "_law_tags", "_law_row_of", "_law_marks_of", "_law_marked_store", "_law_are_marks_right", "_law_are_carried_right"]
def loose : List Str := loose0
abbrev Rw : PySem.W.OpenRow := PySem.W.OpenLaw.row PySem.Challenge.rw_meetingsjoin_k22_marks_and_their_tags
abbrev hk : PySem.W.Hook := He.hookX 3 fal fnl [] [] exl
def ob (s : PySem.W.SharedT) : He.AlX := He.obsX 3 fal fnl [] [] exl (HandSHeadRun.getT s)
theorem ob_eq (s : PySem.W.SharedT) : ob s = hk.obs s.abs := He.obsX_eq (HandSHeadRun.getT_eq s)
theorem join3 {α β γ δ : Type} {o : Option α} {f : α → β} {g : α → γ} {k : α → δ} {a : β} {b : γ} {c : δ} (h1 : o.map f = some a) (h2 : o.map g = some b) (h3 : o.map k = some c) : o.map (fun s => (f s, g s, k s)) = some (a, b, c) := by
  cases o with
  | none => cases h1
  | some s => cases h1; cases h2; cases h3; rfl
theorem run_a (w : World) (os : OsState) : (HandSHeadRun.endF (HandSHeadRun.stepQ (HandSHeadRun.denQ HandSHeadRun.tabQ) Rw.prog w) 3500 Rw.prog w os).map (fun s => HandSHeadRun.looksF Rw.prog (PySem.W.boot_heap w.params) s.abs) = some true := by kernel_rfl
theorem run_b (w : World) (os : OsState) : (HandSHeadRun.endF (HandSHeadRun.stepQ (HandSHeadRun.denQ HandSHeadRun.tabQ) Rw.prog w) 3500 Rw.prog w os).map (fun s => HandSHeadRun.seenQ (PySem.W.view Rw.prog [30]) loose (importedModules Rw.prog.main.body) (fun s => PySem.W.xlAt (PySem.W.view Rw.prog [30]) [] s && PySem.W.recOk Rw.toRowW.records s) s.abs) = some (PySem.W.openGood (PySem.W.view Rw.prog [30]) loose) := by kernel_rfl
theorem run_c (w : World) (os : OsState) : (HandSHeadRun.endF (HandSHeadRun.stepQ (HandSHeadRun.denQ HandSHeadRun.tabQ) Rw.prog w) 3500 Rw.prog w os).map (fun s => ob s) = some (hk.val w) := by kernel_rfl
theorem run (w : World) : HandSHeadRun.RunEq Rw (PySem.W.view Rw.prog [30]) hk ob 3500 loose w := fun os => join3 (run_a w os) (run_b w os) (run_c w os)
end Lw

set_option Elab.async false
set_option linter.all false
set_option maxRecDepth 100000
set_option autoImplicit false
/-! Data in the place of heaps: values as PyData, environments, results; how a heap bears them (Rp), how a frame bears an environment (Fit). -/
namespace Dt
open PySem PySem.Spec PyProof.Rows L2

abbrev St := L2.St
abbrev Ev := List (Option D)
abbrev Av := Addr → Prop

/-! ### results -/
inductive R (α : Type) where
  | ok (a : α)
  | exc (c : Str)
  | no

namespace R
def bind {α β : Type} : R α → (α → R β) → R β
  | ok a, f => f a
  | exc c, _ => exc c
  | no, _ => no
@[simp] theorem ok_bind {α β : Type} (a : α) (f : α → R β) : (ok a).bind f = f a := rfl
@[simp] theorem exc_bind {α β : Type} (c : Str) (f : α → R β) : (exc c : R α).bind f = exc c := rfl
@[simp] theorem no_bind {α β : Type} (f : α → R β) : (no : R α).bind f = no := rfl
/-- what is asked of a result -/
def post {α : Type} (m : R α) (Q : α → Prop) (X : Str → Prop) : Prop := match m with
  | ok a => Q a
  | exc c => X c
  | no => False
theorem post_bind {α β : Type} {m : R α} {f : α → R β} {Q : β → Prop} {X : Str → Prop} (h : (m.bind f).post Q X) : m.post (fun a => (f a).post Q X) X := by
  cases m with
  | ok a => exact h
  | exc c => exact h
  | no => exact h
theorem post_imp {α : Type} {m : R α} {Q Q' : α → Prop} {X X' : Str → Prop} (h : m.post Q X) (hq : ∀ a, m = ok a → Q a → Q' a) (hx : ∀ c, X c → X' c) : m.post Q' X' := by
  cases m with
  | ok a => exact hq a rfl h
  | exc c => exact hx c h
  | no => exact h
theorem pimp {α : Type} {m : R α} {Q Q' : α → Prop} {X X' : Str → Prop} (h : m.post Q X) (hq : ∀ a, Q a → Q' a) (hx : ∀ c, X c → X' c) : m.post Q' X' := post_imp h (fun a _ => hq a) hx
/-- an exception is not served here -/
def nox {α : Type} : R α → R α
  | ok a => ok a
  | _ => no
@[simp] theorem nox_ok {α : Type} (a : α) : (ok a).nox = ok a := rfl
theorem post_nox {α : Type} {m : R α} {Q : α → Prop} {X X' : Str → Prop} (h : m.nox.post Q X) : m.post Q X' := by
  cases m with
  | ok a => exact h
  | exc c => exact h.elim
  | no => exact h
def guard (b : Bool) : R Unit := if b then ok () else no
@[simp] theorem guard_true : guard true = ok () := rfl
@[simp] theorem guard_false : guard false = no := rfl
def opt {α : Type} : Option α → R α
  | some a => ok a
  | none => no
@[simp] theorem opt_some {α : Type} (a : α) : opt (some a) = ok a := rfl
@[simp] theorem opt_none {α : Type} : opt (none : Option α) = no := rfl
end R
open R

/-! ### keys -/
def kD : Key → D
  | .inl i => .int i
  | .inr x => .str x
def kT (k : List Key) : D := .tuple (k.map kD)
/-- the mark of a dict with tuples as keys, ahead of its entries -/
def tH : D × D := (.bool true, .none)

/-! ### how a heap bears data; the addresses of M are not leaned upon -/
def SLm (K : Fg) (H : Hp) (M : Av) (a : Addr) (xs : List V) : Prop :=
  Rd H a (.lst xs) ∧ ¬ M a
/-- the law's script, as a datum that no other rule knows -/
def scrD (ns : List Int) : D := .dict [(.none, .list (ns.map .int))]
def SQm (K : Fg) (H : Hp) (M : Av) (a : Addr) (xs : List V) : Prop :=
  (Rd H a (.lst xs) ∧ ¬ M a) ∨ ∃ (o : Obj) (its : Array Value) (n : Nat), K.lookup a = some o ∧ o.cls = .type "list" ∧ o.dict = none ∧ o.data = .seq its n ∧ its.size ≤ sizeLine ∧ Vals xs its.toList
/-- a tuple whose object is known -/
def Tp (H : Hp) (a : Addr) (xs : List V) : Prop := ∃ o : Obj, H a = some (.frz o (.tup xs)) ∧ o.dict = none
def STm (K : Fg) (H : Hp) (M : Av) (a : Addr) (xs : List V) : Prop :=
  (Tp H a xs ∧ ¬ M a) ∨ ∃ (o : Obj) (its : Array Value) (n : Nat), K.lookup a = some o ∧ o.dict = none ∧ o.cls = .type "tuple" ∧ o.data = .seq its n ∧ its.size ≤ sizeLine ∧ Vals xs its.toList

mutual
inductive Rp (K : Fg) (H : Hp) (M : Av) : V → D → Prop
  | non : Rp K H M .non .none
  | bl (b : Bool) : Rp K H M (.bl b) (.bool b)
  | int (i : Int) : Rp K H M (.int i) (.int i)
  | str (x : Str) : Rp K H M (.str x) (.str x)
  | lst {a : Addr} {xs : List V} {ds : List D} : SLm K H M a xs → RpAll K H M xs ds → Rp K H M (.ref a) (.list ds)
  | tup {a : Addr} {xs : List V} {ds : List D} : STm K H M a xs → RpAll K H M xs ds → Rp K H M (.ref a) (.tuple ds)
  | dcK {a : Addr} {kvs : List (Key × V)} {es : List (D × D)} : Rd H a (.dK kvs) → ¬ M a → RpK K H M kvs es → Rp K H M (.ref a) (.dict es)
  | dcT {a : Addr} {kvs : List (List Key × V)} {es : List (D × D)} : Rd H a (.dT kvs) → ¬ M a → RpT K H M kvs es → Rp K H M (.ref a) (.dict (tH :: es))
  | scr {a : Addr} {ns : List Int} : SQm K H M a (ns.map V.int) → Rp K H M (.ref a) (scrD ns)
inductive RpAll (K : Fg) (H : Hp) (M : Av) : List V → List D → Prop
  | nil : RpAll K H M [] []
  | cons {v : V} {vs : List V} {d : D} {ds : List D} : Rp K H M v d → RpAll K H M vs ds → RpAll K H M (v :: vs) (d :: ds)
inductive RpK (K : Fg) (H : Hp) (M : Av) : List (Key × V) → List (D × D) → Prop
  | nil : RpK K H M [] []
  | cons {k : Key} {v : V} {kvs : List (Key × V)} {d : D} {es : List (D × D)} : Rp K H M v d → RpK K H M kvs es → RpK K H M ((k, v) :: kvs) ((kD k, d) :: es)
inductive RpT (K : Fg) (H : Hp) (M : Av) : List (List Key × V) → List (D × D) → Prop
  | nil : RpT K H M [] []
  | cons {k : List Key} {v : V} {kvs : List (List Key × V)} {d : D} {es : List (D × D)} : Rp K H M v d → RpT K H M kvs es → RpT K H M ((k, v) :: kvs) ((kT k, d) :: es)
end

section
variable {K : Fg} {H H' : Hp} {M M' : Av} {a p : Addr} {v : V} {d : D} {xs : List V} {ds : List D}

theorem SLm.sq (h : SLm K H M a xs) : SqL K H a xs := .inl h.1
theorem SQm.sq (h : SQm K H M a xs) : SqL K H a xs := h.imp (fun x => x.1) id
theorem Tp.rd (h : Tp H a xs) : Rd H a (.tup xs) := let ⟨o, e, _⟩ := h; .inr ⟨o, e⟩
theorem STm.sq (h : STm K H M a xs) : SqT K H a xs := h.imp (fun x => x.1.rd) fun ⟨o, its, n, e, _, r⟩ => ⟨o, its, n, e, r⟩

/-- heaps that agree where M is not -/
def Fra (A : Av) (H H' : Hp) : Prop := ∀ b o, H b = some o → ¬ A b → H' b = some o
theorem Fra.refl {A : Av} : Fra A H H := fun _ _ e _ => e
theorem Fra.of_same {A : Av} (h : Same H H') : Fra A H H' := fun b o e _ => h b o e
theorem Fra.same (h : Fra (fun _ => False) H H') : Same H H' := fun b o e => h b o e id
theorem Fra.trans {A : Av} {H1 H2 : Hp} (f : Fra A H H1) (g : Fra A H1 H2) : Fra A H H2 := fun b o e n => g b o (f b o e n) n
theorem Fra.mono {A B : Av} (f : Fra A H H') (h : ∀ b, A b → B b) : Fra B H H' := fun b o e n => f b o e fun z => n (h b z)
theorem Fra.rd {A : Av} {u : HO} (f : Fra A H H') (r : Rd H a u) (n : ¬ A a) : Rd H' a u := by
  rcases r with r | ⟨o, r⟩
  · exact .inl (f _ _ r n)
  · exact .inr ⟨o, f _ _ r n⟩
theorem Fra.new {A : Av} {o : HO} (h : H p = none) : Fra A H (upd H p o) := fun b u e _ => by rw [upd_ne (ne_of_none e h)]; exact e

/-- what may be locked -/
def Lkb : HO → Bool
  | .dK _ => true
  | .dT _ => true
  | _ => false
/-- what is borne stays so -/
structure Carry (K : Fg) (H H' : Hp) (M M' : Av) : Prop where
  ex : ∀ a o, H a = some o → ¬ M a → (H' a = some o ∨ ∃ f, Lkb o = true ∧ H' a = some (.frz f o)) ∧ ¬ M' a
theorem Carry.rd (c : Carry K H H' M M') (a : Addr) (u : HO) (r : Rd H a u) (n : ¬ M a) : Rd H' a u ∧ ¬ M' a := by
  rcases r with r | ⟨o, r⟩
  · obtain ⟨h1, h2⟩ := c.ex a _ r n
    refine ⟨?_, h2⟩
    rcases h1 with h1 | ⟨f, e, h1⟩
    · exact .inl h1
    · exact .inr ⟨f, h1⟩
  · obtain ⟨h1, h2⟩ := c.ex a _ r n
    refine ⟨?_, h2⟩
    rcases h1 with h1 | ⟨f, e, h1⟩
    · exact .inr ⟨o, h1⟩
    · cases e
theorem Carry.tp (c : Carry K H H' M M') (a : Addr) (xs : List V) (r : Tp H a xs) (n : ¬ M a) : Tp H' a xs ∧ ¬ M' a := by
  obtain ⟨o, e, d⟩ := r
  obtain ⟨h1, h2⟩ := c.ex a _ e n
  refine ⟨?_, h2⟩
  rcases h1 with h1 | ⟨f, e, h1⟩
  · exact ⟨o, h1, d⟩
  · cases e

mutual
theorem Rp.carry (c : Carry K H H' M M') : ∀ {v : V} {d : D}, Rp K H M v d → Rp K H' M' v d
  | _, _, .non => .non
  | _, _, .bl b => .bl b
  | _, _, .int i => .int i
  | _, _, .str x => .str x
  | _, _, .lst h r => .lst (c.rd _ _ h.1 h.2) (RpAll.carry c r)
  | _, _, .tup h r => .tup (h.imp (fun z => c.tp _ _ z.1 z.2) id) (RpAll.carry c r)
  | _, _, .dcK h n r => .dcK (c.rd _ _ h n).1 (c.rd _ _ h n).2 (RpK.carry c r)
  | _, _, .dcT h n r => .dcT (c.rd _ _ h n).1 (c.rd _ _ h n).2 (RpT.carry c r)
  | _, _, .scr h => .scr (h.imp (fun z => c.rd _ _ z.1 z.2) id)
theorem RpAll.carry (c : Carry K H H' M M') : ∀ {xs : List V} {ds : List D}, RpAll K H M xs ds → RpAll K H' M' xs ds
  | _, _, .nil => .nil
  | _, _, .cons h r => .cons (Rp.carry c h) (RpAll.carry c r)
theorem RpK.carry (c : Carry K H H' M M') : ∀ {kvs : List (Key × V)} {es : List (D × D)}, RpK K H M kvs es → RpK K H' M' kvs es
  | _, _, .nil => .nil
  | _, _, .cons h r => .cons (Rp.carry c h) (RpK.carry c r)
theorem RpT.carry (c : Carry K H H' M M') : ∀ {kvs : List (List Key × V)} {es : List (D × D)}, RpT K H M kvs es → RpT K H' M' kvs es
  | _, _, .nil => .nil
  | _, _, .cons h r => .cons (Rp.carry c h) (RpT.carry c r)
end

theorem Carry.fra {A : Av} (f : Fra A H H') (h : ∀ b, A b → M b) : Carry K H H' M M := ⟨fun a u r n => ⟨.inl (f a u r fun z => n (h a z)), n⟩⟩
theorem Carry.weak (h : ∀ b, M' b → M b) : Carry K H H M M' := ⟨fun a u r n => ⟨.inl r, fun z => n (h a z)⟩⟩
def Av.add (M : Av) (p : Addr) : Av := fun b => M b ∨ b = p
theorem Carry.add (h : H p = none) : Carry K H H M (M.add p) := ⟨fun a u r n => ⟨.inl r, fun z => z.elim n fun e => by
  subst e
  rw [h] at r; cases r⟩⟩
theorem Carry.trans {M1 M2 : Av} {H1 H2 : Hp} (a : Carry K H H1 M M1) (b : Carry K H1 H2 M1 M2) : Carry K H H2 M M2 := ⟨fun x u r n => by
  obtain ⟨h1, h2⟩ := a.ex x u r n
  rcases h1 with h1 | ⟨f, e, h1⟩
  · exact b.ex x u h1 h2
  · obtain ⟨h3, h4⟩ := b.ex x _ h1 h2
    refine ⟨.inr ⟨f, e, ?_⟩, h4⟩
    rcases h3 with h3 | ⟨_, e', _⟩
    · exact h3
    · cases e'⟩

theorem RpAll.length : ∀ {xs : List V} {ds : List D}, RpAll K H M xs ds → xs.length = ds.length
  | _, _, .nil => rfl
  | _, _, .cons _ r => congrArg (· + 1) r.length
theorem RpAll.get : ∀ {xs : List V} {ds : List D} {i : Nat} {d : D}, RpAll K H M xs ds → ds[i]? = some d → ∃ v, xs[i]? = some v ∧ Rp K H M v d
  | _, _, i, _, .nil, e => by simp at e
  | _, _, 0, _, .cons h _, e => by simp at e; subst e; exact ⟨_, rfl, h⟩
  | _, _, i + 1, d, .cons _ r, e => by
    obtain ⟨v, h1, h2⟩ := RpAll.get (i := i) (d := d) r (by simpa using e)
    exact ⟨v, by simpa using h1, h2⟩
theorem RpAll.getV : ∀ {xs : List V} {ds : List D} {i : Nat} {v : V}, RpAll K H M xs ds → xs[i]? = some v → ∃ d, ds[i]? = some d ∧ Rp K H M v d
  | _, _, i, _, .nil, e => by simp at e
  | _, _, 0, _, .cons h _, e => by simp at e; subst e; exact ⟨_, rfl, h⟩
  | _, _, i + 1, d, .cons _ r, e => by
    obtain ⟨v, h1, h2⟩ := RpAll.getV (i := i) (v := d) r (by simpa using e)
    exact ⟨v, by simpa using h1, h2⟩
theorem RpAll.append : ∀ {xs ys : List V} {ds es : List D}, RpAll K H M xs ds → RpAll K H M ys es → RpAll K H M (xs ++ ys) (ds ++ es)
  | _, _, _, _, .nil, s => s
  | _, _, _, _, .cons h r, s => .cons h (RpAll.append r s)
theorem RpAll.take : ∀ {xs : List V} {ds : List D} (n : Nat), RpAll K H M xs ds → RpAll K H M (xs.take n) (ds.take n)
  | _, _, 0, _ => by simp; exact .nil
  | _, _, _ + 1, .nil => .nil
  | _, _, n + 1, .cons h r => .cons h (RpAll.take n r)
theorem RpAll.drop : ∀ {xs : List V} {ds : List D} (n : Nat), RpAll K H M xs ds → RpAll K H M (xs.drop n) (ds.drop n)
  | _, _, 0, r => r
  | _, _, _ + 1, .nil => .nil
  | _, _, n + 1, .cons _ r => RpAll.drop n r
theorem RpAll.reverse {xs : List V} {ds : List D} (h : RpAll K H M xs ds) : RpAll K H M xs.reverse ds.reverse := by
  induction xs generalizing ds with
  | nil => cases h; exact .nil
  | cons v xs ih => cases h with | cons h r => rw [List.reverse_cons, List.reverse_cons]; exact (ih r).append (.cons h .nil)
theorem RpAll.set : ∀ {xs : List V} {ds : List D} {v : V} {d : D} (i : Nat), RpAll K H M xs ds → Rp K H M v d → RpAll K H M (xs.set i v) (ds.set i d)
  | _, _, _, _, _, .nil, _ => .nil
  | _, _, _, _, 0, .cons _ r, h => .cons h r
  | _, _, _, _, i + 1, .cons q r, h => .cons q (RpAll.set i r h)
theorem RpAll.dropLast {xs : List V} {ds : List D} (h : RpAll K H M xs ds) : RpAll K H M xs.dropLast ds.dropLast := by
  rw [List.dropLast_eq_take, List.dropLast_eq_take, h.length]; exact h.take _
theorem RpAll.eraseIdx : ∀ {xs : List V} {ds : List D} (i : Nat), RpAll K H M xs ds → RpAll K H M (xs.eraseIdx i) (ds.eraseIdx i)
  | _, _, _, .nil => .nil
  | _, _, 0, .cons _ r => r
  | _, _, i + 1, .cons h r => .cons h (RpAll.eraseIdx i r)
theorem RpAll.one (h : Rp K H M v d) : RpAll K H M [v] [d] := .cons h .nil
end

/-! ### data that may be an own object of the frame at the top -/
inductive Rt (K : Fg) (H : Hp) (M : Av) : V → D → Prop
  | of {v : V} {d : D} : Rp K H M v d → Rt K H M v d
  | lst {a : Addr} {xs : List V} {ds : List D} : Rd H a (.lst xs) → RpAll K H M xs ds → Rt K H M (.ref a) (.list ds)
  | dcK {a : Addr} {kvs : List (Key × V)} {es : List (D × D)} : Rd H a (.dK kvs) → RpK K H M kvs es → Rt K H M (.ref a) (.dict es)
  | dcT {a : Addr} {kvs : List (List Key × V)} {es : List (D × D)} : Rd H a (.dT kvs) → RpT K H M kvs es → Rt K H M (.ref a) (.dict (tH :: es))
def Rx (r : Bool) (K : Fg) (H : Hp) (M : Av) (v : V) (d : D) : Prop := if r then Rt K H M v d else Rp K H M v d

section
variable {K : Fg} {H H' : Hp} {M M' : Av} {a p : Addr} {v : V} {d : D} {xs : List V} {ds : List D}
theorem Rx.t {r : Bool} (h : Rx r K H M v d) : Rt K H M v d := by
  cases r with
  | true => exact h
  | false => exact .of h
theorem Rp.x {r : Bool} (h : Rp K H M v d) : Rx r K H M v d := by
  cases r with
  | true => exact Rt.of h
  | false => exact h
theorem rd_same {u : HO} (s : Same H H') (h : Rd H a u) : Rd H' a u := by
  rcases h with h | ⟨o, h⟩
  · exact .inl (s _ _ h)
  · exact .inr ⟨o, s _ _ h⟩
theorem Carry.same (s : Same H H') : Carry K H H' M M := ⟨fun a u r n => ⟨.inl (s a u r), n⟩⟩
theorem Rt.same (s : Same H H') (h : Rt K H M v d) : Rt K H' M v d := by
  have c : Carry K H H' M M := Carry.same s
  cases h with
  | of h => exact .of (Rp.carry c h)
  | lst h r => exact .lst (rd_same s h) (RpAll.carry c r)
  | dcK h r => exact .dcK (rd_same s h) (RpK.carry c r)
  | dcT h r => exact .dcT (rd_same s h) (RpT.carry c r)
theorem scr_ne {ns : List Int} : ∀ {kvs : List (Key × V)} {es : List (D × D)}, RpK K H M kvs es → scrD ns ≠ .dict es
  | _, _, .nil => fun e => by injection e with e; cases e
  | _, _, .cons (k := k) _ _ => fun e => by
    injection e with e
    injection e with e _
    injection e with e _
    cases k <;> cases e
theorem Rt.scr {ns : List Int} (h : Rt K H M v (scrD ns)) : ∃ a, v = .ref a ∧ SqL K H a (ns.map V.int) := by
  generalize e : scrD ns = d at h
  cases h with
  | of h =>
    cases h with
    | scr h =>
      have e2 : ∀ ms : List Int, scrD ns = scrD ms → ns = ms := fun ms z => by
        injection z with z
        injection z with z _
        injection z with _ z
        injection z with z
        exact (List.map_inj_right (fun a b z => by injection z)).mp z
      rw [e2 _ e]
      exact ⟨_, rfl, h.sq⟩
    | dcK _ _ r => exact (scr_ne r e).elim
    | dcT _ _ r => cases e
    | _ => cases e
  | dcK _ r => exact (scr_ne r e).elim
  | dcT _ r => cases e
  | lst _ _ => cases e
/-- a list that is read -/
theorem Rt.list (h : Rt K H M v (.list ds)) : ∃ a xs, v = .ref a ∧ Rd H a (.lst xs) ∧ RpAll K H M xs ds := by
  cases h with
  | of h => cases h with | lst h r => exact ⟨_, _, rfl, h.1, r⟩
  | lst h r => exact ⟨_, _, rfl, h, r⟩
theorem Rt.tuple (h : Rt K H M v (.tuple ds)) : ∃ a xs, v = .ref a ∧ STm K H M a xs ∧ RpAll K H M xs ds := by
  cases h with
  | of h => cases h with | tup h r => exact ⟨_, _, rfl, h, r⟩
theorem Rt.int {i : Int} (h : Rt K H M v (.int i)) : v = .int i := by
  cases h with
  | of h => cases h with | int => rfl
theorem Rt.str {x : Str} (h : Rt K H M v (.str x)) : v = .str x := by
  cases h with
  | of h => cases h with | str => rfl
theorem Rt.bl {b : Bool} (h : Rt K H M v (.bool b)) : v = .bl b := by
  cases h with
  | of h => cases h with | bl => rfl
theorem Rt.non (h : Rt K H M v .none) : v = .non := by
  cases h with
  | of h => cases h with | non => rfl
end

/-! ### what a frame's slots bear -/
inductive OwnAt (K : Fg) (H : Hp) (M : Av) (a : Addr) : D → Prop
  | lst {xs : List V} {ds : List D} : H a = some (.lst xs) → RpAll K H M xs ds → OwnAt K H M a (.list ds)
  | dcK {kvs : List (Key × V)} {es : List (D × D)} : H a = some (.dK kvs) → RpK K H M kvs es → OwnAt K H M a (.dict es)
  | dcT {kvs : List (List Key × V)} {es : List (D × D)} : H a = some (.dT kvs) → RpT K H M kvs es → OwnAt K H M a (.dict (tH :: es))
theorem OwnAt.t {K : Fg} {H : Hp} {M : Av} {a : Addr} {d : D} (h : OwnAt K H M a d) : Rt K H M (.ref a) d := by
  cases h with
  | lst h r => exact .lst (.inl h) r
  | dcK h r => exact .dcK (.inl h) r
  | dcT h r => exact .dcT (.inl h) r
theorem OwnAt.carry {K : Fg} {H H' : Hp} {M M' : Av} {a : Addr} {d : D} (h : OwnAt K H M a d) (c : Carry K H H' M M') (e : ∀ o, H a = some o → H' a = some o) : OwnAt K H' M' a d := by
  cases h with
  | lst h r => exact .lst (e _ h) (RpAll.carry c r)
  | dcK h r => exact .dcK (e _ h) (RpK.carry c r)
  | dcT h r => exact .dcT (e _ h) (RpT.carry c r)

abbrev As := List (Nat × Addr)
def As.has (A : As) : Av := fun b => ∃ i, (i, b) ∈ A
def Trk (M : Av) (H : Hp) : Prop := ∀ a, M a → ∃ o, H a = some o
theorem Trk.same {M : Av} {H H' : Hp} (t : Trk M H) (s : Same H H') : Trk M H' := fun a m => let ⟨o, e⟩ := t a m; ⟨o, s _ _ e⟩
theorem Trk.ne {M : Av} {H : Hp} {p : Addr} (t : Trk M H) (h : H p = none) : ¬ M p := fun m => by
  obtain ⟨o, e⟩ := t p m
  rw [h] at e; cases e
theorem Trk.add {M : Av} {H : Hp} {p : Addr} {o : HO} (t : Trk M H) (h : H p = some o) : Trk (M.add p) H := fun a m => m.elim (t a) fun e => by subst e; exact ⟨o, h⟩

structure Fit (K : Fg) (M : Av) (A : As) (σ : St) (H : Hp) (ρ : Ev) : Prop where
  len : σ.length = ρ.length
  trk : Trk M H
  sub : ∀ p ∈ A, M p.2
  nd : (A.map (·.2)).Nodup
  own : ∀ p ∈ A, σ[p.1]? = some (some (.ref p.2)) ∧ ∃ d, ρ[p.1]? = some (some d) ∧ OwnAt K H M p.2 d
  shr : ∀ (i : Nat) (d : D), ρ[i]? = some (some d) → (∀ a, (i, a) ∉ A) → ∃ v, σ[i]? = some (some v) ∧ Rp K H M v d

section
variable {K : Fg} {M M' : Av} {A : As} {σ : St} {H H' : Hp} {ρ : Ev}
theorem Fit.has (f : Fit K M A σ H ρ) : ∀ b, A.has b → M b := fun b ⟨i, h⟩ => f.sub (i, b) h
theorem Fit.same (f : Fit K M A σ H ρ) (s : Same H H') : Fit K M A σ H' ρ where
  len := f.len
  trk := f.trk.same s
  sub := f.sub
  nd := f.nd
  own := fun p hp => let ⟨h1, d, h2, h3⟩ := f.own p hp; ⟨h1, d, h2, h3.carry (Carry.same s) fun o e => s _ _ e⟩
  shr := fun i d e n => let ⟨v, h1, h2⟩ := f.shr i d e n; ⟨v, h1, Rp.carry (Carry.same s) h2⟩
theorem Fit.addM {p : Addr} {o : HO} (f : Fit K M A σ H ρ) (h : H p = none) : Fit K (M.add p) A σ (upd H p o) ρ := by
  have s : Same H (upd H p o) := fun b u e => by rw [upd_ne (ne_of_none e h)]; exact e
  have c : Carry K H (upd H p o) M (M.add p) := (Carry.add h).trans (Carry.same s)
  exact ⟨f.len, (f.trk.same s).add upd_same, fun q hq => .inl (f.sub q hq), f.nd,
    fun q hq => let ⟨h1, d, h2, h3⟩ := f.own q hq; ⟨h1, d, h2, h3.carry c fun o e => s _ _ e⟩,
    fun i d e n => let ⟨v, h1, h2⟩ := f.shr i d e n; ⟨v, h1, Rp.carry c h2⟩⟩
/-- an address less is avoided -/
theorem Fit.weakM (f : Fit K M A σ H ρ) (h : ∀ b, M' b → M b) (hs : ∀ p ∈ A, M' p.2) : Fit K M' A σ H ρ :=
  ⟨f.len, fun a m => f.trk a (h a m), hs, f.nd, fun q hq => let ⟨h1, d, h2, h3⟩ := f.own q hq; ⟨h1, d, h2, h3.carry (Carry.weak h) fun _ e => e⟩,
    fun i d e n => let ⟨v, h1, h2⟩ := f.shr i d e n; ⟨v, h1, Rp.carry (Carry.weak h) h2⟩⟩
theorem Fit.get (f : Fit K M A σ H ρ) {i : Nat} {d : D} (e : ρ[i]? = some (some d)) : ∃ v, σ[i]? = some (some v) ∧ Rt K H M v d := by
  by_cases h : ∃ a, (i, a) ∈ A
  · obtain ⟨a, h⟩ := h
    obtain ⟨h1, d', h2, h3⟩ := f.own _ h
    rw [e] at h2; cases h2
    exact ⟨_, h1, h3.t⟩
  · obtain ⟨v, h1, h2⟩ := f.shr i d e fun a z => h ⟨a, z⟩
    exact ⟨v, h1, .of h2⟩
end

/-! ### the judgement of expressions -/
def eff (k : Bool) (A : As) : Av := fun b => k = true ∧ A.has b
def DX (mg : Str → Option Value) (E : XK) (F : Av) (H : Hp) (c : Str) : Prop := ∀ C H', mg c = some (.ref C) → Fra F H H' → E (.ref C) none H'
def DT (K : Fg) (mg : Str → Option Value) (E : XK) (k r : Bool) (Γ : List Nat) (m : Ev → R (D × Ev)) : TE := fun σ H Q =>
  ∃ (M : Av) (A : As) (ρ : Ev), A.map (·.1) = Γ ∧ Fit K M A σ H ρ ∧
    (m ρ).post (fun z => ∀ v H', Fit K M A σ H' z.2 → Fra (eff k A) H H' → (k = false → z.2 = ρ) → Rx r K H' M v z.1 → Q v H') (DX mg E (eff k A) H)
def DE (X : Cx) (E : XK) (k r : Bool) (Γ : List Nat) (e : Expr) (m : Ev → R (D × Ev)) : Prop := PE X e (DT X.K X.mg E k r Γ m)

theorem PE.imp {X : Cx} {e : Expr} {t t' : TE} (h : PE X e t) (w : ∀ σ H Q, t' σ H Q → t σ H Q) : PE X e t' := ⟨fun pins s σ H Q I q => h.run pins s σ H Q I (w σ H Q q)⟩
theorem OpR.imp {X : Cx} {f : Value → Value → Sem Value} {r r' : R2} (h : OpR X f r) (w : ∀ x y H Q, r' x y H Q → r x y H Q) : OpR X f r' := fun pins s σ H x y v u Q I rx ry q => h pins s σ H x y v u Q I rx ry (w _ _ _ _ q)
theorem OpR.or' {X : Cx} {f : Value → Value → Sem Value} {r r1 r2 : R2} (h1 : OpR X f r1) (h2 : OpR X f r2) (w : ∀ x y H Q, r x y H Q → r1 x y H Q ∨ r2 x y H Q) : OpR X f r := OpR.imp (L2.OpR.or h1 h2) w

section
variable {K : Fg} {M : Av} {A : As} {σ : St} {H H' : Hp} {ρ : Ev} {mg : Str → Option Value} {E : XK}
theorem eff_sub {k : Bool} (f : Fit K M A σ H ρ) : ∀ b, eff k A b → M b := fun b h => f.has b h.2
theorem eff_false : Fra (eff false A) H H' → Same H H' := fun f b o e => f b o e fun z => Bool.noConfusion z.1
theorem Fra.of_eff {k : Bool} (s : Same H H') : Fra (eff k A) H H' := Fra.of_same s
theorem DX.fra {F : Av} {H1 : Hp} {c : Str} (f : Fra F H H1) (h : DX mg E F H c) : DX mg E F H1 c := fun C H' e g => h C H' e (f.trans g)
/-- what is borne, after an effect -/
theorem Rx.fra {k r : Bool} {v : V} {d : D} (hk : (k && r) = false) (f : Fit K M A σ H ρ) (g : Fra (eff k A) H H') (h : Rx r K H M v d) : Rx r K H' M v d := by
  cases r with
  | false => exact Rp.carry (Carry.fra g (eff_sub f)) (show Rp K H M v d from h)
  | true =>
    cases k with
    | true => exact Bool.noConfusion hk
    | false => exact Rt.same (eff_false g) h
end
end Dt

set_option Elab.async false
set_option linter.all false
set_option maxRecDepth 100000
set_option autoImplicit false
/-! Expressions: constants, names, operators, tests, arguments, displays, calls of what is built in. -/
namespace Dt
open PySem PySem.Spec PyProof.Rows L2 R

abbrev ME := Ev → R (D × Ev)
abbrev MB := Ev → R (Bool × Ev)
abbrev MA := Ev → R (List D × Ev)

theorem post_opt {α β : Type} {o : Option α} {f : α → R β} {Q : β → Prop} {X : Str → Prop} (h : ((R.opt o).bind f).post Q X) : ∃ a, o = some a ∧ (f a).post Q X := by
  cases o with
  | none => exact h.elim
  | some a => exact ⟨a, rfl, h⟩

section
variable {X : Cx} {E : XK} {k r : Bool} {Γ : List Nat} {a b c e : Expr} {pos : Pos}

theorem ite_pos {b : Bool} {A B : Prop} (h : b = true) (x : A) : if b = true then A else B := by rw [if_pos h]; exact x
theorem ite_neg {b : Bool} {A B : Prop} (h : ¬ b = true) (x : B) : if b = true then A else B := by rw [if_neg h]; exact x
/-! ### constants and names -/
def cst (d : D) : ME := fun ρ => .ok (d, ρ)
theorem de_of {e : Expr} {v : V} {d : D} (h : PE X e (tC v)) (hr : ∀ (H : Hp) (M : Av), Rp X.K H M v d) : DE X E k r Γ e (cst d) :=
  PE.imp h fun σ H Q ⟨M, A, ρ, _, f, q⟩ => q v H f Fra.refl (fun _ => rfl) (hr H M).x
theorem de_int {i : Int} {j : Nat} : DE X E k r Γ (.Constant (.int i) j pos) (cst (.int i)) := de_of pe_int fun _ _ => .int i
theorem de_bl {i : Bool} {j : Nat} : DE X E k r Γ (.Constant (.bool i) j pos) (cst (.bool i)) := de_of pe_bl fun _ _ => .bl i
theorem de_non {j : Nat} : DE X E k r Γ (.Constant .none j pos) (cst .none) := de_of pe_non fun _ _ => .non
theorem de_str {x : Str} {j : Nat} : DE X E k r Γ (.Constant (.str x) j pos) (cst (.str x)) := de_of pe_str fun _ _ => .str x

def getv (ρ : Ev) (i : Nat) : Option D := match ρ[i]? with
  | some (some d) => some d
  | _ => none
def var (i : Nat) : ME := fun ρ => (R.opt (getv ρ i)).bind fun d => .ok (d, ρ)
theorem getv_some {ρ : Ev} {i : Nat} {d : D} (h : getv ρ i = some d) : ρ[i]? = some (some d) := by
  unfold getv at h
  split at h
  · rename_i d' e; rw [e]; exact congrArg some h
  · cases h
/-- a name that is not the frame's own object -/
theorem de_var {i : Nat} (h : PE X e (tVar i)) (hi : Γ.contains i = false := by decide) : DE X E k false Γ e (var i) :=
  PE.imp h fun σ H Q ⟨M, A, ρ, hΓ, f, q⟩ => by
    obtain ⟨d, ed, q⟩ := post_opt q
    obtain ⟨v, e1, rv⟩ := f.shr i d (getv_some ed) fun a z => by
      have : i ∈ Γ := hΓ ▸ List.mem_map.mpr ⟨(i, a), z, rfl⟩
      rw [List.contains_iff_mem.mpr this] at hi
      cases hi
    exact ⟨v, e1, q v H f Fra.refl (fun _ => rfl) rv⟩
/-- a name that may be -/
theorem de_varT {i : Nat} (h : PE X e (tVar i)) : DE X E k true Γ e (var i) :=
  PE.imp h fun σ H Q ⟨M, A, ρ, hΓ, f, q⟩ => by
    obtain ⟨d, ed, q⟩ := post_opt q
    obtain ⟨v, e1, rv⟩ := f.get (getv_some ed)
    exact ⟨v, e1, q v H f Fra.refl (fun _ => rfl) rv⟩
/-- what is pure is an effect, too -/
theorem de_up {m : ME} (h : DE X E false false Γ e m) : DE X E true false Γ e m :=
  PE.imp h fun σ H Q ⟨M, A, ρ, hΓ, f, q⟩ => ⟨M, A, ρ, hΓ, f, pimp q (fun z hz v H' f' g e1 r => hz v H' f' (g.mono fun b z => Bool.noConfusion z.1) (fun n => Bool.noConfusion n) r) fun c hc C H' e g => hc C H' e (g.mono fun b z => Bool.noConfusion z.1)⟩
theorem de_t {m : ME} (h : DE X E k false Γ e m) : DE X E k true Γ e m :=
  PE.imp h fun σ H Q ⟨M, A, ρ, hΓ, f, q⟩ => ⟨M, A, ρ, hΓ, f, pimp q (fun z hz v H' f' g e1 r => hz v H' f' g e1 (Rt.of r)) fun c hc => hc⟩

/-! ### two values -/
abbrev G2 := D → D → Option D
def rD (K : Fg) (g : G2) : R2 := fun x y H Q => ∃ (M : Av) (d e r : D), Trk M H ∧ Rt K H M x d ∧ Rt K H M y e ∧ g d e = some r ∧ ∀ w H', Same H H' → Rp K H' M w r → Q w H'
def mOp (g : G2) (ma mb : ME) : ME := fun ρ => (ma ρ).bind fun x => (mb x.2).bind fun y => (R.opt (g x.1 y.1)).bind fun r => .ok (r, y.2)
theorem dt_op {g : G2} {ta tb : TE} {ma mb : ME} {ra rb : Bool} (hk : (k && ra) = false) {σ : St} {H : Hp} {Q : VK} (h : DT X.K X.mg E k false Γ (mOp g ma mb) σ H Q) :
    tOp (rD X.K g) (DT X.K X.mg E k ra Γ ma) (DT X.K X.mg E k rb Γ mb) σ H Q := by
  obtain ⟨M, A, ρ, hΓ, f, h⟩ := h
  refine ⟨M, A, ρ, hΓ, f, pimp (post_bind h) (fun z hz v1 H1 f1 g1 e1 r1 => ?_) (fun c hc => hc)⟩
  refine ⟨M, A, z.2, hΓ, f1, pimp (post_bind hz) (fun z2 hz2 v2 H2 f2 g2 e2 r2 => ?_) (fun c hc => DX.fra g1 hc)⟩
  obtain ⟨w, ew, q⟩ := post_opt hz2
  exact ⟨M, z.1, z2.1, w, f2.trk, (r1.fra hk f1 g2).t, r2.t, ew, fun u H' s' rp => q u H' (f2.same s') ((g1.trans g2).trans (Fra.of_eff s')) (fun n => (e2 n).trans (e1 n)) rp⟩
theorem de_op {op : Operator} {g : G2} {ma mb : ME} {ra rb : Bool} (ho : OpR X (binaryOp op) (rD X.K g)) (ha : DE X E k ra Γ a ma) (hb : DE X E k rb Γ b mb) (hk : (k && ra) = false := by rfl) :
    DE X E k false Γ (.BinOp a op b pos) (mOp g ma mb) := PE.imp (pe_op ho ha hb) fun σ H Q h => dt_op (ta := DT X.K X.mg E k ra Γ ma) (tb := DT X.K X.mg E k rb Γ mb) hk h
theorem de_cmp {op : CmpOp} {g : G2} {ma mb : ME} {ra rb : Bool} (ho : OpR X (compareOp op) (rD X.K g)) (ha : DE X E k ra Γ a ma) (hb : DE X E k rb Γ b mb) (hm : behindInMarks op b = false) (hk : (k && ra) = false := by rfl) :
    DE X E k false Γ (.Compare a [op] [b] pos) (mOp g ma mb) := PE.imp (pe_cmpR ho ha hb hm) fun σ H Q h => dt_op (ta := DT X.K X.mg E k ra Γ ma) (tb := DT X.K X.mg E k rb Γ mb) hk h
theorem de_ix {g : G2} {ma mb : ME} {ra rb : Bool} (ho : IxR X (rD X.K g)) (ha : DE X E k ra Γ a ma) (hb : DE X E k rb Γ b mb) (hs : PlainIx b) (hk : (k && ra) = false := by rfl) :
    DE X E k false Γ (.Subscript a b pos) (mOp g ma mb) := PE.imp (pe_ix ho ha hb hs) fun σ H Q h => dt_op (ta := DT X.K X.mg E k ra Γ ma) (tb := DT X.K X.mg E k rb Γ mb) hk h

/-! ### one value -/
abbrev G1 := D → Option D
def rU1 (K : Fg) (g : G1) : V → Hp → VK → Prop := fun x H Q => ∃ (M : Av) (d r : D), Trk M H ∧ Rt K H M x d ∧ g d = some r ∧ ∀ w H', Same H H' → Rp K H' M w r → Q w H'
def mUn (g : G1) (ma : ME) : ME := fun ρ => (ma ρ).bind fun x => (R.opt (g x.1)).bind fun r => .ok (r, x.2)
theorem dt_un {g : G1} {ma : ME} {ra : Bool} {σ : St} {H : Hp} {Q : VK} (h : DT X.K X.mg E k false Γ (mUn g ma) σ H Q) : DT X.K X.mg E k ra Γ ma σ H fun x H1 => rU1 X.K g x H1 Q := by
  obtain ⟨M, A, ρ, hΓ, f, h⟩ := h
  refine ⟨M, A, ρ, hΓ, f, pimp (post_bind h) (fun z hz v1 H1 f1 g1 e1 r1 => ?_) (fun c hc => hc)⟩
  obtain ⟨w, ew, q⟩ := post_opt hz
  exact ⟨M, z.1, w, f1.trk, r1.t, ew, fun u H' s' rp => q u H' (f1.same s') (g1.trans (Fra.of_eff s')) e1 rp⟩
theorem de_un {op : UnaryOp} {g : G1} {ma : ME} {ra : Bool} (ho : UnR X (unaryOp op) (rU1 X.K g)) (ha : DE X E k ra Γ a ma) : DE X E k false Γ (.UnaryOp op a pos) (mUn g ma) :=
  PE.imp (pe_un ho ha) fun σ H Q h => dt_un h

/-! ### truth -/
def tru : D → Option Bool
  | .none => some false
  | .bool b => some b
  | .int i => some (i != 0)
  | .str y => if y.length ≤ sizeLine then some ((y.length : Int) != 0) else none
  | .list xs => some !xs.isEmpty
  | .tuple xs => some !xs.isEmpty
  | .dict es => some !es.isEmpty
theorem rpK_empty {K : Fg} {H : Hp} {M : Av} : ∀ {kvs : List (Key × V)} {es : List (D × D)}, RpK K H M kvs es → (!kvs.isEmpty) = !es.isEmpty
  | _, _, .nil => rfl
  | _, _, .cons _ _ => rfl
theorem rpAll_empty {K : Fg} {H : Hp} {M : Av} : ∀ {xs : List V} {ds : List D}, RpAll K H M xs ds → (!xs.isEmpty) = !ds.isEmpty
  | _, _, .nil => rfl
  | _, _, .cons _ _ => rfl
/-- dicts with tuples as keys are not asked for their truth here -/
def noT : V → Hp → Prop := fun v H => ∀ a kvs, v = .ref a → ¬ Rd H a (.dT kvs)
theorem tru_of {K : Fg} {H : Hp} {M : Av} {v : V} {d : D} {b : Bool} (h : Rt K H M v d) (hd : ∀ es, d ≠ .dict es) (t : tru d = some b) : TruV K v H b := by
  cases d with
  | none => rw [h.non]; exact (Option.some.inj t).symm
  | bool x => rw [h.bl]; exact (Option.some.inj t).symm
  | int i => rw [h.int]; exact (Option.some.inj t).symm
  | str y =>
    rw [h.str]
    by_cases hy : y.length ≤ sizeLine
    · have t' : (if y.length ≤ sizeLine then some ((y.length : Int) != 0) else none) = some b := t
      rw [if_pos hy] at t'
      exact ⟨hy, (Option.some.inj t').symm⟩
    · have t' : (if y.length ≤ sizeLine then some ((y.length : Int) != 0) else none) = some b := t
      rw [if_neg hy] at t'
      cases t'
  | list ds =>
    obtain ⟨a, xs, rfl, h1, h2⟩ := h.list
    exact .inl ⟨xs, .inl h1, by rw [rpAll_empty h2]; exact (Option.some.inj t).symm⟩
  | tuple ds =>
    obtain ⟨a, xs, rfl, h1, h2⟩ := h.tuple
    exact .inr (.inl ⟨xs, h1.sq, by rw [rpAll_empty h2]; exact (Option.some.inj t).symm⟩)
  | dict es => exact absurd rfl (hd es)
def truD : D → Option Bool
  | .dict _ => none
  | d => tru d
theorem truD_of {K : Fg} {H : Hp} {M : Av} {v : V} {d : D} {b : Bool} (h : Rt K H M v d) (t : truD d = some b) : TruV K v H b := by
  cases d with
  | dict es => cases t
  | _ => exact tru_of h (fun _ z => by cases z) t

/-! ### tests -/
def DTb (K : Fg) (mg : Str → Option Value) (E : XK) (k : Bool) (Γ : List Nat) (m : MB) : TT := fun σ H Q =>
  ∃ (M : Av) (A : As) (ρ : Ev), A.map (·.1) = Γ ∧ Fit K M A σ H ρ ∧
    (m ρ).post (fun z => ∀ H', Fit K M A σ H' z.2 → Fra (eff k A) H H' → (k = false → z.2 = ρ) → Q z.1 H') (DX mg E (eff k A) H)
def DB (X : Cx) (E : XK) (k : Bool) (Γ : List Nat) (e : Expr) (m : MB) : Prop := PT X e (DTb X.K X.mg E k Γ m)
def DW (X : Cx) (E : XK) (k : Bool) (Γ : List Nat) (e : Expr) (m : MB) : Prop := PW X e (DTb X.K X.mg E k Γ m)
theorem PT.imp {e : Expr} {t t' : TT} (h : PT X e t) (w : ∀ σ H Q, t' σ H Q → t σ H Q) : PT X e t' := ⟨fun pins s σ H Q I q => h.run pins s σ H Q I (w σ H Q q)⟩
theorem PW.imp {e : Expr} {t t' : TT} (h : PW X e t) (w : ∀ σ H Q, t' σ H Q → t σ H Q) : PW X e t' := ⟨fun whole pins s σ H Q I q => h.run whole pins s σ H Q I (w σ H Q q)⟩
def mTru (ma : ME) : MB := fun ρ => (ma ρ).bind fun x => (R.opt (truD x.1)).bind fun b => .ok (b, x.2)
theorem db_tru {ma : ME} {ra : Bool} (ha : DE X E k ra Γ a ma) (he : ∀ whole, isTrue a X.env whole = (do let v ← whole; standAt a.pos; holding [v] (truthy v)) := by intro _; rfl) : DB X E k Γ a (mTru ma) :=
  PT.imp (pt_truth ha he) fun σ H Q ⟨M, A, ρ, hΓ, f, h⟩ => by
    refine ⟨M, A, ρ, hΓ, f, pimp (post_bind h) (fun z hz v1 H1 f1 g1 e1 r1 => ?_) (fun c hc => hc)⟩
    obtain ⟨b, eb, q⟩ := post_opt hz
    exact ⟨b, truD_of r1.t eb, q H1 f1 g1 e1⟩
def asB : D → Option Bool
  | .bool b => some b
  | _ => none
def mBool (ma : ME) : MB := fun ρ => (ma ρ).bind fun x => (R.opt (asB x.1)).bind fun b => .ok (b, x.2)
theorem asB_some {d : D} {b : Bool} (h : asB d = some b) : d = .bool b := by
  cases d with
  | bool c => rw [Option.some.inj h]
  | _ => cases h
theorem db_cmp {op : CmpOp} {g : G2} {ma mb : ME} {ra rb : Bool} (ho : OpR X (compareOp op) (rD X.K g)) (ha : DE X E k ra Γ a ma) (hb : DE X E k rb Γ b mb) (hm : behindInMarks op b = false) (hk : (k && ra) = false := by rfl) :
    DB X E k Γ (.Compare a [op] [b] pos) (mBool (mOp g ma mb)) :=
  PT.imp (pt_cmpR ho ha hb hm) fun σ H Q h => by
    have h' : DT X.K X.mg E k false Γ (mOp g ma mb) σ H (fun x H' => ∃ b, x = .bl b ∧ Q b H') := by
      obtain ⟨M, A, ρ, hΓ, f, h⟩ := h
      refine ⟨M, A, ρ, hΓ, f, pimp (post_bind h) (fun z hz v1 H1 f1 g1 e1 r1 => ?_) (fun c hc => hc)⟩
      obtain ⟨b, eb, q⟩ := post_opt hz
      have e2 := asB_some eb
      rw [e2] at r1
      exact ⟨b, Rt.bl (Rt.of r1), q H1 f1 g1 e1⟩
    exact dt_op (ta := DT X.K X.mg E k ra Γ ma) (tb := DT X.K X.mg E k rb Γ mb) hk h'
def mAndB (a b : MB) : MB := fun ρ => (a ρ).bind fun x => if x.1 = true then b x.2 else .ok (false, x.2)
def mOrB (a b : MB) : MB := fun ρ => (a ρ).bind fun x => if x.1 = true then .ok (true, x.2) else b x.2
def mNotB (a : MB) : MB := fun ρ => (a ρ).bind fun x => .ok (!x.1, x.2)
theorem dw_one {op : BoolOp} {m : MB} (h : DB X E k Γ a m) : DW X E k Γ (.BoolOp op [a] pos) m := by
  cases op with
  | And => exact pw_and1 h
  | Or => exact pw_or1 h
theorem dw_and {rest : List Expr} {ma mb : MB} (ha : DB X E k Γ a ma) (hb : DW X E k Γ (.BoolOp .And (b :: rest) pos) mb) : DW X E k Γ (.BoolOp .And (a :: b :: rest) pos) (mAndB ma mb) :=
  PW.imp (pw_and ha hb) fun σ H Q ⟨M, A, ρ, hΓ, f, h⟩ => by
    refine ⟨M, A, ρ, hΓ, f, pimp (post_bind h) (fun z hz H1 f1 g1 e1 => ?_) (fun c hc => hc)⟩
    by_cases hb : z.1 = true
    · rw [if_pos hb] at hz
      refine ite_pos hb ?_
      exact ⟨M, A, z.2, hΓ, f1, pimp hz (fun z2 h2 H2 f2 g2 e2 => h2 H2 f2 (g1.trans g2) fun n => (e2 n).trans (e1 n)) fun c hc => DX.fra g1 hc⟩
    · rw [if_neg hb] at hz
      refine ite_neg hb ?_
      exact hz H1 f1 g1 e1
theorem dw_or {rest : List Expr} {ma mb : MB} (ha : DB X E k Γ a ma) (hb : DW X E k Γ (.BoolOp .Or (b :: rest) pos) mb) : DW X E k Γ (.BoolOp .Or (a :: b :: rest) pos) (mOrB ma mb) :=
  PW.imp (pw_or ha hb) fun σ H Q ⟨M, A, ρ, hΓ, f, h⟩ => by
    refine ⟨M, A, ρ, hΓ, f, pimp (post_bind h) (fun z hz H1 f1 g1 e1 => ?_) (fun c hc => hc)⟩
    by_cases hb : z.1 = true
    · rw [if_pos hb] at hz
      refine ite_pos hb ?_
      exact hz H1 f1 g1 e1
    · rw [if_neg hb] at hz
      refine ite_neg hb ?_
      exact ⟨M, A, z.2, hΓ, f1, pimp hz (fun z2 h2 H2 f2 g2 e2 => h2 H2 f2 (g1.trans g2) fun n => (e2 n).trans (e1 n)) fun c hc => DX.fra g1 hc⟩
theorem db_w {m : MB} (h : DW X E k Γ a m) : DB X E k Γ a m := PW.pt h
theorem db_not {ma : MB} (ha : DB X E k Γ a ma) : DB X E k Γ (.UnaryOp .Not a pos) (mNotB ma) :=
  PT.imp (pt_not ha) fun σ H Q ⟨M, A, ρ, hΓ, f, h⟩ => ⟨M, A, ρ, hΓ, f, pimp (post_bind h) (fun z hz H1 f1 g1 e1 => hz H1 f1 g1 e1) (fun c hc => hc)⟩
theorem db_up {m : MB} (h : DB X E false Γ e m) : DB X E true Γ e m :=
  PT.imp h fun σ H Q ⟨M, A, ρ, hΓ, f, q⟩ => ⟨M, A, ρ, hΓ, f, pimp q (fun z hz H' f' g e1 => hz H' f' (g.mono fun b z => Bool.noConfusion z.1) (fun n => Bool.noConfusion n)) fun c hc C H' e g => hc C H' e (g.mono fun b z => Bool.noConfusion z.1)⟩

/-! ### and, or, not as values; the conditional expression -/
def mAnd (ma mb : ME) : ME := fun ρ => (ma ρ).bind fun x => (R.opt (truD x.1)).bind fun t => if t = true then mb x.2 else .ok x
def mOr (ma mb : ME) : ME := fun ρ => (ma ρ).bind fun x => (R.opt (truD x.1)).bind fun t => if t = true then .ok x else mb x.2
theorem de_one {op : BoolOp} {m : ME} (h : DE X E k r Γ a m) : DE X E k r Γ (.BoolOp op [a] pos) m := pe_one h
theorem de_and {rest : List Expr} {ma mb : ME} (ha : DE X E k false Γ a ma) (hb : DE X E k false Γ (.BoolOp .And (b :: rest) pos) mb) : DE X E k false Γ (.BoolOp .And (a :: b :: rest) pos) (mAnd ma mb) :=
  PE.imp (pe_andT ha hb) fun σ H Q ⟨M, A, ρ, hΓ, f, h⟩ => by
    refine ⟨M, A, ρ, hΓ, f, pimp (post_bind h) (fun z hz v1 H1 f1 g1 e1 r1 => ?_) (fun c hc => hc)⟩
    obtain ⟨t, et, q⟩ := post_opt hz
    refine ⟨t, truD_of r1.t et, ?_⟩
    by_cases hb : t = true
    · rw [if_pos hb] at q
      refine ite_pos hb ?_
      exact ⟨M, A, z.2, hΓ, f1, pimp q (fun z2 h2 v2 H2 f2 g2 e2 r2 => h2 v2 H2 f2 (g1.trans g2) (fun n => (e2 n).trans (e1 n)) r2) fun c hc => DX.fra g1 hc⟩
    · rw [if_neg hb] at q
      refine ite_neg hb ?_
      exact q v1 H1 f1 g1 e1 r1
theorem de_or {rest : List Expr} {ma mb : ME} (ha : DE X E k false Γ a ma) (hb : DE X E k false Γ (.BoolOp .Or (b :: rest) pos) mb) : DE X E k false Γ (.BoolOp .Or (a :: b :: rest) pos) (mOr ma mb) :=
  PE.imp (pe_orT ha hb) fun σ H Q ⟨M, A, ρ, hΓ, f, h⟩ => by
    refine ⟨M, A, ρ, hΓ, f, pimp (post_bind h) (fun z hz v1 H1 f1 g1 e1 r1 => ?_) (fun c hc => hc)⟩
    obtain ⟨t, et, q⟩ := post_opt hz
    refine ⟨t, truD_of r1.t et, ?_⟩
    by_cases hb : t = true
    · rw [if_pos hb] at q
      refine ite_pos hb ?_
      exact q v1 H1 f1 g1 e1 r1
    · rw [if_neg hb] at q
      refine ite_neg hb ?_
      exact ⟨M, A, z.2, hΓ, f1, pimp q (fun z2 h2 v2 H2 f2 g2 e2 r2 => h2 v2 H2 f2 (g1.trans g2) (fun n => (e2 n).trans (e1 n)) r2) fun c hc => DX.fra g1 hc⟩
def gNot : G1 := fun d => (truD d).map fun b => .bool !b
theorem de_not {ma : ME} {ra : Bool} (ha : DE X E k ra Γ a ma) : DE X E k false Γ (.UnaryOp .Not a pos) (mUn gNot ma) :=
  PE.imp (pe_notT ha) fun σ H Q h => by
    obtain ⟨M, A, ρ, hΓ, f, h⟩ := dt_un (ra := ra) h
    refine ⟨M, A, ρ, hΓ, f, pimp h (fun z hz v1 H1 f1 g1 e1 r1 => ?_) (fun c hc => hc)⟩
    obtain ⟨M', d, w, tk, rd, ew, q⟩ := hz v1 H1 f1 g1 e1 r1
    unfold gNot at ew
    cases ht : truD d with
    | none => rw [ht] at ew; cases ew
    | some b =>
      rw [ht] at ew
      cases ew
      exact ⟨b, truD_of rd ht, q _ H1 (Same.refl _) (.bl _)⟩
def mIf (c : MB) (a b : ME) : ME := fun ρ => (c ρ).bind fun x => if x.1 = true then a x.2 else b x.2
theorem de_if {mc : MB} {ma mb : ME} (hc : DB X E k Γ c mc) (ha : DE X E k r Γ a ma) (hb : DE X E k r Γ b mb) : DE X E k r Γ (.IfExp c a b pos) (mIf mc ma mb) :=
  PE.imp (pe_ifExp hc ha hb) fun σ H Q ⟨M, A, ρ, hΓ, f, h⟩ => by
    refine ⟨M, A, ρ, hΓ, f, pimp (post_bind h) (fun z hz H1 f1 g1 e1 => ?_) (fun c hc => hc)⟩
    by_cases hb : z.1 = true
    · rw [if_pos hb] at hz
      refine ite_pos hb ?_
      exact ⟨M, A, z.2, hΓ, f1, pimp hz (fun z2 h2 v2 H2 f2 g2 e2 r2 => h2 v2 H2 f2 (g1.trans g2) (fun n => (e2 n).trans (e1 n)) r2) fun c hc => DX.fra g1 hc⟩
    · rw [if_neg hb] at hz
      refine ite_neg hb ?_
      exact ⟨M, A, z.2, hΓ, f1, pimp hz (fun z2 h2 v2 H2 f2 g2 e2 r2 => h2 v2 H2 f2 (g1.trans g2) (fun n => (e2 n).trans (e1 n)) r2) fun c hc => DX.fra g1 hc⟩
end
end Dt

set_option Elab.async false
set_option linter.all false
set_option maxRecDepth 100000
set_option autoImplicit false
/-! Operators over data. -/
namespace Dt
open PySem PySem.Spec PyProof.Rows L2 R

section
variable {X : Cx} {pins : List (Addr × Obj)} {σ : St} {H : Hp} {s : Shared} {M : Av}
/-- a list that is read, as it stands -/
theorem Inv.lstR {l : Addr} {xs : List V} (I : Inv X pins σ H s) (h : Rd H l (.lst xs)) :
    xs.length ≤ sizeLine ∧ ∃ (its : List Value) (n : Nat), Vals xs its ∧ xs.length = its.length ∧ s.heap.get? l = some { cls := .type "list", data := .seq its.toArray n } := by
  obtain ⟨z, its, n, r, e⟩ := h.ok I.hok
  exact ⟨z, its, n, r, r.length, e⟩
theorem new_lst {K : Fg} {p : Addr} {xs : List V} {ds : List D} (tk : Trk M H) (np : H p = none) (r : RpAll K H M xs ds) : Same H (upd H p (.lst xs)) ∧ Rp K (upd H p (.lst xs)) M (.ref p) (.list ds) := by
  have s : Same H (upd H p (.lst xs)) := fun b u e => by rw [upd_ne (ne_of_none e np)]; exact e
  exact ⟨s, .lst ⟨.inl upd_same, tk.ne np⟩ (RpAll.carry (Carry.same s) r)⟩
theorem new_tup {K : Fg} {p : Addr} {o : Obj} {xs : List V} {ds : List D} (hd : o.dict = none) (tk : Trk M H) (np : H p = none) (r : RpAll K H M xs ds) : Same H (upd H p (.frz o (.tup xs))) ∧ Rp K (upd H p (.frz o (.tup xs))) M (.ref p) (.tuple ds) := by
  have s : Same H (upd H p (.frz o (.tup xs))) := fun b u e => by rw [upd_ne (ne_of_none e np)]; exact e
  exact ⟨s, .tup (.inl ⟨⟨o, upd_same, hd⟩, tk.ne np⟩) (RpAll.carry (Carry.same s) r)⟩
abbrev tupObj (its : List Value) (n : Nat) : Obj := PyProof.Rows.seqObj "tuple" its.toArray n
theorem tupLaid {h' : Heap} {a : Addr} {t' n : Nat} {ys : List V} {its : List Value} (I : Inv X pins σ H s) (k : ∀ b u, s.heap.get? b = some u → h'.get? b = some u) (hp : s.heap.objs.size ≤ a) (hz : ys.length ≤ sizeLine) (rv : Vals ys its) (e : h'.get? a = some (tupObj its n)) :
    Inv X pins σ (upd H a (.frz (tupObj its n) (.tup ys))) { s with heap := h', toks := t' } := I.laid k hp ⟨e, hz, its, rv, ⟨_, e, rfl, n, rfl⟩⟩
theorem RpAll.nil_iff {K : Fg} {xs : List V} {ds : List D} (r : RpAll K H M xs ds) : xs = [] ↔ ds = [] := by
  cases r with
  | nil => simp
  | cons => simp
end

/-! ### + - * // % ** -/
def dAdd : G2
  | .int i, .int j => some (.int (i + j))
  | .str a, .str b => if a.length + b.length ≤ sizeLine then some (.str (a ++ b)) else none
  | .list xs, .list ys => if xs.length + ys.length ≤ sizeLine then some (.list (xs ++ ys)) else none
  | .tuple xs, .tuple ys => if xs.length + ys.length ≤ sizeLine then some (.tuple (xs ++ ys)) else none
  | _, _ => none
theorem op_catR {X : Cx} : OpR X (binaryOp .Add) (fun x y H Q => ∃ l b xs zs, x = .ref l ∧ y = .ref b ∧ Rd H l (.lst xs) ∧ Rd H b (.lst zs) ∧ xs.length + zs.length ≤ sizeLine ∧ ∀ p, H p = none → Q (.ref p) (upd H p (.lst (xs ++ zs)))) := by
  intro pins s σ H x y v u Q I rx ry h
  obtain ⟨l, b, xs, zs, rfl, rfl, hH, hB, hz, q⟩ := h
  cases rx
  cases ry
  obtain ⟨z, its, n, r, hl, e⟩ := Inv.lstR I hH
  obtain ⟨z2, its2, n2, r2, hl2, e2⟩ := Inv.lstR I hB
  refine PySem.P.add_list e e2 ?_ (by rw [List.size_toArray, List.size_toArray]; omega)
  have ea : its.toArray ++ its2.toArray = (its ++ its2).toArray := by simp
  rw [ea]
  exact ⟨.ref _, _, I.lnew (t' := s.toks) (r.append r2) (by rw [List.length_append]; omega), rfl, q _ I.fresh⟩
section
variable {X : Cx}
theorem op_dAdd : OpR X (binaryOp .Add) (rD X.K dAdd) := by
  intro pins s σ H x y v u Q I rx ry h
  obtain ⟨M, d, e, r, tk, rd, re, eg, q⟩ := h
  unfold dAdd at eg
  split at eg
  · cases eg
    exact op_add pins s σ H x y v u Q I rx ry ⟨_, _, rd.int, re.int, q _ H (Same.refl _) (.int _)⟩
  · split at eg
    · rename_i hz
      cases eg
      exact op_add_str pins s σ H x y v u Q I rx ry ⟨_, _, rd.str, re.str, hz, q _ H (Same.refl _) (.str _)⟩
    · cases eg
  · split at eg
    · rename_i hz
      cases eg
      obtain ⟨a, xs, e1, r1, a1⟩ := rd.list
      obtain ⟨b, ys, e2, r2, a2⟩ := re.list
      exact op_catR pins s σ H x y v u Q I rx ry ⟨a, b, xs, ys, e1, e2, r1, r2, by rw [a1.length, a2.length]; exact hz, fun p np => let ⟨s', rp⟩ := new_lst tk np (a1.append a2); q _ _ s' rp⟩
    · cases eg
  · split at eg
    · rename_i ds es hz
      cases eg
      obtain ⟨a, xs, e1, r1, a1⟩ := rd.tuple
      obtain ⟨b, ys, e2, r2, a2⟩ := re.tuple
      subst e1 e2
      cases rx
      cases ry
      obtain ⟨its, v1, p1, z1⟩ := I.tuple r1.sq
      obtain ⟨its2, v2, p2, z2⟩ := I.tuple r2.sq
      by_cases hx : xs = []
      · subst hx
        cases v1
        cases a1
        exact cat_tup0 p1 p2 ⟨.ref b, H, I, rfl, q _ H (Same.refl _) (.tup r2 a2)⟩
      · refine HT.cat_tup p1 p2 (fun z => hx (v1.nil_iff.mp z)) (fun z => ?_) (fun z => ?_) (by rw [← v1.length, ← v2.length, a1.length, a2.length]; exact hz)
        · subst z
          cases v2
          cases a2
          rw [List.append_nil] at q
          exact ⟨.ref a, H, I, rfl, q _ H (Same.refl _) (.tup r1 a1)⟩
        · have I2 := tupLaid (t' := s.toks) (ys := xs ++ ys) (its := its ++ its2) (n := 0) (a := s.heap.objs.size) I (fun b o e => Heap.get?_push_of_some _ e) (Nat.le_refl _) (by rw [List.length_append, a1.length, a2.length]; exact hz) (v1.append v2) (Heap.get?_push_size _ rfl)
          obtain ⟨s', rp⟩ := new_tup (K := X.K) (o := tupObj (its ++ its2) 0) rfl tk I.fresh (a1.append a2)
          exact ⟨.ref s.heap.objs.size, _, I2, rfl, q _ _ s' rp⟩
    · cases eg
  · cases eg
def dSub : G2
  | .int i, .int j => some (.int (i - j))
  | _, _ => none
theorem op_dSub : OpR X (binaryOp .Sub) (rD X.K dSub) := by
  intro pins s σ H x y v u Q I rx ry h
  obtain ⟨M, d, e, r, tk, rd, re, eg, q⟩ := h
  unfold dSub at eg
  split at eg
  · cases eg
    exact op_sub pins s σ H x y v u Q I rx ry ⟨_, _, rd.int, re.int, q _ H (Same.refl _) (.int _)⟩
  · cases eg
def small64 (i : Int) : Bool := decide (-(2 ^ 64) < i) && decide (i < 2 ^ 64)
theorem small64_of {i : Int} (h : small64 i = true) : -(2 ^ 64) < i ∧ i < 2 ^ 64 := by
  have := Bool.and_eq_true_iff.mp h
  exact ⟨of_decide_eq_true this.1, of_decide_eq_true this.2⟩
def dMul : G2
  | .int i, .int j => if small64 i || small64 j then some (.int (i * j)) else none
  | .tuple xs, .int j => if decide (0 ≤ j) && decide (j ≤ 1000) && decide (xs.length ≤ 1000) then some (.tuple (List.replicate j.toNat xs).flatten) else none
  | _, _ => none
/-- without tuples -/
def dMulI : G2
  | .int i, .int j => if small64 i || small64 j then some (.int (i * j)) else none
  | _, _ => none
theorem op_dMulI : OpR X (binaryOp .Mult) (rD X.K dMulI) := by
  intro pins s σ H x y v u Q I rx ry h
  obtain ⟨M, d, e, r, tk, rd, re, eg, q⟩ := h
  unfold dMulI at eg
  split at eg
  · split at eg
    · rename_i hz
      cases eg
      refine op_mul pins s σ H x y v u Q I rx ry ⟨_, _, rd.int, re.int, ?_, q _ H (Same.refl _) (.int _)⟩
      rcases Bool.or_eq_true_iff.mp hz with z | z
      · exact .inl (small64_of z)
      · exact .inr (small64_of z)
    · cases eg
  · cases eg
def dFdiv : G2
  | .int i, .int j => if decide (0 < j) && decide (j < 1073741824) then some (.int (i / j)) else none
  | _, _ => none
theorem op_dFdiv : OpR X (binaryOp .FloorDiv) (rD X.K dFdiv) := by
  intro pins s σ H x y v u Q I rx ry h
  obtain ⟨M, d, e, r, tk, rd, re, eg, q⟩ := h
  unfold dFdiv at eg
  split at eg
  · split at eg
    · rename_i hz
      cases eg
      have hz' := Bool.and_eq_true_iff.mp hz
      exact op_fdiv pins s σ H x y v u Q I rx ry ⟨_, _, rd.int, re.int, ⟨of_decide_eq_true hz'.1, of_decide_eq_true hz'.2⟩, q _ H (Same.refl _) (.int _)⟩
    · cases eg
  · cases eg
def dMod : G2
  | .int i, .int j => if 0 < j then some (.int (i % j)) else none
  | _, _ => none
theorem op_dMod : OpR X (binaryOp .Mod) (rD X.K dMod) := by
  intro pins s σ H x y v u Q I rx ry h
  obtain ⟨M, d, e, r, tk, rd, re, eg, q⟩ := h
  unfold dMod at eg
  split at eg
  · split at eg
    · rename_i hz
      cases eg
      exact op_mod pins s σ H x y v u Q I rx ry ⟨_, _, rd.int, re.int, hz, q _ H (Same.refl _) (.int _)⟩
    · cases eg
  · cases eg
def dPow : G2
  | .int i, .int j => if decide (0 ≤ j) && decide (j ≤ 1000) && decide (i.natAbs < 2 ^ 64) then some (.int (i ^ j.toNat)) else none
  | _, _ => none
theorem op_dPow : OpR X (binaryOp .Pow) (rD X.K dPow) := by
  intro pins s σ H x y v u Q I rx ry h
  obtain ⟨M, d, e, r, tk, rd, re, eg, q⟩ := h
  unfold dPow at eg
  split at eg
  · split at eg
    · rename_i hz
      cases eg
      have h1 := Bool.and_eq_true_iff.mp hz
      have h2 := Bool.and_eq_true_iff.mp h1.1
      have a := of_decide_eq_true h2.1
      have b := of_decide_eq_true h2.2
      exact op_pow pins s σ H x y v u Q I rx ry ⟨_, _, rd.int, re.int, ⟨a, Int.le_trans b (by decide), of_decide_eq_true h1.2⟩, q _ H (Same.refl _) (.int _)⟩
    · cases eg
  · cases eg
def dNeg : G1
  | .int i => some (.int (-i))
  | _ => none
theorem un_dNeg : UnR X (unaryOp .USub) (rU1 X.K dNeg) := by
  intro pins s σ H x v Q I rx h
  obtain ⟨M, d, r, tk, rd, eg, q⟩ := h
  unfold dNeg at eg
  split at eg
  · cases eg
    exact un_neg pins s σ H x v Q I rx ⟨_, rd.int, q _ H (Same.refl _) (.int _)⟩
  · cases eg
end

/-! ### == != -/
section
variable {K : Fg} {H : Hp} {M : Av}
mutual
theorem Rp.dp : ∀ {v : V} {d : D}, Rp K H M v d → d.plain = true → Dp K H v d
  | _, _, .non, _ => .non
  | _, _, .bl b, _ => .bl b
  | _, _, .int i, _ => .int i
  | _, _, .str x, _ => .str x
  | _, _, .lst h r, p => .lst h.sq (RpAll.dp r p)
  | _, _, .tup h r, p => .tup h.sq (RpAll.dp r p)
  | _, _, .dcK _ _ _, p => Bool.noConfusion p
  | _, _, .dcT _ _ _, p => Bool.noConfusion p
  | _, _, .scr _, p => Bool.noConfusion p
theorem RpAll.dp : ∀ {xs : List V} {ds : List D}, RpAll K H M xs ds → PyData.plainAll ds = true → DpAll K H xs ds
  | _, _, .nil, _ => .nil
  | _, _, .cons h r, p => .cons (Rp.dp h (Bool.and_eq_true_iff.mp p).1) (RpAll.dp r (Bool.and_eq_true_iff.mp p).2)
end
theorem Rt.dp {v : V} {d : D} (h : Rt K H M v d) (p : d.plain = true) : Dp K H v d := by
  cases h with
  | of h => exact h.dp p
  | lst h r => exact .lst (.inl h) (r.dp p)
  | dcK _ _ => cases p
  | dcT _ _ => cases p
end
def eqOk (d e : D) : Bool := d.plain && e.plain && decide (min d.depth e.depth ≤ 100)
def dEq : G2 := fun d e => if eqOk d e then some (.bool (PyData.eqv d e)) else none
def dNe : G2 := fun d e => if eqOk d e then some (.bool !PyData.eqv d e) else none
theorem eqOk_of {d e : D} (h : eqOk d e = true) : d.plain = true ∧ e.plain = true ∧ min d.depth e.depth ≤ 100 := by
  have h1 := Bool.and_eq_true_iff.mp h
  have h2 := Bool.and_eq_true_iff.mp h1.1
  exact ⟨h2.1, h2.2, of_decide_eq_true h1.2⟩
section
variable {X : Cx}
theorem op_dEq (hu : X.A.units + 110 < cLine) : OpR X (compareOp .Eq) (rD X.K dEq) := by
  intro pins s σ H x y v u Q I rx ry h
  obtain ⟨M, d, e, r, tk, rd, re, eg, q⟩ := h
  unfold dEq at eg
  split at eg
  · rename_i hz
    cases eg
    obtain ⟨h1, h2, h3⟩ := eqOk_of hz
    obtain ⟨as, r1⟩ := Dp.reads I d x v (rd.dp h1) rx
    obtain ⟨bs, r2⟩ := Dp.reads I e y u (re.dp h2) ry
    exact SeqAt.eq_plain r1 r2 h1 h2 (by omega) ⟨.bl _, H, I, rfl, q _ H (Same.refl _) (.bl _)⟩
  · cases eg
theorem op_dNe (hu : X.A.units + 110 < cLine) : OpR X (compareOp .NotEq) (rD X.K dNe) := by
  intro pins s σ H x y v u Q I rx ry h
  obtain ⟨M, d, e, r, tk, rd, re, eg, q⟩ := h
  unfold dNe at eg
  split at eg
  · rename_i hz
    cases eg
    obtain ⟨h1, h2, h3⟩ := eqOk_of hz
    obtain ⟨as, r1⟩ := Dp.reads I d x v (rd.dp h1) rx
    obtain ⟨bs, r2⟩ := Dp.reads I e y u (re.dp h2) ry
    exact SeqAt.ne_plain r1 r2 h1 h2 (by omega) ⟨.bl _, H, I, rfl, q _ H (Same.refl _) (.bl _)⟩
  · cases eg
end
end Dt

set_option Elab.async false
set_option linter.all false
set_option maxRecDepth 100000
set_option autoImplicit false
/-! Comparisons, membership, subscripts, slices over data. -/
namespace Dt
open PySem PySem.Spec PyProof.Rows L2 R
open PySem.W (alike alikeAll dataLt)

section
variable {X : Cx}
def ltOk (d e : D) : Bool := alike d e && d.plain && e.plain && decide (min d.depth e.depth ≤ 100)
theorem ltOk_of {d e : D} (h : ltOk d e = true) : alike d e = true ∧ d.plain = true ∧ e.plain = true ∧ min d.depth e.depth ≤ 100 := by
  have h1 := Bool.and_eq_true_iff.mp h
  have h2 := Bool.and_eq_true_iff.mp h1.1
  have h3 := Bool.and_eq_true_iff.mp h2.1
  exact ⟨h3.1, h3.2, h2.2, of_decide_eq_true h1.2⟩
def dLt : G2
  | .int i, .int j => some (.bool (decide (i < j)))
  | .str a, .str b => some (.bool (decide (a.cps.toList < b.cps.toList)))
  | .tuple xs, .tuple ys => if ltOk (.tuple xs) (.tuple ys) then some (.bool (dataLt (.tuple xs) (.tuple ys))) else none
  | _, _ => none
theorem op_dLt (hu : X.A.units + 110 < cLine) : OpR X (compareOp .Lt) (rD X.K dLt) := by
  intro pins s σ H x y v u Q I rx ry h
  obtain ⟨M, d, e, r, tk, rd, re, eg, q⟩ := h
  unfold dLt at eg
  split at eg
  · cases eg
    exact op_lt pins s σ H x y v u Q I rx ry ⟨_, _, rd.int, re.int, q _ H (Same.refl _) (.bl _)⟩
  · cases eg
    exact op_lt_str pins s σ H x y v u Q I rx ry ⟨_, _, rd.str, re.str, q _ H (Same.refl _) (.bl _)⟩
  · split at eg
    · rename_i hz
      cases eg
      obtain ⟨h1, h2, h3, h4⟩ := ltOk_of hz
      obtain ⟨as, r1⟩ := Dp.reads I _ x v (rd.dp h2) rx
      obtain ⟨bs, r2⟩ := Dp.reads I _ y u (re.dp h3) ry
      exact PySem.W.rcLt_alike _ _ X.A s v u as bs r1 r2 h1 (by intro z; cases z) (by omega) _ _ _ _ ⟨.bl _, H, I, rfl, q _ H (Same.refl _) (.bl _)⟩
    · cases eg
  · cases eg
def dLe : G2
  | .int i, .int j => some (.bool (decide (i ≤ j)))
  | .str a, .str b => some (.bool (!decide (b.cps.toList < a.cps.toList)))
  | _, _ => none
theorem op_dLe : OpR X (compareOp .LtE) (rD X.K dLe) := by
  intro pins s σ H x y v u Q I rx ry h
  obtain ⟨M, d, e, r, tk, rd, re, eg, q⟩ := h
  unfold dLe at eg
  split at eg
  · cases eg
    exact op_le pins s σ H x y v u Q I rx ry ⟨_, _, rd.int, re.int, q _ H (Same.refl _) (.bl _)⟩
  · cases eg
    exact op_le_str pins s σ H x y v u Q I rx ry ⟨_, _, rd.str, re.str, q _ H (Same.refl _) (.bl _)⟩
  · cases eg
def dGt : G2
  | .int i, .int j => some (.bool (decide (j < i)))
  | _, _ => none
theorem op_dGt : OpR X (compareOp .Gt) (rD X.K dGt) := by
  intro pins s σ H x y v u Q I rx ry h
  obtain ⟨M, d, e, r, tk, rd, re, eg, q⟩ := h
  unfold dGt at eg
  split at eg
  · cases eg
    exact op_gt pins s σ H x y v u Q I rx ry ⟨_, _, rd.int, re.int, q _ H (Same.refl _) (.bl _)⟩
  · cases eg
def dGe : G2
  | .int i, .int j => some (.bool (decide (j ≤ i)))
  | _, _ => none
theorem op_dGe : OpR X (compareOp .GtE) (rD X.K dGe) := by
  intro pins s σ H x y v u Q I rx ry h
  obtain ⟨M, d, e, r, tk, rd, re, eg, q⟩ := h
  unfold dGe at eg
  split at eg
  · cases eg
    exact op_ge pins s σ H x y v u Q I rx ry ⟨_, _, rd.int, re.int, q _ H (Same.refl _) (.bl _)⟩
  · cases eg
/-! ### is, is not: None; bools -/
def isNon : D → Bool
  | .none => true
  | _ => false
def dIsN : G2
  | d, .none => some (.bool (isNon d))
  | _, _ => none
def dNotN : G2
  | d, .none => some (.bool !(isNon d))
  | _, _ => none
theorem non_dec {K : Fg} {H : Hp} {M : Av} {v : V} {d : D} (h : Rt K H M v d) : decide (v = .non) = isNon d := by
  cases d with
  | none => rw [h.non]; rfl
  | bool b => rw [h.bl]; rfl
  | int i => rw [h.int]; rfl
  | str x => rw [h.str]; rfl
  | list ds => obtain ⟨a, xs, rfl, _⟩ := h.list; rfl
  | tuple ds => obtain ⟨a, xs, rfl, _⟩ := h.tuple; rfl
  | dict es => cases h with
    | of h => cases h <;> rfl
    | dcK => rfl
    | dcT => rfl
theorem op_dIsN : OpR X (compareOp .Is) (rD X.K dIsN) := by
  intro pins s σ H x y v u Q I rx ry h
  obtain ⟨M, d, e, r, tk, rd, re, eg, q⟩ := h
  cases e with
  | none =>
    have eg' : some (PyData.bool (isNon d)) = some r := eg
    cases eg'
    refine op_isN pins s σ H x y v u Q I rx ry ⟨re.non, ?_⟩
    rw [non_dec rd]
    exact q _ H (Same.refl _) (.bl _)
  | _ => cases d <;> cases eg
theorem op_dNotN : OpR X (compareOp .IsNot) (rD X.K dNotN) := by
  intro pins s σ H x y v u Q I rx ry h
  obtain ⟨M, d, e, r, tk, rd, re, eg, q⟩ := h
  cases e with
  | none =>
    have eg' : some (PyData.bool !(isNon d)) = some r := eg
    cases eg'
    refine op_notN pins s σ H x y v u Q I rx ry ⟨re.non, ?_⟩
    rw [non_dec rd]
    exact q _ H (Same.refl _) (.bl _)
  | _ => cases d <;> cases eg
def dIsB : G2
  | .bool a, .bool b => some (.bool (decide (a = b)))
  | _, _ => none
def dNotB : G2
  | .bool a, .bool b => some (.bool (!decide (a = b)))
  | _, _ => none
theorem op_dIsB : OpR X (compareOp .Is) (rD X.K dIsB) := by
  intro pins s σ H x y v u Q I rx ry h
  obtain ⟨M, d, e, r, tk, rd, re, eg, q⟩ := h
  unfold dIsB at eg
  split at eg
  · cases eg
    exact op_isBl pins s σ H x y v u Q I rx ry ⟨_, _, rd.bl, re.bl, q _ H (Same.refl _) (.bl _)⟩
  · cases eg
theorem op_dNotB : OpR X (compareOp .IsNot) (rD X.K dNotB) := by
  intro pins s σ H x y v u Q I rx ry h
  obtain ⟨M, d, e, r, tk, rd, re, eg, q⟩ := h
  unfold dNotB at eg
  split at eg
  · cases eg
    exact op_notBl pins s σ H x y v u Q I rx ry ⟨_, _, rd.bl, re.bl, q _ H (Same.refl _) (.bl _)⟩
  · cases eg
/-! ### in, not in -/
def inOk (d : D) (ds : List D) : Bool := PyData.plainAll ds && d.plain && decide (d.depth ≤ 100)
theorem inOk_of {d : D} {ds : List D} (h : inOk d ds = true) : PyData.plainAll ds = true ∧ d.plain = true ∧ d.depth ≤ 100 := by
  have h1 := Bool.and_eq_true_iff.mp h
  have h2 := Bool.and_eq_true_iff.mp h1.1
  exact ⟨h2.1, h2.2, of_decide_eq_true h1.2⟩
def elemD (ds : List D) (d : D) : Bool := ds.any fun y => PyData.eqv y d
def dIn : G2
  | d, .list ds => if inOk d ds then some (.bool (elemD ds d)) else none
  | d, .tuple ds => if inOk d ds then some (.bool (elemD ds d)) else none
  | .str c, .str z => if c.cps.size = 1 then some (.bool (decide (c.cps.getD 0 0 ∈ z.cps.toList))) else none
  | _, _ => none
def dNotIn : G2
  | d, .list ds => if inOk d ds then some (.bool !(elemD ds d)) else none
  | d, .tuple ds => if inOk d ds then some (.bool !(elemD ds d)) else none
  | .str c, .str z => if c.cps.size = 1 then some (.bool !(decide (c.cps.getD 0 0 ∈ z.cps.toList))) else none
  | _, _ => none
theorem one_sign {c : Str} (h : c.cps.size = 1) : c = ⟨#[c.cps.getD 0 0]⟩ := by
  obtain ⟨a⟩ := c
  have h' : a.size = 1 := h
  congr 1
  apply Array.ext
  · simp [h']
  · intro i h1 h2
    have e : i = 0 := by omega
    subst e
    simp [Array.getD, h']
theorem op_dIn (hu : X.A.units + 110 < cLine) : OpR X (compareOp .In) (rD X.K dIn) := by
  intro pins s σ H x y v u Q I rx ry h
  obtain ⟨M, d, e, r, tk, rd, re, eg, q⟩ := h
  unfold dIn at eg
  split at eg
  · split at eg
    · rename_i ds hz
      cases eg
      obtain ⟨h1, h2, h3⟩ := inOk_of hz
      obtain ⟨as, r1⟩ := Dp.reads I _ x v (rd.dp h2) rx
      obtain ⟨bs, r2⟩ := Dp.reads I (.list ds) y u (re.dp h1) ry
      exact SeqAt.in_list_data r2 r1 h1 h2 (by omega) ⟨.bl _, H, I, rfl, q _ H (Same.refl _) (.bl _)⟩
    · cases eg
  · split at eg
    · rename_i ds hz
      cases eg
      obtain ⟨h1, h2, h3⟩ := inOk_of hz
      obtain ⟨as, r1⟩ := Dp.reads I _ x v (rd.dp h2) rx
      obtain ⟨bs, r2⟩ := Dp.reads I (.tuple ds) y u (re.dp h1) ry
      exact SeqAt.in_tuple_data r2 r1 h1 h2 (by omega) ⟨.bl _, H, I, rfl, q _ H (Same.refl _) (.bl _)⟩
    · cases eg
  · split at eg
    · rename_i c z hz
      cases eg
      exact op_in_sign pins s σ H x y v u Q I rx ry ⟨_, _, rd.str.trans (congrArg V.str (one_sign hz)), re.str, q _ H (Same.refl _) (.bl _)⟩
    · cases eg
  · cases eg
theorem op_dNotIn (hu : X.A.units + 110 < cLine) : OpR X (compareOp .NotIn) (rD X.K dNotIn) := by
  intro pins s σ H x y v u Q I rx ry h
  obtain ⟨M, d, e, r, tk, rd, re, eg, q⟩ := h
  unfold dNotIn at eg
  split at eg
  · split at eg
    · rename_i ds hz
      cases eg
      obtain ⟨h1, h2, h3⟩ := inOk_of hz
      obtain ⟨as, r1⟩ := Dp.reads I _ x v (rd.dp h2) rx
      obtain ⟨bs, r2⟩ := Dp.reads I (.list ds) y u (re.dp h1) ry
      exact SeqAt.notIn_list_data r2 r1 h1 h2 (by omega) ⟨.bl _, H, I, rfl, q _ H (Same.refl _) (.bl _)⟩
    · cases eg
  · split at eg
    · rename_i ds hz
      cases eg
      obtain ⟨h1, h2, h3⟩ := inOk_of hz
      obtain ⟨as, r1⟩ := Dp.reads I _ x v (rd.dp h2) rx
      obtain ⟨bs, r2⟩ := Dp.reads I (.tuple ds) y u (re.dp h1) ry
      exact SeqAt.notIn_tuple_data r2 r1 h1 h2 (by omega) ⟨.bl _, H, I, rfl, q _ H (Same.refl _) (.bl _)⟩
    · cases eg
  · split at eg
    · rename_i c z hz
      cases eg
      exact op_notIn_sign pins s σ H x y v u Q I rx ry ⟨_, _, rd.str.trans (congrArg V.str (one_sign hz)), re.str, q _ H (Same.refl _) (.bl _)⟩
    · cases eg
  · cases eg
/-! ### dicts -/
def keyOf : D → Option Key
  | .int i => some (.inl i)
  | .str x => some (.inr x)
  | _ => none
theorem keyOf_some {d : D} {k : Key} (h : keyOf d = some k) : d = kD k := by
  cases d with
  | int i => cases h; rfl
  | str x => cases h; rfl
  | _ => cases h
/-- what stands at a key -/
def dlook (es : List (D × D)) (k : Key) : Option D := (es.find? fun e => decide (keyOf e.1 = some k)).map (·.2)
theorem keyOf_kD (k : Key) : keyOf (kD k) = some k := by cases k <;> rfl
theorem rpK_look {K : Fg} {H : Hp} {M : Av} {k : Key} : ∀ {kvs : List (Key × V)} {es : List (D × D)}, RpK K H M kvs es → (∀ v, valV kvs k = some v → ∃ d, dlook es k = some d ∧ Rp K H M v d) ∧ (valV kvs k = none → dlook es k = none)
  | _, _, .nil => ⟨fun v h => (by cases h), fun _ => rfl⟩
  | _, _, .cons (k := k') (v := v') (kvs := kvs) (d := d') (es := es) h r => by
    have ih := rpK_look (k := k) r
    unfold valV dlook at *
    rw [List.find?_cons, List.find?_cons, keyOf_kD]
    by_cases e : k' = k
    · subst e
      simp only [decide_true, Option.map_some]
      exact ⟨fun v z => ⟨d', rfl, by cases z; exact h⟩, fun z => by cases z⟩
    · have e1 : decide ((k', v').1 = k) = false := decide_eq_false e
      have e2 : decide (some k' = some k) = false := decide_eq_false fun z => e (Option.some.inj z)
      rw [e1, e2]
      exact ih
/-- a dict with int and text keys, that is read -/
def dDictK {K : Fg} {H : Hp} {M : Av} (v : V) (es : List (D × D)) : Prop := ∃ a kvs, v = .ref a ∧ Rd H a (.dK kvs) ∧ RpK K H M kvs es
end
end Dt

set_option Elab.async false
set_option linter.all false
set_option maxRecDepth 100000
set_option autoImplicit false
/-! Arguments, displays, subscripts, slices, calls of what is built in. -/
namespace Dt
open PySem PySem.Spec PyProof.Rows L2 R

/-! ### arguments -/
inductive RxAll (r : Bool) (K : Fg) (H : Hp) (M : Av) : List V → List D → Prop
  | nil : RxAll r K H M [] []
  | cons {v : V} {vs : List V} {d : D} {ds : List D} : Rx r K H M v d → RxAll r K H M vs ds → RxAll r K H M (v :: vs) (d :: ds)
theorem RxAll.all {K : Fg} {H : Hp} {M : Av} : ∀ {vs : List V} {ds : List D}, RxAll false K H M vs ds → RpAll K H M vs ds
  | _, _, .nil => .nil
  | _, _, .cons h r => .cons h r.all
theorem RxAll.ts {r : Bool} {K : Fg} {H : Hp} {M : Av} : ∀ {vs : List V} {ds : List D}, RxAll r K H M vs ds → RxAll true K H M vs ds
  | _, _, .nil => .nil
  | _, _, .cons h q => .cons h.t q.ts
def DTa (K : Fg) (mg : Str → Option Value) (E : XK) (k r : Bool) (Γ : List Nat) (m : MA) : TA := fun σ H Q =>
  ∃ (M : Av) (A : As) (ρ : Ev), A.map (·.1) = Γ ∧ Fit K M A σ H ρ ∧
    (m ρ).post (fun z => ∀ vs H', Fit K M A σ H' z.2 → Fra (eff k A) H H' → (k = false → z.2 = ρ) → RxAll r K H' M vs z.1 → Q vs H') (DX mg E (eff k A) H)
def DA (X : Cx) (E : XK) (k r : Bool) (Γ : List Nat) (es : List Expr) (m : MA) : Prop := PA X es (DTa X.K X.mg E k r Γ m)
theorem PA.imp {X : Cx} {es : List Expr} {t t' : TA} (h : PA X es t) (w : ∀ σ H Q, t' σ H Q → t σ H Q) : PA X es t' := ⟨fun pos pins s σ H Q I q => h.run pos pins s σ H Q I (w σ H Q q)⟩
def aNil : MA := fun ρ => .ok ([], ρ)
def aCons (ma : ME) (mr : MA) : MA := fun ρ => (ma ρ).bind fun x => (mr x.2).bind fun xs => .ok (x.1 :: xs.1, xs.2)
section
variable {X : Cx} {E : XK} {k r : Bool} {Γ : List Nat} {a b c e : Expr} {es : List Expr} {pos : Pos}
theorem da_nil : DA X E k r Γ [] aNil := PA.imp pa_nil fun σ H Q ⟨M, A, ρ, _, f, q⟩ => q [] H f Fra.refl (fun _ => rfl) .nil
theorem da_cons {ma : ME} {mr : MA} (ha : DE X E k r Γ e ma) (hr : DA X E k r Γ es mr) (hk : (k && r) = false := by rfl) (hs : starEach (e :: es) X.env = (false, eval e X.env) :: starEach es X.env := by rfl) : DA X E k r Γ (e :: es) (aCons ma mr) :=
  PA.imp (pa_cons ha hr hs) fun σ H Q ⟨M, A, ρ, hΓ, f, h⟩ => by
    refine ⟨M, A, ρ, hΓ, f, pimp (post_bind h) (fun z hz v1 H1 f1 g1 e1 r1 => ?_) (fun c hc => hc)⟩
    refine ⟨M, A, z.2, hΓ, f1, pimp (post_bind hz) (fun z2 hz2 vs H2 f2 g2 e2 r2 => ?_) (fun c hc => DX.fra g1 hc)⟩
    exact hz2 (v1 :: vs) H2 f2 (g1.trans g2) (fun n => (e2 n).trans (e1 n)) (.cons (r1.fra hk f1 g2) r2)

/-! ### displays -/
def mTup (m : MA) : ME := fun ρ => (m ρ).bind fun x => if x.1.length ≤ 1000 then .ok (.tuple x.1, x.2) else .no
def mLst (m : MA) : ME := fun ρ => (m ρ).bind fun x => if x.1.length ≤ 1000 then .ok (.list x.1, x.2) else .no
def tTupZ (t : TA) : TE := fun σ H Q => t σ H fun vs H1 => vs.length ≤ sizeLine ∧ ∀ p o, H1 p = none → o.dict = none → Q (.ref p) (upd H1 p (.frz o (.tup vs)))
theorem pe_tupZ {t : TA} {x1 : Nat} (h : PA X es t) : PE X (.Tuple es x1 pos) (tTupZ t) := by
  refine ⟨fun pins s σ H Q I hq => ?_⟩
  refine wpAny_Tuple_spliced (thn (h.run pos pins s σ H _ I hq) fun us s1 ⟨xs, H1, I1, r, z, q⟩ => ⟨by rw [← r.length]; exact z, ?_⟩)
  have hf : H1 s1.heap.objs.size = none := I1.hok.fresh (Nat.le_refl _)
  exact ⟨.ref s1.heap.objs.size, _, tupLaid (t' := s1.toks) (n := 0) I1 (fun b u e => Heap.get?_push_of_some _ e) (Nat.le_refl _) z r (Heap.get?_push_size _ rfl), rfl, q _ _ hf rfl⟩
theorem de_tup {m : MA} {x1 : Nat} (h : DA X E k false Γ es m) : DE X E k false Γ (.Tuple es x1 pos) (mTup m) :=
  PE.imp (pe_tupZ h) fun σ H Q ⟨M, A, ρ, hΓ, f, h⟩ => by
    refine ⟨M, A, ρ, hΓ, f, pimp (post_bind h) (fun z hz vs H1 f1 g1 e1 r1 => ?_) (fun c hc => hc)⟩
    by_cases hl : z.1.length ≤ 1000
    · rw [if_pos hl] at hz
      have ra := r1.all
      refine ⟨by rw [ra.length]; exact Nat.le_of_lt (small1000 hl), fun p o np hd => ?_⟩
      obtain ⟨s', rp⟩ := new_tup hd f1.trk np ra
      exact hz _ _ (f1.same s') (g1.trans (Fra.of_eff s')) e1 rp
    · rw [if_neg hl] at hz; exact hz.elim
theorem de_lst {m : MA} (h : DA X E k false Γ es m) : DE X E k false Γ (.List es pos) (mLst m) :=
  PE.imp (pe_lst h) fun σ H Q ⟨M, A, ρ, hΓ, f, h⟩ => by
    refine ⟨M, A, ρ, hΓ, f, pimp (post_bind h) (fun z hz vs H1 f1 g1 e1 r1 => ?_) (fun c hc => hc)⟩
    by_cases hl : z.1.length ≤ 1000
    · rw [if_pos hl] at hz
      have ra := r1.all
      refine ⟨by rw [ra.length]; exact Nat.le_of_lt (small1000 hl), fun p np => ?_⟩
      obtain ⟨s', rp⟩ := new_lst f1.trk np ra
      exact hz _ _ (f1.same s') (g1.trans (Fra.of_eff s')) e1 rp
    · rw [if_neg hl] at hz; exact hz.elim

/-! ### subscripts -/
def asInts : List D → Option (List Int)
  | [] => some []
  | .int i :: ds => (asInts ds).map (i :: ·)
  | _ => none
theorem asInts_some : ∀ {ds : List D} {ns : List Int}, asInts ds = some ns → ds = ns.map .int
  | [], ns, h => by cases h; rfl
  | d :: ds, ns, h => by
    cases d with
    | int i =>
      have h : (asInts ds).map (i :: ·) = some ns := h
      cases e : asInts ds with
      | none => rw [e] at h; cases h
      | some ms => rw [e] at h; cases h; rw [asInts_some e]; rfl
    | _ => cases h
theorem scr_of {ds : List D} {ns : List Int} (h : asInts ds = some ns) : PyData.dict [(.none, .list ds)] = scrD ns := by rw [asInts_some h]; rfl
def scrIx (ds : List D) (i : Int) : Option D := (asInts ds).bind fun ns => (atI ns i).map .int
theorem atI_map {α β : Type} (f : α → β) (xs : List α) (i : Int) : atI (xs.map f) i = (atI xs i).map f := by
  unfold atI
  rw [List.length_map]
  cases ixN xs.length i with
  | none => rfl
  | some j => exact List.getElem?_map
def dIx : G2
  | .list ds, .int i => atI ds i
  | .tuple ds, .int i => atI ds i
  | .str z, .int i => if z.length ≤ sizeLine then (atI z.cps.toList i).map fun c => .str ⟨#[c]⟩ else none
  | .dict [(.none, .list ds)], .int i => scrIx ds i
  | _, _ => none
theorem atI_rp {K : Fg} {H : Hp} {M : Av} {xs : List V} {ds : List D} {i : Int} {d : D} (r : RpAll K H M xs ds) (h : atI ds i = some d) : ∃ v, atI xs i = some v ∧ Rp K H M v d := by
  unfold atI at *
  rw [r.length]
  cases q : ixN ds.length i with
  | none => rw [q] at h; cases h
  | some j =>
    rw [q] at h
    exact r.get h
theorem op_dIx : IxR X (rD X.K dIx) := by
  intro value slice pins s σ H x y v u Q I rx ry h hs
  obtain ⟨M, d, e, r, tk, rd, re, eg, q⟩ := h
  unfold dIx at eg
  split at eg
  · obtain ⟨a, xs, e1, r1, a1⟩ := rd.list
    obtain ⟨w, ew, rw'⟩ := atI_rp a1 eg
    exact ix_list value slice pins s σ H x y v u Q I rx ry ⟨a, xs, _, w, e1, re.int, .inl r1, ew, q _ H (Same.refl _) rw'⟩ hs
  · obtain ⟨a, xs, e1, r1, a1⟩ := rd.tuple
    obtain ⟨w, ew, rw'⟩ := atI_rp a1 eg
    exact ix_tup value slice pins s σ H x y v u Q I rx ry ⟨a, xs, _, w, e1, re.int, r1.sq, ew, q _ H (Same.refl _) rw'⟩ hs
  · split at eg
    · rename_i z i hz
      cases q2 : atI z.cps.toList i with
      | none => rw [q2] at eg; cases eg
      | some c =>
        rw [q2] at eg
        cases eg
        exact ix_str value slice pins s σ H x y v u Q I rx ry ⟨z, i, c, rd.str, re.int, hz, q2, q _ H (Same.refl _) (.str _)⟩ hs
    · cases eg
  · rename_i ds i
    unfold scrIx at eg
    cases ei : asInts ds with
    | none => rw [ei] at eg; cases eg
    | some ns =>
      rw [ei] at eg
      have eg : (atI ns i).map PyData.int = some r := eg
      cases ea : atI ns i with
      | none => rw [ea] at eg; cases eg
      | some n =>
        rw [ea] at eg
        cases eg
        rw [scr_of ei] at rd
        obtain ⟨a, e1, sq⟩ := rd.scr
        exact ix_list value slice pins s σ H x y v u Q I rx ry ⟨a, _, _, .int n, e1, re.int, sq, by rw [atI_map, ea]; rfl, q _ H (Same.refl _) (.int _)⟩ hs
  · cases eg
theorem de_sub {ma mb : ME} {ra rb : Bool} (ha : DE X E k ra Γ a ma) (hb : DE X E k rb Γ b mb) (hs : PlainIx b) (hk : (k && ra) = false := by rfl) : DE X E k false Γ (.Subscript a b pos) (mOp dIx ma mb) := de_ix op_dIx ha hb hs hk

/-! ### slices -/
abbrev MO := Ev → R (Option Int × Ev)
def DTo (K : Fg) (mg : Str → Option Value) (E : XK) (k : Bool) (Γ : List Nat) (m : MO) : TO := fun σ H Q =>
  ∃ (M : Av) (A : As) (ρ : Ev), A.map (·.1) = Γ ∧ Fit K M A σ H ρ ∧
    (m ρ).post (fun z => ∀ H', Fit K M A σ H' z.2 → Fra (eff k A) H H' → (k = false → z.2 = ρ) → Q z.1 H') (DX mg E (eff k A) H)
def DO (X : Cx) (E : XK) (k : Bool) (Γ : List Nat) (e : Option Expr) (m : MO) : Prop := PO X e (DTo X.K X.mg E k Γ m)
theorem PO.imp {X : Cx} {e : Option Expr} {t t' : TO} (h : PO X e t) (w : ∀ σ H Q, t' σ H Q → t σ H Q) : PO X e t' := ⟨fun pins s σ H Q I q => h.run pins s σ H Q I (w σ H Q q)⟩
def oNone : MO := fun ρ => .ok (none, ρ)
def asI : D → Option Int
  | .int i => some i
  | _ => none
theorem asI_some {d : D} {i : Int} (h : asI d = some i) : d = .int i := by
  cases d with
  | int c => rw [Option.some.inj h]
  | _ => cases h
def oSome (m : ME) : MO := fun ρ => (m ρ).bind fun x => (R.opt (asI x.1)).bind fun i => .ok (some i, x.2)
theorem do_none : DO X E k Γ none oNone := PO.imp po_none fun σ H Q ⟨M, A, ρ, _, f, q⟩ => q H f Fra.refl fun _ => rfl
theorem do_some {m : ME} (h : DE X E k false Γ e m) : DO X E k Γ (some e) (oSome m) := PO.imp (po_some h) fun σ H Q ⟨M, A, ρ, hΓ, f, h⟩ => by
    refine ⟨M, A, ρ, hΓ, f, pimp (post_bind h) (fun z hz v H1 f1 g1 e1 r1 => ?_) (fun c hc => hc)⟩
    obtain ⟨i, ei, q⟩ := post_opt hz
    have e2 := asI_some ei
    rw [e2] at r1
    exact ⟨i, Rt.int (Rt.of r1), q H1 f1 g1 e1⟩
def cut {α : Type} (xs : List α) (lo hi : Option Int) : List α := (xs.drop (HT.sIx xs.length 0 lo)).take (HT.sIx xs.length xs.length hi - HT.sIx xs.length 0 lo)
def dSl : D → Option Int → Option Int → Option D
  | .list ds, lo, hi => some (.list (cut ds lo hi))
  | .tuple ds, lo, hi => some (.tuple (cut ds lo hi))
  | .str z, lo, hi => if z.length ≤ sizeLine then some (.str (cutS z lo hi)) else none
  | _, _, _ => none
theorem cut_rp {K : Fg} {H : Hp} {M : Av} {xs : List V} {ds : List D} {lo hi : Option Int} (r : RpAll K H M xs ds) : RpAll K H M (cutV xs lo hi) (cut ds lo hi) := by
  unfold cutV cut
  rw [r.length]
  exact (r.drop _).take _
def rSlD (K : Fg) : V → Option Int → Option Int → Hp → VK → Prop := fun x lo hi H Q => ∃ (M : Av) (d r : D), Trk M H ∧ Rt K H M x d ∧ dSl d lo hi = some r ∧ ∀ w H', Same H H' → Rp K H' M w r → Q w H'
theorem sl_data : SlR X (rSlD X.K) := by
  intro pins s σ H x v vl vu lo hi sl Q I rx hs pl pu h
  obtain ⟨M, d, r, tk, rd, eg, q⟩ := h
  cases d with
  | list ds =>
    cases eg
    obtain ⟨a, xs, e1, r1, a1⟩ := rd.list
    exact sl_list pins s σ H x v vl vu lo hi sl Q I rx hs pl pu ⟨a, xs, e1, .inl r1, fun p np => let ⟨s', rp⟩ := new_lst tk np (cut_rp a1); q _ _ s' rp⟩
  | tuple ds =>
    cases eg
    obtain ⟨a, xs, e1, r1, a1⟩ := rd.tuple
    subst e1
    cases rx
    obtain ⟨its, rv, ht, hz⟩ := I.tuple r1.sq
    have hlen : its.toArray.size = xs.length := by rw [List.size_toArray]; exact rv.length.symm
    refine ⟨"tuple", _, PyProof.Rows.slot_tuple_getitem.lookup, ht.typeIs, ?_⟩
    by_cases hw : HT.sIx xs.length 0 lo = 0 ∧ HT.sIx xs.length xs.length hi = xs.length
    · have e3 : cut ds lo hi = ds := by
        unfold cut
        rw [← a1.length, hw.1, hw.2]
        simp [a1.length]
      rw [e3] at q
      exact getItem_tuple_whole ht hs pl pu (by rw [hlen]; exact hw) ⟨.ref a, H, I, rfl, q _ H (Same.refl _) (.tup r1 a1)⟩
    · refine HT.getItem_tuple_cut ht hs pl pu (by rw [hlen]; exact hw) ?_ (by rw [hlen]; exact hz)
      rw [hlen]
      have I2 := tupLaid (t' := s.toks) (ys := cutV xs lo hi) (its := (its.drop (HT.sIx xs.length 0 lo)).take (HT.sIx xs.length xs.length hi - HT.sIx xs.length 0 lo)) (n := 0) (a := s.heap.objs.size) I (fun b o e => Heap.get?_push_of_some _ e) (Nat.le_refl _) (Nat.le_trans (cutV_length xs lo hi) hz)
        ((rv.drop (HT.sIx xs.length 0 lo)).take (HT.sIx xs.length xs.length hi - HT.sIx xs.length 0 lo)) (Heap.get?_push_size _ rfl)
      obtain ⟨s', rp⟩ := new_tup (K := X.K) (o := tupObj ((its.drop (HT.sIx xs.length 0 lo)).take (HT.sIx xs.length xs.length hi - HT.sIx xs.length 0 lo)) 0) rfl tk I.fresh (cut_rp (lo := lo) (hi := hi) a1)
      exact ⟨.ref s.heap.objs.size, _, I2, rfl, q _ _ s' rp⟩
  | str z =>
    have eg' : (if z.length ≤ sizeLine then some (PyData.str (cutS z lo hi)) else none) = some r := eg
    by_cases hz : z.length ≤ sizeLine
    · rw [if_pos hz] at eg'
      cases eg'
      exact sl_str pins s σ H x v vl vu lo hi sl Q I rx hs pl pu ⟨z, rd.str, hz, q _ H (Same.refl _) (.str _)⟩
    · rw [if_neg hz] at eg'; cases eg'
  | _ => cases eg
def mSl (ma : ME) (ml mh : MO) : ME := fun ρ => (ma ρ).bind fun x => (ml x.2).bind fun l => (mh l.2).bind fun h => (R.opt (dSl x.1 l.1 h.1)).bind fun r => .ok (r, h.2)
theorem de_sl {lo hi : Option Expr} {ma : ME} {ml mh : MO} {ra : Bool} {p2 : Pos} (ha : DE X E k ra Γ a ma) (hl : DO X E k Γ lo ml) (hh : DO X E k Γ hi mh) (hk : (k && ra) = false := by rfl) : DE X E k false Γ (.Subscript a (.Slice lo hi none p2) pos) (mSl ma ml mh) :=
  PE.imp (pe_slice sl_data ha hl hh) fun σ H Q ⟨M, A, ρ, hΓ, f, h⟩ => by
    refine ⟨M, A, ρ, hΓ, f, pimp (post_bind h) (fun z hz v1 H1 f1 g1 e1 r1 => ?_) (fun c hc => hc)⟩
    refine ⟨M, A, z.2, hΓ, f1, pimp (post_bind hz) (fun z2 hz2 H2 f2 g2 e2 => ?_) (fun c hc => DX.fra g1 hc)⟩
    refine ⟨M, A, z2.2, hΓ, f2, pimp (post_bind hz2) (fun z3 hz3 H3 f3 g3 e3 => ?_) (fun c hc => DX.fra (g1.trans g2) hc)⟩
    obtain ⟨w, ew, q⟩ := post_opt hz3
    exact ⟨M, z.1, w, f3.trk, ((r1.fra hk f1 g2).fra hk f2 g3).t, ew, fun u H' s' rp => q u H' (f3.same s') (((g1.trans g2).trans g3).trans (Fra.of_eff s')) (fun n => ((e3 n).trans (e2 n)).trans (e1 n)) rp⟩
/-- xs[::-1], a list -/
def dRevL : G1
  | .list ds => some (.list ds.reverse)
  | _ => none
theorem de_revL {ma : ME} {ra : Bool} {j : Nat} {p1 p2 p3 : Pos} (ha : DE X E k ra Γ a ma) : DE X E k false Γ (.Subscript a (.Slice none none (some (.UnaryOp .USub (.Constant (.int 1) j p1) p2)) p3) pos) (mUn dRevL ma) :=
  PE.imp (pe_revL ha) fun σ H Q h => by
    obtain ⟨M, A, ρ, hΓ, f, h⟩ := dt_un (ra := ra) h
    refine ⟨M, A, ρ, hΓ, f, pimp h (fun z hz v1 H1 f1 g1 e1 r1 => ?_) (fun c hc => hc)⟩
    obtain ⟨M', d, w, tk, rd, ew, q⟩ := hz v1 H1 f1 g1 e1 r1
    cases d with
    | list ds =>
      cases ew
      obtain ⟨b, xs, e3, r3, a3⟩ := rd.list
      exact ⟨b, xs, e3, .inl r3, fun p np => let ⟨s', rp⟩ := new_lst tk np a3.reverse; q _ _ s' rp⟩
    | _ => cases ew

/-! ### calls of what is built in -/
abbrev GA := List D → Option D
def rC (K : Fg) (g : GA) : List V → Hp → VK → Prop := fun vs H Q => ∃ (M : Av) (ds : List D) (r : D), Trk M H ∧ RxAll true K H M vs ds ∧ g ds = some r ∧ ∀ w H', Same H H' → Rp K H' M w r → Q w H'
def mCall (g : GA) (m : MA) : ME := fun ρ => (m ρ).bind fun x => (R.opt (g x.1)).bind fun r => .ok (r, x.2)
theorem dt_call {g : GA} {m : MA} {σ : St} {H : Hp} {Q : VK} (h : DT X.K X.mg E k false Γ (mCall g m) σ H Q) : DTa X.K X.mg E k r Γ m σ H fun vs H1 => rC X.K g vs H1 Q := by
  obtain ⟨M, A, ρ, hΓ, f, h⟩ := h
  refine ⟨M, A, ρ, hΓ, f, pimp (post_bind h) (fun z hz v1 H1 f1 g1 e1 r1 => ?_) (fun c hc => hc)⟩
  obtain ⟨w, ew, q⟩ := post_opt hz
  exact ⟨M, z.1, w, f1.trk, r1.ts, ew, fun u H' s' rp => q u H' (f1.same s') (g1.trans (Fra.of_eff s')) e1 rp⟩
theorem de_callB {x : Str} {p : Pos} {id : String} {g : GA} {m : MA} (hc : CallR X (.builtin id) (rC X.K g)) (hg : Gl X x) (hm : X.mg x = none) (hv : bootBuiltins x = some (.builtin id)) (ha : DA X E k r Γ (e :: es) m) (hn : x ≠ "__name__" := by decide) (hdb : (x == ("__debug__" : Str)) = false := by decide)
    (he : starEach (e :: es) X.env = (false, eval e X.env) :: starEach es X.env := by rfl) (hpl : (backTo pos (starEach es X.env)).any (·.1) = false := by rfl) : DE X E k false Γ (.Call (.Name x p) (e :: es) [] pos) (mCall g m) :=
  PE.imp (pe_callB hc hg hm hv ha hn hdb he hpl) fun σ H Q h => dt_call (r := r) h
theorem de_callTy {x : Str} {p : Pos} {id : String} {g : GA} {m : MA} (hc : CallR X (.type id) (rC X.K g)) (hg : Gl X x) (hm : X.mg x = none) (hv : bootBuiltins x = some (.type id)) (ha : DA X E k r Γ (e :: es) m) (hn : x ≠ "__name__" := by decide) (hdb : (x == ("__debug__" : Str)) = false := by decide)
    (he : starEach (e :: es) X.env = (false, eval e X.env) :: starEach es X.env := by rfl) (hpl : (backTo pos (starEach es X.env)).any (·.1) = false := by rfl) : DE X E k false Γ (.Call (.Name x p) (e :: es) [] pos) (mCall g m) :=
  PE.imp (pe_callTy hc hg hm hv ha hn hdb he hpl) fun σ H Q h => dt_call (r := r) h
theorem rx1 {K : Fg} {H : Hp} {M : Av} {vs : List V} {d : D} (h : RxAll true K H M vs [d]) : ∃ v, vs = [v] ∧ Rt K H M v d := by
  cases h with
  | cons h r => cases r; exact ⟨_, rfl, h⟩
theorem rx2 {K : Fg} {H : Hp} {M : Av} {vs : List V} {d e : D} (h : RxAll true K H M vs [d, e]) : ∃ v w, vs = [v, w] ∧ Rt K H M v d ∧ Rt K H M w e := by
  cases h with
  | cons h r => cases r with | cons h2 r2 => cases r2; exact ⟨_, _, rfl, h, h2⟩
def dLen : GA
  | [.list ds] => some (.int ds.length)
  | [.tuple ds] => some (.int ds.length)
  | [.str z] => if z.length ≤ sizeLine then some (.int z.length) else none
  | [.dict [(.none, .list ds)]] => (asInts ds).map fun ns => .int ns.length
  | _ => none
theorem call_dLen : CallR X (.builtin "len") (rC X.K dLen) := by
  intro pins s σ H vs us Q I rv h
  obtain ⟨M, ds, r, tk, rx, eg, q⟩ := h
  unfold dLen at eg
  split at eg
  · cases eg
    obtain ⟨v, rfl, rd⟩ := rx1 rx
    obtain ⟨a, xs, e1, r1, a1⟩ := rd.list
    subst e1
    exact call_len_seq pins s σ H _ us Q I rv ⟨a, xs, rfl, .inl (.inl r1), by rw [a1.length]; exact q _ H (Same.refl _) (.int _)⟩
  · cases eg
    obtain ⟨v, rfl, rd⟩ := rx1 rx
    obtain ⟨a, xs, e1, r1, a1⟩ := rd.tuple
    subst e1
    exact call_len_seq pins s σ H _ us Q I rv ⟨a, xs, rfl, .inr r1.sq, by rw [a1.length]; exact q _ H (Same.refl _) (.int _)⟩
  · split at eg
    · rename_i z hz
      cases eg
      obtain ⟨v, rfl, rd⟩ := rx1 rx
      obtain rfl := rd.str
      exact call_len_str pins s σ H _ us Q I rv ⟨z, rfl, hz, q _ H (Same.refl _) (.int _)⟩
    · cases eg
  · rename_i ds
    cases ei : asInts ds with
    | none => rw [ei] at eg; cases eg
    | some ns =>
      rw [ei] at eg
      cases eg
      obtain ⟨v, rfl, rd⟩ := rx1 rx
      rw [scr_of ei] at rd
      obtain ⟨a, e1, sq⟩ := rd.scr
      subst e1
      exact call_len_seq pins s σ H _ us Q I rv ⟨a, _, rfl, .inl sq, by rw [List.length_map]; exact q _ H (Same.refl _) (.int _)⟩
  · cases eg
def dAbs : GA
  | [.int i] => some (.int (if i < 0 then -i else i))
  | _ => none
theorem call_dAbs : CallR X (.builtin "abs") (rC X.K dAbs) := by
  intro pins s σ H vs us Q I rv h
  obtain ⟨M, ds, r, tk, rx, eg, q⟩ := h
  unfold dAbs at eg
  split at eg
  · cases eg
    obtain ⟨v, rfl, rd⟩ := rx1 rx
    obtain rfl := rd.int
    exact call_abs pins s σ H _ us Q I rv ⟨_, rfl, q _ H (Same.refl _) (.int _)⟩
  · cases eg
def dInt : GA
  | [.int i] => some (.int i)
  | [.bool b] => some (.int (if b then 1 else 0))
  | _ => none
theorem call_dInt : CallR X (.type "int") (rC X.K dInt) := by
  intro pins s σ H vs us Q I rv h
  obtain ⟨M, ds, r, tk, rx, eg, q⟩ := h
  unfold dInt at eg
  split at eg
  · cases eg
    obtain ⟨v, rfl, rd⟩ := rx1 rx
    obtain rfl := rd.int
    exact call_int1 pins s σ H _ us Q I rv (.inl ⟨_, rfl, q _ H (Same.refl _) (.int _)⟩)
  · cases eg
    obtain ⟨v, rfl, rd⟩ := rx1 rx
    obtain rfl := rd.bl
    exact call_int1 pins s σ H _ us Q I rv (.inr ⟨_, rfl, q _ H (Same.refl _) (.int _)⟩)
  · cases eg
def dList : GA
  | [.list ds] => some (.list ds)
  | [.tuple ds] => some (.list ds)
  | _ => none
theorem call_dList : CallR X (.type "list") (rC X.K dList) := by
  intro pins s σ H vs us Q I rv h
  obtain ⟨M, ds, r, tk, rx, eg, q⟩ := h
  unfold dList at eg
  split at eg
  · cases eg
    obtain ⟨v, rfl, rd⟩ := rx1 rx
    obtain ⟨a, xs, e1, r1, a1⟩ := rd.list
    subst e1
    exact call_list_of pins s σ H _ us Q I rv ⟨a, xs, rfl, .inl (.inl r1), fun p np => let ⟨s', rp⟩ := new_lst tk np a1; q _ _ s' rp⟩
  · cases eg
    obtain ⟨v, rfl, rd⟩ := rx1 rx
    obtain ⟨a, xs, e1, r1, a1⟩ := rd.tuple
    subst e1
    exact call_list_of pins s σ H _ us Q I rv ⟨a, xs, rfl, .inr r1.sq, fun p np => let ⟨s', rp⟩ := new_lst tk np a1; q _ _ s' rp⟩
  · cases eg
def dTuple : GA
  | [.list ds] => some (.tuple ds)
  | [.tuple ds] => some (.tuple ds)
  | _ => none
theorem call_dTuple : CallR X (.type "tuple") (rC X.K dTuple) := by
  intro pins s σ H vs us Q I rv h
  obtain ⟨M, ds, r, tk, rx, eg, q⟩ := h
  unfold dTuple at eg
  split at eg
  · cases eg
    obtain ⟨v, rfl, rd⟩ := rx1 rx
    obtain ⟨a, xs, e1, r1, a1⟩ := rd.list
    subst e1
    obtain rfl := Vals.ref1 rv
    obtain ⟨its, r', pl, hz⟩ := I.list (.inl r1)
    have hlen := r'.length
    refine call_tuple_list pl.isList (fun h' kp => ?_) (by simp only [List.size_toArray] <;> omega)
    have I1 : Inv X pins σ H { s with heap := h' } := I.kept (t' := s.toks) kp
    have I2 := tupLaid (t' := s.toks) (ys := xs) (its := its) (n := 0) (a := h'.objs.size) I1 (fun b o e => Heap.get?_push_of_some _ e) (Nat.le_refl _) hz r' (Heap.get?_push_size _ rfl)
    obtain ⟨s', rp⟩ := new_tup (K := X.K) (o := tupObj its 0) rfl tk (I1.hok.fresh (Nat.le_refl _)) a1
    exact ⟨.ref h'.objs.size, _, I2, rfl, q _ _ s' rp⟩
  · cases eg
    obtain ⟨v, rfl, rd⟩ := rx1 rx
    obtain ⟨a, xs, e1, r1, a1⟩ := rd.tuple
    subst e1
    exact call_tuple_of pins s σ H _ us Q I rv ⟨a, xs, rfl, .inr ⟨r1.sq, q _ H (Same.refl _) (.tup r1 a1)⟩⟩
  · cases eg
/-- all, any of a list of bools -/
def asBs : List D → Option (List Bool)
  | [] => some []
  | .bool b :: r => (asBs r).map (b :: ·)
  | _ => none
theorem asBs_map : ∀ {ds : List D} {bs : List Bool}, asBs ds = some bs → ds = bs.map PyData.bool
  | [], _, h => by cases h; rfl
  | d :: r, bs, h => by
    cases d with
    | bool b =>
      have h' : (asBs r).map (b :: ·) = some bs := h
      cases q : asBs r with
      | none => rw [q] at h'; cases h'
      | some cs =>
        rw [q] at h'
        cases h'
        rw [asBs_map q]; rfl
    | _ => cases h
theorem rp_bools {K : Fg} {H : Hp} {M : Av} : ∀ {bs : List Bool} {xs : List V}, RpAll K H M xs (bs.map PyData.bool) → xs = bs.map V.bl
  | [], _, h => by cases h; rfl
  | b :: bs, _, h => by
    cases h with
    | cons h r => cases h; rw [rp_bools r]; rfl
def dAll : GA
  | [.list ds] => (asBs ds).map fun bs => .bool (bs.all id)
  | _ => none
def dAny : GA
  | [.list ds] => (asBs ds).map fun bs => .bool (bs.any id)
  | _ => none
theorem call_dAll (hc : X.calm = true) : CallR X (.builtin "all") (rC X.K dAll) := by
  intro pins s σ H vs us Q I rv h
  obtain ⟨M, ds, r, tk, rx, eg, q⟩ := h
  unfold dAll at eg
  split at eg
  · rename_i ds
    cases q2 : asBs ds with
    | none => rw [q2] at eg; cases eg
    | some bs =>
      rw [q2] at eg
      cases eg
      obtain ⟨v, rfl, rd⟩ := rx1 rx
      obtain ⟨a, xs, e1, r1, a1⟩ := rd.list
      subst e1
      rw [asBs_map q2] at a1
      have := rp_bools a1
      subst this
      exact cr_all hc pins s σ H _ us Q I rv ⟨a, bs, rfl, .inl r1, q _ H (Same.refl _) (.bl _)⟩
  · cases eg
theorem call_dAny (hc : X.calm = true) : CallR X (.builtin "any") (rC X.K dAny) := by
  intro pins s σ H vs us Q I rv h
  obtain ⟨M, ds, r, tk, rx, eg, q⟩ := h
  unfold dAny at eg
  split at eg
  · rename_i ds
    cases q2 : asBs ds with
    | none => rw [q2] at eg; cases eg
    | some bs =>
      rw [q2] at eg
      cases eg
      obtain ⟨v, rfl, rd⟩ := rx1 rx
      obtain ⟨a, xs, e1, r1, a1⟩ := rd.list
      subst e1
      rw [asBs_map q2] at a1
      have := rp_bools a1
      subst this
      exact cr_any hc pins s σ H _ us Q I rv ⟨a, bs, rfl, .inl r1, q _ H (Same.refl _) (.bl _)⟩
  · cases eg
end
end Dt

set_option Elab.async false
set_option linter.all false
set_option maxRecDepth 100000
set_option autoImplicit false
/-! What is walked, statements, loops. -/
namespace Dt
open PySem PySem.Spec PyProof.Rows L2 R

/-! ### carrying more -/
theorem Carry.wide {K : Fg} {H H' : Hp} {F M M' : Av} (g : Fra F H H') (hF : ∀ b, F b → M b) (hM : ∀ b, M' b → M b ∨ H b = none) : Carry K H H' M M' := ⟨fun a u r n =>
  ⟨.inl (g a u r fun z => n (hF a z)), fun z => (hM a z).elim n fun e => by rw [e] at r; cases r⟩⟩

/-! ### what is walked: items that stand as data -/
structure Src (K : Fg) (J : It) (ds : List D) (S : Av → Hp → Prop) : Prop where
  carry : ∀ (M M' F : Av) (H H' : Hp), S M H → Fra F H H' → (∀ b, F b → M b) → (∀ b, M' b → M b ∨ H b = none) → S M' H'
  go : ∀ (M : Av) (i : Nat) (H : Hp), S M H → i < ds.length → J.go i H
  stop : ∀ (M : Av) (i : Nat) (H : Hp), S M H → ds.length ≤ i → J.stop i H
  yld : ∀ (M : Av) (i : Nat) (H : Hp) (x : V) (H' : Hp), S M H → i < ds.length → J.yld i H x H' → H' = H ∧ ∃ d, ds[i]? = some d ∧ Rp K H M x d
def DTi (K : Fg) (mg : Str → Option Value) (E : XK) (k : Bool) (Γ : List Nat) (m : MA) : TI := fun σ H Rr =>
  ∃ (M : Av) (A : As) (ρ : Ev), A.map (·.1) = Γ ∧ Fit K M A σ H ρ ∧
    (m ρ).post (fun z => ∀ J S H', Fit K M A σ H' z.2 → Fra (eff k A) H H' → (k = false → z.2 = ρ) → Src K J z.1 S → S M H' → z.1.length ≤ sizeLine → Rr J H') (DX mg E (eff k A) H)
def DI (X : Cx) (E : XK) (k : Bool) (Γ : List Nat) (tg e : Expr) (m : MA) : Prop := PI X tg e (DTi X.K X.mg E k Γ m)
theorem PI.imp {X : Cx} {tg e : Expr} {t t' : TI} (h : PI X tg e t) (w : ∀ σ H Q, t' σ H Q → t σ H Q) : PI X tg e t' := ⟨fun pins s σ H Q I q => h.run pins s σ H Q I (w σ H Q q)⟩

/-- a list, a tuple or a text -/
def iSeq (K : Fg) (tl : TE) : TI := fun σ H R => tl σ H fun x H1 => (∃ a xs, x = .ref a ∧ SqL K H1 a xs ∧ (xs.length ≤ sizeLine → R (Itl K a) H1)) ∨ (∃ a xs, x = .ref a ∧ SqT K H1 a xs ∧ (xs.length ≤ sizeLine → R (Itt K a) H1)) ∨ ∃ z, x = .str z ∧ R (Its z) H1
theorem pi_seq {X : Cx} {tg l : Expr} {tl : TE} (hl : PE X l tl) : PI X tg l (iSeq X.K tl) := by
  refine ⟨fun pins s σ H R I h => ?_⟩
  refine thn (hl.run pins s σ H _ I h) fun v s1 ⟨x, H1, I1, r1, q1⟩ => ?_
  rcases q1 with ⟨a, xs, e, hq, q⟩ | ⟨a, xs, e, hq, q⟩ | ⟨z, e, q⟩
  · subst e
    cases r1
    obtain ⟨its, rv, p, hz⟩ := I1.list hq
    refine wpAny_pyIter_list p.isList ?_
    refine ⟨s1.heap.objs.size, [s1.heap.objs.size], _, _, H1, rfl, I1.kept (t' := s1.toks) fun b o e => Heap.get?_push_of_some _ e, turn_list a _, ⟨_, Heap.get?_push_size _ rfl, rfl, rfl⟩, fun b hb => ?_, q hz⟩
    have e : b = s1.heap.objs.size := by simpa using hb
    subst e
    exact I1.fpOk (Nat.le_refl _) (I1.hok.fresh (Nat.le_refl _))
  · subst e
    cases r1
    obtain ⟨its, rv, p, hz⟩ := I1.tuple hq
    refine wpAny_pyIter_tuple (show s1.heap.IsTuple a its.toArray from p) ?_
    refine ⟨s1.heap.objs.size, [s1.heap.objs.size], _, _, H1, rfl, I1.kept (t' := s1.toks) fun b o e => Heap.get?_push_of_some _ e, turn_tuple a _, ⟨_, Heap.get?_push_size _ rfl, rfl, rfl⟩, fun b hb => ?_, q hz⟩
    have e : b = s1.heap.objs.size := by simpa using hb
    subst e
    exact I1.fpOk (Nat.le_refl _) (I1.hok.fresh (Nat.le_refl _))
  · subst e
    obtain ⟨t, rfl⟩ := r1
    cases ha : z.cps.all (· < 128)
    · exact wpAny_pyIter_wide ha (pi_one (tk := s1.toks) I1 _ (turn_str _ z t "str_iterator" (.inr rfl)) ⟨_, Heap.get?_push_size _ rfl, rfl, rfl⟩ q)
    · exact wpAny_pyIter_ascii ha (pi_one (tk := s1.toks) I1 _ (turn_str _ z t "str_ascii_iterator" (.inl rfl)) ⟨_, Heap.get?_push_size _ rfl, rfl, rfl⟩ q)
theorem src_list {K : Fg} (a : Addr) (ds : List D) : Src K (Itl K a) ds (fun M H => ∃ xs, SLm K H M a xs ∧ RpAll K H M xs ds) where
  carry := fun M M' F H H' ⟨xs, h1, h2⟩ g hF hM =>
    have c : Carry K H H' M M' := Carry.wide g hF hM
    ⟨xs, c.rd _ _ h1.1 h1.2, RpAll.carry c h2⟩
  go := fun M i H ⟨xs, h1, h2⟩ hi => ⟨xs, xs[i]'(by rw [h2.length]; exact hi), h1.sq, List.getElem?_eq_getElem _⟩
  stop := fun M i H ⟨xs, h1, h2⟩ hi => ⟨xs, h1.sq, by rw [h2.length]; exact hi⟩
  yld := fun M i H x H' ⟨xs, h1, h2⟩ _ ⟨e, hx⟩ => ⟨e, h2.getV (hx xs h1.sq)⟩
theorem src_tup {K : Fg} (a : Addr) (ds : List D) : Src K (Itt K a) ds (fun M H => ∃ xs, STm K H M a xs ∧ RpAll K H M xs ds) where
  carry := fun M M' F H H' ⟨xs, h1, h2⟩ g hF hM =>
    have c : Carry K H H' M M' := Carry.wide g hF hM
    ⟨xs, h1.imp (fun z => c.tp _ _ z.1 z.2) id, RpAll.carry c h2⟩
  go := fun M i H ⟨xs, h1, h2⟩ hi => ⟨xs, xs[i]'(by rw [h2.length]; exact hi), h1.sq, List.getElem?_eq_getElem _⟩
  stop := fun M i H ⟨xs, h1, h2⟩ hi => ⟨xs, h1.sq, by rw [h2.length]; exact hi⟩
  yld := fun M i H x H' ⟨xs, h1, h2⟩ _ ⟨e, hx⟩ => ⟨e, h2.getV (hx xs h1.sq)⟩
def signs (z : Str) : List D := z.cps.toList.map fun c => .str ⟨#[c]⟩
theorem src_str {K : Fg} (z : Str) : Src K (Its z) (signs z) (fun _ _ => True) where
  carry := fun _ _ _ _ _ _ _ _ _ => trivial
  go := fun M i H _ hi => by
    have : i < z.cps.size := by simpa [signs] using hi
    exact this
  stop := fun M i H _ hi => by
    have : z.cps.size ≤ i := by simpa [signs] using hi
    exact this
  yld := fun M i H x H' _ _ ⟨e, c, hc, ex⟩ => ⟨e, .str ⟨#[c]⟩, by
    unfold signs
    rw [List.getElem?_map]
    have : z.cps.toList[i]? = some c := by simpa using hc
    rw [this]; rfl, by rw [ex]; exact .str _⟩
def rng (lo : Int) (n : Nat) : List D := (List.range n).map fun i => .int (lo + (i : Nat))
theorem src_rng {K : Fg} (lo : Int) (n : Nat) : Src K (Itr lo n) (rng lo n) (fun _ _ => True) where
  carry := fun _ _ _ _ _ _ _ _ _ => trivial
  go := fun M i H _ hi => by
    have : i < n := by simpa [rng] using hi
    exact this
  stop := fun M i H _ hi => by
    have : n ≤ i := by simpa [rng] using hi
    exact this
  yld := fun M i H x H' _ hi ⟨e, ex⟩ => by
    refine ⟨e, .int (lo + (i : Nat)), ?_, by rw [ex]; exact .int _⟩
    have h : i < n := by simpa [rng] using hi
    unfold rng
    rw [List.getElem?_map, List.getElem?_range h]; rfl

section
variable {X : Cx} {E : XK} {k r : Bool} {Γ : List Nat} {a b c e tg : Expr} {es : List Expr} {pos : Pos}
def items : D → Option (List D)
  | .list ds => some ds
  | .tuple ds => some ds
  | .str z => if z.length ≤ sizeLine then some (signs z) else none
  | .dict [(.none, .list ds)] => (asInts ds).map fun _ => ds
  | _ => none
theorem src_scr {K : Fg} (a : Addr) (ns : List Int) : Src K (Itl K a) (ns.map .int) (fun M H => SQm K H M a (ns.map V.int)) where
  carry := fun M M' F H H' h g hF hM => h.imp (fun z => (Carry.wide (K := K) g hF hM).rd _ _ z.1 z.2) id
  go := fun M i H h hi => ⟨ns.map V.int, (ns.map V.int)[i]'(by simpa using hi), h.sq, List.getElem?_eq_getElem _⟩
  stop := fun M i H h hi => ⟨ns.map V.int, h.sq, by simpa using hi⟩
  yld := fun M i H x H' h hi ⟨e, hx⟩ => ⟨e, by
    have h1 := hx _ h.sq
    rw [List.getElem?_map] at h1
    have hi : i < ns.length := by simpa using hi
    rw [List.getElem?_eq_getElem hi] at h1
    cases h1
    exact ⟨.int ns[i], by rw [List.getElem?_map, List.getElem?_eq_getElem hi]; rfl, .int _⟩⟩
def iSq (m : ME) : MA := fun ρ => (m ρ).bind fun x => (R.opt (items x.1)).bind fun ds => .ok (ds, x.2)
theorem di_seq {m : ME} (h : DE X E k false Γ e m) : DI X E k Γ tg e (iSq m) := PI.imp (pi_seq h) fun σ H Q ⟨M, A, ρ, hΓ, f, h⟩ => by
  refine ⟨M, A, ρ, hΓ, f, pimp (post_bind h) (fun z hz v H1 f1 g1 e1 r1 => ?_) (fun c hc => hc)⟩
  obtain ⟨ds, ed, q⟩ := post_opt hz
  have r2 : Rp X.K H1 M v z.1 := r1
  cases hd : z.1 with
  | list xs =>
    rw [hd] at ed r2
    cases ed
    cases r2 with
    | lst h1 h2 => exact .inl ⟨_, _, rfl, h1.sq, fun hl => q _ _ H1 f1 g1 e1 (src_list _ _) ⟨_, h1, h2⟩ (by rw [← h2.length]; exact hl)⟩
  | tuple xs =>
    rw [hd] at ed r2
    cases ed
    cases r2 with
    | tup h1 h2 => exact .inr (.inl ⟨_, _, rfl, h1.sq, fun hl => q _ _ H1 f1 g1 e1 (src_tup _ _) ⟨_, h1, h2⟩ (by rw [← h2.length]; exact hl)⟩)
  | str x =>
    rw [hd] at ed r2
    have ed' : (if x.length ≤ sizeLine then some (signs x) else none) = some ds := ed
    by_cases hl : x.length ≤ sizeLine
    · rw [if_pos hl] at ed'
      cases ed'
      cases r2
      exact .inr (.inr ⟨_, rfl, q _ _ H1 f1 g1 e1 (src_str _) trivial (by
        have : (signs x).length = x.length := by
          unfold signs
          rw [List.length_map, Array.length_toList]; rfl
        rw [this]; exact hl)⟩)
    · rw [if_neg hl] at ed'; cases ed'
  | dict es =>
    rw [hd] at ed r2
    unfold items at ed
    split at ed
    · rename_i e; cases e
    · rename_i e; cases e
    · rename_i e; cases e
    · rename_i ds' e
      cases e
      cases ei : asInts ds' with
      | none => rw [ei] at ed; cases ed
      | some ns =>
        rw [ei] at ed
        cases ed
        rw [scr_of ei] at r2
        have ens := asInts_some ei
        rw [ens] at q
        generalize hsd : scrD ns = dd at r2
        cases r2 with
        | scr h =>
          have e2 : (scrD ns = scrD _) := hsd
          obtain ⟨hsz, _⟩ : True ∧ True := ⟨trivial, trivial⟩
          injection e2 with e2
          injection e2 with e2 _
          injection e2 with _ e2
          injection e2 with e2
          have e3 := (List.map_inj_right (fun a b z => by injection z)).mp e2
          subst e3
          exact .inl ⟨_, _, rfl, h.sq, fun hl => q _ _ H1 f1 g1 e1 (src_scr _ _) h (by simpa using hl)⟩
        | dcK _ _ r => exact (scr_ne r hsd).elim
        | dcT _ _ r => injection hsd with hsd; injection hsd with hsd _; injection hsd with hsd _; cases hsd
        | _ => cases hsd
    · cases ed
  | _ => rw [hd] at ed; cases ed
def small62 (i : Int) : Bool := decide (-(2 ^ 62) ≤ i) && decide (i < 2 ^ 62)
theorem small62_of {i : Int} (h : small62 i = true) : -(2 ^ 62) ≤ i ∧ i < 2 ^ 62 := by
  have := Bool.and_eq_true_iff.mp h
  exact ⟨of_decide_eq_true this.1, of_decide_eq_true this.2⟩
def rng1 : List D → Option (List D)
  | [.int j] => if decide (j ≤ 16777216) && decide (-16777216 ≤ j) then some (rng 0 j.toNat) else none
  | _ => none
def rng2 : List D → Option (List D)
  | [.int i, .int j] => if small62 i && (small62 j && decide (j - i ≤ 16777216)) then some (rng i (j - i).toNat) else none
  | _ => none
def iRg (g : List D → Option (List D)) (m : MA) : MA := fun ρ => (m ρ).bind fun x => (R.opt (g x.1)).bind fun ds => .ok (ds, x.2)
theorem di_rng1 {m : MA} {p : Pos} (hg : Gl X "range") (hm : X.mg "range" = none) (h : DA X E k r Γ [e] m) (hs : starEach [e] X.env = [(false, eval e X.env)] := by rfl) : DI X E k Γ tg (.Call (.Name "range" p) [e] [] pos) (iRg rng1 m) :=
  PI.imp (pi_range1 hg hm h hs) fun σ H Q ⟨M, A, ρ, hΓ, f, h⟩ => by
    refine ⟨M, A, ρ, hΓ, f, pimp (post_bind h) (fun z hz v H1 f1 g1 e1 r1 => ?_) (fun c hc => hc)⟩
    obtain ⟨ds, ed, q⟩ := post_opt hz
    unfold rng1 at ed
    split at ed
    · rename_i j hd
      split at ed
      · rename_i hj
        cases ed
        rw [hd] at r1
        obtain ⟨w, rfl, rw'⟩ := rx1 r1.ts
        have hj' := Bool.and_eq_true_iff.mp hj
        have h1 := of_decide_eq_true hj'.1
        have h2 := of_decide_eq_true hj'.2
        exact ⟨j, by rw [rw'.int], by omega, by omega, q _ _ H1 f1 g1 e1 (src_rng 0 _) trivial (by
          have : (rng 0 j.toNat).length = j.toNat := by simp [rng]
          have h3 : (sizeLine : Nat) = 16777216 := sizeLine_eq
          rw [this, h3]; omega)⟩
      · cases ed
    · cases ed
theorem di_rng2 {m : MA} {p : Pos} (hg : Gl X "range") (hm : X.mg "range" = none) (h : DA X E k r Γ [a, b] m) (hs : starEach [a, b] X.env = [(false, eval a X.env), (false, eval b X.env)] := by rfl) (hs2 : starEach [b] X.env = [(false, eval b X.env)] := by rfl) :
    DI X E k Γ tg (.Call (.Name "range" p) [a, b] [] pos) (iRg rng2 m) :=
  PI.imp (pi_range2 hg hm h hs hs2) fun σ H Q ⟨M, A, ρ, hΓ, f, h⟩ => by
    refine ⟨M, A, ρ, hΓ, f, pimp (post_bind h) (fun z hz v H1 f1 g1 e1 r1 => ?_) (fun c hc => hc)⟩
    obtain ⟨ds, ed, q⟩ := post_opt hz
    unfold rng2 at ed
    split at ed
    · rename_i i j hd
      split at ed
      · rename_i hj
        cases ed
        rw [hd] at r1
        obtain ⟨w, w2, rfl, rw', rw2⟩ := rx2 r1.ts
        have hj' := Bool.and_eq_true_iff.mp hj
        have hj2 := Bool.and_eq_true_iff.mp hj'.2
        obtain ⟨h1, h2⟩ := small62_of hj'.1
        obtain ⟨h3, h4⟩ := small62_of hj2.1
        have h5 := of_decide_eq_true hj2.2
        exact ⟨i, j, by rw [rw'.int, rw2.int], ⟨h1, h2, h3, h4⟩, q _ _ H1 f1 g1 e1 (src_rng i _) trivial (by
          have : (rng i (j - i).toNat).length = (j - i).toNat := by simp [rng]
          have h6 : (sizeLine : Nat) = 16777216 := sizeLine_eq
          rw [this, h6]; omega)⟩
      · cases ed
    · cases ed
end

/-! ### targets -/
abbrev MG := D → Ev → R Ev
abbrev MGs := List D → Ev → R Ev
theorem Fit.set {K : Fg} {M : Av} {A : As} {σ : St} {H : Hp} {ρ : Ev} {i : Nat} {v : V} {d : D} (f : Fit K M A σ H ρ) (hi : ∀ a, (i, a) ∉ A) (h : Rp K H M v d) : Fit K M A (σ.set i (some v)) H (ρ.set i (some d)) where
  len := by rw [List.length_set, List.length_set]; exact f.len
  trk := f.trk
  sub := f.sub
  nd := f.nd
  own := fun p hp => by
    have ne : i ≠ p.1 := fun e => hi p.2 (by rw [e]; exact hp)
    obtain ⟨h1, d', h2, h3⟩ := f.own p hp
    exact ⟨by rw [List.getElem?_set_ne ne]; exact h1, d', by rw [List.getElem?_set_ne ne]; exact h2, h3⟩
  shr := fun j d' e n => by
    by_cases ej : i = j
    · subst ej
      have hl : i < ρ.length := by
        have := (List.getElem?_eq_some_iff.mp e).1
        rwa [List.length_set] at this
      rw [List.getElem?_set_self hl] at e
      cases e
      exact ⟨v, List.getElem?_set_self (by rw [f.len]; exact hl), h⟩
    · rw [List.getElem?_set_ne ej] at e
      obtain ⟨w, h1, h2⟩ := f.shr j d' e n
      exact ⟨w, by rw [List.getElem?_set_ne ej]; exact h1, h2⟩
theorem not_own {A : As} {Γ : List Nat} {i : Nat} (hΓ : A.map (·.1) = Γ) (hi : Γ.contains i = false) : ∀ a, (i, a) ∉ A := fun a z => by
  have : i ∈ Γ := hΓ ▸ List.mem_map.mpr ⟨(i, a), z, rfl⟩
  rw [List.contains_iff_mem.mpr this] at hi
  cases hi
def DTg (K : Fg) (Γ vs : List Nat) (m : MG) : TG := fun v σ H Q => ∃ (M : Av) (A : As) (ρ : Ev) (d : D), A.map (·.1) = Γ ∧ Fit K M A σ H ρ ∧ Rp K H M v d ∧
  (m d ρ).post (fun ρ' => ∀ σ', Fit K M A σ' H ρ' → wipe σ' vs = wipe σ vs → Q σ' H) (fun _ => False)
def DTgs (K : Fg) (Γ ws : List Nat) (m : MGs) : TGs := fun vs σ H Q => ∃ (M : Av) (A : As) (ρ : Ev) (ds : List D), A.map (·.1) = Γ ∧ Fit K M A σ H ρ ∧ RpAll K H M vs ds ∧
  (m ds ρ).post (fun ρ' => ∀ σ', Fit K M A σ' H ρ' → wipe σ' ws = wipe σ ws → Q σ' H) (fun _ => False)
def DG (X : Cx) (Γ vs : List Nat) (tg : Expr) (m : MG) : Prop := PG X tg (DTg X.K Γ vs m)
def DGs (X : Cx) (Γ vs : List Nat) (tgs : List Expr) (m : MGs) : Prop := PGs X tgs (DTgs X.K Γ vs m)
theorem wipe_set {v : Option V} {i : Nat} : ∀ {vs : List Nat} {σ : St}, i ∈ vs → wipe (σ.set i v) vs = wipe σ vs := by
  have comm : ∀ (vs : List Nat) (σ : St) (v : Option V), wipe (σ.set i v) vs = if i ∈ vs then wipe σ vs else (wipe σ vs).set i v := by
    intro vs
    induction vs with
    | nil => intro σ v; simp [wipe]
    | cons j vs ih =>
      intro σ v
      show (wipe (σ.set i v) vs).set j none = _
      rw [ih]
      by_cases h : i ∈ vs
      · rw [if_pos h, if_pos (List.mem_cons_of_mem _ h)]; rfl
      · rw [if_neg h]
        by_cases e : i = j
        · subst e
          rw [if_pos List.mem_cons_self, List.set_set]; rfl
        · rw [if_neg (fun z => (List.mem_cons.mp z).elim e h), List.set_comm _ _ e]; rfl
  intro vs σ h
  rw [comm, if_pos h]
theorem PG.imp {X : Cx} {tg : Expr} {t t' : TG} (h : PG X tg t) (w : ∀ v σ H Q, t' v σ H Q → t v σ H Q) : PG X tg t' := ⟨fun pins s σ H v u Q I rv q => h.run pins s σ H v u Q I rv (w v σ H Q q)⟩
theorem PGs.imp {X : Cx} {tg : List Expr} {t t' : TGs} (h : PGs X tg t) (w : ∀ v σ H Q, t' v σ H Q → t v σ H Q) : PGs X tg t' := ⟨fun pins s σ H v u Q I rv q => h.run pins s σ H v u Q I rv (w v σ H Q q)⟩
def gSet (i : Nat) : MG := fun d ρ => .ok (ρ.set i (some d))
def gsNil : MGs := fun ds ρ => match ds with
  | [] => .ok ρ
  | _ => .no
def gsCons (g : MG) (gs : MGs) : MGs := fun ds ρ => match ds with
  | d :: r => (g d ρ).bind fun ρ' => gs r ρ'
  | [] => .no
def gTpl (n : Nat) (gs : MGs) : MG := fun d ρ => match d with
  | .tuple ds => if ds.length = n then gs ds ρ else .no
  | _ => .no
section
variable {X : Cx} {Γ vs : List Nat} {pos : Pos}
theorem dg_name {i : Nat} {x : Str} (hN : X.N.Nodup) (hi : X.N[i]? = some x) (hx : Loc X.env.scope x) (hf : X.fn x = true ∨ X.env.scope.names.lookup x = some .local := by first | exact .inl rfl | exact .inr rfl | assumption) (hΓ : Γ.contains i = false := by decide) (hv : vs.contains i = true := by decide) :
    DG X Γ vs (.Name x pos) (gSet i) := PG.imp (pg_name hN hi hx hf) fun v σ H Q ⟨M, A, ρ, d, h1, f, rv, q⟩ => q _ (f.set (not_own h1 hΓ) rv) (wipe_set (List.contains_iff_mem.mp hv))
theorem dgs_nil : DGs X Γ vs [] gsNil := PGs.imp pgs_nil fun vs σ H Q ⟨M, A, ρ, ds, h1, f, rv, q⟩ => by
  cases rv with
  | nil => exact ⟨rfl, q _ f rfl⟩
  | cons => exact q.elim
theorem dgs_cons {e : Expr} {es : List Expr} {g : MG} {gs : MGs} (h1 : DG X Γ vs e g) (h2 : DGs X Γ vs es gs) (hs : (assignEach (e :: es) X.env).map (·.2) = assign e X.env :: (assignEach es X.env).map (·.2) := by rfl) : DGs X Γ vs (e :: es) (gsCons g gs) :=
  PGs.imp (pgs_cons h1 h2 hs) fun vs σ H Q ⟨M, A, ρ, ds, h1, f, rv, q⟩ => by
    cases rv with
    | nil => exact q.elim
    | cons rv rr =>
      refine ⟨_, _, rfl, M, A, ρ, _, h1, f, rv, pimp (post_bind q) (fun ρ' hz σ' f' w' => ?_) fun c hc => hc⟩
      exact ⟨M, A, ρ', _, h1, f', rr, pimp hz (fun ρ2 h2 σ2 f2 w2 => h2 σ2 f2 (w2.trans w')) fun c hc => hc⟩
theorem dg_tup {es : List Expr} {k n : Nat} {gs : MGs} (hc : X.calm = true) (h : DGs X Γ vs es gs) (hn : (assignEach es X.env).length = n := by rfl) (hst : (assignEach es X.env).findIdx? (·.1) = none := by rfl) : DG X Γ vs (.Tuple es k pos) (gTpl n gs) :=
  PG.imp (pg_tup hc h hn hst) fun v σ H Q ⟨M, A, ρ, d, h1, f, rv, q⟩ => by
    cases rv with
    | @tup a xs ds hs hr =>
      have q' : (if ds.length = n then gs ds ρ else R.no).post (fun ρ' => ∀ σ', Fit X.K M A σ' H ρ' → wipe σ' vs = wipe σ vs → Q σ' H) (fun _ => False) := q
      by_cases hl : ds.length = n
      · rw [if_pos hl] at q'
        exact ⟨_, _, rfl, hs.sq, by rw [hr.length]; exact hl, M, A, ρ, ds, h1, f, hr, q'⟩
      · rw [if_neg hl] at q'; exact q'.elim
    | _ => exact q.elim
end
end Dt

set_option Elab.async false
set_option linter.all false
set_option maxRecDepth 100000
set_option autoImplicit false
/-! Statements. -/
namespace Dt
open PySem PySem.Spec PyProof.Rows L2 R

inductive Fl where
  | nx | rt (d : D) | bk | ct
abbrev MS := Ev → R (Fl × Ev)
def un (M0 : Av) (A : As) : Av := fun b => M0 b ∨ A.has b
/-- what a statement may have changed: own objects alone; what is owned then was so, or is new -/
structure Stp (Bs A0 B' : As) (Hs H' : Hp) : Prop where
  fra : Fra (As.has (Bs ++ A0)) Hs H'
  new : ∀ p ∈ B', Bs.has p.2 ∨ Hs p.2 = none
def Pst (K : Fg) (M0 : Av) (A0 : As) (Γ' Γl : List Nat) (D : Ends) (Bs : As) (Hs : Hp) (z : Fl × Ev) : Prop := match z.1 with
  | .nx => ∀ σ' H' B', B'.map (·.1) = Γ' → Stp Bs A0 B' Hs H' → Fit K (un M0 (B' ++ A0)) (B' ++ A0) σ' H' z.2 → D.nx σ' H'
  | .rt d => ∀ v H', Fra (As.has (Bs ++ A0)) Hs H' → Rp K H' (un M0 A0) v d → (∀ p ∈ A0, ∃ d', z.2[p.1]? = some (some d') ∧ OwnAt K H' (un M0 A0) p.2 d') → D.rt v H'
  | .bk => ∀ σ' H' B', B'.map (·.1) = Γl → Stp Bs A0 B' Hs H' → Fit K (un M0 (B' ++ A0)) (B' ++ A0) σ' H' z.2 → D.bk σ' H'
  | .ct => ∀ σ' H' B', B'.map (·.1) = Γl → Stp Bs A0 B' Hs H' → Fit K (un M0 (B' ++ A0)) (B' ++ A0) σ' H' z.2 → D.ct σ' H'
def DTs (K : Fg) (mg : Str → Option Value) (E : XK) (Γ0 Γ Γ' Γl : List Nat) (m : MS) : TS := fun D σ H =>
  ∃ (M0 : Av) (B A0 : As) (ρ : Ev), B.map (·.1) = Γ ∧ A0.map (·.1) = Γ0 ∧ (∀ p ∈ B ++ A0, ¬ M0 p.2) ∧ Fit K (un M0 (B ++ A0)) (B ++ A0) σ H ρ ∧
    (m ρ).post (Pst K M0 A0 Γ' Γl D B H) (DX mg E (As.has (B ++ A0)) H)
def DS (X : Cx) (E : XK) (Γ0 Γ Γ' Γl : List Nat) (st : Stmt) (m : MS) : Prop := PS X st (DTs X.K X.mg E Γ0 Γ Γ' Γl m)
def DSs (X : Cx) (E : XK) (Γ0 Γ Γ' Γl : List Nat) (st : List Stmt) (m : MS) : Prop := PSs X st (DTs X.K X.mg E Γ0 Γ Γ' Γl m)
theorem PS.imp {X : Cx} {st : Stmt} {t t' : TS} (h : PS X st t) (w : ∀ D σ H, t' D σ H → t D σ H) : PS X st t' := ⟨fun pins s σ H D I q => h.run pins s σ H D I (w D σ H q)⟩
theorem PSs.imp {X : Cx} {st : List Stmt} {t t' : TS} (h : PSs X st t) (w : ∀ D σ H, t' D σ H → t D σ H) : PSs X st t' := ⟨fun pins s σ H D I q => h.run pins s σ H D I (w D σ H q)⟩

theorem As.has_append {A B : As} {b : Addr} : As.has (A ++ B) b ↔ As.has A b ∨ As.has B b :=
  ⟨fun ⟨i, h⟩ => (List.mem_append.mp h).elim (fun z => .inl ⟨i, z⟩) fun z => .inr ⟨i, z⟩, fun h => h.elim (fun ⟨i, z⟩ => ⟨i, List.mem_append_left _ z⟩) fun ⟨i, z⟩ => ⟨i, List.mem_append_right _ z⟩⟩
theorem As.has_of {A : As} {p : Nat × Addr} (h : p ∈ A) : As.has A p.2 := ⟨p.1, h⟩
section
variable {K : Fg} {M0 : Av} {B B' B1 B2 A0 : As} {σ : St} {H H1 H2 : Hp} {ρ : Ev} {mg : Str → Option Value} {E : XK}
theorem Stp.refl : Stp B A0 B H H := ⟨Fra.refl, fun p hp => .inl (As.has_of hp)⟩
theorem Stp.eff {k : Bool} (g : Fra (eff k (B ++ A0)) H H1) : Stp B A0 B H H1 := ⟨g.mono fun b z => z.2, fun p hp => .inl (As.has_of hp)⟩
theorem Fra.eff_has {k : Bool} (g : Fra (Dt.eff k (B ++ A0)) H H1) : Fra (As.has (B ++ A0)) H H1 := g.mono fun b z => z.2
theorem Stp.fra_trans (a : Stp B A0 B1 H H1) (g : Fra (As.has (B1 ++ A0)) H1 H2) : Fra (As.has (B ++ A0)) H H2 := fun b o e n => g b o (a.fra b o e n) fun z => by
  rcases As.has_append.mp z with ⟨i, z⟩ | z
  · rcases a.new _ z with q | q
    · exact n (As.has_append.mpr (.inl q))
    · rw [e] at q; cases q
  · exact n (As.has_append.mpr (.inr z))
theorem Stp.trans (a : Stp B A0 B1 H H1) (tk : Trk (As.has A0) H1) (b : Stp B1 A0 B2 H1 H2) : Stp B A0 B2 H H2 := ⟨a.fra_trans b.fra, fun p hp => by
  rcases b.new p hp with ⟨i, q⟩ | q
  · exact a.new (i, p.2) q
  · cases e : H p.2 with
    | none => exact .inr rfl
    | some o =>
      by_cases n : As.has (B ++ A0) p.2
      · rcases As.has_append.mp n with n | n
        · exact .inl n
        · obtain ⟨o', e'⟩ := tk p.2 n
          rw [q] at e'; cases e'
      · have := a.fra p.2 o e n
        rw [q] at this; cases this⟩
theorem Fit.trk0 (f : Fit K (un M0 (B ++ A0)) (B ++ A0) σ H ρ) : Trk (As.has A0) H := fun a z => f.trk a (.inr (As.has_append.mpr (.inr z)))
/-- the other owned ones are still apart from what the callers own -/
theorem Stp.apart (a : Stp B A0 B1 H H1) (dj : ∀ p ∈ B ++ A0, ¬ M0 p.2) (tk : Trk M0 H) : ∀ p ∈ B1 ++ A0, ¬ M0 p.2 := fun p hp => by
  rcases List.mem_append.mp hp with h | h
  · rcases a.new p h with ⟨i, q⟩ | q
    · exact dj (i, p.2) (List.mem_append_left _ q)
    · intro m
      obtain ⟨o, e⟩ := tk p.2 m
      rw [q] at e; cases e
  · exact dj p (List.mem_append_right _ h)
theorem Fit.trkM (f : Fit K (un M0 (B ++ A0)) (B ++ A0) σ H ρ) : Trk M0 H := fun a z => f.trk a (.inl z)
theorem DX.step {c : Str} (a : Stp B A0 B1 H H1) (h : DX mg E (As.has (B ++ A0)) H c) : DX mg E (As.has (B1 ++ A0)) H1 c := fun C H' e g => h C H' e (a.fra_trans g)
theorem DX.eff {k : Bool} {c : Str} (h : DX mg E (As.has (B ++ A0)) H c) : DX mg E (Dt.eff k (B ++ A0)) H c := fun C H' e g => h C H' e g.eff_has
theorem Pst.step {Γ' Γl : List Nat} {D : Ends} {z : Fl × Ev} (a : Stp B A0 B1 H H1) (tk : Trk (As.has A0) H1) (h : Pst K M0 A0 Γ' Γl D B H z) : Pst K M0 A0 Γ' Γl D B1 H1 z := by
  obtain ⟨fl, ρ'⟩ := z
  cases fl with
  | nx => exact fun σ' H' B' e s f => h σ' H' B' e (a.trans tk s) f
  | rt d => exact fun v H' g r o => h v H' (a.fra_trans g) r o
  | bk => exact fun σ' H' B' e s f => h σ' H' B' e (a.trans tk s) f
  | ct => exact fun σ' H' B' e s f => h σ' H' B' e (a.trans tk s) f
end

section
variable {X : Cx} {E : XK} {k r : Bool} {Γ0 Γ Γ' Γ1 Γ2 Γl vs : List Nat} {a b c e tg : Expr} {es : List Expr} {pos : Pos} {st : Stmt} {rest : List Stmt}
/-! ### blocks -/
def sNil : MS := fun ρ => .ok (.nx, ρ)
def sSeq (m m' : MS) : MS := fun ρ => (m ρ).bind fun z => match z.1 with
  | .nx => m' z.2
  | _ => .ok z
theorem ds_nil : DSs X E Γ0 Γ Γ Γl [] sNil := PSs.imp pss_nil fun D σ H ⟨M0, B, A0, ρ, h1, h2, dj, f, q⟩ => q σ H B h1 Stp.refl f
theorem ds_cons {m m' : MS} (h1 : DS X E Γ0 Γ Γ1 Γl st m) (h2 : DSs X E Γ0 Γ1 Γ2 Γl rest m') : DSs X E Γ0 Γ Γ2 Γl (st :: rest) (sSeq m m') :=
  PSs.imp (pss_cons h1 h2) fun D σ H ⟨M0, B, A0, ρ, hB, hA, dj, f, q⟩ => by
    refine ⟨M0, B, A0, ρ, hB, hA, dj, f, pimp (post_bind q) (fun z hz => ?_) fun c hc => hc⟩
    obtain ⟨fl, ρ'⟩ := z
    cases fl with
    | nx =>
      exact fun σ' H' B' e s f' => ⟨M0, B', A0, ρ', e, hA, s.apart dj f.trkM, f', pimp (show (m' ρ').post _ _ from hz) (fun z2 h => Pst.step s f'.trk0 h) fun c hc => DX.step s hc⟩
    | rt d => exact hz
    | bk => exact hz
    | ct => exact hz
theorem ds_one {m : MS} (h1 : DS X E Γ0 Γ Γ' Γl st m) : DSs X E Γ0 Γ Γ' Γl [st] m := pss_one h1
theorem ds_never {m : MS} : DS X E Γ0 Γ Γ' Γl st (fun _ => .no) := PS.imp ps_never fun D σ H ⟨M0, B, A0, ρ, hB, hA, dj, f, q⟩ => q
theorem ds_pass : DS X E Γ0 Γ Γ Γl (.Pass pos) sNil := PS.imp ps_pass fun D σ H ⟨M0, B, A0, ρ, h1, h2, dj, f, q⟩ => q σ H B h1 Stp.refl f

/-! ### fewer own objects -/
theorem Fit.less {K : Fg} {M0 : Av} {B B' A0 : As} {σ : St} {H : Hp} {ρ : Ev} (f : Fit K (un M0 (B ++ A0)) (B ++ A0) σ H ρ) (dj : ∀ p ∈ B ++ A0, ¬ M0 p.2) (h : B'.Sublist B) : Fit K (un M0 (B' ++ A0)) (B' ++ A0) σ H ρ := by
  have sl : (B' ++ A0).Sublist (B ++ A0) := h.append (List.Sublist.refl _)
  have sub : ∀ b, un M0 (B' ++ A0) b → un M0 (B ++ A0) b := fun b z => z.imp id fun ⟨i, z⟩ => ⟨i, sl.subset z⟩
  have c : Carry K H H (un M0 (B ++ A0)) (un M0 (B' ++ A0)) := Carry.weak sub
  refine ⟨f.len, fun a m => f.trk a (sub a m), fun p hp => .inr (As.has_of hp), (sl.map (·.2)).nodup f.nd, fun p hp => ?_, fun i d e n => ?_⟩
  · obtain ⟨h1, d, h2, h3⟩ := f.own p (sl.subset hp)
    exact ⟨h1, d, h2, h3.carry c fun _ e => e⟩
  · by_cases q : ∃ a, (i, a) ∈ B ++ A0
    · obtain ⟨a, q⟩ := q
      obtain ⟨h1, d', h2, h3⟩ := f.own _ q
      rw [e] at h2
      cases h2
      have na : ¬ un M0 (B' ++ A0) a := fun z => z.elim (dj _ q) fun ⟨j, z⟩ => by
        have ej : j = i := by
          have hj := sl.subset z
          obtain ⟨n1, g1⟩ := List.mem_iff_getElem.mp hj
          obtain ⟨n2, g2⟩ := List.mem_iff_getElem.mp q
          have hn1 : n1 < ((B ++ A0).map (·.2)).length := by rw [List.length_map]; exact g1.1
          have hn2 : n2 < ((B ++ A0).map (·.2)).length := by rw [List.length_map]; exact g2.1
          have ee : ((B ++ A0).map (·.2))[n1] = ((B ++ A0).map (·.2))[n2] := by
            rw [List.getElem_map, List.getElem_map, g1.2, g2.2]
          have e3 := (List.getElem_inj f.nd).mp ee
          subst e3
          have e4 : (j, a) = (i, a) := g1.2.symm.trans g2.2
          exact congrArg Prod.fst e4
        subst ej
        exact n a z
      refine ⟨_, h1, ?_⟩
      cases h3 with
      | lst g1 g2 => exact .lst ⟨.inl g1, na⟩ (RpAll.carry c g2)
      | dcK g1 g2 => exact .dcK (.inl g1) na (RpK.carry c g2)
      | dcT g1 g2 => exact .dcT (.inl g1) na (RpT.carry c g2)
    · obtain ⟨v, h1, h2⟩ := f.shr i d e fun a z => q ⟨a, z⟩
      exact ⟨v, h1, Rp.carry c h2⟩
theorem sublist_of_map {B : As} : ∀ {Γ' : List Nat}, Γ'.Sublist (B.map (·.1)) → ∃ B' : As, B'.Sublist B ∧ B'.map (·.1) = Γ' := fun {Γ'} h => by
  obtain ⟨l, h1, h2⟩ := List.sublist_map_iff.mp h
  exact ⟨l, h1, h2.symm⟩
/-- before a statement some own objects are let go -/
theorem ds_free {m : MS} (h : DS X E Γ0 Γ1 Γ' Γl st m) (hs : Γ1.Sublist Γ := by decide) : DS X E Γ0 Γ Γ' Γl st m :=
  PS.imp h fun D σ H ⟨M0, B, A0, ρ, hB, hA, dj, f, q⟩ => by
    obtain ⟨B', s1, s2⟩ := sublist_of_map (B := B) (by rw [hB]; exact hs)
    have st : Stp B A0 B' H H := ⟨Fra.refl, fun p hp => .inl (As.has_of (s1.subset hp))⟩
    exact ⟨M0, B', A0, ρ, s2, hA, st.apart dj f.trkM, f.less dj s1, pimp q (fun z hz => Pst.step st f.trk0 hz) fun c hc => DX.step st hc⟩
theorem dss_free {sts : List Stmt} {m : MS} (h : DSs X E Γ0 Γ1 Γ' Γl sts m) (hs : Γ1.Sublist Γ := by decide) : DSs X E Γ0 Γ Γ' Γl sts m :=
  PSs.imp h fun D σ H ⟨M0, B, A0, ρ, hB, hA, dj, f, q⟩ => by
    obtain ⟨B', s1, s2⟩ := sublist_of_map (B := B) (by rw [hB]; exact hs)
    have st : Stp B A0 B' H H := ⟨Fra.refl, fun p hp => .inl (As.has_of (s1.subset hp))⟩
    exact ⟨M0, B', A0, ρ, s2, hA, st.apart dj f.trkM, f.less dj s1, pimp q (fun z hz => Pst.step st f.trk0 hz) fun c hc => DX.step st hc⟩

/-! ### an expression, a name's store, return -/
def sExpr (m : ME) : MS := fun ρ => (m ρ).bind fun z => .ok (.nx, z.2)
def sSet (g : MG) (m : ME) : MS := fun ρ => (m ρ).bind fun z => (g z.1 z.2).nox.bind fun ρ' => .ok (.nx, ρ')
def sRet (m : ME) : MS := fun ρ => (m ρ).bind fun z => .ok (.rt z.1, z.2)
def sRetN : MS := fun ρ => .ok (.rt .none, ρ)
theorem ds_expr {m : ME} (he : DE X E k false (Γ ++ Γ0) e m) (hs : swapsWith e none pos.line X.env = pure false := by rfl) : DS X E Γ0 Γ Γ Γl (.Expr e pos) (sExpr m) :=
  PS.imp (ps_expr he hs) fun D σ H ⟨M0, B, A0, ρ, hB, hA, dj, f, q⟩ =>
    ⟨_, _, ρ, by rw [List.map_append, hB, hA], f, pimp (post_bind q) (fun z hz v H' f' g e' r' => hz σ H' B hB (Stp.eff g) f') fun c hc => DX.eff hc⟩
theorem DTg.of {K : Fg} {Γ vs : List Nat} {g : MG} {M : Av} {A : As} {ρ : Ev} {d : D} {v : V} {σ : St} {H : Hp} {Q : St → Hp → Prop} (h1 : A.map (·.1) = Γ) (f : Fit K M A σ H ρ) (rv : Rp K H M v d)
    (h : (g d ρ).nox.post (fun ρ' => ∀ σ', Fit K M A σ' H ρ' → Q σ' H) (fun _ => False)) : DTg K Γ vs g v σ H Q := ⟨M, A, ρ, d, h1, f, rv, by
  cases q : g d ρ with
  | ok a => rw [q] at h; exact fun σ' f' _ => h σ' f'
  | exc c => rw [q] at h; exact h
  | no => rw [q] at h; exact h⟩
theorem post_noxbind {α β : Type} {m : R α} {f : α → R β} {Q : β → Prop} {X : Str → Prop} (h : (m.nox.bind f).post Q X) : m.nox.post (fun a => (f a).post Q X) (fun _ => False) := by
  cases m with
  | ok a => exact h
  | exc c => exact h
  | no => exact h
/-- target = e: a name that owns nothing, or a tuple of such -/
theorem ds_asg {m : ME} {g : MG} (he : DE X E k false (Γ ++ Γ0) e m) (hg : DG X (Γ ++ Γ0) vs tg g) (hs : swapsWithSole [tg] e pos.line X.env = pure false := by rfl) (hw : swappedStores [tg] e X.env = pure none := by rfl)
    (h1 : (assignEach [tg] X.env).map (·.2) = [assign tg X.env] := by rfl) : DS X E Γ0 Γ Γ Γl (.Assign [tg] e pos) (sSet g m) :=
  PS.imp (ps_asg he hg hs hw h1) fun D σ H ⟨M0, B, A0, ρ, hB, hA, dj, f, q⟩ => by
    have hΓ : (B ++ A0).map (·.1) = Γ ++ Γ0 := by rw [List.map_append, hB, hA]
    exact ⟨_, _, ρ, hΓ, f, pimp (post_bind q) (fun z hz v H' f' g' e' r' => DTg.of hΓ f' r' (pimp (post_noxbind hz) (fun ρ' hq σ' f2 => hq σ' H' B hB (Stp.eff g') f2) fun c hc => hc)) fun c hc => DX.eff hc⟩
theorem ds_set0 {i : Nat} {m : ME} (h : PS X st (tAsg (DT X.K X.mg E k false (Γ ++ Γ0) m) (gName i))) (hΓ : (Γ ++ Γ0).contains i = false) : DS X E Γ0 Γ Γ Γl st (sSet (gSet i) m) :=
  PS.imp h fun D σ H ⟨M0, B, A0, ρ, hB, hA, dj, f, q⟩ => by
    have hΓ' : (B ++ A0).map (·.1) = Γ ++ Γ0 := by rw [List.map_append, hB, hA]
    exact ⟨_, _, ρ, hΓ', f, pimp (post_bind q) (fun z hz v H' f' g' e' r' => hz _ H' B hB (Stp.eff g') (f'.set (not_own hΓ' hΓ) r')) fun c hc => DX.eff hc⟩
theorem ds_set {i : Nat} {x : Str} {m : ME} {pos' : Pos} (hN : X.N.Nodup) (hi : X.N[i]? = some x) (hx : Loc X.env.scope x) (he : DE X E k false (Γ ++ Γ0) e m) (hs : swapsWith e (some (.Name x pos')) pos.line X.env = pure false := by rfl) (hf : X.fn x = true ∨ X.env.scope.names.lookup x = some .local := by first | exact .inl rfl | exact .inr rfl | assumption)
    (hΓ : (Γ ++ Γ0).contains i = false := by decide) : DS X E Γ0 Γ Γ Γl (.Assign [.Name x pos'] e pos) (sSet (gSet i) m) := ds_set0 (ps_set hN hi hx he hs hf) hΓ
theorem ds_ret {m : ME} (he : DE X E k false (Γ ++ Γ0) e m) : DS X E Γ0 Γ Γ' Γl (.Return (some e) pos) (sRet m) :=
  PS.imp (ps_ret he) fun D σ H ⟨M0, B, A0, ρ, hB, hA, dj, f, q⟩ => by
    have c : ∀ H', Carry X.K H' H' (un M0 (B ++ A0)) (un M0 A0) := fun H' => Carry.weak fun b z => z.imp id fun y => As.has_append.mpr (.inr y)
    refine ⟨_, _, ρ, by rw [List.map_append, hB, hA], f, pimp (post_bind q) (fun z hz v H' f' g' e' r' => hz v H' g'.eff_has (Rp.carry (c H') r') fun p hp => ?_) fun c hc => DX.eff hc⟩
    obtain ⟨_, d, h2, h3⟩ := f'.own p (List.mem_append_right _ hp)
    exact ⟨d, h2, h3.carry (c H') fun _ e => e⟩
theorem ds_retN : DS X E Γ0 Γ Γ' Γl (.Return none pos) sRetN :=
  PS.imp ps_retN fun D σ H ⟨M0, B, A0, ρ, hB, hA, dj, f, q⟩ => by
    have c : ∀ H', Carry X.K H' H' (un M0 (B ++ A0)) (un M0 A0) := fun H' => Carry.weak fun b z => z.imp id fun y => As.has_append.mpr (.inr y)
    refine q .non H Fra.refl .non fun p hp => ?_
    obtain ⟨_, d, h2, h3⟩ := f.own p (List.mem_append_right _ hp)
    exact ⟨d, h2, h3.carry (c H) fun _ e => e⟩
/-! ### if, while, break, continue -/
def sIf (c : MB) (a b : MS) : MS := fun ρ => (c ρ).bind fun x => if x.1 = true then a x.2 else b x.2
theorem ds_if {sa sb : List Stmt} {mc : MB} {ma mb : MS} (hc : DB X E k (Γ ++ Γ0) c mc) (ha : DSs X E Γ0 Γ Γ' Γl sa ma) (hb : DSs X E Γ0 Γ Γ' Γl sb mb) : DS X E Γ0 Γ Γ' Γl (.If c sa sb pos) (sIf mc ma mb) :=
  PS.imp (ps_if hc ha hb) fun D σ H ⟨M0, B, A0, ρ, hB, hA, dj, f, q⟩ => by
    refine ⟨_, _, ρ, by rw [List.map_append, hB, hA], f, pimp (post_bind q) (fun z hz H' f' g' e' => ?_) fun c hc => DX.eff hc⟩
    have s : Stp B A0 B H H' := Stp.eff g'
    by_cases hb : z.1 = true
    · rw [if_pos hb] at hz
      exact ite_pos hb ⟨M0, B, A0, z.2, hB, hA, dj, f', pimp hz (fun z2 h => Pst.step s f'.trk0 h) fun c hc => DX.step s hc⟩
    · rw [if_neg hb] at hz
      exact ite_neg hb ⟨M0, B, A0, z.2, hB, hA, dj, f', pimp hz (fun z2 h => Pst.step s f'.trk0 h) fun c hc => DX.step s hc⟩
def sBrk : MS := fun ρ => .ok (.bk, ρ)
def sCnt : MS := fun ρ => .ok (.ct, ρ)
theorem ds_break : DS X E Γ0 Γl Γ' Γl (.Break pos) sBrk := PS.imp ps_break fun D σ H ⟨M0, B, A0, ρ, h1, h2, dj, f, q⟩ => q σ H B h1 Stp.refl f
theorem ds_cont : DS X E Γ0 Γl Γ' Γl (.Continue pos) sCnt := PS.imp ps_continue fun D σ H ⟨M0, B, A0, ρ, h1, h2, dj, f, q⟩ => q σ H B h1 Stp.refl f
def sWhile (c : MB) (b : MS) : Nat → MS
  | 0 => fun _ => .no
  | n + 1 => fun ρ => (c ρ).bind fun x => if x.1 = true then (b x.2).bind fun z => match z.1 with
      | .nx => sWhile c b n z.2
      | .ct => sWhile c b n z.2
      | .bk => .ok (.nx, z.2)
      | .rt d => .ok (.rt d, z.2)
    else .ok (.nx, x.2)
theorem ds_while {body : List Stmt} {mc : MB} {mb : MS} (n : Nat) (hp : PassesOwn (model X.prog X.w) X.A X.env X.xe) (hc : DB X E k (Γ ++ Γ0) c mc) (hb : DSs X E Γ0 Γ Γ Γ body mb) : DS X E Γ0 Γ Γ Γl (.While c body [] pos) (sWhile mc mb n) :=
  PS.imp (ps_while hp hc hb) fun D σ H ⟨M0, B, A0, ρ, hB, hA, dj, f, q⟩ => by
    refine ⟨fun m σ1 H1 => ∃ B1 ρ1, B1.map (·.1) = Γ ∧ Stp B A0 B1 H H1 ∧ Fit X.K (un M0 (B1 ++ A0)) (B1 ++ A0) σ1 H1 ρ1 ∧ (sWhile mc mb m ρ1).post (Pst X.K M0 A0 Γ Γl D B H) (DX X.mg E (As.has (B ++ A0)) H), ⟨n, B, ρ, hB, Stp.refl, f, q⟩, ?_⟩
    rintro m σ1 H1 ⟨B1, ρ1, hB1, s1, f1, q1⟩
    cases m with
    | zero => exact q1.elim
    | succ m =>
      have s1x : ∀ {c : Str}, DX X.mg E (As.has (B ++ A0)) H c → DX X.mg E (As.has (B1 ++ A0)) H1 c := fun h => DX.step s1 h
      refine ⟨_, _, ρ1, by rw [List.map_append, hB1, hA], f1, pimp (post_bind q1) (fun z hz H2 f2 g2 e2 => ?_) fun c hc => DX.eff (s1x hc)⟩
      have s2 : Stp B A0 B1 H H2 := s1.trans f1.trk0 (Stp.eff g2)
      by_cases hb : z.1 = true
      · rw [if_pos hb] at hz
        refine ite_pos hb ⟨fun σ' H' => ∃ B' ρ', B'.map (·.1) = Γ ∧ Stp B A0 B' H H' ∧ Fit X.K (un M0 (B' ++ A0)) (B' ++ A0) σ' H' ρ' ∧ (sWhile mc mb m ρ').post (Pst X.K M0 A0 Γ Γl D B H) (DX X.mg E (As.has (B ++ A0)) H), fun σ' H' h => ⟨m, Nat.lt_succ_self _, h⟩, ?_⟩
        refine ⟨M0, B1, A0, z.2, hB1, hA, s2.apart dj f.trkM, f2, pimp (post_bind hz) (fun z2 hz2 => ?_) fun c hc => DX.step s2 hc⟩
        obtain ⟨fl, ρ2⟩ := z2
        cases fl with
        | nx => exact fun σ' H' B' e s f' => ⟨B', ρ2, e, s2.trans f2.trk0 s, f', hz2⟩
        | ct => exact fun σ' H' B' e s f' => ⟨B', ρ2, e, s2.trans f2.trk0 s, f', hz2⟩
        | bk => exact fun σ' H' B' e s f' => hz2 σ' H' B' e (s2.trans f2.trk0 s) f'
        | rt d => exact fun v H' g r o => hz2 v H' (s2.fra_trans g) r o
      · rw [if_neg hb] at hz
        exact ite_neg hb (hz σ1 H2 B1 hB1 s2 f2)
/-! ### for -/
def sFor (g : MG) (b : MS) : List D → MS
  | [] => fun ρ => .ok (.nx, ρ)
  | d :: ds => fun ρ => (g d ρ).nox.bind fun ρ1 => (b ρ1).bind fun z => match z.1 with
      | .nx => sFor g b ds z.2
      | .ct => sFor g b ds z.2
      | .bk => .ok (.nx, z.2)
      | .rt d => .ok (.rt d, z.2)
def sForE (i : MA) (g : MG) (b : MS) : MS := fun ρ => (i ρ).bind fun x => sFor g b x.1 x.2
theorem for_turn {K : Fg} {mg : Str → Option Value} {mi : MA} {g : MG} {mb : MS} {D : Ends} {σ : St} {H : Hp} (h : DTs K mg E Γ0 Γ Γ Γl (sForE mi g mb) D σ H) :
    tFor (DTi K mg E k (Γ ++ Γ0) mi) (DTg K (Γ ++ Γ0) vs g) (DTs K mg E Γ0 Γ Γ Γ mb) D σ H := by
    obtain ⟨M0, B, A0, ρ, hB, hA, dj, f, q⟩ := h
    refine ⟨_, _, ρ, by rw [List.map_append, hB, hA], f, pimp (post_bind q) (fun x hx J S H0 f0 g0 e0 src s0 _ => ?_) fun c hc => DX.eff hc⟩
    obtain ⟨ds, ρ0⟩ := x
    have st0 : Stp B A0 B H H0 := Stp.eff g0
    have src : Src K J ds S := src
    refine ⟨fun i m σ1 H1 => m = ds.length - i ∧ ∃ B1 ρ1, B1.map (·.1) = Γ ∧ Stp B A0 B1 H H1 ∧ Fit K (un M0 (B1 ++ A0)) (B1 ++ A0) σ1 H1 ρ1 ∧ S (un M0 (B1 ++ A0)) H1 ∧ (sFor g mb (ds.drop i) ρ1).post (Pst K M0 A0 Γ Γl D B H) (DX mg E (As.has (B ++ A0)) H),
      ⟨_, rfl, B, ρ0, hB, st0, f0, s0, by rw [List.drop_zero]; exact hx⟩, ?_⟩
    rintro i m σ1 H1 ⟨em, B1, ρ1, hB1, s1, f1, sr, q1⟩
    by_cases hi : i < ds.length
    · obtain ⟨d, hd⟩ : ∃ d, ds[i]? = some d := ⟨_, List.getElem?_eq_getElem hi⟩
      have ed : ds.drop i = d :: ds.drop (i + 1) := by
        rw [List.drop_eq_getElem_cons hi]
        rw [List.getElem?_eq_getElem hi] at hd
        rw [Option.some.inj hd]
      rw [ed] at q1
      refine .inr ⟨src.go _ i H1 sr hi, fun σ' H' => ∃ B' ρ', B'.map (·.1) = Γ ∧ Stp B A0 B' H H' ∧ Fit K (un M0 (B' ++ A0)) (B' ++ A0) σ' H' ρ' ∧ S (un M0 (B' ++ A0)) H' ∧ (sFor g mb (ds.drop (i + 1)) ρ').post (Pst K M0 A0 Γ Γl D B H) (DX mg E (As.has (B ++ A0)) H), fun σ' H' h => ⟨ds.length - (i + 1), by omega, rfl, h⟩, fun x H' hy => ?_⟩
      obtain ⟨rfl, d', hd', rx⟩ := src.yld _ i H1 x H' sr hi hy
      rw [hd] at hd'
      cases hd'
      refine DTg.of (by rw [List.map_append, hB1, hA]) f1 rx (pimp (post_noxbind (show ((g d ρ1).nox.bind _).post _ _ from q1)) (fun ρ2 h2 σ2 f2 => ?_) fun c hc => hc)
      refine ⟨M0, B1, A0, ρ2, hB1, hA, s1.apart dj f.trkM, f2, pimp (post_bind h2) (fun z hz => ?_) fun c hc => DX.step s1 hc⟩
      have cS : ∀ (B' : As) (H3 : Hp), Stp B1 A0 B' H' H3 → S (un M0 (B' ++ A0)) H3 := fun B' H3 s => src.carry _ _ _ _ _ sr s.fra (fun b z => .inr z) fun b z => by
        rcases z with z | z
        · exact .inl (.inl z)
        · rcases As.has_append.mp z with ⟨j, z⟩ | z
          · rcases s.new _ z with z | z
            · exact .inl (.inr (As.has_append.mpr (.inl z)))
            · exact .inr z
          · exact .inl (.inr (As.has_append.mpr (.inr z)))
      obtain ⟨fl, ρ3⟩ := z
      cases fl with
      | nx => exact fun σ' H3 B' e s f' => ⟨B', ρ3, e, s1.trans f1.trk0 s, f', cS B' H3 s, hz⟩
      | ct => exact fun σ' H3 B' e s f' => ⟨B', ρ3, e, s1.trans f1.trk0 s, f', cS B' H3 s, hz⟩
      | bk => exact fun σ' H3 B' e s f' => hz σ' H3 B' e (s1.trans f1.trk0 s) f'
      | rt d => exact fun v H3 g r o => hz v H3 (s1.fra_trans g) r o
    · have ed : ds.drop i = [] := List.drop_eq_nil_of_le (by omega)
      rw [ed] at q1
      exact .inl ⟨src.stop _ i H1 sr (by omega), q1 σ1 H1 B1 hB1 s1 f1⟩
theorem ds_for {iter : Expr} {body : List Stmt} {mi : MA} {g : MG} {mb : MS} (hp : PassesOwn (model X.prog X.w) X.A X.env X.xe) (hc : X.calm = true) (hi : DI X E k (Γ ++ Γ0) tg iter mi) (hg : DG X (Γ ++ Γ0) vs tg g) (hb : DSs X E Γ0 Γ Γ Γ body mb)
    (hs : ∀ x, foldedSetIterable iter X.env x = pure x := by intro _; rfl) : DS X E Γ0 Γ Γ Γl (.For tg iter body [] pos) (sForE mi g mb) :=
  PS.imp (ps_for hp hc hi hg hb hs) fun D σ H h => for_turn h

end
end Dt

set_option Elab.async false
set_option linter.all false
set_option maxRecDepth 100000
set_option autoImplicit false
/-! Own objects: made, changed. -/
namespace Dt
open PySem PySem.Spec PyProof.Rows L2 R

/-! ### fresh results -/
def DTf (K : Fg) (mg : Str → Option Value) (E : XK) (k : Bool) (Γ : List Nat) (m : ME) : TE := fun σ H Q =>
  ∃ (M : Av) (A : As) (ρ : Ev), A.map (·.1) = Γ ∧ Fit K M A σ H ρ ∧
    (m ρ).post (fun z => ∀ p H', H p = none → Fit K (M.add p) A σ H' z.2 → Fra (eff k A) H H' → (k = false → z.2 = ρ) → OwnAt K H' (M.add p) p z.1 → Q (.ref p) H') (DX mg E (eff k A) H)
def DF (X : Cx) (E : XK) (k : Bool) (Γ : List Nat) (e : Expr) (m : ME) : Prop := PE X e (DTf X.K X.mg E k Γ m)
theorem Fit.unadd {K : Fg} {M : Av} {A : As} {σ : St} {H H' : Hp} {ρ ρ' : Ev} {p : Addr} (f : Fit K (M.add p) A σ H' ρ') (f0 : Fit K M A σ H ρ) : Fit K M A σ H' ρ' := f.weakM (fun b z => .inl z) f0.sub
theorem OwnAt.rp {K : Fg} {M : Av} {H' : Hp} {p : Addr} {d : D} (h : OwnAt K H' (M.add p) p d) (n : ¬ M p) : Rp K H' M (.ref p) d := by
  have c : Carry K H' H' (M.add p) M := Carry.weak fun b z => .inl z
  cases h with
  | lst g1 g2 => exact .lst ⟨.inl g1, n⟩ (RpAll.carry c g2)
  | dcK g1 g2 => exact .dcK (.inl g1) n (RpK.carry c g2)
  | dcT g1 g2 => exact .dcT (.inl g1) n (RpT.carry c g2)
section
variable {X : Cx} {E : XK} {k r : Bool} {Γ0 Γ Γ' Γ1 Γ2 Γl : List Nat} {a b c e tg : Expr} {es : List Expr} {pos : Pos} {st : Stmt}
theorem de_fresh {m : ME} (h : DF X E k Γ e m) : DE X E k false Γ e m := PE.imp h fun σ H Q ⟨M, A, ρ, hΓ, f, q⟩ =>
  ⟨M, A, ρ, hΓ, f, pimp q (fun z hz p H' np f' g e' o => hz _ H' (f'.unadd f) g e' (o.rp (f.trk.ne np))) fun c hc => hc⟩
theorem df_up {m : ME} (h : DF X E false Γ e m) : DF X E true Γ e m := PE.imp h fun σ H Q ⟨M, A, ρ, hΓ, f, q⟩ =>
  ⟨M, A, ρ, hΓ, f, pimp q (fun z hz p H' np f' g e1 o => hz p H' np f' (g.mono fun b z => Bool.noConfusion z.1) (fun n => Bool.noConfusion n) o) fun c hc C H' e g => hc C H' e (g.mono fun b z => Bool.noConfusion z.1)⟩
def gOwn (i : Nat) : MG := fun d ρ => if i < ρ.length then .ok (ρ.set i (some d)) else .no
/-- a name gets a new object that is its own from then on -/
theorem ds_own0 {i : Nat} {m : ME} (h : PS X st (tAsg (DTf X.K X.mg E k (Γ ++ Γ0) m) (gName i))) (hΓ : (Γ ++ Γ0).contains i = false) : DS X E Γ0 Γ (i :: Γ) Γl st (sSet (gOwn i) m) :=
  PS.imp h fun D σ H ⟨M0, B, A0, ρ, hB, hA, dj, f, q⟩ => by
    have hΓ' : (B ++ A0).map (·.1) = Γ ++ Γ0 := by rw [List.map_append, hB, hA]
    refine ⟨_, _, ρ, hΓ', f, pimp (post_bind q) (fun z hz p H' np f' g' e' o => ?_) fun c hc => DX.eff hc⟩
    have ni := not_own hΓ' hΓ
    have np' : ∀ q ∈ B ++ A0, q.2 ≠ p := fun q hq e => by
      obtain ⟨o, eo⟩ := f.trk q.2 (.inr (As.has_of hq))
      rw [e, np] at eo; cases eo
    by_cases hl3 : i < z.2.length
    · have hz : (((if i < z.2.length then R.ok (z.2.set i (some z.1)) else R.no).nox).bind fun ρ' => R.ok (Fl.nx, ρ')).post (Pst X.K M0 A0 (i :: Γ) Γl D B H) (DX X.mg E (As.has (B ++ A0)) H) := hz
      rw [if_pos hl3] at hz
      have hsub : ∀ b, un M0 (((i, p) :: B) ++ A0) b → ((un M0 (B ++ A0)).add p) b := fun b z => by
        rcases z with z | ⟨j, z⟩
        · exact .inl (.inl z)
        · rcases List.mem_cons.mp z with z | z
          · exact .inr (congrArg Prod.snd z)
          · exact .inl (.inr ⟨j, z⟩)
      have c : Carry X.K H' H' ((un M0 (B ++ A0)).add p) (un M0 (((i, p) :: B) ++ A0)) := Carry.weak hsub
      refine hz _ H' ((i, p) :: B) (by rw [List.map_cons, hB]) ⟨g'.eff_has, fun q hq => ?_⟩ ⟨by rw [List.length_set, List.length_set]; exact f'.len, fun b mb => f'.trk b (hsub b mb), fun q hq => .inr (As.has_of hq), ?_, fun q hq => ?_, fun j d ej nj => ?_⟩
      · rcases List.mem_cons.mp hq with e | hq
        · rw [e]; exact .inr np
        · exact .inl (As.has_of hq)
      · show (p :: (B ++ A0).map (·.2)).Nodup
        refine List.nodup_cons.mpr ⟨fun hm => ?_, f.nd⟩
        obtain ⟨q, hq, e⟩ := List.mem_map.mp hm
        exact np' q hq e
      · rcases List.mem_cons.mp (show q ∈ (i, p) :: (B ++ A0) from hq) with e | hq
        · subst e
          exact ⟨List.getElem?_set_self (by rw [f'.len]; exact hl3), z.1, List.getElem?_set_self hl3, o.carry c fun _ e => e⟩
        · have ne : i ≠ q.1 := fun e => ni q.2 (by rw [e]; exact hq)
          obtain ⟨h1, d', h2, h3⟩ := f'.own q hq
          exact ⟨by rw [List.getElem?_set_ne ne]; exact h1, d', by rw [List.getElem?_set_ne ne]; exact h2, h3.carry c fun _ e => e⟩
      · by_cases ej' : i = j
        · subst ej'
          exact absurd (List.mem_cons_self (a := (i, p)) (l := B ++ A0)) (nj p)
        · rw [List.getElem?_set_ne ej'] at ej
          obtain ⟨w, h1, h2⟩ := f'.shr j d ej fun a hq => nj a (List.mem_cons_of_mem _ hq)
          exact ⟨w, by rw [List.getElem?_set_ne ej']; exact h1, Rp.carry c h2⟩
    · have hz : (((if i < z.2.length then R.ok (z.2.set i (some z.1)) else R.no).nox).bind fun ρ' => R.ok (Fl.nx, ρ')).post (Pst X.K M0 A0 (i :: Γ) Γl D B H) (DX X.mg E (As.has (B ++ A0)) H) := hz
      rw [if_neg hl3] at hz
      exact hz.elim

theorem ds_own {i : Nat} {x : Str} {m : ME} {pos' : Pos} (hN : X.N.Nodup) (hi : X.N[i]? = some x) (hx : Loc X.env.scope x) (he : DF X E k (Γ ++ Γ0) e m) (hs : swapsWith e (some (.Name x pos')) pos.line X.env = pure false := by rfl) (hf : X.fn x = true ∨ X.env.scope.names.lookup x = some .local := by first | exact .inl rfl | exact .inr rfl | assumption)
    (hΓ : (Γ ++ Γ0).contains i = false := by decide) : DS X E Γ0 Γ (i :: Γ) Γl (.Assign [.Name x pos'] e pos) (sSet (gOwn i) m) := ds_own0 (ps_set hN hi hx he hs hf) hΓ

/-! ### fresh things -/
def newL (m : MA) : ME := mLst m
theorem df_lst {m : MA} (h : DA X E k false Γ es m) : DF X E k Γ (.List es pos) (mLst m) :=
  PE.imp (pe_lst h) fun σ H Q ⟨M, A, ρ, hΓ, f, h⟩ => by
    refine ⟨M, A, ρ, hΓ, f, pimp (post_bind h) (fun z hz vs H1 f1 g1 e1 r1 => ?_) (fun c hc => hc)⟩
    by_cases hl : z.1.length ≤ 1000
    · rw [if_pos hl] at hz
      have ra := r1.all
      refine ⟨by rw [ra.length]; exact Nat.le_of_lt (small1000 hl), fun p np => ?_⟩
      have s' : Same H1 (upd H1 p (.lst vs)) := fun b u e => by rw [upd_ne (ne_of_none e np)]; exact e
      have c : Carry X.K H1 (upd H1 p (.lst vs)) M (M.add p) := (Carry.add np).trans (Carry.same s')
      have np0 : H p = none := by
        cases e : H p with
        | none => rfl
        | some o =>
          by_cases n : eff k A p
          · obtain ⟨o', e'⟩ := f1.trk p (f1.has p n.2)
            rw [np] at e'; cases e'
          · have := g1 p o e n
            rw [np] at this; cases this
      exact hz p _ np0 (f1.addM np) (g1.trans (Fra.of_eff s')) e1 (.lst upd_same (RpAll.carry c ra))
    · rw [if_neg hl] at hz; exact hz.elim
def mDict0 : ME := fun ρ => .ok (.dict [], ρ)
theorem df_dict : DF X E k Γ (.Dict [] [] pos) mDict0 :=
  PE.imp pe_dnewK fun σ H Q ⟨M, A, ρ, hΓ, f, h⟩ p np =>
    h p _ np (f.addM np) (Fra.of_eff fun b u e => by rw [upd_ne (ne_of_none e np)]; exact e) (fun _ => rfl) (.dcK upd_same .nil)
/-- list(x) -/
def rCf (K : Fg) (g : GA) : List V → Hp → VK → Prop := fun vs H Q => ∃ (M : Av) (ds : List D) (r : D), Trk M H ∧ RxAll true K H M vs ds ∧ g ds = some r ∧ ∀ p o, H p = none → OwnAt K (upd H p o) (M.add p) p r → Q (.ref p) (upd H p o)
theorem call_dListF : CallR X (.type "list") (rCf X.K dList) := by
  intro pins s σ H vs us Q I rv h
  obtain ⟨M, ds, r, tk, rx, eg, q⟩ := h
  have go : ∀ (xs : List V) (es : List D) (p : Addr), RpAll X.K H M xs es → H p = none → OwnAt X.K (upd H p (.lst xs)) (M.add p) p (.list es) := fun xs es p ra np =>
    .lst upd_same (RpAll.carry ((Carry.add np).trans (Carry.same fun b u e => by rw [upd_ne (ne_of_none e np)]; exact e)) ra)
  unfold dList at eg
  split at eg
  · cases eg
    obtain ⟨v, rfl, rd⟩ := rx1 rx
    obtain ⟨a, xs, e1, r1, a1⟩ := rd.list
    subst e1
    exact call_list_of pins s σ H _ us Q I rv ⟨a, xs, rfl, .inl (.inl r1), fun p np => q p _ np (go xs _ p a1 np)⟩
  · cases eg
    obtain ⟨v, rfl, rd⟩ := rx1 rx
    obtain ⟨a, xs, e1, r1, a1⟩ := rd.tuple
    subst e1
    exact call_list_of pins s σ H _ us Q I rv ⟨a, xs, rfl, .inr r1.sq, fun p np => q p _ np (go xs _ p a1 np)⟩
  · cases eg
theorem none_back {H H1 : Hp} {M : Av} {A : As} {σ : St} {ρ : Ev} {K : Fg} {p : Addr} (f1 : Fit K M A σ H1 ρ) (g : Fra (eff k A) H H1) (np : H1 p = none) : H p = none := by
  cases e : H p with
  | none => rfl
  | some o =>
    by_cases n : eff k A p
    · obtain ⟨o', e'⟩ := f1.trk p (f1.has p n.2)
      rw [np] at e'; cases e'
    · have := g p o e n
      rw [np] at this; cases this
theorem df_list {m : MA} {p : Pos} (hg : Gl X "list") (hm : X.mg "list" = none) (ha : DA X E k r Γ [e] m) (he : starEach [e] X.env = (false, eval e X.env) :: starEach [] X.env := by rfl) (hpl : (backTo pos (starEach [] X.env)).any (·.1) = false := by rfl) :
    DF X E k Γ (.Call (.Name "list" p) [e] [] pos) (mCall dList m) :=
  PE.imp (pe_callTy call_dListF hg hm (by decide +kernel) ha (by decide) (by decide) he hpl) fun σ H Q ⟨M, A, ρ, hΓ, f, h⟩ => by
    refine ⟨M, A, ρ, hΓ, f, pimp (post_bind h) (fun z hz vs H1 f1 g1 e1 r1 => ?_) (fun c hc => hc)⟩
    obtain ⟨w, ew, q⟩ := post_opt hz
    exact ⟨M, z.1, w, f1.trk, r1.ts, ew, fun u o np ow => q u _ (none_back f1 g1 np) (f1.addM np) (g1.trans (Fra.of_eff fun b u' e => by rw [upd_ne (ne_of_none e np)]; exact e)) e1 ow⟩

/-! ### changes -/
theorem nd_inj {A : As} {i j : Nat} {a : Addr} (nd : (A.map (·.2)).Nodup) (h1 : (i, a) ∈ A) (h2 : (j, a) ∈ A) : i = j := by
  obtain ⟨n1, g1⟩ := List.mem_iff_getElem.mp h1
  obtain ⟨n2, g2⟩ := List.mem_iff_getElem.mp h2
  have hn1 : n1 < (A.map (·.2)).length := by rw [List.length_map]; exact g1.1
  have hn2 : n2 < (A.map (·.2)).length := by rw [List.length_map]; exact g2.1
  have ee : (A.map (·.2))[n1] = (A.map (·.2))[n2] := by rw [List.getElem_map, List.getElem_map, g1.2, g2.2]
  have e3 := (List.getElem_inj nd).mp ee
  subst e3
  exact congrArg Prod.fst (g1.2.symm.trans g2.2)
theorem Carry.at {K : Fg} {H : Hp} {M : Av} {a : Addr} {o : HO} (ma : M a) : Carry K H (upd H a o) M M := ⟨fun b u r n => by
  have ne : b ≠ a := fun e => n (by rw [e]; exact ma)
  exact ⟨.inl (by rw [upd_ne ne]; exact r), n⟩⟩
theorem Fit.change {K : Fg} {M : Av} {A : As} {σ : St} {H : Hp} {ρ : Ev} {i : Nat} {a : Addr} {o : HO} {d : D} (f : Fit K M A σ H ρ) (h : (i, a) ∈ A) (ow : OwnAt K (upd H a o) M a d) :
    Fit K M A σ (upd H a o) (ρ.set i (some d)) := by
  have ma : M a := f.sub _ h
  have c : Carry K H (upd H a o) M M := Carry.at ma
  obtain ⟨h1, d0, h2, h3⟩ := f.own _ h
  have hl : i < ρ.length := (List.getElem?_eq_some_iff.mp h2).1
  refine ⟨by rw [List.length_set]; exact f.len, fun b mb => ?_, f.sub, f.nd, fun q hq => ?_, fun j d' ej nj => ?_⟩
  · by_cases e : b = a
    · subst e; exact ⟨o, upd_same⟩
    · rw [upd_ne e]; exact f.trk b mb
  · obtain ⟨g1, d', g2, g3⟩ := f.own q hq
    by_cases e : q.2 = a
    · have : q.1 = i := nd_inj f.nd (by rw [← e]; exact hq) h
      rw [this, e]
      exact ⟨h1, d, List.getElem?_set_self hl, ow⟩
    · have ne : i ≠ q.1 := fun e2 => by
        rw [← e2, h1] at g1
        cases g1
        exact e rfl
      exact ⟨g1, d', by rw [List.getElem?_set_ne ne]; exact g2, g3.carry c fun o' eo => by rw [upd_ne e]; exact eo⟩
  · have ne : i ≠ j := fun e => nj a (by rw [← e]; exact h)
    rw [List.getElem?_set_ne ne] at ej
    obtain ⟨v, g1, g2⟩ := f.shr j d' ej nj
    exact ⟨v, g1, Rp.carry c g2⟩
theorem Fra.change {A : As} {H : Hp} {i : Nat} {a : Addr} {o : HO} (h : (i, a) ∈ A) : Fra (eff true A) H (upd H a o) := fun b u e n => by
  have ne : b ≠ a := fun z => n ⟨rfl, i, by rw [z]; exact h⟩
  rw [upd_ne ne]; exact e
/-- the slot's own object -/
theorem Fit.ownL {K : Fg} {M : Av} {A : As} {σ : St} {H : Hp} {ρ : Ev} {i : Nat} {ds : List D} {Γ : List Nat} (f : Fit K M A σ H ρ) (hΓ : A.map (·.1) = Γ) (hi : Γ.contains i = true) (h : getv ρ i = some (.list ds)) :
    ∃ a xs, (i, a) ∈ A ∧ σ[i]? = some (some (.ref a)) ∧ H a = some (.lst xs) ∧ RpAll K H M xs ds := by
  have hm : i ∈ A.map (·.1) := by rw [hΓ]; exact List.contains_iff_mem.mp hi
  obtain ⟨⟨j, a⟩, hq, e⟩ := List.mem_map.mp hm
  obtain rfl : j = i := e
  obtain ⟨h1, d, h2, h3⟩ := f.own _ hq
  rw [getv_some h] at h2
  cases h2
  cases h3 with
  | lst g1 g2 => exact ⟨a, _, hq, h1, g1, g2⟩
theorem Fit.ownK {K : Fg} {M : Av} {A : As} {σ : St} {H : Hp} {ρ : Ev} {i : Nat} {ds : List (D × D)} {Γ : List Nat} (f : Fit K M A σ H ρ) (hΓ : A.map (·.1) = Γ) (hi : Γ.contains i = true) (h : getv ρ i = some (.dict ds)) :
    ∃ a, (i, a) ∈ A ∧ σ[i]? = some (some (.ref a)) ∧ OwnAt K H M a (.dict ds) := by
  have hm : i ∈ A.map (·.1) := by rw [hΓ]; exact List.contains_iff_mem.mp hi
  obtain ⟨⟨j, a⟩, hq, e⟩ := List.mem_map.mp hm
  obtain rfl : j = i := e
  obtain ⟨h1, d, h2, h3⟩ := f.own _ hq
  rw [getv_some h] at h2
  cases h2
  exact ⟨a, hq, h1, h3⟩
theorem Fit.at_same {K : Fg} {M : Av} {A : As} {σ : St} {H H' : Hp} {ρ ρ' : Ev} {i : Nat} {a b : Addr} (f : Fit K M A σ H ρ) (f' : Fit K M A σ H' ρ') (h : (i, a) ∈ A) (h' : σ[i]? = some (some (.ref b))) : a = b := by
  have := (f.own _ h).1
  rw [h'] at this
  cases this
  rfl
def asL : Option D → Option (List D)
  | some (.list ds) => some ds
  | _ => none
theorem asL_some {o : Option D} {ds : List D} (h : asL o = some ds) : o = some (.list ds) := by
  cases o with
  | none => cases h
  | some d => cases d with
    | list es => cases h; rfl
    | _ => cases h
/-- xs.append(e) -/
def eApp (i : Nat) (m : ME) : ME := fun ρ => (R.opt (asL (getv ρ i))).bind fun _ => (m ρ).bind fun z => (R.opt (asL (getv z.2 i))).bind fun ds =>
  if ds.length < sizeLine then .ok (.none, z.2.set i (some (.list (ds ++ [z.1])))) else .no
theorem de_app {i : Nat} {o : Expr} {m : ME} {apos cpos : Pos} (hp : PE X o (tVar i)) (ha : DE X E true false Γ e m) (hi : Γ.contains i = true := by decide)
    (hbase : attributeBase o "append" X.env (eval o X.env) = eval o X.env := by rfl)
    (hfew : ((backTo cpos (starEach [e] X.env)).all (fun x => !x.1) && (backToKw cpos (keywordEach [] X.env)).all (fun x => x.1.isSome)
      && decide (([e] : List Expr).length + ([] : List Keyword).length + (if ([] : List Keyword).isEmpty then 0 else 1) < 30)) = true := by rfl)
    (hline : (apos.endLine == cpos.line) = true := by rfl) (hs : starEach [e] X.env = (false, eval e X.env) :: starEach [] X.env := by rfl) (hplain : (backTo cpos (starEach [] X.env)).any (·.1) = false := by rfl) :
    DE X E true false Γ (.Call (.Attribute o "append" apos) [e] [] cpos) (eApp i m) :=
  PE.imp (pe_bm PySem.F.plainAttrs_list PySem.F.slot_list_append PySem.F.type_list_append mt_append hp (pa_cons ha pa_nil hs) hbase hfew hline hs hplain) fun σ H Q ⟨M, A, ρ, hΓ, f, h⟩ => by
    obtain ⟨ds0, e0, h⟩ := post_opt h
    obtain ⟨a, xs, ia, e1, e2, e3⟩ := f.ownL hΓ hi (asL_some e0)
    refine ⟨.ref a, e1, .inl ⟨rfl, xs, .inl (.inl e2)⟩, M, A, ρ, hΓ, f, pimp (post_bind h) (fun z hz v H1 f1 g1 _ r1 => ?_) fun c hc => hc⟩
    obtain ⟨ds, ed, hz⟩ := post_opt hz
    obtain ⟨b, ys, ib, e4, e5, e6⟩ := f1.ownL hΓ hi (asL_some ed)
    obtain rfl := Fit.at_same f f1 ib e1
    by_cases hl : ds.length < sizeLine
    · rw [if_pos hl] at hz
      have c : Carry X.K H1 (upd H1 b (.lst (ys ++ [v]))) M M := Carry.at (f1.sub _ ib)
      refine ⟨b, ys, v, rfl, rfl, e5, by rw [e6.length]; exact hl, ?_⟩
      exact hz .non _ (f1.change ib (.lst upd_same (RpAll.carry c (e6.append (.one r1))))) (g1.trans (Fra.change ib)) (fun n => Bool.noConfusion n) .non
    · rw [if_neg hl] at hz; exact hz.elim
/-- xs.pop() -/
def ePop (i : Nat) : ME := fun ρ => (R.opt (asL (getv ρ i))).bind fun ds => (R.opt ds.getLast?).bind fun d => .ok (d, ρ.set i (some (.list ds.dropLast)))
theorem de_pop {i : Nat} {o : Expr} {apos cpos : Pos} (hp : PE X o (tVar i)) (hi : Γ.contains i = true := by decide)
    (hbase : attributeBase o "pop" X.env (eval o X.env) = eval o X.env := by rfl) (hline : (apos.endLine == cpos.line) = true := by rfl) :
    DE X E true false Γ (.Call (.Attribute o "pop" apos) [] [] cpos) (ePop i) :=
  PE.imp (pe_bm0 PySem.F.plainAttrs_list PySem.F.slot_list_pop PySem.F.type_list_pop mt_pop hp hbase hline) fun σ H Q ⟨M, A, ρ, hΓ, f, h⟩ => by
    obtain ⟨ds, e0, h⟩ := post_opt h
    obtain ⟨a, xs, ia, e1, e2, e3⟩ := f.ownL hΓ hi (asL_some e0)
    obtain ⟨d, ed, h⟩ := post_opt h
    rw [List.getLast?_eq_getElem?] at ed
    obtain ⟨v, ev, rv⟩ := e3.get ed
    have c : Carry X.K H (upd H a (.lst xs.dropLast)) M M := Carry.at (f.sub _ ia)
    refine ⟨.ref a, e1, .inl ⟨rfl, xs, .inl (.inl e2)⟩, a, xs, v, rfl, rfl, e2, by rw [e3.length]; exact ev, ?_⟩
    exact h v _ (f.change ia (.lst upd_same (RpAll.carry c e3.dropLast))) (Fra.change ia) (fun n => Bool.noConfusion n) (Rp.carry c rv)
/-- xs.reverse() -/
def eRev (i : Nat) : ME := fun ρ => (R.opt (asL (getv ρ i))).bind fun ds => .ok (.none, ρ.set i (some (.list ds.reverse)))
theorem de_rev {i : Nat} {o : Expr} {apos cpos : Pos} (hp : PE X o (tVar i)) (hi : Γ.contains i = true := by decide)
    (hbase : attributeBase o "reverse" X.env (eval o X.env) = eval o X.env := by rfl) (hline : (apos.endLine == cpos.line) = true := by rfl) :
    DE X E true false Γ (.Call (.Attribute o "reverse" apos) [] [] cpos) (eRev i) :=
  PE.imp (pe_bm0 PySem.F.plainAttrs_list PySem.F.slot_list_reverse PySem.F.type_list_reverse mt_reverse hp hbase hline) fun σ H Q ⟨M, A, ρ, hΓ, f, h⟩ => by
    obtain ⟨ds, e0, h⟩ := post_opt h
    obtain ⟨a, xs, ia, e1, e2, e3⟩ := f.ownL hΓ hi (asL_some e0)
    have c : Carry X.K H (upd H a (.lst xs.reverse)) M M := Carry.at (f.sub _ ia)
    refine ⟨.ref a, e1, .inl ⟨rfl, xs, .inl (.inl e2)⟩, a, xs, rfl, rfl, e2, ?_⟩
    exact h .non _ (f.change ia (.lst upd_same (RpAll.carry c e3.reverse))) (Fra.change ia) (fun n => Bool.noConfusion n) .non
/-- xs.pop(e) -/
def ePopAt (i : Nat) (m : ME) : ME := fun ρ => (R.opt (asL (getv ρ i))).bind fun _ => (m ρ).bind fun z => (R.opt (asL (getv z.2 i))).bind fun ds => (R.opt (asI z.1)).bind fun n =>
  if small62 n then (R.opt (ixN ds.length n)).bind fun j => (R.opt (ds[j]?)).bind fun d => .ok (d, z.2.set i (some (.list (ds.eraseIdx j)))) else .no
theorem de_popAt {i : Nat} {o : Expr} {m : ME} {apos cpos : Pos} (hp : PE X o (tVar i)) (ha : DE X E true false Γ e m) (hi : Γ.contains i = true := by decide)
    (hbase : attributeBase o "pop" X.env (eval o X.env) = eval o X.env := by rfl)
    (hfew : ((backTo cpos (starEach [e] X.env)).all (fun x => !x.1) && (backToKw cpos (keywordEach [] X.env)).all (fun x => x.1.isSome)
      && decide (([e] : List Expr).length + ([] : List Keyword).length + (if ([] : List Keyword).isEmpty then 0 else 1) < 30)) = true := by rfl)
    (hline : (apos.endLine == cpos.line) = true := by rfl) (hs : starEach [e] X.env = (false, eval e X.env) :: starEach [] X.env := by rfl) (hplain : (backTo cpos (starEach [] X.env)).any (·.1) = false := by rfl) :
    DE X E true false Γ (.Call (.Attribute o "pop" apos) [e] [] cpos) (ePopAt i m) :=
  PE.imp (pe_bm PySem.F.plainAttrs_list PySem.F.slot_list_pop PySem.F.type_list_pop mt_popAt hp (pa_cons ha pa_nil hs) hbase hfew hline hs hplain) fun σ H Q ⟨M, A, ρ, hΓ, f, h⟩ => by
    obtain ⟨ds0, e0, h⟩ := post_opt h
    obtain ⟨a, xs, ia, e1, e2, e3⟩ := f.ownL hΓ hi (asL_some e0)
    refine ⟨.ref a, e1, .inl ⟨rfl, xs, .inl (.inl e2)⟩, M, A, ρ, hΓ, f, pimp (post_bind h) (fun z hz v H1 f1 g1 _ r1 => ?_) fun c hc => hc⟩
    obtain ⟨ds, ed, hz⟩ := post_opt hz
    obtain ⟨n, en, hz⟩ := post_opt hz
    obtain ⟨b, ys, ib, e4, e5, e6⟩ := f1.ownL hΓ hi (asL_some ed)
    obtain rfl := Fit.at_same f f1 ib e1
    by_cases hl : small62 n = true
    · rw [if_pos hl] at hz
      obtain ⟨j, ej, hz⟩ := post_opt hz
      obtain ⟨d, edj, hz⟩ := post_opt hz
      obtain ⟨w, ew, rw'⟩ := e6.get edj
      obtain ⟨l1, l2⟩ := small62_of hl
      obtain ⟨s1, _, _, _⟩ := ixN_seq ej
      have e7 := asI_some en
      rw [e7] at r1
      have c : Carry X.K H1 (upd H1 b (.lst (ys.eraseIdx j))) M M := Carry.at (f1.sub _ ib)
      refine ⟨b, ys, n, j, w, rfl, by rw [Rt.int (Rt.of r1)], e5, by omega, by omega, by rw [e6.length]; exact s1, ew, ?_⟩
      exact hz w _ (f1.change ib (.lst upd_same (RpAll.carry c (e6.eraseIdx j)))) (g1.trans (Fra.change ib)) (fun n => Bool.noConfusion n) (Rp.carry c rw')
    · rw [if_neg hl] at hz; exact hz.elim
/-- xs[i] = v, xs an own list -/
def sPutL (o : Nat) (mv mi : ME) : MS := fun ρ => (mv ρ).bind fun v => (mi v.2).bind fun i => (R.opt (asL (getv i.2 o))).bind fun ds => (R.opt (asI i.1)).bind fun n => (R.opt (ixN ds.length n)).bind fun j =>
  .ok (.nx, i.2.set o (some (.list (ds.set j v.1))))
theorem ds_putL {o : Nat} {oe ie : Expr} {mv mi : ME} {p2 : Pos} (hp : PE X oe (tVar o)) (hi : DE X E false false (Γ ++ Γ0) ie mi) (hv : DE X E k false (Γ ++ Γ0) e mv) (ho : (Γ ++ Γ0).contains o = true := by decide)
    (hs : swapsWithSole [.Subscript oe ie p2] e pos.line X.env = pure false := by rfl) (hw : swappedStores [.Subscript oe ie p2] e X.env = pure none := by rfl)
    (h1 : (assignEach [.Subscript oe ie p2] X.env).map (·.2) = [assign (.Subscript oe ie p2) X.env] := by rfl)
    (h2 : ∀ v, assign (.Subscript oe ie p2) X.env v = (do
      let ov ← holding [v] (eval oe X.env)
      let iv ← holding [v, ov] (eval ie X.env)
      standAt p2
      holding [v, ov, iv] (setItem ov iv v)
      release [v, ov, iv] []) := by intro _; rfl) : DS X E Γ0 Γ Γ Γl (.Assign [.Subscript oe ie p2] e pos) (sPutL o mv mi) :=
  PS.imp (ps_asg hv (pg_sub hp hi set_list h2) hs hw h1) fun D σ H ⟨M0, B, A0, ρ, hB, hA, dj, f, q⟩ => by
    have hΓ : (B ++ A0).map (·.1) = Γ ++ Γ0 := by rw [List.map_append, hB, hA]
    refine ⟨_, _, ρ, hΓ, f, pimp (post_bind q) (fun z hz v H1 f1 g1 _ r1 => ?_) fun c hc => DX.eff hc⟩
    -- the object
    have hm : o ∈ (B ++ A0).map (·.1) := by rw [hΓ]; exact List.contains_iff_mem.mp ho
    obtain ⟨⟨j0, a⟩, hq, e0⟩ := List.mem_map.mp hm
    obtain rfl : j0 = o := e0
    refine ⟨.ref a, (f1.own _ hq).1, _, _, z.2, hΓ, f1, pimp (post_bind hz) (fun y hy iv H2 f2 g2 _ r2 => ?_) fun c hc => DX.eff (DX.step (Stp.eff g1) hc)⟩
    obtain ⟨ds, ed, hy⟩ := post_opt hy
    obtain ⟨n, en, hy⟩ := post_opt hy
    obtain ⟨j, ej, hy⟩ := post_opt hy
    obtain ⟨b, ys, ib, e4, e5, e6⟩ := f2.ownL hΓ ho (asL_some ed)
    have eb : a = b := Fit.at_same f1 f2 hq e4
    subst eb
    have e7 := asI_some en
    rw [e7] at r2
    have s2 := eff_false g2
    have c : Carry X.K H2 (upd H2 a (.lst (ys.set j v))) (un M0 (B ++ A0)) (un M0 (B ++ A0)) := Carry.at (f2.sub _ ib)
    refine ⟨a, ys, n, j, rfl, Rt.int (Rt.of r2), e5, by rw [e6.length]; exact ej, ?_⟩
    have r1' : Rp X.K H2 (un M0 (B ++ A0)) v z.1 := Rp.carry (Carry.same s2) r1
    refine hy _ _ B hB ⟨(g1.eff_has.trans (Fra.of_same s2)).trans fun b' u eu n' => ?_, fun p hp => .inl (As.has_of hp)⟩ (f2.change ib (.lst upd_same (RpAll.carry c (e6.set j r1'))))
    have ne : b' ≠ a := fun z' => n' (by rw [z']; exact As.has_of ib)
    rw [upd_ne ne]; exact eu
/-! ### x += e -/
theorem post_opt2 {α β : Type} {o : Option α} {f : α → R β} {Q : β → Prop} {X : Str → Prop} (h : ((R.opt o).bind f).post Q X) : ∃ a, o = some a ∧ (f a).post Q X := post_opt h
/-- a name that owns nothing -/
def sAug (i : Nat) (g : G2) (m : ME) : MS := fun ρ => (R.opt (getv ρ i)).bind fun x => (m ρ).bind fun y => (R.opt (g x y.1)).bind fun r => .ok (.nx, y.2.set i (some r))
theorem ds_aug {i : Nat} {x : Str} {m : ME} {g : G2} {op : Operator} {pos' : Pos} (hN : X.N.Nodup) (hi : X.N[i]? = some x) (hx : Loc X.env.scope x) (he : DE X E k false (Γ ++ Γ0) e m) (ho : OpR X (inplaceOp op) (rD X.K g)) (hf : X.fn x = true ∨ X.env.scope.names.lookup x = some .local := by first | exact .inl rfl | exact .inr rfl | assumption)
    (hΓ : (Γ ++ Γ0).contains i = false := by decide) : DS X E Γ0 Γ Γ Γl (.AugAssign (.Name x pos') op e pos) (sAug i g m) :=
  PS.imp (ps_aug hN hi hx he ho hf) fun D σ H ⟨M0, B, A0, ρ, hB, hA, dj, f, q⟩ => by
    have hΓ' : (B ++ A0).map (·.1) = Γ ++ Γ0 := by rw [List.map_append, hB, hA]
    obtain ⟨d, ed, q⟩ := post_opt q
    obtain ⟨v, e1, rv⟩ := f.shr i d (getv_some ed) (not_own hΓ' hΓ)
    refine ⟨v, e1, _, _, ρ, hΓ', f, pimp (post_bind q) (fun z hz w H1 f1 g1 _ r1 => ?_) fun c hc => DX.eff hc⟩
    obtain ⟨u, eu, hz⟩ := post_opt hz
    refine ⟨_, d, z.1, u, f1.trk, .of (Rp.carry (Carry.fra g1 (eff_sub f)) rv), .of r1, eu, fun u' H' s' rp => ?_⟩
    exact hz _ H' B hB ((Stp.eff g1).trans f1.trk0 (Stp.eff (k := false) (Fra.of_eff s'))) ((f1.same s').set (not_own hΓ' hΓ) rp)
/-! ### += of ints, texts, tuples -/
theorem icat_tup {prog : Program} {w : World} {A : Around} {E : Value → Shared → Prop} {s : Shared} {t b : Addr} {vs ws : List Value} {Q : Value → Shared → Prop} (ht : IsTup s.heap t vs.toArray) (hb : IsTup s.heap b ws.toArray)
    (h0 : vs = [] → Q (.ref b) s) (h1 : vs ≠ [] → ws = [] → Q (.ref t) s) (h2 : vs ≠ [] → ws ≠ [] → Q (.ref s.heap.objs.size) { s with heap := s.heap.push { cls := .type "tuple", data := .seq (vs ++ ws).toArray } })
    (hsz : vs.length + ws.length ≤ sizeLine) : wpAny (model prog w) A (inplaceOp .Add (.ref t) (.ref b)) Q E s := by
  obtain ⟨⟨c1, d1, data1, sl1⟩, ho, hc, n, hd⟩ := id ht
  obtain ⟨⟨c2, d2, data2, sl2⟩, ho2, hc2, n2, hd2⟩ := id hb
  simp only at hc hd hc2 hd2
  subst hc hd hc2 hd2
  have hno : typeLookup (.type "tuple") (dunderI "add") = pure none := by rfl
  have go := fun {S : PySem.Spec} (g : Meets (Builtin.«tuple.__add__» ⟨[.ref t, .ref b], []⟩) S) (h : S A (PySem.wants Q E) s) =>
    PySem.wpAny_inplaceOp_concat (M := model prog w) (A := A) (E := E) (s := s) (a := .ref t) (b := .ref b) (Q := Q) ⟨_, ho, rfl⟩ ⟨_, ho2, rfl⟩ hno noFill_tuple_add seq_tuple_add (call_meets PySem.F.slot_tuple_add ⟨_, ho, rfl⟩ PySem.F.entry_tuple_add (PySem.F.args_tuple_add_2 _ _) g h)
  by_cases e1 : vs = []
  · exact go (tuple_addW0 t b vs.toArray ws.toArray n n2 d1 d2 sl1 sl2 (by simp [e1])) ⟨ho, ho2, h0 e1⟩
  · by_cases e2 : ws = []
    · exact go (tuple_addW1 t b vs.toArray ws.toArray n n2 d1 d2 sl1 sl2 (by simpa using e1) (by simp [e2])) ⟨ho, ho2, h1 e1 e2⟩
    · refine go (tuple_addW2 t b vs.toArray ws.toArray n n2 d1 d2 sl1 sl2 (by simpa using e1) (by simpa using e2) (by simp only [List.size_toArray]; exact hsz)) ⟨ho, ho2, ?_⟩
      have e : vs.toArray ++ ws.toArray = (vs ++ ws).toArray := by simp
      rw [e]
      exact h2 e1 e2
def dIAdd : G2
  | .int i, .int j => some (.int (i + j))
  | .str a, .str b => if a.length + b.length ≤ sizeLine then some (.str (a ++ b)) else none
  | .tuple xs, .tuple ys => if xs.length + ys.length ≤ sizeLine then some (.tuple (xs ++ ys)) else none
  | _, _ => none
theorem op_dIAdd : OpR X (inplaceOp .Add) (rD X.K dIAdd) := by
  intro pins s σ H x y v u Q I rx ry h
  obtain ⟨M, d, e, r, tk, rd, re, eg, q⟩ := h
  unfold dIAdd at eg
  split at eg
  · cases eg
    exact iop_add pins s σ H x y v u Q I rx ry ⟨_, _, rd.int, re.int, q _ H (Same.refl _) (.int _)⟩
  · split at eg
    · rename_i hz
      cases eg
      exact iop_add_str pins s σ H x y v u Q I rx ry ⟨_, _, rd.str, re.str, hz, q _ H (Same.refl _) (.str _)⟩
    · cases eg
  · split at eg
    · rename_i ds es hz
      cases eg
      obtain ⟨a, xs, e1, r1, a1⟩ := rd.tuple
      obtain ⟨b, ys, e2, r2, a2⟩ := re.tuple
      subst e1 e2
      cases rx
      cases ry
      obtain ⟨its, v1, p1, z1⟩ := I.tuple r1.sq
      obtain ⟨its2, v2, p2, z2⟩ := I.tuple r2.sq
      have hl : xs.length + ys.length ≤ sizeLine := by rw [a1.length, a2.length]; exact hz
      refine icat_tup p1 p2 (fun n => ?_) (fun _ n => ?_) (fun _ _ => ?_) (by rw [← v1.length, ← v2.length]; exact hl)
      · subst n
        cases v1
        cases a1
        exact ⟨.ref b, H, I, rfl, q _ H (Same.refl _) (.tup r2 a2)⟩
      · subst n
        cases v2
        cases a2
        rw [List.append_nil] at q
        exact ⟨.ref a, H, I, rfl, q _ H (Same.refl _) (.tup r1 a1)⟩
      · have I2 := tupLaid (t' := s.toks) (ys := xs ++ ys) (its := its ++ its2) (n := 0) (a := s.heap.objs.size) I (fun b o e => Heap.get?_push_of_some _ e) (Nat.le_refl _) (by rw [List.length_append]; exact hl) (v1.append v2) (Heap.get?_push_size _ rfl)
        obtain ⟨s', rp⟩ := new_tup (K := X.K) (o := tupObj (its ++ its2) 0) rfl tk I.fresh (a1.append a2)
        exact ⟨.ref s.heap.objs.size, _, I2, rfl, q _ _ s' rp⟩
    · cases eg
  · cases eg
def dISub : G2
  | .int i, .int j => some (.int (i - j))
  | _, _ => none
theorem op_dISub : OpR X (inplaceOp .Sub) (rD X.K dISub) := by
  intro pins s σ H x y v u Q I rx ry h
  obtain ⟨M, d, e, r, tk, rd, re, eg, q⟩ := h
  unfold dISub at eg
  split at eg
  · cases eg
    exact iop_sub pins s σ H x y v u Q I rx ry ⟨_, _, rd.int, re.int, q _ H (Same.refl _) (.int _)⟩
  · cases eg
/-- an own list -/
def sExt (i : Nat) (m : ME) : MS := fun ρ => (R.opt (asL (getv ρ i))).bind fun _ => (m ρ).bind fun y => (R.opt (asL (getv y.2 i))).bind fun xs => (R.opt (asL (some y.1))).bind fun ys =>
  if xs.length + ys.length ≤ sizeLine then .ok (.nx, y.2.set i (some (.list (xs ++ ys)))) else .no
theorem iop_extR : OpR X (inplaceOp .Add) (fun x y H Q => ∃ l b xs zs, x = .ref l ∧ y = .ref b ∧ H l = some (.lst xs) ∧ Rd H b (.lst zs) ∧ xs.length + zs.length ≤ sizeLine ∧ Q (.ref l) (upd H l (.lst (xs ++ zs)))) := by
  intro pins s σ H x y v u Q I rx ry h
  obtain ⟨l, b, xs, zs, rfl, rfl, hH, hB, hz, q⟩ := h
  cases rx
  cases ry
  obtain ⟨z, its, n, r, hl, e⟩ := I.lstM hH
  obtain ⟨z2, its2, n2, r2, hl2, e2⟩ := Inv.lstR I hB
  have hsz : its.toArray.size + its2.toArray.size ≤ sizeLine := by simp only [List.size_toArray]; omega
  have hlong : ¬ (!its.toArray.isEmpty && Builtin.List.listTooLong (its.toArray.size + its2.toArray.size)) = true := by
    simp only [notLongL hsz, Bool.and_false, Bool.false_eq_true, not_false_eq_true]
  refine iadd_road ⟨_, e, rfl⟩ ⟨_, e2, rfl⟩ (call_meets PySem.F.slot_list_iadd ⟨_, e, rfl⟩ PySem.F.entry_list_iadd (PySem.F.args_list_iadd_2 _ _)
    (AutoSeq1.list___iadd___list_list_0 l its.toArray n b its2.toArray n2 hlong (by simp only [List.size_toArray]; omega) (by omega)) ⟨e, e2, ?_⟩)
  exact ⟨.ref l, _, I.lset (its' := its ++ its2) (t' := s.toks) hH e (by simp) (r.append r2) (by simp only [List.length_append]; omega), rfl, q⟩
theorem ds_ext {i : Nat} {x : Str} {m : ME} {pos' : Pos} (hN : X.N.Nodup) (hi : X.N[i]? = some x) (hx : Loc X.env.scope x) (he : DE X E k false (Γ ++ Γ0) e m) (hf : X.fn x = true ∨ X.env.scope.names.lookup x = some .local := by first | exact .inl rfl | exact .inr rfl | assumption)
    (hΓ : (Γ ++ Γ0).contains i = true := by decide) : DS X E Γ0 Γ Γ Γl (.AugAssign (.Name x pos') .Add e pos) (sExt i m) :=
  PS.imp (ps_aug hN hi hx he iop_extR hf) fun D σ H ⟨M0, B, A0, ρ, hB, hA, dj, f, q⟩ => by
    have hΓ' : (B ++ A0).map (·.1) = Γ ++ Γ0 := by rw [List.map_append, hB, hA]
    obtain ⟨ds0, e0, q⟩ := post_opt q
    obtain ⟨a, xs0, ia, e1, e2, e3⟩ := f.ownL hΓ' hΓ (asL_some e0)
    refine ⟨.ref a, e1, _, _, ρ, hΓ', f, pimp (post_bind q) (fun z hz w H1 f1 g1 _ r1 => ?_) fun c hc => DX.eff hc⟩
    obtain ⟨xs, ex, hz⟩ := post_opt hz
    obtain ⟨ys, ey, hz⟩ := post_opt hz
    obtain ⟨b, vs, ib, e4, e5, e6⟩ := f1.ownL hΓ' hΓ (asL_some ex)
    have eb : b = a := Fit.at_same f f1 ib e1
    subst eb
    have e7 : z.1 = .list ys := Option.some.inj (asL_some ey)
    rw [e7] at r1
    obtain ⟨c, ws, ec, rc, ac⟩ := (Rt.of r1).list
    have r1' : RpAll X.K H1 (un M0 (B ++ A0)) ws ys := ac
    by_cases hl : xs.length + ys.length ≤ sizeLine
    · rw [if_pos hl] at hz
      have cc : Carry X.K H1 (upd H1 b (.lst (vs ++ ws))) (un M0 (B ++ A0)) (un M0 (B ++ A0)) := Carry.at (f1.sub _ ib)
      refine ⟨b, c, vs, ws, rfl, ec, e5, rc, by rw [e6.length, ac.length]; exact hl, ?_⟩
      have hσ : σ.set i (some (.ref b)) = σ := by
        apply List.ext_getElem?
        intro j
        by_cases ej : i = j
        · subst ej
          rw [List.getElem?_set_self (List.getElem?_eq_some_iff.mp e1).1, e1]
        · rw [List.getElem?_set_ne ej]
      show D.nx (σ.set i (some (.ref b))) _
      rw [hσ]
      refine hz _ _ B hB ⟨g1.eff_has.trans fun b' u eu n' => ?_, fun p hp => .inl (As.has_of hp)⟩ (f1.change ib (.lst upd_same (RpAll.carry cc (e6.append r1'))))
      have ne : b' ≠ b := fun z' => n' (by rw [z']; exact As.has_of ib)
      rw [upd_ne ne]; exact eu
    · rw [if_neg hl] at hz; exact hz.elim
end
end Dt

set_option Elab.async false
set_option linter.all false
set_option maxRecDepth 100000
set_option autoImplicit false
/-! Comprehensions. -/
namespace Dt
open PySem PySem.Spec PyProof.Rows L2 R

def wipeE (ρ : Ev) : List Nat → Ev
  | [] => ρ
  | v :: vs => (wipeE ρ vs).set v none
/-- the frame's own slots behind a comprehension: those of vs are as before -/
def mergeE (ρ ρ3 : Ev) : List Nat → Ev
  | [] => ρ3
  | v :: vs => match ρ[v]? with
    | some o => (mergeE ρ ρ3 vs).set v o
    | none => mergeE ρ ρ3 vs
def mrg (k : Bool) (ρ ρ3 : Ev) (vs : List Nat) : Ev := match k with
  | false => ρ
  | true => mergeE ρ ρ3 vs
section
variable {K : Fg} {M : Av} {A : As} {σ σ3 : St} {H H' : Hp} {ρ ρ3 : Ev}
theorem wipeE_len (ρ : Ev) : ∀ vs : List Nat, (wipeE ρ vs).length = ρ.length
  | [] => rfl
  | v :: vs => by unfold wipeE; rw [List.length_set]; exact wipeE_len ρ vs
theorem mergeE_len (ρ ρ3 : Ev) : ∀ vs : List Nat, (mergeE ρ ρ3 vs).length = ρ3.length
  | [] => rfl
  | v :: vs => by
    unfold mergeE
    split
    · rw [List.length_set]; exact mergeE_len ρ ρ3 vs
    · exact mergeE_len ρ ρ3 vs
theorem wipe_in {σ : St} {i : Nat} {x : V} : ∀ {vs : List Nat}, (wipe σ vs)[i]? = some (some x) → i ∉ vs := fun {vs} h => (wipe_some h).2
theorem wipeE_some {ρ : Ev} {i : Nat} {d : D} : ∀ {vs : List Nat}, (wipeE ρ vs)[i]? = some (some d) → ρ[i]? = some (some d) ∧ i ∉ vs
  | [], h => ⟨h, by simp⟩
  | v :: vs, h => by
    unfold wipeE at h
    by_cases e : v = i
    · subst e
      by_cases hl : v < (wipeE ρ vs).length
      · rw [List.getElem?_set_self hl] at h; cases h
      · rw [List.getElem?_eq_none (by rw [List.length_set]; omega)] at h; cases h
    · rw [List.getElem?_set_ne e] at h
      obtain ⟨h1, h2⟩ := wipeE_some h
      exact ⟨h1, fun z => (List.mem_cons.mp z).elim (fun z => e z.symm) h2⟩
theorem wipeE_out {ρ : Ev} {i : Nat} : ∀ {vs : List Nat}, i ∉ vs → (wipeE ρ vs)[i]? = ρ[i]?
  | [], _ => rfl
  | v :: vs, h => by
    unfold wipeE
    rw [List.getElem?_set_ne (fun e => h (by rw [e]; exact List.mem_cons_self))]
    exact wipeE_out fun z => h (List.mem_cons_of_mem _ z)
theorem mergeE_out {i : Nat} : ∀ {vs : List Nat}, i ∉ vs → (mergeE ρ ρ3 vs)[i]? = ρ3[i]?
  | [], _ => rfl
  | v :: vs, h => by
    have ih := mergeE_out (vs := vs) fun z => h (List.mem_cons_of_mem _ z)
    unfold mergeE
    split
    · rw [List.getElem?_set_ne (fun e => h (by rw [e]; exact List.mem_cons_self))]; exact ih
    · exact ih
theorem mergeE_in (hl : ρ.length = ρ3.length) {i : Nat} : ∀ {vs : List Nat}, i ∈ vs → (mergeE ρ ρ3 vs)[i]? = ρ[i]?
  | v :: vs, h => by
    unfold mergeE
    by_cases e : v = i
    · subst e
      split
      · rename_i o eo
        rw [List.getElem?_set_self (by rw [mergeE_len, ← hl]; exact (List.getElem?_eq_some_iff.mp eo).1), eo]
      · rename_i eo
        by_cases h2 : v ∈ vs
        · exact mergeE_in hl h2
        · rw [mergeE_out h2, eo]
          exact List.getElem?_eq_none (by rw [← hl]; exact List.getElem?_eq_none_iff.mp eo)
    · have h2 : i ∈ vs := (List.mem_cons.mp h).elim (fun z => absurd z.symm e) id
      split
      · rw [List.getElem?_set_ne e]; exact mergeE_in hl h2
      · exact mergeE_in hl h2
theorem Fit.wipe (f : Fit K M A σ H ρ) {vs : List Nat} (hv : ∀ p ∈ A, p.1 ∉ vs) : Fit K M A (L2.wipe σ vs) H (wipeE ρ vs) where
  len := by rw [wipe_length, wipeE_len]; exact f.len
  trk := f.trk
  sub := f.sub
  nd := f.nd
  own := fun p hp => by
    obtain ⟨h1, d, h2, h3⟩ := f.own p hp
    exact ⟨by rw [wipe_out (hv p hp)]; exact h1, d, by rw [wipeE_out (hv p hp)]; exact h2, h3⟩
  shr := fun i d e n => by
    obtain ⟨h1, h2⟩ := wipeE_some e
    obtain ⟨v, g1, g2⟩ := f.shr i d h1 n
    exact ⟨v, by rw [wipe_out h2]; exact g1, g2⟩
/-- the outer frame behind a turn -/
theorem Fit.merge {k : Bool} {vs : List Nat} (f : Fit K M A σ H ρ) (f3 : Fit K M A σ3 H' ρ3) (g : Fra (eff k A) H H') (hv : ∀ p ∈ A, p.1 ∉ vs) (hw : L2.wipe σ3 vs = L2.wipe σ vs) : Fit K M A σ H' (mrg k ρ ρ3 vs) := by
  cases k with
  | false => exact f.same (eff_false g)
  | true =>
    have hl : σ3.length = σ.length := by rw [← wipe_length σ3 vs, hw, wipe_length]
    have hl2 : ρ.length = ρ3.length := by rw [← f.len, ← f3.len, hl]
    have ho : ∀ i, i ∉ vs → σ3[i]? = σ[i]? := fun i h => by rw [← wipe_out (σ := σ3) h, hw, wipe_out h]
    refine ⟨by show σ.length = (mergeE ρ ρ3 vs).length; rw [mergeE_len, ← hl2]; exact f.len, f3.trk, f3.sub, f3.nd, fun p hp => ?_, fun i d e n => ?_⟩
    · obtain ⟨h1, d, h2, h3⟩ := f3.own p hp
      exact ⟨by rw [← ho _ (hv p hp)]; exact h1, d, by show (mergeE ρ ρ3 vs)[p.1]? = _; rw [mergeE_out (hv p hp)]; exact h2, h3⟩
    · have e' : (mergeE ρ ρ3 vs)[i]? = some (some d) := e
      by_cases h : i ∈ vs
      · rw [mergeE_in hl2 h] at e'
        obtain ⟨v, g1, g2⟩ := f.shr i d e' n
        exact ⟨v, g1, Rp.carry (Carry.fra g (eff_sub f)) g2⟩
      · rw [mergeE_out h] at e'
        obtain ⟨v, g1, g2⟩ := f3.shr i d e' n
        exact ⟨v, by rw [← ho i h]; exact g1, g2⟩
end

/-! ### tests of a clause -/
def DBs (X : Cx) (E : XK) (k : Bool) (Γ : List Nat) (es : List Expr) (m : MB) : Prop := PTs X es (DTb X.K X.mg E k Γ m)
theorem PTs.imp {X : Cx} {es : List Expr} {t t' : TT} (h : PTs X es t) (w : ∀ σ H Q, t' σ H Q → t σ H Q) : PTs X es t' := ⟨fun pins s σ H Q I q => h.run pins s σ H Q I (w σ H Q q)⟩
def bYes : MB := fun ρ => .ok (true, ρ)
section
variable {X : Cx} {E : XK} {k r : Bool} {Γ : List Nat} {a b c e tg elt iter : Expr} {es ifs : List Expr} {pos : Pos}
theorem dbs_nil : DBs X E k Γ [] bYes := PTs.imp pts_nil fun σ H Q ⟨M, A, ρ, _, f, q⟩ => q H f Fra.refl fun _ => rfl
theorem dbs_one {m : MB} (h : DB X E k Γ c m) : DBs X E k Γ [c] m := pts_one h

def slots (own : List (Str × Nat)) : List Nat := own.map Prod.snd
/-! ### one clause -/
def lcG (k : Bool) (vs : List Nat) (g : MG) (tt : MB) (me : ME) : List D → Ev → R (List D × Ev)
  | [], ρ => .ok ([], ρ)
  | d :: ds, ρ => (g d (wipeE ρ vs)).nox.bind fun ρ1 => (tt ρ1).nox.bind fun t =>
    if t.1 = true then (me t.2).nox.bind fun y => (lcG k vs g tt me ds (mrg k ρ y.2 vs)).bind fun r => .ok (y.1 :: r.1, r.2)
    else lcG k vs g tt me ds (mrg k ρ t.2 vs)
def mLc (k : Bool) (mi : MA) (vs : List Nat) (g : MG) (tt : MB) (me : ME) : ME := fun ρ => (mi ρ).bind fun x => (lcG k vs g tt me x.1 x.2).nox.bind fun r => .ok (.list r.1, r.2)
theorem noxp {α : Type} {m : R α} {Q : α → Prop} {X Y : Str → Prop} (h : m.nox.post Q X) : m.post Q Y := post_nox h
theorem lc_turn {K : Fg} {mg : Str → Option Value} {mi : MA} {g : MG} {tt : MB} {me : ME} {vs : List Nat} (hv : ∀ i ∈ vs, Γ.contains i = false) {σ : St} {H : Hp} {Q : VK}
    (h : DTf K mg E k Γ (mLc k mi vs g tt me) σ H Q) : tLc (DTi K mg E k Γ mi) (DTg K Γ vs g) (DTb K mg E0 k Γ tt) (DT K mg E0 k false Γ me) vs σ H Q := by
  obtain ⟨M, A, ρ, hΓ, f, q⟩ := h
  have hv' : ∀ p ∈ A, p.1 ∉ vs := fun p hp hm => by
    have := hv _ hm
    have hp' : p.1 ∈ Γ := hΓ ▸ List.mem_map.mpr ⟨p, hp, rfl⟩
    rw [List.contains_iff_mem.mpr hp'] at this
    cases this
  refine ⟨M, A, ρ, hΓ, f, pimp (post_bind q) (fun x hx J S H0 f0 g0 e0 src s0 hsz => ?_) fun c hc => hc⟩
  obtain ⟨ds, ρ0⟩ := x
  have src : Src K J ds S := src
  have hsz : ds.length ≤ sizeLine := hsz
  have hx := post_noxbind hx
  intro p np
  have np0 : H p = none := none_back f0 g0 np
  have sp : Same H0 (upd H0 p (.lst [])) := fun b u e => by rw [upd_ne (ne_of_none e np)]; exact e
  have ne0 : ∀ b, eff k A b → b ≠ p := fun b hb e => by
    obtain ⟨o, eo⟩ := f0.trk b (f0.has b hb.2)
    rw [e, np] at eo; cases eo
  refine ⟨fun i m H1 => m = ds.length - i ∧ ∃ acc dacc ρ1, Fit K (M.add p) A σ H1 ρ1 ∧ Fra (eff k A) H0 H1 ∧ (k = false → ρ1 = ρ0) ∧ S (M.add p) H1 ∧ H1 p = some (.lst acc) ∧ RpAll K H1 (M.add p) acc dacc ∧ acc.length ≤ i ∧
      (lcG k vs g tt me (ds.drop i) ρ1).nox.post (fun r => ∀ p' H', H p' = none → Fit K (M.add p') A σ H' r.2 → Fra (eff k A) H H' → (k = false → r.2 = ρ) → OwnAt K H' (M.add p') p' (.list (dacc ++ r.1)) → Q (.ref p') H') (fun _ => False),
    ⟨_, rfl, [], [], ρ0, f0.addM np, Fra.of_eff sp, fun _ => rfl, src.carry M (M.add p) (fun _ => False) H0 (upd H0 p (.lst [])) s0 (Fra.of_same sp) (fun _ z => z.elim) (fun b z => z.elim .inl fun e => .inr (by rw [e]; exact np)), upd_same, .nil, Nat.le_refl _, by
      rw [List.drop_zero]
      exact pimp hx (fun r hr p' H' np' f' g' e' o' => hr p' H' np' f' g' e' o') fun c hc => hc⟩, ?_⟩
  rintro i m H1 ⟨em, acc, dacc, ρ1, f1, g1, e1, s1, hp1, ra, hal, q1⟩
  by_cases hi : i < ds.length
  · obtain ⟨d, hd⟩ : ∃ d, ds[i]? = some d := ⟨_, List.getElem?_eq_getElem hi⟩
    have ed : ds.drop i = d :: ds.drop (i + 1) := by
      rw [List.drop_eq_getElem_cons hi]
      rw [List.getElem?_eq_getElem hi] at hd
      rw [Option.some.inj hd]
    rw [ed] at q1
    refine .inr ⟨src.go _ i H1 s1 hi, fun H2 => ∃ acc dacc ρ1, Fit K (M.add p) A σ H2 ρ1 ∧ Fra (eff k A) H0 H2 ∧ (k = false → ρ1 = ρ0) ∧ S (M.add p) H2 ∧ H2 p = some (.lst acc) ∧ RpAll K H2 (M.add p) acc dacc ∧ acc.length ≤ i + 1 ∧
      (lcG k vs g tt me (ds.drop (i + 1)) ρ1).nox.post (fun r => ∀ p' H', H p' = none → Fit K (M.add p') A σ H' r.2 → Fra (eff k A) H H' → (k = false → r.2 = ρ) → OwnAt K H' (M.add p') p' (.list (dacc ++ r.1)) → Q (.ref p') H') (fun _ => False), fun H2 h => ⟨ds.length - (i + 1), by omega, rfl, h⟩, fun x H2 hy => ?_⟩
    obtain ⟨rfl, d', hd', rx⟩ := src.yld _ i H1 x H2 s1 hi hy
    rw [hd] at hd'
    cases hd'
    have q1 := (show ((g d (wipeE ρ1 vs)).nox.bind _).post _ _ from by
      have e : (lcG k vs g tt me (d :: ds.drop (i + 1)) ρ1) = ((g d (wipeE ρ1 vs)).nox.bind fun ρ1' => (tt ρ1').nox.bind fun t =>
        if t.1 = true then (me t.2).nox.bind fun y => (lcG k vs g tt me (ds.drop (i + 1)) (mrg k ρ1 y.2 vs)).bind fun r => .ok (y.1 :: r.1, r.2)
        else lcG k vs g tt me (ds.drop (i + 1)) (mrg k ρ1 t.2 vs)) := rfl
      rw [e] at q1
      have : ∀ {m : R (List D × Ev)} {P : List D × Ev → Prop}, m.nox.post P (fun _ => False) → m.post P (fun _ => False) := fun h => post_nox h
      exact this q1)
    have wp := f1.wipe hv'
    refine ⟨M.add p, A, wipeE ρ1 vs, d, hΓ, wp, rx, ?_⟩
    cases hg : g d (wipeE ρ1 vs) with
    | exc c => rw [hg] at q1; exact q1.elim
    | no => rw [hg] at q1; exact q1.elim
    | ok ρ2 =>
      rw [hg] at q1
      intro σ2 f2 hw2
      have hw2' : wipe σ2 vs = wipe σ vs := by
        rw [hw2]
        have : ∀ vs : List Nat, ∀ σ : St, wipe (wipe σ vs) vs = wipe σ vs := by
          intro vs σ
          apply List.ext_getElem?
          intro j
          by_cases hj : j ∈ vs
          · have h0 : ∀ τ : St, τ.length = σ.length → (wipe τ vs)[j]? = if j < σ.length then some none else none := by
              intro τ hτ
              by_cases hl : j < σ.length
              · rw [if_pos hl]
                have hl2 : j < (wipe τ vs).length := by rw [wipe_length, hτ]; exact hl
                rw [List.getElem?_eq_getElem hl2]
                cases e : (wipe τ vs)[j] with
                | none => rfl
                | some x =>
                  have : (wipe τ vs)[j]? = some (some x) := by rw [List.getElem?_eq_getElem hl2, e]
                  exact absurd hj (wipe_some this).2
              · rw [if_neg hl]
                exact List.getElem?_eq_none (by rw [wipe_length, hτ]; omega)
            rw [h0 _ (wipe_length _ _), h0 _ rfl]
          · rw [wipe_out hj]
        exact this vs σ
      refine ⟨hw2', M.add p, A, ρ2, hΓ, f2, ?_⟩
      have q2 : ((tt ρ2).nox.bind _).post _ (fun _ => False) := q1
      refine noxp (X := fun _ => False) (pimp (post_noxbind q2) (fun t ht H3 f3 g3 e3 => ?_) fun c hc => hc)
      by_cases hb : t.1 = true
      · rw [if_pos hb] at ht
        refine ite_pos hb ⟨M.add p, A, t.2, hΓ, f3, noxp (X := fun _ => False) (pimp (post_noxbind ht) (fun y hy y4 H4 f4 g4 e4 r4 => ?_) fun c hc => hc)⟩
        have g14 : Fra (eff k A) H2 H4 := g3.trans g4
        have hp4 : H4 p = some (.lst acc) := g14 p _ hp1 fun z => ne0 p z rfl
        have mp : (M.add p) p := .inr rfl
        have cc : Carry K H4 (upd H4 p (.lst (acc ++ [y4]))) (M.add p) (M.add p) := Carry.at mp
        have fm := f1.merge (k := k) f4 g14 hv' hw2'
        have up : Fra (eff k A) H4 (upd H4 p (.lst (acc ++ [y4]))) → True := fun _ => trivial
        have pA : ∀ q ∈ A, q.2 ≠ p := fun q hq e => by
          obtain ⟨o, eo⟩ := f0.trk q.2 (f0.sub q hq)
          rw [e, np] at eo; cases eo
        have fu : Fit K (M.add p) A σ (upd H4 p (.lst (acc ++ [y4]))) (mrg k ρ1 y.2 vs) := ⟨fm.len, fun b mb => by
            by_cases e : b = p
            · subst e; exact ⟨_, upd_same⟩
            · rw [upd_ne e]; exact fm.trk b mb, fm.sub, fm.nd, fun q hq => let ⟨h1, d, h2, h3⟩ := fm.own q hq; ⟨h1, d, h2, h3.carry cc fun o eo => by rw [upd_ne (pA q hq)]; exact eo⟩,
          fun j d ej nj => let ⟨v, h1, h2⟩ := fm.shr j d ej nj; ⟨v, h1, Rp.carry cc h2⟩⟩
        have cr : Carry K H2 H4 (M.add p) (M.add p) := Carry.fra g14 fun b z => f1.has b z.2
        refine ⟨acc, hp4, by omega, acc ++ [y4], dacc ++ [y.1], mrg k ρ1 y.2 vs, fu, ?_, ?_, ?_, upd_same, ?_, by rw [List.length_append]; simpa using hal, ?_⟩
        · intro b o eo nb
          have nbp : b ≠ p := ne_of_none eo np
          rw [upd_ne nbp]
          exact (g1.trans g14) b o eo nb
        · intro n
          subst n
          exact e1 rfl
        · refine src.carry (M.add p) (M.add p) (M.add p) H2 _ s1 (fun b o eo nb => ?_) (fun b z => z) (fun b z => .inl z)
          have nbp : b ≠ p := fun e => nb (.inr e)
          rw [upd_ne nbp]
          exact g14 b o eo fun z => nb (f1.has b z.2)
        · exact RpAll.carry cc ((RpAll.carry cr ra).append (.one r4))
        · have hy : ((lcG k vs g tt me (ds.drop (i + 1)) (mrg k ρ1 y.2 vs)).bind fun r => R.ok (y.1 :: r.1, r.2)).post _ (fun _ => False) := hy
          have hy2 := post_bind hy
          cases hl : lcG k vs g tt me (ds.drop (i + 1)) (mrg k ρ1 y.2 vs) with
          | exc c => rw [hl] at hy2; exact hy2.elim
          | no => rw [hl] at hy2; exact hy2.elim
          | ok r =>
            rw [hl] at hy2
            intro p' H' a1 a2 a3 a4 a5
            rw [List.append_assoc] at a5
            exact hy2 p' H' a1 a2 a3 a4 a5
      · rw [if_neg hb] at ht
        have g13 : Fra (eff k A) H2 H3 := g3
        have hp3 : H3 p = some (.lst acc) := g13 p _ hp1 fun z => ne0 p z rfl
        have fm := f1.merge (k := k) f3 g13 hv' hw2'
        have cr : Carry K H2 H3 (M.add p) (M.add p) := Carry.fra g13 fun b z => f1.has b z.2
        refine ite_neg hb ⟨acc, dacc, mrg k ρ1 t.2 vs, fm, g1.trans g13, ?_, ?_, hp3, RpAll.carry cr ra, by omega, ?_⟩
        · intro n
          subst n
          exact e1 rfl
        · exact src.carry (M.add p) (M.add p) (eff k A) H2 H3 s1 g13 (fun b z => f1.has b z.2) (fun b z => .inl z)
        · cases hl : lcG k vs g tt me (ds.drop (i + 1)) (mrg k ρ1 t.2 vs) with
          | exc c => rw [hl] at ht; exact ht.elim
          | no => rw [hl] at ht; exact ht.elim
          | ok r => rw [hl] at ht; exact ht
  · have ed : ds.drop i = [] := List.drop_eq_nil_of_le (by omega)
    rw [ed] at q1
    have q1 : ∀ p' H', H p' = none → Fit K (M.add p') A σ H' ρ1 → Fra (eff k A) H H' → (k = false → ρ1 = ρ) → OwnAt K H' (M.add p') p' (.list (dacc ++ [])) → Q (.ref p') H' := q1
    rw [List.append_nil] at q1
    exact .inl ⟨src.stop _ i H1 s1 (by omega), q1 p H1 np0 f1 (g0.trans g1) (fun n => (e1 n).trans (e0 n)) (.lst hp1 ra)⟩
theorem df_lc {scope : Scope} {own : List (Str × Nat)} {mi : MA} {g : MG} {tt : MB} {me : ME} (hc : X.calm = true) (hN : X.N.Nodup) (hi : DI X E k Γ tg iter mi) (ok : BlkOk X.N X.env.scope scope own)
    (hg : ∀ (s : Shared) (H : Hp) (C : Addr) (cl : List (Str × Addr)) (fp : List Addr), DG (X.blk s H scope (compEnvC scope cl C X.env) fp) Γ (slots own) tg g) (ht : ∀ (s : Shared) (H : Hp) (C : Addr) (cl : List (Str × Addr)) (fp : List Addr), DBs (X.blk s H scope (compEnvC scope cl C X.env) fp) E0 k Γ ifs tt)
    (he : ∀ (s : Shared) (H : Hp) (C : Addr) (cl : List (Str × Addr)) (fp : List Addr), DE (X.blk s H scope (compEnvC scope cl C X.env) fp) E0 k false Γ elt me) (hv : (slots own).all (fun i => !Γ.contains i) = true := by decide) (hs : ∀ x, foldedSetIterable iter X.env x = pure x := by intro _; rfl) :
    DF X E k Γ (.ListComp elt [⟨tg, iter, ifs, 0⟩] scope pos) (mLc k mi (slots own) g tt me) :=
  PE.imp (pe_lc (wi := DTi X.K X.mg E k Γ mi) (g := DTg X.K Γ (slots own) g) (tt := DTb X.K X.mg E0 k Γ tt) (te := DT X.K X.mg E0 k false Γ me) hc hN hi ok hg ht he hs) fun σ H Q h => lc_turn (fun i hi => by have := List.all_eq_true.mp hv i hi; simpa using this) h
theorem ps_lcF {i : Nat} {y : Str} {py spos : Pos} {scope : Scope} {own : List (Str × Nat)} {mi : MA} {g : MG} {tt : MB} {me : ME} (hc : X.calm = true) (hN : X.N.Nodup) (hy : X.N[i]? = some y) (hyl : X.env.scope.names.lookup y = some .local)
    (hsw : swapsWith (.ListComp elt [⟨tg, iter, ifs, 0⟩] scope pos) (some (.Name y py)) spos.line X.env = pure true) (hi : DI X E k Γ tg iter mi) (ok : BlkOk X.N X.env.scope scope own)
    (hg : ∀ (s : Shared) (H : Hp) (C : Addr) (cl : List (Str × Addr)) (fp : List Addr), DG (X.blk s H scope (compEnvC scope cl C X.env) fp) Γ (slots own) tg g) (ht : ∀ (s : Shared) (H : Hp) (C : Addr) (cl : List (Str × Addr)) (fp : List Addr), DBs (X.blk s H scope (compEnvC scope cl C X.env) fp) E0 k Γ ifs tt)
    (he : ∀ (s : Shared) (H : Hp) (C : Addr) (cl : List (Str × Addr)) (fp : List Addr), DE (X.blk s H scope (compEnvC scope cl C X.env) fp) E0 k false Γ elt me) (hv : (slots own).all (fun i => !Γ.contains i) = true := by decide) (hs : ∀ x, foldedSetIterable iter X.env x = pure x := by intro _; rfl) :
    PS X (.Assign [.Name y py] (.ListComp elt [⟨tg, iter, ifs, 0⟩] scope pos) spos) (tAsg (DTf X.K X.mg E k Γ (mLc k mi (slots own) g tt me)) (gName i)) :=
  PS.imp (ps_setLc (i := i) (wi := DTi X.K X.mg E k Γ mi) (g := DTg X.K Γ (slots own) g) (tt := DTb X.K X.mg E0 k Γ tt) (te := DT X.K X.mg E0 k false Γ me) hc hN hy hyl hsw hi ok hg ht he hs) fun D σ H h => lc_turn (fun i hi => by have := List.all_eq_true.mp hv i hi; simpa using this) h
end
end Dt

set_option Elab.async false
set_option linter.all false
set_option maxRecDepth 100000
set_option autoImplicit false
/-! Defs and their calls. -/
namespace Dt
open PySem PySem.Spec PyProof.Rows L2 R

/-! ### what a def is worth -/
def spP (K : Fg) (mg : Str → Option Value) (fn : List D → R D) : Sp := fun vs H Q E => ∃ (M0 : Av) (ds : List D), Trk M0 H ∧ RpAll K H M0 vs ds ∧
  (fn ds).post (fun d => ∀ v H', Same H H' → Rp K H' M0 v d → Q v H') (fun c => ∀ C H', mg c = some (.ref C) → Same H H' → E (.ref C) none H')
/-- .. that changes the list which it gets at place j -/
def spI (K : Fg) (mg : Str → Option Value) (j : Nat) (fn : List D → R (D × D)) : Sp := fun vs H Q E => ∃ (M0 : Av) (ds : List D) (a : Addr) (dj : D), Trk M0 H ∧ ¬ M0 a ∧ vs.length = ds.length ∧
  vs[j]? = some (.ref a) ∧ ds[j]? = some dj ∧ OwnAt K H (M0.add a) a dj ∧ (∀ i d, i ≠ j → ds[i]? = some d → ∃ v, vs[i]? = some v ∧ Rp K H (M0.add a) v d) ∧
  (fn ds).nox.post (fun z => ∀ v H', Fra (fun b => b = a) H H' → Rp K H' (M0.add a) v z.1 → OwnAt K H' (M0.add a) a z.2 → Q v H') (fun _ => False)
def startE (n N : Nat) (ds : List D) : Ev := ds.map some ++ List.replicate (N - n) none
def runF (n N : Nat) (body : MS) (ds : List D) : R D := if ds.length = n then (body (startE n N ds)).bind fun z => match z.1 with
    | .nx => .ok .none
    | .rt d => .ok d
    | _ => .no
  else .no
def runI (n N j : Nat) (body : MS) (ds : List D) : R (D × D) := if ds.length = n then (body (startE n N ds)).bind fun z => match z.1 with
    | .nx => (R.opt (getv z.2 j)).bind fun x => .ok (.none, x)
    | .rt d => (R.opt (getv z.2 j)).bind fun x => .ok (d, x)
    | _ => .no
  else .no
def mCallF (fn : List D → R D) (m : MA) : ME := fun ρ => (m ρ).bind fun z => (fn z.1).bind fun d => .ok (d, z.2)
section
variable {X : Cx} {E : XK} {k r : Bool} {Γ Γ' : List Nat} {a b c e : Expr} {es : List Expr} {pos p : Pos} {x : Str} {f : Addr} {fd : FuncData} {ps : List Str} {kf : Nat}
theorem de_callF {fn : List D → R D} {m : MA} (F : FnOk X.prog X.w X.K X.mg X.base (L2.CX X.prog X.w) kf f fd ps (spP X.K X.mg fn)) (hr : Room kf X.A) (hg : Gl X x) (hm : X.mg x = some (.ref f)) (hk : PySem.W.keepIn X.K (.ref f) = true) (hb : Binds X.K fd ps []) (hx : Passes (L2.CX X.prog X.w) X E)
    (ha : DA X E k false Γ (e :: es) m) (hdb : (x == ("__debug__" : Str)) = false := by decide) (he : starEach (e :: es) X.env = (false, eval e X.env) :: starEach es X.env := by rfl) (hpl : (backTo pos (starEach es X.env)).any (·.1) = false := by rfl) :
    DE X E k false Γ (.Call (.Name x p) (e :: es) [] pos) (mCallF fn m) :=
  PE.imp (pe_call F hr hg hm hk hb .nil hx ha hdb he hpl) fun σ H Q ⟨M, A, ρ, hΓ, fi, h⟩ => by
    refine ⟨M, A, ρ, hΓ, fi, pimp (post_bind h) (fun z hz vs H1 f1 g1 e1 r1 => ?_) (fun c hc => hc)⟩
    show spP X.K X.mg fn (vs ++ []) H1 Q E
    rw [List.append_nil]
    refine ⟨M, z.1, f1.trk, r1.all, pimp (post_bind hz) (fun d hd v H' s' rp => ?_) fun c hc C H' hC s' => hc C H' hC (g1.trans (Fra.of_eff s'))⟩
    exact hd v H' (f1.same s') (g1.trans (Fra.of_eff s')) e1 rp
theorem de_call0 {fn : List D → R D} (F : FnOk X.prog X.w X.K X.mg X.base (L2.CX X.prog X.w) kf f fd ps (spP X.K X.mg fn)) (hr : Room kf X.A) (hg : Gl X x) (hm : X.mg x = some (.ref f)) (hk : PySem.W.keepIn X.K (.ref f) = true) (hb : Binds X.K fd ps []) (hx : Passes (L2.CX X.prog X.w) X E)
    (hdb : (x == ("__debug__" : Str)) = false := by decide) : DE X E k false Γ (.Call (.Name x p) [] [] pos) (mCallF fn aNil) :=
  PE.imp (pe_call0 F hr hg hm hk hb .nil hx hdb) fun σ H Q ⟨M, A, ρ, hΓ, fi, h⟩ => by
    refine ⟨M, [], fi.trk, .nil, pimp (post_bind (show ((fn []).bind _).post _ _ from h)) (fun d hd v H' s' rp => ?_) fun c hc C H' hC s' => hc C H' hC (Fra.of_eff s')⟩
    exact hd v H' (fi.same s') (Fra.of_eff s') (fun _ => rfl) rp

/-! ### a call that hands on an own list -/
inductive Ar where
  | val (d : D) | at (i : Nat)
abbrev MAr := Ev → R (List Ar × Ev)
def isVal : Ar → Bool
  | .val _ => true
  | .at _ => false
inductive RpAr (K : Fg) (H : Hp) (M : Av) (A : As) : List V → List Ar → Prop
  | nil : RpAr K H M A [] []
  | val {v : V} {d : D} {vs : List V} {as : List Ar} : Rp K H M v d → RpAr K H M A vs as → RpAr K H M A (v :: vs) (.val d :: as)
  | at {i : Nat} {a : Addr} {vs : List V} {as : List Ar} : (i, a) ∈ A → RpAr K H M A vs as → RpAr K H M A (.ref a :: vs) (.at i :: as)
def DTr (K : Fg) (mg : Str → Option Value) (E : XK) (k : Bool) (Γ : List Nat) (m : MAr) : TA := fun σ H Q =>
  ∃ (M : Av) (A : As) (ρ : Ev), A.map (·.1) = Γ ∧ Fit K M A σ H ρ ∧
    (m ρ).post (fun z => ∀ vs H', Fit K M A σ H' z.2 → Fra (eff k A) H H' → (k = false → z.2 = ρ) → RpAr K H' M A vs z.1 → Q vs H') (DX mg E (eff k A) H)
def DAr (X : Cx) (E : XK) (k : Bool) (Γ : List Nat) (es : List Expr) (m : MAr) : Prop := PA X es (DTr X.K X.mg E k Γ m)
def rNil : MAr := fun ρ => .ok ([], ρ)
def rVal (ma : ME) (mr : MAr) : MAr := fun ρ => (ma ρ).bind fun x => (mr x.2).bind fun xs => .ok (Ar.val x.1 :: xs.1, xs.2)
def rAt (i : Nat) (mr : MAr) : MAr := fun ρ => (R.opt (getv ρ i)).bind fun _ => (mr ρ).bind fun xs => .ok (Ar.at i :: xs.1, xs.2)
theorem dar_nil : DAr X E k Γ [] rNil := PA.imp pa_nil fun σ H Q ⟨M, A, ρ, _, f, q⟩ => q [] H f Fra.refl (fun _ => rfl) .nil
theorem dar_val {ma : ME} {mr : MAr} (ha : DE X E k false Γ e ma) (hr : DAr X E k Γ es mr) (hs : starEach (e :: es) X.env = (false, eval e X.env) :: starEach es X.env := by rfl) : DAr X E k Γ (e :: es) (rVal ma mr) :=
  PA.imp (pa_cons ha hr hs) fun σ H Q ⟨M, A, ρ, hΓ, f, h⟩ => by
    refine ⟨M, A, ρ, hΓ, f, pimp (post_bind h) (fun z hz v1 H1 f1 g1 e1 r1 => ?_) (fun c hc => hc)⟩
    refine ⟨M, A, z.2, hΓ, f1, pimp (post_bind hz) (fun z2 hz2 vs H2 f2 g2 e2 r2 => ?_) (fun c hc => DX.fra g1 hc)⟩
    exact hz2 (v1 :: vs) H2 f2 (g1.trans g2) (fun n => (e2 n).trans (e1 n)) (RpAr.val (Rp.carry (Carry.fra g2 (eff_sub f1)) r1) r2)
theorem dar_at {i : Nat} {mr : MAr} (ha : PE X e (tVar i)) (hr : DAr X E k Γ es mr) (hi : Γ.contains i = true := by decide) (hs : starEach (e :: es) X.env = (false, eval e X.env) :: starEach es X.env := by rfl) : DAr X E k Γ (e :: es) (rAt i mr) :=
  PA.imp (pa_cons ha hr hs) fun σ H Q ⟨M, A, ρ, hΓ, f, h⟩ => by
    obtain ⟨d, ed, h⟩ := post_opt h
    have hm : i ∈ A.map (·.1) := by rw [hΓ]; exact List.contains_iff_mem.mp hi
    obtain ⟨⟨j, a⟩, hq, e0⟩ := List.mem_map.mp hm
    obtain rfl : j = i := e0
    refine ⟨.ref a, (f.own _ hq).1, M, A, ρ, hΓ, f, pimp (post_bind h) (fun z2 hz2 vs H2 f2 g2 e2 r2 => ?_) (fun c hc => hc)⟩
    exact hz2 (.ref a :: vs) H2 f2 g2 e2 (RpAr.at hq r2)
def arD (ρ : Ev) : List Ar → Option (List D)
  | [] => some []
  | .val d :: r => (arD ρ r).map (d :: ·)
  | .at i :: r => (getv ρ i).bind fun d => (arD ρ r).map (d :: ·)
/-- fn: what the def is worth; j: the place of the list that it changes -/
def mCallI (j : Nat) (fn : List D → R (D × D)) (m : MAr) : ME := fun ρ => (m ρ).bind fun z => match z.1[j]? with
  | some (.at i) => if (z.1.eraseIdx j).all isVal = true then (R.opt (arD z.2 z.1)).bind fun ds => (fn ds).nox.bind fun y => .ok (y.1, z.2.set i (some y.2)) else .no
  | _ => .no
theorem arD_get {ρ : Ev} : ∀ {as : List Ar} {ds : List D}, arD ρ as = some ds → as.length = ds.length ∧ (∀ (i : Nat) (d : D), as[i]? = some (Ar.val d) → ds[i]? = some d) ∧ ∀ (i l : Nat), as[i]? = some (Ar.at l) → ∃ d, ds[i]? = some d ∧ getv ρ l = some d
  | [], _, h => by cases h; exact ⟨rfl, by simp, by simp⟩
  | .val d :: r, ds, h => by
    unfold arD at h
    cases q : arD ρ r with
    | none => rw [q] at h; cases h
    | some es =>
      rw [q] at h
      cases h
      obtain ⟨h1, h2, h3⟩ := arD_get q
      refine ⟨by simp [h1], fun i d' e => ?_, fun i l e => ?_⟩
      · cases i with
        | zero => simp at e; simp [e]
        | succ i => simpa using h2 i d' (by simpa using e)
      · cases i with
        | zero => simp at e
        | succ i => simpa using h3 i l (by simpa using e)
  | .at l0 :: r, ds, h => by
    unfold arD at h
    cases q0 : getv ρ l0 with
    | none => rw [q0] at h; cases h
    | some d0 =>
      rw [q0] at h
      cases q : arD ρ r with
      | none =>
        have : (Option.map (fun x => d0 :: x) (arD ρ r)) = some ds := h
        rw [q] at this; cases this
      | some es =>
        have h' : (Option.map (fun x => d0 :: x) (arD ρ r)) = some ds := h
        rw [q] at h'
        cases h'
        obtain ⟨h1, h2, h3⟩ := arD_get q
        refine ⟨by simp [h1], fun i d' e => ?_, fun i l e => ?_⟩
        · cases i with
          | zero => simp at e
          | succ i => simpa using h2 i d' (by simpa using e)
        · cases i with
          | zero => simp at e; subst e; exact ⟨d0, by simp, q0⟩
          | succ i => simpa using h3 i l (by simpa using e)
theorem RpAr.len {K : Fg} {H : Hp} {M : Av} {A : As} : ∀ {vs : List V} {as : List Ar}, RpAr K H M A vs as → vs.length = as.length
  | _, _, .nil => rfl
  | _, _, .val _ r => congrArg (· + 1) r.len
  | _, _, .at _ r => congrArg (· + 1) r.len
theorem RpAr.getVal {K : Fg} {H : Hp} {M : Av} {A : As} : ∀ {vs : List V} {as : List Ar} {i : Nat} {d : D}, RpAr K H M A vs as → as[i]? = some (Ar.val d) → ∃ v, vs[i]? = some v ∧ Rp K H M v d
  | _, _, i, _, .nil, e => by simp at e
  | _, _, 0, _, .val h _, e => by simp at e; subst e; exact ⟨_, rfl, h⟩
  | _, _, 0, _, .at h _, e => by simp at e
  | _, _, i + 1, d, .val _ r, e => by simpa using RpAr.getVal (i := i) (d := d) r (by simpa using e)
  | _, _, i + 1, d, .at _ r, e => by simpa using RpAr.getVal (i := i) (d := d) r (by simpa using e)
theorem RpAr.getAt {K : Fg} {H : Hp} {M : Av} {A : As} : ∀ {vs : List V} {as : List Ar} {i l : Nat}, RpAr K H M A vs as → as[i]? = some (Ar.at l) → ∃ a, vs[i]? = some (.ref a) ∧ (l, a) ∈ A
  | _, _, i, _, .nil, e => by simp at e
  | _, _, 0, _, .at h _, e => by simp at e; subst e; exact ⟨_, rfl, h⟩
  | _, _, 0, _, .val h _, e => by simp at e
  | _, _, i + 1, l, .val _ r, e => by simpa using RpAr.getAt (i := i) (l := l) r (by simpa using e)
  | _, _, i + 1, l, .at _ r, e => by simpa using RpAr.getAt (i := i) (l := l) r (by simpa using e)
theorem OwnAt.there {K : Fg} {H : Hp} {M : Av} {a : Addr} {d : D} (h : OwnAt K H M a d) : ∃ o, H a = some o := by
  cases h with
  | lst g1 _ => exact ⟨_, g1⟩
  | dcK g1 _ => exact ⟨_, g1⟩
  | dcT g1 _ => exact ⟨_, g1⟩
theorem de_callI {j : Nat} {fn : List D → R (D × D)} {m : MAr} (F : FnOk X.prog X.w X.K X.mg X.base (L2.CX X.prog X.w) kf f fd ps (spI X.K X.mg j fn)) (hr : Room kf X.A) (hg : Gl X x) (hm : X.mg x = some (.ref f)) (hk : PySem.W.keepIn X.K (.ref f) = true) (hb : Binds X.K fd ps []) (hx : Passes (L2.CX X.prog X.w) X E)
    (ha : DAr X E true Γ (e :: es) m) (hdb : (x == ("__debug__" : Str)) = false := by decide) (he : starEach (e :: es) X.env = (false, eval e X.env) :: starEach es X.env := by rfl) (hpl : (backTo pos (starEach es X.env)).any (·.1) = false := by rfl) :
    DE X E true false Γ (.Call (.Name x p) (e :: es) [] pos) (mCallI j fn m) :=
  PE.imp (pe_call F hr hg hm hk hb .nil hx ha hdb he hpl) fun σ H Q ⟨M, A, ρ, hΓ, fi, h⟩ => by
    refine ⟨M, A, ρ, hΓ, fi, pimp (post_bind h) (fun z hz vs H1 f1 g1 e1 r1 => ?_) (fun c hc => hc)⟩
    show spI X.K X.mg j fn (vs ++ []) H1 Q E
    rw [List.append_nil]
    cases hj : z.1[j]? with
    | none => rw [hj] at hz; exact hz.elim
    | some q =>
      cases q with
      | val d => rw [hj] at hz; exact hz.elim
      | «at» i =>
        rw [hj] at hz
        obtain ⟨a, ea, ia⟩ := r1.getAt hj
        by_cases hall : (z.1.eraseIdx j).all isVal = true
        · have hz : ((R.opt (arD z.2 z.1)).bind fun ds => (fn ds).nox.bind fun y => R.ok (y.1, z.2.set i (some y.2))).post _ _ := (by
            have : (if (z.1.eraseIdx j).all isVal = true then (R.opt (arD z.2 z.1)).bind fun ds => (fn ds).nox.bind fun y => R.ok (y.1, z.2.set i (some y.2)) else R.no).post _ _ := hz
            rw [if_pos hall] at this
            exact this)
          obtain ⟨ds, ed, hz⟩ := post_opt hz
          obtain ⟨l1, l2, l3⟩ := arD_get ed
          obtain ⟨dj, edj, gj⟩ := l3 j i hj
          have ma : M a := f1.sub _ ia
          have bk : ∀ b, (Av.add (fun b => M b ∧ b ≠ a) a) b ↔ M b := fun b => ⟨fun z => z.elim (·.1) fun e => by rw [e]; exact ma, fun z => by
            by_cases e : b = a
            · exact .inr e
            · exact .inl ⟨z, e⟩⟩
          have c1 : ∀ H, Carry X.K H H M (Av.add (fun b => M b ∧ b ≠ a) a) := fun H => Carry.weak fun b z => (bk b).mp z
          have c2 : ∀ H, Carry X.K H H (Av.add (fun b => M b ∧ b ≠ a) a) M := fun H => Carry.weak fun b z => (bk b).mpr z
          obtain ⟨o1, d1, o2, o3⟩ := f1.own _ ia
          rw [getv_some gj] at o2
          cases o2
          refine ⟨fun b => M b ∧ b ≠ a, ds, a, dj, fun b hb => f1.trk b hb.1, fun z => z.2 rfl, by rw [r1.len, l1], ea, edj, o3.carry (c1 H1) (fun _ e => e), fun i' d' ne hd' => ?_, pimp (post_noxbind hz) (fun y hy v H' g' rp ow => ?_) fun c hc => hc⟩
          · have hi' : i' < z.1.length := by rw [l1]; exact (List.getElem?_eq_some_iff.mp hd').1
            obtain ⟨q, hq⟩ : ∃ q, z.1[i']? = some q := ⟨_, List.getElem?_eq_getElem hi'⟩
            cases q with
            | val d2 =>
              obtain ⟨v, ev, rv⟩ := r1.getVal hq
              have := l2 i' d2 hq
              rw [hd'] at this
              cases this
              exact ⟨v, ev, Rp.carry (c1 H1) rv⟩
            | «at» l =>
              have hmem : Ar.at l ∈ z.1.eraseIdx j := List.mem_eraseIdx_iff_getElem?.mpr ⟨i', ne, hq⟩
              have := List.all_eq_true.mp hall _ hmem
              cases this
          · have gg : Fra (eff true A) H1 H' := g'.mono fun b z => ⟨rfl, i, by rw [z]; exact ia⟩
            have cc : Carry X.K H1 H' M M := Carry.fra gg (eff_sub f1)
            have hil : i < z.2.length := (List.getElem?_eq_some_iff.mp (getv_some gj)).1
            refine hy v H' ⟨by rw [List.length_set]; exact f1.len, fun b mb => ?_, f1.sub, f1.nd, fun q hq => ?_, fun l d' el nl => ?_⟩ (g1.trans gg) (fun n => Bool.noConfusion n) (Rp.carry (c2 H') rp)
            · by_cases e : b = a
              · rw [e]
                exact ow.there
              · obtain ⟨o, eo⟩ := f1.trk b mb
                exact ⟨o, g' b o eo e⟩
            · obtain ⟨h1, d', h2, h3⟩ := f1.own q hq
              by_cases e : q.2 = a
              · have : q.1 = i := nd_inj f1.nd (by rw [← e]; exact hq) ia
                rw [this, e]
                exact ⟨o1, y.2, List.getElem?_set_self hil, ow.carry (c2 H') fun _ e => e⟩
              · have ne : i ≠ q.1 := fun e2 => by
                  rw [← e2, o1] at h1
                  cases h1
                  exact e rfl
                exact ⟨h1, d', by rw [List.getElem?_set_ne ne]; exact h2, h3.carry cc fun o' eo => g' _ _ eo e⟩
            · have ne : i ≠ l := fun e => nl a (by rw [← e]; exact ia)
              rw [List.getElem?_set_ne ne] at el
              obtain ⟨w, h1, h2⟩ := f1.shr l d' el nl
              exact ⟨w, h1, Rp.carry cc h2⟩
        · have : (if (z.1.eraseIdx j).all isVal = true then (R.opt (arD z.2 z.1)).bind fun ds => (fn ds).nox.bind fun y => R.ok (y.1, z.2.set i (some y.2)) else R.no).post _ _ := hz
          rw [if_neg hall] at this
          exact this.elim
end

/-! ### a def keeps its promise -/
/-- where the bodies of defs run -/
structure Cz (X : Cx) (E : XK) (k : Nat) : Prop where
  calm : X.calm = true
  room : Room k X.A
  pass : Passes (L2.CX X.prog X.w) X E
theorem Cz.blk {X : Cx} {E : XK} {k : Nat} (z : Cz X E k) (s : Shared) (H : Hp) (scope : Scope) (env : Env) (fp : List Addr) : Cz (X.blk s H scope env fp) E0 k := ⟨z.calm, z.room, passL⟩
theorem Cz.hu {X : Cx} {E : XK} {k : Nat} (z : Cz X E k) : X.A.units + 110 < cLine := by have := z.room.un; omega
theorem Cz.hu1 {X : Cx} {E : XK} {k : Nat} (z : Cz X E k) : X.A.units + 1 < cLine := by have := z.room.un; omega
theorem Cz.r {X : Cx} {E : XK} {k j : Nat} (z : Cz X E k) (h : Nat.ble j k = true := by rfl) : Room j X.A := z.room.mono (Nat.le_of_ble_eq_true h)
structure Cs (X : Cx) (E : XK) (k : Nat) : Prop extends Cz X E k where
  own : PassesOwn (model X.prog X.w) X.A X.env X.xe
  takes : Takes X (fun cls d _ H => E cls d H)
section
variable {P : Program} {w : World} {K : Fg} {mg : Str → Option Value} {base : Heap} {x qual : Str} {params : Arguments} {body : List Stmt} {scope : Scope} {f : Addr} {fd : FuncData} {N ps : List Str} {k : Nat}
theorem cs_of {A : Around} {outer : List Env} {s : Shared} {H : Hp} {E : XK} {cdv : Value} (hr : Room k (A.deeper (envOfC qual scope s.heap.objs.size f cdv))) : Cs (cxOf (L2.CX P w) P w K mg base N qual scope f cdv A outer s H E) E k where
  calm := rfl
  room := hr
  pass := passes_call (takes_of rfl rfl rfl rfl) fun _ _ _ _ h => h
  own := passes_of rfl
  takes := takes_of rfl rfl rfl rfl
theorem startFit {H : Hp} {M0 : Av} {vs : List V} {ds : List D} {n : Nat} (hl : ds.length = n) (hN : n ≤ N.length) (tk : Trk M0 H) (r : RpAll K H M0 vs ds) : Fit K (un M0 []) [] (L2.start N vs) H (startE n N.length ds) := by
  have un0 : ∀ b, un M0 [] b → M0 b := fun b z => z.elim id fun ⟨i, z⟩ => (by cases z)
  have hv : vs.length = n := by rw [r.length, hl]
  refine ⟨?_, fun a m => tk a (un0 a m), fun p hp => (by cases hp), List.nodup_nil, fun p hp => (by cases hp), fun i d e _ => ?_⟩
  · unfold L2.start startE
    simp [hv, hl]
  · unfold startE at e
    by_cases hi : i < ds.length
    · rw [List.getElem?_append_left (by rw [List.length_map]; exact hi), List.getElem?_map] at e
      cases q : ds[i]? with
      | none => rw [q] at e; cases e
      | some d' =>
        rw [q] at e
        cases e
        obtain ⟨v, ev, rv⟩ := r.get q
        refine ⟨v, ?_, Rp.carry (Carry.weak un0) rv⟩
        unfold L2.start
        rw [List.getElem?_append_left (by rw [List.length_map, hv, ← hl]; exact hi), List.getElem?_map, ev]; rfl
    · rw [List.getElem?_append_right (by rw [List.length_map]; omega)] at e
      rw [List.getElem?_replicate] at e
      split at e <;> cases e
/-- a body, wherever it runs -/
def Bdy (P : Program) (w : World) (K : Fg) (mg : Str → Option Value) (base : Heap) (N : List Str) (qual : Str) (scope : Scope) (f : Addr) (k : Nat) (T : Cx → XK → Prop) : Prop :=
  ∀ (cdv : Value) (A : Around) (outer : List Env) (s : Shared) (H : Hp) (E : XK), Cs (cxOf (L2.CX P w) P w K mg base N qual scope f cdv A outer s H E) E k → T (cxOf (L2.CX P w) P w K mg base N qual scope f cdv A outer s H E) E
theorem fn_pure {mb : MS} {Γ' : List Nat} (F : FunD K x qual params body scope [] [] f fd) (S : FnScope N ps scope) (hN : ps.length ≤ N.length)
    (hb : Bdy P w K mg base N qual scope f k fun X E => DSs X E [] [] Γ' [] body mb) :
    FnOk P w K mg base (L2.CX P w) (k + 1) f fd ps (spP K mg (runF ps.length N.length mb)) := by
  refine F.ok S (fun vs H Q E h => ?_) (fun cdv A outer s H vs Q E hr h => ?_)
  · obtain ⟨M0, ds, tk, r, q⟩ := h
    unfold runF at q
    by_cases hl : ds.length = ps.length
    · rw [r.length, hl]
    · rw [if_neg hl] at q; exact q.elim
  · obtain ⟨M0, ds, tk, r, q⟩ := h
    refine ⟨_, hb cdv A outer s H E (cs_of hr), ?_⟩
    by_cases hl : ds.length = ps.length
    · unfold runF at q
      rw [if_pos hl] at q
      refine ⟨M0, [], [], _, rfl, rfl, fun p hp => (by cases hp), startFit hl hN tk r, pimp (post_bind q) (fun z hz => ?_) fun c hc C H' hC g => hc C H' hC fun b o e => g b o e fun ⟨i, z⟩ => (by cases z)⟩
      have un0 : ∀ b, M0 b → un M0 [] b := fun b z => .inl z
      have same : ∀ {H'}, Fra (As.has ([] ++ [])) H H' → Same H H' := fun g b o e => g b o e fun ⟨i, z⟩ => (by cases z)
      obtain ⟨fl, ρ'⟩ := z
      cases fl with
      | nx => exact fun σ' H' B' _ s' f' => hz .non H' (same s'.fra) .non
      | rt d => exact fun v H' g rp _ => hz v H' (same g) (Rp.carry (Carry.weak un0) rp)
      | bk => exact hz.elim
      | ct => exact hz.elim
    · unfold runF at q
      rw [if_neg hl] at q; exact q.elim
theorem fn_own {j : Nat} {mb : MS} {Γ' : List Nat} (F : FunD K x qual params body scope [] [] f fd) (S : FnScope N ps scope) (hN : ps.length ≤ N.length) (hj : j < ps.length)
    (hb : Bdy P w K mg base N qual scope f k fun X E => DSs X E [j] [] Γ' [] body mb) :
    FnOk P w K mg base (L2.CX P w) (k + 1) f fd ps (spI K mg j (runI ps.length N.length j mb)) := by
  refine F.ok S (fun vs H Q E h => ?_) (fun cdv A outer s H vs Q E hr h => ?_)
  · obtain ⟨M0, ds, a, dj, tk, na, hlv, e1, e2, ow, ot, q⟩ := h
    by_cases hl : ds.length = ps.length
    · rw [hlv, hl]
    · unfold runI at q
      rw [if_neg hl] at q; exact q.elim
  · obtain ⟨M0, ds, a, dj, tk, na, hlv, e1, e2, ow, ot, q⟩ := h
    refine ⟨_, hb cdv A outer s H E (cs_of hr), ?_⟩
    by_cases hl : ds.length = ps.length
    · unfold runI at q
      rw [if_pos hl] at q
      have u1 : ∀ b, un M0 ([] ++ [(j, a)]) b → (M0.add a) b := fun b z => z.elim .inl fun ⟨i, z⟩ => .inr (by
        have := List.mem_singleton.mp z
        exact congrArg Prod.snd this)
      have u2 : ∀ b, (M0.add a) b → un M0 ([] ++ [(j, a)]) b := fun b z => z.elim .inl fun e => .inr ⟨j, by rw [e]; exact List.mem_singleton.mpr rfl⟩
      have c1 : ∀ H, Carry K H H (M0.add a) (un M0 ([] ++ [(j, a)])) := fun H => Carry.weak u1
      have c2 : ∀ H, Carry K H H (un M0 ([] ++ [(j, a)])) (M0.add a) := fun H => Carry.weak u2
      have hjd : j < ds.length := by rw [hl]; exact hj
      have ta : ∃ o, H a = some o := ow.there
      have gs : ∀ (i : Nat) (d : D), (startE ps.length N.length ds)[i]? = some (some d) → ds[i]? = some d := fun i d e => by
        unfold startE at e
        by_cases hi : i < ds.length
        · rw [List.getElem?_append_left (by rw [List.length_map]; exact hi), List.getElem?_map] at e
          cases q : ds[i]? with
          | none => rw [q] at e; cases e
          | some d' => rw [q] at e; cases e; rfl
        · rw [List.getElem?_append_right (by rw [List.length_map]; omega), List.getElem?_replicate] at e
          split at e <;> cases e
      have gv : ∀ (i : Nat) (v : V), vs[i]? = some v → (L2.start N vs)[i]? = some (some v) := fun i v e => by
        unfold L2.start
        rw [List.getElem?_append_left (by rw [List.length_map]; exact (List.getElem?_eq_some_iff.mp e).1), List.getElem?_map, e]; rfl
      have ft : Fit K (un M0 ([] ++ [(j, a)])) ([] ++ [(j, a)]) (L2.start N vs) H (startE ps.length N.length ds) := by
        refine ⟨?_, fun b mb => (u1 b mb).elim (tk b) fun e => by rw [e]; exact ta, fun p hp => .inr (As.has_of hp), by simp, fun p hp => ?_, fun i d e ni => ?_⟩
        · unfold L2.start startE
          simp [hlv, hl]
        · have hp := List.mem_singleton.mp hp
          subst hp
          refine ⟨gv _ _ e1, dj, ?_, ow.carry (c1 H) fun _ e => e⟩
          unfold startE
          rw [List.getElem?_append_left (by rw [List.length_map]; exact hjd), List.getElem?_map, e2]; rfl
        · have ne : i ≠ j := fun e => ni a (by rw [e]; exact List.mem_singleton.mpr rfl)
          obtain ⟨v, ev, rv⟩ := ot i d ne (gs i d e)
          exact ⟨v, gv _ _ ev, Rp.carry (c1 H) rv⟩
      refine ⟨M0, [], [(j, a)], _, rfl, rfl, fun p hp => by rw [List.mem_singleton.mp hp]; exact na, ft, ?_⟩
      have fin : ∀ {H'}, Fra (As.has ([] ++ [(j, a)])) H H' → Fra (fun b => b = a) H H' := fun g => g.mono fun b ⟨i, z⟩ => congrArg Prod.snd (List.mem_singleton.mp z)
      have cu : ∀ H', Carry K H' H' (un M0 [(j, a)]) (M0.add a) := fun H' => c2 H'
      cases hm : mb (startE ps.length N.length ds) with
      | exc c => rw [hm] at q; exact q.elim
      | no => rw [hm] at q; exact q.elim
      | ok z =>
        rw [hm] at q
        obtain ⟨fl, ρ'⟩ := z
        cases fl with
        | nx =>
          intro σ' H' B' eB s' f'
          have q : ((R.opt (getv ρ' j)).bind fun x => R.ok (PyData.none, x)).nox.post (fun z => ∀ v H', Fra (fun b => b = a) H H' → Rp K H' (M0.add a) v z.1 → OwnAt K H' (M0.add a) a z.2 → Q v H') (fun _ => False) := q
          obtain ⟨o1, d, o2, o3⟩ := f'.own (j, a) (List.mem_append_right _ (List.mem_singleton.mpr rfl))
          have eg : getv ρ' j = some d := by
            unfold getv
            rw [o2]
          rw [eg] at q
          have c3 : Carry K H' H' (un M0 (B' ++ [(j, a)])) (M0.add a) := Carry.weak fun b z => z.elim .inl fun e => .inr ⟨j, by rw [e]; exact List.mem_append_right _ (List.mem_singleton.mpr rfl)⟩
          exact q .non H' (fin s'.fra) .non (o3.carry c3 fun _ e => e)
        | rt d =>
          intro v H' g rp ow'
          have q : ((R.opt (getv ρ' j)).bind fun x => R.ok (d, x)).nox.post (fun z => ∀ v H', Fra (fun b => b = a) H H' → Rp K H' (M0.add a) v z.1 → OwnAt K H' (M0.add a) a z.2 → Q v H') (fun _ => False) := q
          obtain ⟨d2, o2, o3⟩ := ow' (j, a) (List.mem_singleton.mpr rfl)
          have eg : getv ρ' j = some d2 := by
            unfold getv
            rw [o2]
          rw [eg] at q
          exact q v H' (fin g) (Rp.carry (cu H') rp) (o3.carry (cu H') fun _ e => e)
        | bk => exact q.elim
        | ct => exact q.elim
    · unfold runI at q
      rw [if_neg hl] at q; exact q.elim
end
end Dt

set_option Elab.async false
set_option linter.all false
set_option maxRecDepth 100000
set_option autoImplicit false
/-! sorted(xs), sorted(xs, key=f). -/
namespace Dt
open PySem PySem.Spec PyProof.Rows L2 R
open PySem.W (alike AllAlike Sortable dataLe EachIs)

def isTup1 : D → Bool
  | .tuple (_ :: _) => true
  | _ => false
def noTupN : D → Bool
  | .none => false
  | .tuple _ => false
  | _ => true
def keysOk (kz : List D) : Bool := (kz.all fun d => kz.all fun e => alike d e) && (kz.all isTup1 || kz.all noTupN) && kz.all (fun d => d.plain && decide (d.depth ≤ 60))
theorem keysOk_of {kz : List D} (h : keysOk kz = true) : AllAlike kz ∧ Sortable kz ∧ ∀ d ∈ kz, d.plain = true ∧ d.depth ≤ 60 := by
  have h1 := Bool.and_eq_true_iff.mp h
  have h2 := Bool.and_eq_true_iff.mp h1.1
  refine ⟨fun d hd e he => List.all_eq_true.mp (List.all_eq_true.mp h2.1 d hd) e he, ?_, fun d hd => ?_⟩
  · rcases Bool.or_eq_true_iff.mp h2.2 with z | z
    · refine .inl fun d hd => ?_
      have := List.all_eq_true.mp z d hd
      unfold isTup1 at this
      split at this
      · exact ⟨_, _, rfl⟩
      · cases this
    · refine .inr fun d hd => ?_
      have := List.all_eq_true.mp z d hd
      unfold noTupN at this
      split at this
      · cases this
      · cases this
      · rename_i a b; exact ⟨a, b⟩
  · have := Bool.and_eq_true_iff.mp (List.all_eq_true.mp h1.2 d hd)
    exact ⟨this.1, of_decide_eq_true this.2⟩
def sortK (ds kz : List D) : List D := ((ds.zip kz).mergeSort (dataLe false (·.2))).map (·.1)
theorem sort3 {xs : List V} {ds kz : List D} (h1 : xs.length = ds.length) (h2 : ds.length = kz.length) :
    ((xs.zip (ds.zip kz)).mergeSort (dataLe false fun b : V × D × D => b.2.2)).map (fun b => b.2.1) = sortK ds kz := by
  have e : ((xs.zip (ds.zip kz)).mergeSort (dataLe false fun b : V × D × D => b.2.2)).map (fun b => b.2) = (((xs.zip (ds.zip kz)).map (fun b => b.2)).mergeSort (dataLe false fun q : D × D => q.2)) :=
    PySem.W.sort_maps (fun b : V × D × D => b.2) fun a _ b _ => rfl
  have e2 : (xs.zip (ds.zip kz)).map (fun b => b.2) = ds.zip kz := List.map_snd_zip (by rw [List.length_zip, ← h2, Nat.min_self]; omega)
  rw [e2] at e
  unfold sortK
  rw [← e, List.map_map]; rfl

/-- an untracked list and a key store, the rest of the state -/
abbrev Cx.srt (X : Cx) : Cx := { X with A := X.A.in1.in1, xe := fun _ _ => False }
theorem Inv.srt {X : Cx} {pins : List (Addr × Obj)} {σ : St} {H : Hp} {s : Shared} (I : Inv X pins σ H s) : Inv (Cx.srt X) pins σ H s :=
  ⟨⟨I.ok.mod, I.ok.kind, I.ok.glob, I.ok.blt, I.ok.above, I.ok.inj, I.ok.has, I.ok.cab, I.ok.hd, I.ok.frames, I.ok.stk, I.ok.exf, I.ok.bs, I.ok.bsz, I.ok.noex, I.ok.exfs, I.ok.funs, I.ok.frf⟩, I.os, I.bare, I.base, I.loc, I.cell, I.free, I.freeC, I.pin, I.hok, I.len⟩
theorem Inv.unsrt {X : Cx} {pins : List (Addr × Obj)} {σ : St} {H : Hp} {s : Shared} (ok : X.Ok) (I : Inv (Cx.srt X) pins σ H s) : Inv X pins σ H s :=
  ⟨ok, I.os, I.bare, I.base, I.loc, I.cell, I.free, I.freeC, I.pin, I.hok, I.len⟩
/-- one more pin -/
theorem Inv.pinMore {X : Cx} {pins pl : List (Addr × Obj)} {σ : St} {H : Hp} {s : Shared} (I : Inv X pins σ H s) (h : ∀ p ∈ pl, s.heap.get? p.1 = some p.2 ∧ H p.1 = none ∧ p.1 ≠ X.env.locals ∧ p.1 ∉ X.fs ∧ ∀ v, p.2.data ≠ .cell v) : Inv X (pins ++ pl) σ H s :=
  I.pins_of fun p hp => (List.mem_append.mp hp).elim (fun z => I.pin p (List.mem_append_right _ z)) (h p)
theorem Inv.pinLess {X : Cx} {pins pl : List (Addr × Obj)} {σ : St} {H : Hp} {s : Shared} (I : Inv X (pins ++ pl) σ H s) : Inv X pins σ H s := I.unpinned

section
variable {X : Cx} {pins : List (Addr × Obj)} {σ : St} {H : Hp} {s : Shared} {f : Addr} {fd : FuncData} {ps : List Str} {kf : Nat} {M : Av}
/-- the objects at work: the list that is sorted, empty meanwhile, the store of the keys -/
abbrev lo (xs : List Value) (n : Nat) : Obj := PyProof.Rows.seqObj "list" xs.toArray n
structure Work (X : Cx) (pins : List (Addr × Obj)) (σ : St) (H : Hp) (M : Av) (a kS : Addr) (e1 : Nat) (kz : List D) (s' : Shared) : Prop where
  ex : ∃ (H' : Hp) (us : List Value) (ws : List V) (e : Nat), Inv (Cx.srt X) (pins ++ [(a, lo [] e1), (kS, lo us e)]) σ H' s' ∧ Same H H' ∧ Vals ws us ∧ RpAll X.K H' M ws kz
/-- an address that is the sort's own -/
structure Apart (X : Cx) (pins : List (Addr × Obj)) (b : Addr) : Prop where
  big : b ∈ X.ex ∨ X.s_0.heap.objs.size ≤ b
  loc : b ≠ X.env.locals
  cel : ∀ x c, X.env.cells.lookup x = some c → c ≠ b
  pn : ∀ p ∈ X.pn ++ pins, p.1 ≠ b
  nf : b ∉ X.fs
theorem FpOk.apart {b : Addr} (h : FpOk X pins H b) : Apart X pins b := ⟨h.2.2.2.1, h.2.1, h.2.2.2.2.1, h.2.2.2.2.2, h.2.2.1⟩
theorem work_turn {fn : List D → R D} (F : FnOk X.prog X.w X.K X.mg X.base (L2.CX X.prog X.w) kf f fd ps (spP X.K X.mg fn)) (hr : Room (kf + 2) X.A) (hb : Binds X.K fd ps []) {a kS : Addr} {e1 : Nat} {kz : List D} {s' : Shared} {v : V} {u : Value} {d k : D}
    (tk : Trk M H) (W : Work X pins σ H M a kS e1 kz s') (hka : kS ≠ a) (ap : Apart X pins kS) (ru : RelV v u) (rd : Rp X.K H M v d) (hk : fn [d] = .ok k) (hsz : kz.length < sizeLine) {Q : PUnit → Shared → Prop} {E : Value → Shared → Prop}
    (q : ∀ s'', Work X pins σ H M a kS e1 (kz ++ [k]) s'' → Q ⟨⟩ s'') :
    wpAny (model X.prog X.w) X.A.in1.in1 (call (.ref f) [u]) (fun w s1 => wpAny (model X.prog X.w) X.A.in1.in1 (Builtin.List.listUpdate (.ref kS) (·.push w)) Q E s1) (fun _ _ => False) s' := by
  obtain ⟨H', us, ws, e, I, sm, vu, rk⟩ := W.ex
  have hr' : Room kf (Cx.srt X).A := (Room.in1 (k := kf) (Room.in1 (k := kf + 1) hr))
  have tk' : Trk M H' := tk.same sm
  refine thn (run_fn (X := Cx.srt X) (E := E0) (dvs := []) (ds := []) (Q := fun w H2 => Same H' H2 ∧ Rp X.K H2 M w k) F hr' hb .nil passL I (.cons ru .nil) ?_) fun w s1 h => ?_
  · show spP X.K X.mg fn ([v] ++ []) H' _ _
    refine ⟨M, [d], tk', .one (Rp.carry (Carry.same sm) rd), ?_⟩
    rw [hk]
    exact fun w H2 s2 rp => ⟨s2, rp⟩
  · obtain ⟨w', H2, I2, rw', s2, rp⟩ := h
    obtain ⟨g1, g2, g3, g4, g5⟩ := I2.pin (kS, lo us e) (List.mem_append_right _ (List.mem_append_right _ (List.mem_cons_of_mem _ List.mem_cons_self)))
    have hlu : us.length = kz.length := by rw [← vu.length, rk.length]
    refine PyProof.Rows.listUpdate_at (xs := us.toArray) (n := e) g1 rfl (q _ ?_) (by rw [List.size_toArray]; omega) (by simp only [Array.size_push, List.size_toArray]; omega)
    have sb := Heap.SameBut.update s1.heap kS (Obj.mapSeq (·.push w))
    have ek := get?_update_seq (c := "list") g1 (·.push w)
    have I3 : Inv (Cx.srt X) (pins ++ [(a, lo [] e1)]) σ H2 s1 := Inv.unpinned (pl := [(kS, lo us e)]) (by rw [List.append_assoc]; exact I2)
    have I4 := I3.turned (it := kS) (t' := s1.toks) (h' := s1.heap.update kS (Obj.mapSeq (·.push w))) (fun b o hb e => (sb.2 b hb).trans e) g2 ap.loc ap.big ap.cel (fun p hp => by
      rw [← List.append_assoc] at hp
      rcases List.mem_append.mp hp with z | z
      · exact ap.pn p z
      · rw [List.mem_singleton.mp z]; exact hka.symm)
    have ep : us.toArray.push w = (us ++ [w]).toArray := by simp
    have e3 : (s1.heap.update kS (Obj.mapSeq (·.push w))).get? kS = some (lo (us ++ [w]) (if (us.toArray.push w).size == us.toArray.size then e else e + 1)) := by
      rw [ek]
      show some (PyProof.Rows.seqObj "list" (us.toArray.push w) _) = _
      rw [ep]
    refine ⟨⟨H2, us ++ [w], ws ++ [w'], (if (us.toArray.push w).size == us.toArray.size then e else e + 1), ?_, sm.trans s2, vu.append (.cons rw' .nil), (RpAll.carry (Carry.same s2) rk).append (.one rp)⟩⟩
    have I5 := Inv.pinMore (pl := [(kS, lo (us ++ [w]) (if (us.toArray.push w).size == us.toArray.size then e else e + 1))]) I4 fun p hp => by
      rw [List.mem_singleton.mp hp]
      exact ⟨e3, g2, g3, g4, fun v z => by cases z⟩
    rw [List.append_assoc] at I5
    exact I5
/-- the keys are made, the sort, its end -/
theorem work_rest {fn : List D → R D} (F : FnOk X.prog X.w X.K X.mg X.base (L2.CX X.prog X.w) kf f fd ps (spP X.K X.mg fn)) (hr : Room (kf + 2) X.A) (hb : Binds X.K fd ps []) {a kS : Addr} {e1 : Nat} {s' : Shared} {xs : List V} {us : List Value} {ds kz : List D}
    (ok : X.Ok) (tk : Trk M H) (W : Work X pins σ H M a kS e1 [] s') (hka : kS ≠ a) (ap : Apart X pins kS) (aa : Apart X pins a) (rv : Vals xs us) (rd : RpAll X.K H M xs ds) (hl : xs.length ≤ sizeLine)
    (hk : ds.length = kz.length ∧ ∀ (i : Nat) (d k : D), ds[i]? = some d → kz[i]? = some k → fn [d] = .ok k) (ko : keysOk kz = true) {P : PySem.Fin → Shared → Prop} {E : Value → Shared → Prop}
    (q : ∀ (s'' : Shared) (H' : Hp) (ys : List V), Inv X pins σ (upd H' a (.lst ys)) s'' → Same H H' → H' a = none → RpAll X.K H' M ys (sortK ds kz) → P (.done (.ret .none)) s'') :
    wpAny (model X.prog X.w) X.A.in1.in1 (ksk_rest a (.ref f) false us.toArray e1 (.ref kS)) P E s' := by
  obtain ⟨al, so, pl⟩ := keysOk_of ko
  have hlen : us.length = kz.length := by rw [← rv.length, rd.length, hk.1]
  unfold ksk_rest
  refine wpAny_bind (wpAny_rule ?_)
  first
    | rw [List.forIn_toArray]
    | (rw [← Array.forIn_toList]; simp only [List.toList_toArray])
  refine wpAny_bind (ksk_fold (fun i s1 => Work X pins σ H M a kS e1 (kz.take i) s1) us 0 s' (by rw [List.take_zero]; exact W) (fun j u s1 hu W1 => ?_) fun s1 W1 => ?_)
  · rw [Nat.zero_add] at W1 ⊢
    have hj : j < us.length := (List.getElem?_eq_some_iff.mp hu).1
    obtain ⟨k, hkj⟩ : ∃ k, kz[j]? = some k := ⟨_, List.getElem?_eq_getElem (by omega)⟩
    obtain ⟨d, hd⟩ : ∃ d, ds[j]? = some d := ⟨_, List.getElem?_eq_getElem (by rw [hk.1]; omega)⟩
    obtain ⟨v, hv, rvd⟩ := rd.get hd
    have ruv : RelV v u := by
      obtain ⟨u', e', r'⟩ := rv.get hv
      rw [hu] at e'
      cases e'
      exact r'
    refine wpAny_bind (wpAny_attempt (wpAny_mono (work_turn F hr hb tk W1 hka ap ruv rvd (hk.2 j d k hd hkj) (by rw [List.length_take]; have := rv.length; omega) (Q := fun _ s2 => Work X pins σ H M a kS e1 (kz.take (j + 1)) s2) (E := E) (fun s2 W2 => ?_)) (fun w s2 h2 => ?_) fun _ _ hF => hF.elim))
    · rw [List.take_add_one, hkj]; exact W2
    · exact wpAny_bind (wpAny_mono h2 (fun _ s3 W3 => wpAny_pure ⟨rfl, W3⟩) fun _ _ e => e)
  · have et : kz.take (0 + us.length) = kz := List.take_of_length_le (by omega)
    rw [et] at W1
    obtain ⟨H', ks, ws, e, I, sm, vu, rk⟩ := W1.ex
    obtain ⟨g1, g2, g3, g4, g5⟩ := I.pin (kS, lo ks e) (List.mem_append_right _ (List.mem_append_right _ (List.mem_cons_of_mem _ List.mem_cons_self)))
    obtain ⟨a1, a2, a3, a4, a5⟩ := I.pin (a, lo [] e1) (List.mem_append_right _ (List.mem_append_right _ List.mem_cons_self))
    refine wpAny_bind (PyProof.Rows.listItems_at g1 rfl ?_)
    have rds : EachIs (fun v k => ∃ as, Reads s1.heap v k as) ks kz := by
      have go : ∀ (ws : List V) (ks : List Value) (kz : List D), Vals ws ks → RpAll X.K H' M ws kz → (∀ d ∈ kz, d.plain = true) → EachIs (fun v k => ∃ as, Reads s1.heap v k as) ks kz := by
        intro ws
        induction ws with
        | nil => intro ks kz h1 h2 _; cases h1; cases h2; exact .nil
        | cons w ws ih =>
          intro ks kz h1 h2 h3
          cases h1 with
          | cons r1 r2 =>
            cases h2 with
            | cons p1 p2 => exact .cons (Dp.reads I _ _ _ (p1.dp (h3 _ List.mem_cons_self)) r1) (ih _ _ r2 p2 fun d hd => h3 d (List.mem_cons_of_mem _ hd))
      exact go ws ks kz vu rk fun d hd => (pl d hd).1
    obtain ⟨G, G1, G2⟩ := restrict s1.heap fun b => decide (b ≠ kS)
    have hu : ∀ d, d ∈ kz → X.A.in1.in1.units + d.depth < cLine := fun d hd => by
      have h1 := (pl d hd).2
      have h2 := hr.un
      show X.A.units + 1 + 1 + d.depth < cLine
      omega
    have hks : ks.length = us.length := by rw [← vu.length, rk.length]; omega
    refine PySem.W.keyH_end (κ := PySem.W.dataKind s1.heap kz) (h₁ := G) (keys := ks.toArray) (vs := us) (b := false) (fun b o hb e => ?_) (G2 kS (by simp)) g1 a1 hka (PySem.W.SortsAt.data (s := s1) (by simpa using rds) al so hu) (by simpa using hks) (by rw [← rv.length]; exact hl) fun h3 tk3 c k3 n3 => ?_
    · by_cases hbk : b = kS
      · rw [hbk, G2 kS (by simp)] at e; cases e
      · rw [G1 b (by simpa using hbk)] at e; exact e
    · -- the values in their new order
      have vals3 : EachIs (fun (u : Value) (b : V × D × D) => RelV b.1 u ∧ Rp X.K H' M b.1 b.2.1) us (xs.zip (ds.zip kz)) := by
        have go : ∀ (us : List Value) (xs : List V) (ds kz : List D), Vals xs us → RpAll X.K H' M xs ds → ds.length = kz.length → EachIs (fun (u : Value) (b : V × D × D) => RelV b.1 u ∧ Rp X.K H' M b.1 b.2.1) us (xs.zip (ds.zip kz)) := by
          intro us
          induction us with
          | nil => intro xs ds kz h1 h2 _; cases h1; exact .nil
          | cons u us ih =>
            intro xs ds kz h1 h2 h3
            cases h1 with
            | cons r1 r2 =>
              cases h2 with
              | cons p1 p2 =>
                cases kz with
                | nil => simp at h3
                | cons k kz => exact .cons ⟨r1, p1⟩ (ih _ _ _ r2 p2 (by simpa using h3))
        exact go us xs ds kz rv (RpAll.carry (Carry.same sm) rd) hk.1
      have ez : (xs.zip (ds.zip kz)).map (fun b => b.2.2) = kz := by
        have e1 : (xs.zip (ds.zip kz)).map (fun b => b.2) = ds.zip kz := List.map_snd_zip (by rw [List.length_zip, ← hk.1, Nat.min_self, rd.length]; omega)
        have e2 : (ds.zip kz).map (fun b => b.2) = kz := List.map_snd_zip (by rw [hk.1]; omega)
        rw [← e1, List.map_map] at e2
        exact e2
      have ko2 : PySem.W.KeyedOut false ((xs.zip (ds.zip kz)).map fun b => b.2.2) us (PySem.W.sortVals (PySem.W.dataKind s1.heap kz) false ks us) := by
        rw [ez]
        exact ⟨s1.heap, ks, al, rfl, rds⟩
      have out := PySem.W.keyedOut_each (fun b : V × D × D => b.2.2) ko2 vals3
      have fin : ∀ (us : List Value) (bs : List (V × D × D)), EachIs (fun (u : Value) (b : V × D × D) => RelV b.1 u ∧ Rp X.K H' M b.1 b.2.1) us bs → Vals (bs.map (·.1)) us ∧ RpAll X.K H' M (bs.map (·.1)) (bs.map fun b => b.2.1) := by
        intro us
        induction us with
        | nil => intro bs h; cases h; exact ⟨.nil, .nil⟩
        | cons u us ih =>
          intro bs h
          cases h with
          | cons h1 h2 => exact ⟨.cons h1.1 (ih _ h2).1, .cons h1.2 (ih _ h2).2⟩
      obtain ⟨fv, fr⟩ := fin _ _ out
      rw [sort3 (by rw [rd.length]) hk.1] at fr
      have n3' : h3.get? a = some (lo (PySem.W.sortVals (PySem.W.dataKind s1.heap kz) false ks us) c) := by
        have : ks.toArray.toList = ks := by simp
        rw [this] at n3
        exact n3
      have hyl : ((List.mergeSort (xs.zip (ds.zip kz)) (dataLe false fun b : V × D × D => b.2.2)).map (·.1)).length ≤ sizeLine := by
        rw [List.length_map, List.length_mergeSort, List.length_zip]
        omega
      refine q _ H' _ ?_ sm a2 fr
      have I3 : Inv X pins σ H' s1 := Inv.unsrt ok (Inv.unpinned I)
      have kk : ∀ b o, b ≠ a → b ≠ kS → s1.heap.get? b = some o → h3.get? b = some o := fun b o h1 h2 e => k3 b o h1 (by rw [G1 b (by simpa using h2)]; exact e)
      have nt : ∀ b u, H' b = some u → b ≠ a ∧ b ≠ kS := fun b u e => ⟨fun z => (by rw [z, a2] at e; cases e), fun z => (by rw [z, g2] at e; cases e)⟩
      refine I3.step (g' := s1.gens) (d' := s1.drawn) (ch := [kS, a]) (fun b hb => ?_) (fun b o _ _ hc e _ => kk b o (fun z => hc (by simp [z])) (fun z => hc (by simp [z])) e) (fun b o _ _ hc e _ => ⟨o.slots, kk b o (fun z => hc (by simp [z])) (fun z => hc (by simp [z])) e⟩)
        (fun b o hc e n => by rw [upd_ne (fun z => hc (by simp [z]))]; exact n) (fun b o hc e => ⟨o, kk b o (fun z => hc (by simp [z])) (fun z => hc (by simp [z])) e⟩) (fun b zs e => by rw [upd_ne (nt b _ e).1]; exact e) (fun b o u e => by rw [upd_ne (nt b _ e).1]; exact e)
        (fun b zs e => ⟨#[], by rw [upd_ne (nt b _ e).1, e]; simp⟩) (fun m hm => ?_) (fun b u e => ?_) I3.bare
      · rcases List.mem_cons.mp hb with z | z
        · rw [z]; exact ⟨ap.big, ap.loc, ap.cel, ap.pn⟩
        · rw [List.mem_singleton.mp z]; exact ⟨aa.big, aa.loc, aa.cel, aa.pn⟩
      · obtain ⟨o, es, ep, ho, r⟩ := hm
        exact ⟨o, es, ep, kk _ o (Ne.symm aa.loc) (Ne.symm ap.loc) ho, r⟩
      · by_cases hb : b = a
        · subst hb
          rw [upd_same] at e
          cases e
          exact ⟨hyl, _, c, fv, n3'⟩
        · rw [upd_ne hb] at e
          refine (I3.hok b u e).stay (fun x v hx z => ?_) (fun x z => by rw [upd_ne (nt x _ z).1]; exact z) fun x zs z => by rw [upd_ne (nt x _ z).1]; exact z
          have hx2 : x ≠ a ∧ x ≠ kS := by
            rcases hx with rfl | hx
            · exact nt x _ e
            · exact nt x _ hx
          exact kk x v hx2.1 hx2.2 z

/-- sorted(xs, key=f), from the arguments on -/
theorem sorted_key_run {fn : List D → R D} (F : FnOk X.prog X.w X.K X.mg X.base (L2.CX X.prog X.w) kf f fd ps (spP X.K X.mg fn)) (hr : Room (kf + 2) X.A) (hb : Binds X.K fd ps []) {T : String} {a0 : Addr} {o : Obj} {n : Nat} {s' : Shared} {xs : List V} {us : List Value} {ds kz : List D}
    (hT : T = "list" ∨ T = "tuple") (ho : s'.heap.get? a0 = some o) (hc : o.cls = .type T) (hd : o.data = .seq us.toArray n) (I : Inv X pins σ H s') (tk : Trk M H) (rv : Vals xs us) (rd : RpAll X.K H M xs ds) (hl : xs.length ≤ sizeLine)
    (hk : ds.length = kz.length ∧ ∀ (i : Nat) (d k : D), ds[i]? = some d → kz[i]? = some k → fn [d] = .ok k) (ko : keysOk kz = true) {Q : VK}
    (q : ∀ (p : Addr) (ys : List V) (H' : Hp), Same H H' → H' p = none → RpAll X.K H' M ys (sortK ds kz) → Q (.ref p) (upd H' p (.lst ys))) :
    wpAny (model X.prog X.w) X.A (call (.builtin "sorted") [.ref a0] [(Str.ofString "key", .ref f)]) (EP X pins σ Q) X.xe s' := by
  have hz : us.length ≤ sizeLine := by rw [← rv.length]; exact hl
  refine call_function_entry_kw kind_sorted plain_sorted entry_sorted (ksk_s1 _ _) ?_
  unfold Builtin.«sorted»
  refine wpAny_bind (m := checkCount "sorted" 1 1 _) (wpAny_pure ?_)
  refine wpAny_bind (wpAny_collect_seq a0 hT ho hc hd (fun h1 k1 => ?_) (by rw [List.size_toArray]; exact hz))
  have et : us.toArray.toList = us := by simp
  rw [et]
  refine wpAny_bind (wpAny_newList ?_ hz)
  refine wpAny_bind (wpAny_holding (wpAny_call_entry_kw slot_list_sort ⟨_, Heap.get?_push_size _ rfl, rfl⟩ entry_list_sort ?body (ksk_l1 _ _)))
  case body =>
    show wpAny (model X.prog X.w) X.A.in1.in1 (Builtin.«list.sort» ⟨[.ref h1.objs.size], _⟩) _ _ _
    rw [ksk_t1]
    have I0 : Inv X pins σ H { s' with heap := h1 } := I.kept (t' := s'.toks) k1
    have ho1 : (h1.push (PyProof.Rows.seqObj "list" us.toArray 0)).get? h1.objs.size = some (PyProof.Rows.seqObj "list" us.toArray 0) := Heap.get?_push_size _ rfl
    obtain ⟨e1, ho2⟩ : ∃ e1, ((h1.push (PyProof.Rows.seqObj "list" us.toArray 0)).update h1.objs.size (Obj.mapSeq fun _ => (#[] : Array Value))).get? h1.objs.size = some (lo [] e1) := ⟨_, get?_update_seq ho1 fun _ => #[]⟩
    have hkS : (((h1.push (PyProof.Rows.seqObj "list" us.toArray 0)).update h1.objs.size (Obj.mapSeq fun _ => (#[] : Array Value))).push (PyProof.Rows.seqObj "tuple" us.toArray 0)).objs.size = h1.objs.size + 2 := by rw [size_push', Heap.size_update, size_push']
    unfold ksk_tree
    refine wpAny_bind (listItems_at ho1 rfl ?_)
    refine wpAny_bind (PyProof.Rows.listUpdate_at ho1 rfl ?_ (by rw [List.size_toArray]; exact hz) (Nat.zero_le _))
    refine wpAny_bind (PyProof.Rows.seqEpoch_at ho2 rfl ?_)
    refine wpAny_bind (wpAny_newTuple ?_ (by show us.length ≤ _; exact hz))
    refine wpAny_bind (wpAny_newList ?_ (Nat.zero_le _))
    refine wpAny_holding ?_
    rw [hkS]
    have sb := Heap.SameBut.update (h1.push (PyProof.Rows.seqObj "list" us.toArray 0)) h1.objs.size (Obj.mapSeq fun _ => (#[] : Array Value))
    have kk : ∀ b o', h1.get? b = some o' → ((((h1.push (PyProof.Rows.seqObj "list" us.toArray 0)).update h1.objs.size (Obj.mapSeq fun _ => (#[] : Array Value))).push (PyProof.Rows.seqObj "tuple" us.toArray 0)).push (PyProof.Rows.seqObj "list" #[] 0)).get? b = some o' := fun b o' e =>
      Heap.get?_push_of_some _ (Heap.get?_push_of_some _ ((sb.2 b (Nat.ne_of_lt (Heap.lt_size e))).trans (Heap.get?_push_of_some _ e)))
    have f1 : ∀ b, h1.objs.size ≤ b → FpOk X pins H b := fun b hb => I0.fpOk hb (I0.hok.fresh hb)
    have fa := f1 h1.objs.size (Nat.le_refl _)
    have fk := f1 (h1.objs.size + 2) (by omega)
    have I2 : Inv X pins σ H { s' with heap := ((((h1.push (PyProof.Rows.seqObj "list" us.toArray 0)).update h1.objs.size (Obj.mapSeq fun _ => (#[] : Array Value))).push (PyProof.Rows.seqObj "tuple" us.toArray 0)).push (PyProof.Rows.seqObj "list" #[] 0)) } := I0.kept (t' := s'.toks) kk
    have I3 := Inv.pinMore (pl := [(h1.objs.size, lo [] e1), (h1.objs.size + 2, lo [] 0)]) (Inv.srt I2) fun p hp => by
      rcases List.mem_cons.mp hp with z | z
      · subst z
        exact ⟨Heap.get?_push_of_some _ (Heap.get?_push_of_some _ ho2), fa.1, fa.2.1, fa.2.2.1, fun v z => by cases z⟩
      · obtain rfl := List.mem_singleton.mp z
        exact ⟨by rw [← hkS]; exact Heap.get?_push_size _ rfl, fk.1, fk.2.1, fk.2.2.1, fun v z => by cases z⟩
    refine work_rest (H := H) (a := h1.objs.size) (kS := h1.objs.size + 2) F hr hb I.ok tk ⟨⟨H, [], [], 0, I3, Same.refl _, .nil, .nil⟩⟩ (Nat.ne_of_gt (Nat.lt_add_of_pos_right (by decide))) (FpOk.apart fk) (FpOk.apart fa) rv rd hl hk ko fun s'' H' ys I4 sm hn rp => ?_
    exact ⟨_, rfl, wpAny_pure ⟨_, rfl, ⟨.ref h1.objs.size, _, I4, rfl, q _ _ _ sm hn rp⟩⟩⟩
end
end Dt

set_option Elab.async false
set_option linter.all false
set_option maxRecDepth 100000
set_option autoImplicit false
/-! sorted, as calls. -/
namespace Dt
open PySem PySem.Spec PyProof.Rows L2 R
open PySem.W (alike AllAlike Sortable dataLe EachIs)

def sortP (ds : List D) : List D := ds.mergeSort (dataLe false fun d => d)
section
variable {X : Cx} {pins : List (Addr × Obj)} {σ : St} {H : Hp} {s' : Shared} {M : Av}
theorem eachPair {K : Fg} {h : Heap} : ∀ {xs : List V} {us : List Value} {ds : List D}, Vals xs us → RpAll K H M xs ds → EachIs (fun (u : Value) (b : V × D) => RelV b.1 u ∧ Rp K H M b.1 b.2) us (xs.zip ds)
  | _, _, _, .nil, h2 => by cases h2; exact .nil
  | _, _, _, .cons r1 r2, h2 => by
    cases h2 with
    | cons p1 p2 => exact .cons ⟨r1, p1⟩ (eachPair (h := h) r2 p2)
theorem eachPairOut {K : Fg} : ∀ {us : List Value} {bs : List (V × D)}, EachIs (fun (u : Value) (b : V × D) => RelV b.1 u ∧ Rp K H M b.1 b.2) us bs → Vals (bs.map (·.1)) us ∧ RpAll K H M (bs.map (·.1)) (bs.map (·.2))
  | _, _, .nil => ⟨.nil, .nil⟩
  | _, _, .cons h1 h2 => ⟨.cons h1.1 (eachPairOut h2).1, .cons h1.2 (eachPairOut h2).2⟩
theorem sorted_run2 (hu : X.A.units + 70 < cLine) {T : String} {a0 : Addr} {o : Obj} {n : Nat} {xs : List V} {us : List Value} {ds : List D}
    (hT : T = "list" ∨ T = "tuple") (ho : s'.heap.get? a0 = some o) (hc : o.cls = .type T) (hd : o.data = .seq us.toArray n) (I : Inv X pins σ H s') (tk : Trk M H) (rv : Vals xs us) (rd : RpAll X.K H M xs ds) (hl : xs.length ≤ sizeLine)
    (ko : keysOk ds = true) {Q : VK}
    (q : ∀ (p : Addr) (ys : List V), H p = none → RpAll X.K H M ys (sortP ds) → Q (.ref p) (upd H p (.lst ys))) :
    wpAny (model X.prog X.w) X.A (call (.builtin "sorted") [.ref a0]) (EP X pins σ Q) X.xe s' := by
  obtain ⟨al, so, pl⟩ := keysOk_of ko
  have hz : us.length ≤ sizeLine := by rw [← rv.length]; exact hl
  refine call_function_entry_kw kind_sorted plain_sorted entry_sorted (args_sorted1 _) ?_
  unfold Builtin.«sorted»
  refine wpAny_bind (m := checkCount "sorted" 1 1 _) (wpAny_pure ?_)
  refine wpAny_bind (wpAny_collect_seq a0 hT ho hc hd (fun h1 k1 => ?_) (by rw [List.size_toArray]; exact hz))
  have et : us.toArray.toList = us := by simp
  rw [et]
  refine wpAny_bind (wpAny_newList ?_ hz)
  refine wpAny_bind (wpAny_holding (wpAny_call_entry_kw slot_list_sort ⟨_, Heap.get?_push_size _ rfl, rfl⟩ entry_list_sort ?body (args_list_sort _)))
  case body =>
    show wpAny (model X.prog X.w) X.A.in1.in1 (Builtin.«list.sort» ⟨[.ref h1.objs.size], _⟩) _ _ _
    have I0 : Inv X pins σ H { s' with heap := h1 } := I.kept (t' := s'.toks) k1
    have ho1 : (h1.push (PyProof.Rows.seqObj "list" us.toArray 0)).get? h1.objs.size = some (PyProof.Rows.seqObj "list" us.toArray 0) := Heap.get?_push_size _ rfl
    have hn : H h1.objs.size = none := I0.hok.fresh (Nat.le_refl _)
    have old : ∀ b o', h1.get? b = some o' → (h1.push (PyProof.Rows.seqObj "list" us.toArray 0)).get? b = some o' := fun b o' e => Heap.get?_push_of_some _ e
    have pairs : EachIs (fun (u : Value) (b : V × D) => RelV b.1 u ∧ Rp X.K H M b.1 b.2) us (xs.zip ds) := eachPair (h := h1) rv rd
    have ez : (xs.zip ds).map (fun b => b.2) = ds := List.map_snd_zip (by rw [rd.length]; exact Nat.le_refl _)
    have er : EachIs (fun (v : Value) (b : V × D) => ∃ as, Reads (PySem.W.sortingHeap (h1.push (PyProof.Rows.seqObj "list" us.toArray 0)) h1.objs.size us) v b.2 as) us (xs.zip ds) := by
      have m := PySem.W.each_mem pairs
      refine m.mono fun v b hb => ?_
      have hm : b.2 ∈ ds := by
        have := List.mem_map_of_mem (f := fun b : V × D => b.2) hb.2
        rw [ez] at this; exact this
      obtain ⟨as, r⟩ := Dp.reads I0 _ _ _ (hb.1.2.dp (pl _ hm).1) hb.1.1
      exact ⟨as, PyProof.Rows.Reads.keeps (fun b o e => PySem.W.sortingHeap_old (Nat.ne_of_lt (Heap.lt_size e)) (old b o e)) r⟩
    have al' : AllAlike ((xs.zip ds).map fun b => b.2) := by rw [ez]; exact al
    have hlen : (PySem.W.sortVals (PySem.W.dataKind (PySem.W.sortingHeap (h1.push (PyProof.Rows.seqObj "list" us.toArray 0)) h1.objs.size us) ((xs.zip ds).map fun b => b.2)) false us us).length = us.length := PySem.W.sortVals_length false rfl
    refine PySem.W.list_sort_vals (κ := PySem.W.dataKind (PySem.W.sortingHeap (h1.push (PyProof.Rows.seqObj "list" us.toArray 0)) h1.objs.size us) ((xs.zip ds).map fun b => b.2)) ho1
      (PySem.W.SortsAt.data (s := { s' with heap := PySem.W.sortingHeap (h1.push (PyProof.Rows.seqObj "list" us.toArray 0)) h1.objs.size us }) (PySem.W.each_map (R := fun v d => ∃ as, Reads (PySem.W.sortingHeap (h1.push (PyProof.Rows.seqObj "list" us.toArray 0)) h1.objs.size us) v d as) (fun b : V × D => b.2) er) al' (by rw [ez]; exact so) (by
        rw [ez]; intro d hd
        have h1 := (pl d hd).2
        show X.A.units + 1 + 1 + d.depth < cLine
        omega)) hz ?_
    have out := PySem.W.sortVals_data false pairs er al'
    obtain ⟨fv, fr⟩ := eachPairOut out
    have em : ((xs.zip ds).mergeSort (dataLe false fun b : V × D => b.2)).map (fun b => b.2) = sortP ds := by
      have := PySem.W.sort_maps (s := dataLe false fun d : D => d) (fun b : V × D => b.2) (l := xs.zip ds) (r := dataLe false fun b : V × D => b.2) fun a _ b _ => rfl
      rw [ez] at this
      exact this
    rw [em] at fr
    obtain ⟨ep, he'⟩ := PyProof.Rows.sortedHeap_at (out := (PySem.W.sortVals (PySem.W.dataKind (PySem.W.sortingHeap (h1.push (PyProof.Rows.seqObj "list" us.toArray 0)) h1.objs.size us) ((xs.zip ds).map fun b => b.2)) false us us).toArray) ho1
    refine ⟨_, rfl, wpAny_pure ⟨_, rfl, ⟨.ref h1.objs.size, _, I0.laid (t' := s'.toks) (a := h1.objs.size) (o := .lst (((xs.zip ds).mergeSort (dataLe false fun b : V × D => b.2)).map (·.1))) (fun b o e => ?_) (Nat.le_refl _) ⟨?_, _, ep, fv, he'⟩, rfl, q _ _ hn fr⟩⟩⟩
    · exact (PyProof.Rows.sortedHeap_old (Nat.ne_of_lt (Heap.lt_size e)) (by rw [size_push']; exact Nat.lt_succ_of_lt (Heap.lt_size e))).trans (old b o e)
    · rw [List.length_map, List.length_mergeSort, List.length_zip]
      omega
end
theorem sizeN : sizeLine = 16777216 := sizeLine_eq
/-- what sorted gives -/
def dSorted : GA
  | [.list ds] => if keysOk ds then some (.list (sortP ds)) else none
  | [.tuple ds] => if keysOk ds then some (.list (sortP ds)) else none
  | _ => none
section
variable {X : Cx} {E : XK} {k r : Bool} {Γ : List Nat} {e : Expr} {es : List Expr} {pos p : Pos}
theorem call_dSorted (hu : X.A.units + 110 < cLine) : CallR X (.builtin "sorted") (rC X.K dSorted) := by
  intro pins s σ H vs us Q I rv h
  obtain ⟨M, ds, r, tk, rx, eg, q⟩ := h
  unfold dSorted at eg
  split at eg
  · rename_i ds
    obtain ⟨v, rfl, rd⟩ := rx1 rx
    obtain ⟨a, xs, e1, r1, a1⟩ := rd.list
    subst e1
    obtain rfl := Vals.ref1 rv
    by_cases ko : keysOk ds = true
    · rw [if_pos ko] at eg
      cases eg
      obtain ⟨hl, its, n, rvv, _, ho⟩ := Inv.lstR I r1
      exact sorted_run2 (by omega) (.inl rfl) ho rfl rfl I tk rvv a1 hl ko fun p ys np rp => let ⟨s', rp'⟩ := new_lst tk np rp; q _ _ s' rp'
    · rw [if_neg ko] at eg; cases eg
  · rename_i ds
    obtain ⟨v, rfl, rd⟩ := rx1 rx
    obtain ⟨a, xs, e1, r1, a1⟩ := rd.tuple
    subst e1
    obtain rfl := Vals.ref1 rv
    by_cases ko : keysOk ds = true
    · rw [if_pos ko] at eg
      cases eg
      obtain ⟨its, rvv, ⟨o, ho, hc, n, hd⟩, hl⟩ := I.tuple r1.sq
      exact sorted_run2 (by omega) (.inr rfl) ho hc hd I tk rvv a1 hl ko fun p ys np rp => let ⟨s', rp'⟩ := new_lst tk np rp; q _ _ s' rp'
    · rw [if_neg ko] at eg; cases eg
  · cases eg
theorem de_sorted {m : MA} (hu : X.A.units + 110 < cLine) (hg : Gl X "sorted") (hm : X.mg "sorted" = none) (ha : DA X E k r Γ [e] m) (he : starEach [e] X.env = (false, eval e X.env) :: starEach [] X.env := by rfl) (hpl : (backTo pos (starEach [] X.env)).any (·.1) = false := by rfl) :
    DE X E k false Γ (.Call (.Name "sorted" p) [e] [] pos) (mCall dSorted m) :=
  de_callB (call_dSorted hu) hg hm (by decide +kernel) ha (by decide) (by decide) he hpl
/-- what sorted gives with a key -/
def mapR (fn : List D → R D) : List D → R (List D)
  | [] => .ok []
  | d :: ds => (fn [d]).bind fun x => (mapR fn ds).bind fun xs => .ok (x :: xs)
theorem mapR_ok {fn : List D → R D} : ∀ {ds kz : List D}, mapR fn ds = .ok kz → ds.length = kz.length ∧ ∀ (i : Nat) (d k : D), ds[i]? = some d → kz[i]? = some k → fn [d] = .ok k
  | [], kz, h => by
    cases h
    exact ⟨rfl, fun i d k h => by simp at h⟩
  | d :: ds, kz, h => by
    unfold mapR at h
    cases e1 : fn [d] with
    | ok x =>
      rw [e1] at h
      cases e2 : mapR fn ds with
      | ok xs =>
        rw [e2] at h
        have h' : R.ok (x :: xs) = R.ok kz := h
        cases h'
        obtain ⟨h1, h2⟩ := mapR_ok e2
        refine ⟨by simp [h1], fun i d' k' a b => ?_⟩
        cases i with
        | zero =>
          have a' : some d = some d' := a
          have b' : some x = some k' := b
          cases a'; cases b'
          exact e1
        | succ i => exact h2 i d' k' a b
      | exc c => rw [e2] at h; cases h
      | no => rw [e2] at h; cases h
    | exc c => rw [e1] at h; cases h
    | no => rw [e1] at h; cases h
def dSortK (fn : List D → R D) : List D → R D
  | [.list ds] => (mapR fn ds).nox.bind fun kz => if keysOk kz then .ok (.list (sortK ds kz)) else .no
  | [.tuple ds] => (mapR fn ds).nox.bind fun kz => if keysOk kz then .ok (.list (sortK ds kz)) else .no
  | _ => .no
theorem dSortK_ok {fn : List D → R D} {ds : List D} {Q : D → Prop} (h : ((mapR fn ds).nox.bind fun kz => if keysOk kz then .ok (.list (sortK ds kz)) else .no).post Q fun _ => False) :
    ∃ kz, mapR fn ds = .ok kz ∧ keysOk kz = true ∧ Q (.list (sortK ds kz)) := by
  cases e1 : mapR fn ds with
  | ok kz =>
    rw [e1] at h
    have h' : (if keysOk kz then (.ok (.list (sortK ds kz)) : R D) else .no).post Q fun _ => False := h
    by_cases ko : keysOk kz = true
    · rw [if_pos ko] at h'; exact ⟨kz, rfl, ko, h'⟩
    · rw [if_neg ko] at h'; exact h'.elim
  | exc c => rw [e1] at h; exact h.elim
  | no => rw [e1] at h; exact h.elim
variable {f : Addr} {fd : FuncData} {ps : List Str} {kf : Nat} {fn : List D → R D}
def rSrt (K : Fg) (f : Addr) (fn : List D → R D) : List V → List V → Hp → VK → Prop := fun vs zs H Q => ∃ (M : Av) (ds : List D), Trk M H ∧ RxAll true K H M vs ds ∧ zs = [.ref f] ∧ (dSortK fn ds).post (fun d => ∀ v H', Same H H' → Rp K H' M v d → Q v H') fun _ => False
theorem call_dSortK (F : FnOk X.prog X.w X.K X.mg X.base (L2.CX X.prog X.w) kf f fd ps (spP X.K X.mg fn)) (hr : Room (kf + 2) X.A) (hb : Binds X.K fd ps []) : CallRK X (.builtin "sorted") [Str.ofString "key"] (rSrt X.K f fn) := by
  intro pins s σ H vs zs us ws Q I rv rz h
  obtain ⟨M, ds, tk, rx, rfl, q⟩ := h
  obtain rfl := Vals.ref1 rz
  have fin : ∀ {H' : Hp} {ys : List V} {p : Addr} {es : List D}, Same H H' → H' p = none → RpAll X.K H' M ys es → Same H (upd H' p (.lst ys)) ∧ Rp X.K (upd H' p (.lst ys)) M (.ref p) (.list es) := fun sm np rp =>
    let ⟨s', rp'⟩ := new_lst (tk.same sm) np rp; ⟨sm.trans s', rp'⟩
  unfold dSortK at q
  split at q
  · rename_i ds
    obtain ⟨v, rfl, rd⟩ := rx1 rx
    obtain ⟨a, xs, e1, r1, a1⟩ := rd.list
    subst e1
    obtain rfl := Vals.ref1 rv
    obtain ⟨kz, ek, ko, qq⟩ := dSortK_ok q
    obtain ⟨hl, its, n, rvv, _, ho⟩ := Inv.lstR I r1
    exact sorted_key_run F hr hb (.inl rfl) ho rfl rfl I tk rvv a1 hl (mapR_ok ek) ko fun p ys H' sm np rp => let ⟨s', rp'⟩ := fin sm np rp; qq _ _ s' rp'
  · rename_i ds
    obtain ⟨v, rfl, rd⟩ := rx1 rx
    obtain ⟨a, xs, e1, r1, a1⟩ := rd.tuple
    subst e1
    obtain rfl := Vals.ref1 rv
    obtain ⟨kz, ek, ko, qq⟩ := dSortK_ok q
    obtain ⟨its, rvv, ⟨o, ho, hc, n, hd⟩, hl⟩ := I.tuple r1.sq
    exact sorted_key_run F hr hb (.inr rfl) ho hc hd I tk rvv a1 hl (mapR_ok ek) ko fun p ys H' sm np rp => let ⟨s', rp'⟩ := fin sm np rp; qq _ _ s' rp'
  · exact q.elim
theorem de_sortK {m : MA} {p2 kpos : Pos} {y : Str} (F : FnOk X.prog X.w X.K X.mg X.base (L2.CX X.prog X.w) kf f fd ps (spP X.K X.mg fn)) (hr : Room (kf + 2) X.A) (hb : Binds X.K fd ps []) (hg : Gl X "sorted") (hm : X.mg "sorted" = none) (hgy : Gl X y) (hmy : X.mg y = some (.ref f)) (ha : DA X E k r Γ [e] m)
    (hdb : (y == ("__debug__" : Str)) = false := by decide)
    (he : backTo pos (starEach [e] X.env) = (false, eval e X.env) :: backTo pos (starEach [] X.env) := by rfl) (hpl : (backTo pos (starEach [e] X.env)).any (·.1) = false := by rfl)
    (hall : (backToKw pos (keywordEach [⟨some (Str.ofString "key"), .Name y p2, kpos⟩] X.env)).all (·.1.isSome) = true := by rfl) (hnone : (backToKw pos (keywordEach [⟨some (Str.ofString "key"), .Name y p2, kpos⟩] X.env)).any (·.1.isNone) = false := by rfl) (hks : (backToKw pos (keywordEach [⟨some (Str.ofString "key"), .Name y p2, kpos⟩] X.env)).filterMap (·.1) = [Str.ofString "key"] := by rfl) :
    DE X E k false Γ (.Call (.Name "sorted" p) [e] [⟨some (Str.ofString "key"), .Name y p2, kpos⟩] pos) (mCallF (fun ds => (dSortK fn ds).nox) m) :=
  PE.imp (pe_callBK (call_dSortK F hr hb) hg hm (by decide +kernel) ha (pk_cons (pe_glob hgy hmy (show RelV (V.ref f) (Value.ref f) from rfl) hdb) pk_nil) (by decide) (by decide) he hpl hall hnone hks) fun σ H Q ⟨M, A, ρ, hΓ, fi, h⟩ => by
    refine ⟨M, A, ρ, hΓ, fi, pimp (post_bind h) (fun z hz vs H1 f1 g1 e1 r1 => ?_) (fun c hc => hc)⟩
    refine ⟨M, z.1, f1.trk, r1.ts, rfl, ?_⟩
    have hz2 := post_bind hz
    revert hz2
    show (dSortK fn z.1).nox.post _ _ → _
    generalize dSortK fn z.1 = q
    intro hz2
    cases q with
    | ok d => exact fun v H' s' rp => hz2 v H' (f1.same s') (g1.trans (Fra.of_eff s')) e1 rp
    | exc c => exact hz2.elim
    | no => exact hz2.elim
end
end Dt

set_option Elab.async false
set_option linter.all false
set_option maxRecDepth 100000
set_option autoImplicit false
/-! Dicts whose keys are numbers and texts. -/
namespace Dt
open PySem PySem.Spec PyProof.Rows L2 R

def flatK (es : List (D × D)) : Bool := es.all fun e => (keyOf e.1).isSome
def dput (es : List (D × D)) (k : Key) (d : D) : List (D × D) :=
  if (es.any fun e => decide (keyOf e.1 = some k)) = true then es.map (fun e => if keyOf e.1 = some k then (e.1, d) else e) else es ++ [(kD k, d)]
def dmerge (es more : List (D × D)) : List (D × D) := more.foldl (fun acc e => match keyOf e.1 with | some k => dput acc k e.2 | none => acc) es
section
variable {K : Fg} {H : Hp} {M : Av} {v : V} {d : D}
theorem rpK_flat : ∀ {kvs : List (Key × V)} {es : List (D × D)}, RpK K H M kvs es → flatK es = true
  | _, _, .nil => rfl
  | _, _, .cons (k := k) h r => by
    unfold flatK
    rw [List.all_cons, keyOf_kD]
    exact rpK_flat r
theorem flat_tH (es : List (D × D)) : flatK (tH :: es) = false := rfl
theorem rpK_length : ∀ {kvs : List (Key × V)} {es : List (D × D)}, RpK K H M kvs es → kvs.length = es.length
  | _, _, .nil => rfl
  | _, _, .cons h r => congrArg (· + 1) (rpK_length r)
theorem rpK_any {k : Key} : ∀ {kvs : List (Key × V)} {es : List (D × D)}, RpK K H M kvs es → (kvs.any fun kv => decide (kv.1 = k)) = (es.any fun e => decide (keyOf e.1 = some k))
  | _, _, .nil => rfl
  | _, _, .cons (k := k') h r => by
    rw [List.any_cons, List.any_cons, rpK_any r, keyOf_kD]
    congr 1
    by_cases e : k' = k
    · simp [e]
    · rw [decide_eq_false e, decide_eq_false fun z => e (Option.some.inj z)]
theorem rpK_repl {k : Key} (hv : Rp K H M v d) : ∀ {kvs : List (Key × V)} {es : List (D × D)}, RpK K H M kvs es → RpK K H M (kvs.map fun kv => if kv.1 = k then (kv.1, v) else kv) (es.map fun e => if keyOf e.1 = some k then (e.1, d) else e)
  | _, _, .nil => .nil
  | _, _, .cons (k := k') (v := v') (d := d') h r => by
    have ih := rpK_repl (k := k) hv r
    rw [List.map_cons, List.map_cons, keyOf_kD]
    by_cases e : k' = k
    · rw [if_pos e, if_pos (congrArg some e)]; exact .cons hv ih
    · rw [if_neg e, if_neg fun z => e (Option.some.inj z)]; exact .cons h ih
theorem rpK_snoc {k : Key} (hv : Rp K H M v d) : ∀ {kvs : List (Key × V)} {es : List (D × D)}, RpK K H M kvs es → RpK K H M (kvs ++ [(k, v)]) (es ++ [(kD k, d)])
  | _, _, .nil => .cons hv .nil
  | _, _, .cons h r => .cons h (rpK_snoc hv r)
theorem rpK_put {k : Key} {kvs : List (Key × V)} {es : List (D × D)} (r : RpK K H M kvs es) (hv : Rp K H M v d) : RpK K H M (putK kvs k v) (dput es k d) := by
  unfold putK dput
  rw [rpK_any r]
  split
  · exact rpK_repl hv r
  · exact rpK_snoc hv r
theorem rpK_merge : ∀ {more : List (Key × V)} {ms : List (D × D)}, RpK K H M more ms → ∀ {kvs : List (Key × V)} {es : List (D × D)}, RpK K H M kvs es → RpK K H M (mergeK kvs more) (dmerge es ms)
  | _, _, .nil, _, _, r => r
  | _, _, .cons (k := k) h q, kvs, es, r => by
    have e1 : ∀ (m : List (Key × V)) (v : V), mergeK kvs ((k, v) :: m) = mergeK (putK kvs k v) m := fun _ _ => rfl
    have e2 : ∀ (m : List (D × D)) (d : D), dmerge es ((kD k, d) :: m) = dmerge (dput es k d) m := fun m d => by
      unfold dmerge
      rw [List.foldl_cons, keyOf_kD]
    rw [e1, e2]
    exact rpK_merge q (rpK_put r h)
theorem Rt.dict {es : List (D × D)} (h : Rt K H M v (.dict es)) (fl : flatK es = true) : ∃ a kvs, v = .ref a ∧ Rd H a (.dK kvs) ∧ RpK K H M kvs es := by
  cases h with
  | of h => cases h with
    | dcK h1 h2 h3 => exact ⟨_, _, rfl, h1, h3⟩
    | dcT h1 h2 h3 => rw [flat_tH] at fl; cases fl
    | scr h => cases fl
  | dcK h1 h2 => exact ⟨_, _, rfl, h1, h2⟩
  | dcT h1 h2 => rw [flat_tH] at fl; cases fl
theorem Rp.dict {es : List (D × D)} (h : Rp K H M v (.dict es)) (fl : flatK es = true) : ∃ a kvs, v = .ref a ∧ Rd H a (.dK kvs) ∧ ¬ M a ∧ RpK K H M kvs es := by
  cases h with
  | dcK h1 h2 h3 => exact ⟨_, _, rfl, h1, h2, h3⟩
  | dcT h1 h2 h3 => rw [flat_tH] at fl; cases fl
  | scr h => cases fl
theorem kD_rt {k : D} {key : Key} (e : keyOf k = some key) (h : Rt K H M v k) : v = kV key := by
  rw [keyOf_some e] at h
  cases key with
  | inl i => exact h.int
  | inr x => exact h.str
end

section
variable {X : Cx} {E : XK} {k r : Bool} {Γ0 Γ Γ' Γl : List Nat} {a b c e o tg : Expr} {es : List Expr} {pos : Pos} {st : Stmt}
/-! ### d[k], k in d, len(d) -/
def dIxA : G2
  | .dict es, x => if flatK es then (keyOf x).bind (dlook es) else dIx (.dict es) x
  | a, b => dIx a b
theorem op_dIxA (hu : X.A.units + 1 < cLine) : IxR X (rD X.K dIxA) := by
  intro value slice pins s σ H x y v u Q I rx ry h hs
  obtain ⟨M, d, e, rr, tk, rd, re, eg, q⟩ := h
  by_cases hd : ∃ es, d = .dict es
  · obtain ⟨es, rfl⟩ := hd
    have eg' : (if flatK es then (keyOf e).bind (dlook es) else dIx (.dict es) e) = some rr := eg
    by_cases fl : flatK es = true
    · rw [if_pos fl] at eg'
      cases ek : keyOf e with
      | none => rw [ek] at eg'; cases eg'
      | some key =>
        rw [ek] at eg'
        have eg' : dlook es key = some rr := eg'
        obtain ⟨a, kvs, e1, r1, r2⟩ := rd.dict fl
        subst e1
        obtain rfl : v = Value.ref a := rx
        have ey := kD_rt ek re
        cases el : valV kvs key with
        | none =>
          have := (rpK_look (k := key) r2).2 el
          rw [this] at eg'; cases eg'
        | some w =>
          obtain ⟨d', ed', rw'⟩ := (rpK_look (k := key) r2).1 w el
          rw [ed'] at eg'
          cases eg'
          have g : DGet H a y (some w) := .inl ⟨kvs, key, r1, ey, el.symm⟩
          exact tail_any (dict_typeIs I g) PySem.F.slot_dict_getitem.lookup (d_getItem hu I g ry fun w' s' I' rw2 => ⟨w, H, I', rw2, q _ H (Same.refl _) rw'⟩) hs
    · rw [if_neg fl] at eg'
      exact op_dIx value slice pins s σ H x y v u Q I rx ry ⟨M, _, e, rr, tk, rd, re, eg', q⟩ hs
  · have eg' : dIx d e = some rr := by
      rw [← eg]
      cases d with
      | dict es => exact absurd ⟨_, rfl⟩ hd
      | _ => cases e <;> rfl
    exact op_dIx value slice pins s σ H x y v u Q I rx ry ⟨M, d, e, rr, tk, rd, re, eg', q⟩ hs
theorem de_subA {ma mb : ME} {ra rb : Bool} (hu : X.A.units + 1 < cLine) (ha : DE X E k ra Γ a ma) (hb : DE X E k rb Γ b mb) (hs : PlainIx b) (hk : (k && ra) = false := by rfl) : DE X E k false Γ (.Subscript a b pos) (mOp dIxA ma mb) := de_ix (op_dIxA hu) ha hb hs hk
def inDict (x : D) (es : List (D × D)) : Option Bool := if flatK es then (keyOf x).map fun key => (dlook es key).isSome else none
def dInA : G2
  | x, .dict es => (inDict x es).map .bool
  | x, y => dIn x y
def dNotInA : G2
  | x, .dict es => (inDict x es).map fun b => .bool !b
  | x, y => dNotIn x y
theorem inDict_at {K : Fg} {H : Hp} {M : Av} {x y : V} {d : D} {es : List (D × D)} {b : Bool} (h : inDict d es = some b) (rd : Rt K H M x d) (re : Rt K H M y (.dict es)) : ∃ a ov, y = .ref a ∧ DGet H a x ov ∧ ov.isSome = b := by
  unfold inDict at h
  by_cases fl : flatK es = true
  · rw [if_pos fl] at h
    cases ek : keyOf d with
    | none => rw [ek] at h; cases h
    | some key =>
      rw [ek] at h
      cases h
      obtain ⟨a, kvs, e1, r1, r2⟩ := re.dict fl
      refine ⟨a, valV kvs key, e1, .inl ⟨kvs, key, r1, kD_rt ek rd, rfl⟩, ?_⟩
      cases el : valV kvs key with
      | none =>
        show _ = (dlook es key).isSome
        rw [(rpK_look (k := key) r2).2 el]; rfl
      | some w =>
        obtain ⟨d', ed', _⟩ := (rpK_look (k := key) r2).1 w el
        show _ = (dlook es key).isSome
        rw [ed']; rfl
  · rw [if_neg fl] at h; cases h
theorem op_dInA (hu : X.A.units + 110 < cLine) : OpR X (compareOp .In) (rD X.K dInA) := by
  intro pins s σ H x y v u Q I rx ry h
  obtain ⟨M, d, e, r, tk, rd, re, eg, q⟩ := h
  by_cases hd : ∃ es, e = .dict es
  · obtain ⟨es, rfl⟩ := hd
    have eg' : (inDict d es).map PyData.bool = some r := by
      rw [← eg]; cases d <;> rfl
    cases ei : inDict d es with
    | none => rw [ei] at eg'; cases eg'
    | some b =>
      rw [ei] at eg'
      cases eg'
      obtain ⟨a, ov, e1, g, eb⟩ := inDict_at ei rd re
      subst e1
      obtain rfl : u = Value.ref a := ry
      exact d_in (by omega) I g rx fun s' I' => ⟨.bl ov.isSome, H, I', rfl, by rw [eb]; exact q _ H (Same.refl _) (.bl _)⟩
  · have eg' : dIn d e = some r := by
      rw [← eg]
      cases e with
      | dict es => exact absurd ⟨_, rfl⟩ hd
      | _ => cases d <;> rfl
    exact op_dIn hu pins s σ H x y v u Q I rx ry ⟨M, d, e, r, tk, rd, re, eg', q⟩
theorem op_dNotInA (hu : X.A.units + 110 < cLine) : OpR X (compareOp .NotIn) (rD X.K dNotInA) := by
  intro pins s σ H x y v u Q I rx ry h
  obtain ⟨M, d, e, r, tk, rd, re, eg, q⟩ := h
  by_cases hd : ∃ es, e = .dict es
  · obtain ⟨es, rfl⟩ := hd
    have eg' : ((inDict d es).map fun b => PyData.bool !b) = some r := by
      rw [← eg]; cases d <;> rfl
    cases ei : inDict d es with
    | none => rw [ei] at eg'; cases eg'
    | some b =>
      rw [ei] at eg'
      cases eg'
      obtain ⟨a, ov, e1, g, eb⟩ := inDict_at ei rd re
      subst e1
      obtain rfl : u = Value.ref a := ry
      exact d_notIn (by omega) I g rx fun s' I' => ⟨.bl (!ov.isSome), H, I', rfl, by rw [eb]; exact q _ H (Same.refl _) (.bl _)⟩
  · have eg' : dNotIn d e = some r := by
      rw [← eg]
      cases e with
      | dict es => exact absurd ⟨_, rfl⟩ hd
      | _ => cases d <;> rfl
    exact op_dNotIn hu pins s σ H x y v u Q I rx ry ⟨M, d, e, r, tk, rd, re, eg', q⟩
def dLenA : GA
  | [.dict es] => if flatK es then some (.int es.length) else dLen [.dict es]
  | xs => dLen xs
theorem call_dLenA : CallR X (.builtin "len") (rC X.K dLenA) := by
  intro pins s σ H vs us Q I rv h
  obtain ⟨M, ds, r, tk, rx, eg, q⟩ := h
  by_cases hd : ∃ es, ds = [.dict es]
  · obtain ⟨es, rfl⟩ := hd
    have eg' : (if flatK es then some (PyData.int es.length) else dLen [.dict es]) = some r := eg
    by_cases fl : flatK es = true
    · rw [if_pos fl] at eg'
      cases eg'
      obtain ⟨v, rfl, rd⟩ := rx1 rx
      obtain ⟨a, kvs, e1, r1, r2⟩ := rd.dict fl
      subst e1
      obtain rfl := Vals.ref1 rv
      exact d_len I r1 fun t s' I' => ⟨.int kvs.length, H, I', ⟨t, rfl⟩, by rw [rpK_length r2]; exact q _ H (Same.refl _) (.int _)⟩
    · rw [if_neg fl] at eg'
      exact call_dLen pins s σ H vs us Q I rv ⟨M, _, r, tk, rx, eg', q⟩
  · have eg' : dLen ds = some r := by
      rw [← eg]
      unfold dLenA
      split
      · exact absurd ⟨_, rfl⟩ hd
      · rfl
    exact call_dLen pins s σ H vs us Q I rv ⟨M, ds, r, tk, rx, eg', q⟩
/-! ### d.get(k), d.get(k, x) -/
def dGet1 (es : List (D × D)) (k : D) : Option D := if flatK es then (keyOf k).map fun key => (dlook es key).getD .none else none
def dGet2 (es : List (D × D)) (k x : D) : Option D := if flatK es then (keyOf k).map fun key => (dlook es key).getD x else none
def asDict : D → Option (List (D × D))
  | .dict es => if flatK es then some es else none
  | _ => none
theorem asDict_some {d : D} {es : List (D × D)} (h : asDict d = some es) : d = .dict es ∧ flatK es = true := by
  cases d with
  | dict l =>
    have h : (if flatK l then some l else none) = some es := h
    by_cases fl : flatK l = true
    · rw [if_pos fl] at h; cases h; exact ⟨rfl, fl⟩
    · rw [if_neg fl] at h; cases h
  | _ => cases h
def eGet1 (mo mk : ME) : ME := fun ρ => (mo ρ).bind fun o => (R.opt (asDict o.1)).bind fun es => (mk o.2).bind fun y => (R.opt (dGet1 es y.1)).bind fun d => .ok (d, y.2)
def eGet2 (mo mk mx : ME) : ME := fun ρ => (mo ρ).bind fun o => (R.opt (asDict o.1)).bind fun es => (mk o.2).bind fun y => (mx y.2).bind fun x => (R.opt (dGet2 es y.1 x.1)).bind fun d => .ok (d, x.2)
theorem dget_rp {K : Fg} {H : Hp} {M : Av} {kvs : List (Key × V)} {es : List (D × D)} {key : Key} {z : V} {x : D} (r : RpK K H M kvs es) (hz : Rp K H M z x) : Rp K H M ((valV kvs key).getD z) ((dlook es key).getD x) := by
  cases el : valV kvs key with
  | none => rw [(rpK_look (k := key) r).2 el]; exact hz
  | some w =>
    obtain ⟨d', ed', rw'⟩ := (rpK_look (k := key) r).1 w el
    rw [ed']; exact rw'
theorem de_get1 {mo mk : ME} {apos cpos : Pos} (hu : X.A.units + 1 < cLine) (ho : DE X E k r Γ o mo) (he : DE X E k false Γ e mk) (m : M1 X o "get" apos e cpos) (hk : (k && r) = false := by rfl) :
    DE X E k false Γ (.Call (.Attribute o "get" apos) [e] [] cpos) (eGet1 mo mk) :=
  PE.imp (pe_dget1 hu ho he m) fun σ H Q ⟨M, A, ρ, hΓ, f, h⟩ => by
    refine ⟨M, A, ρ, hΓ, f, pimp (post_bind h) (fun z hz v H1 f1 g1 e1 r1 => ?_) fun c hc => hc⟩
    obtain ⟨es, ees, hz⟩ := post_opt hz
    obtain ⟨ez, fl⟩ := asDict_some ees
    rw [ez] at r1
    obtain ⟨a, kvs, ev, d1, d2⟩ := Rt.dict r1.t fl
    refine ⟨a, ev, .inl ⟨kvs, d1⟩, M, A, z.2, hΓ, f1, pimp (post_bind hz) (fun y hy w H2 f2 g2 e2 r2 => ?_) fun c hc => DX.fra g1 hc⟩
    obtain ⟨d, ed, hy⟩ := post_opt hy
    unfold dGet1 at ed
    rw [if_pos fl] at ed
    cases ek : keyOf y.1 with
    | none => rw [ek] at ed; cases ed
    | some key =>
      rw [ek] at ed
      cases ed
      have r1' := Rx.fra hk f1 g2 r1
      obtain ⟨a', kvs', ev', d1', d2'⟩ := Rt.dict r1'.t fl
      rw [ev] at ev'
      cases ev'
      exact ⟨valV kvs' key, .inl ⟨kvs', key, d1', kD_rt ek (.of r2), rfl⟩, hy _ H2 f2 (g1.trans g2) (fun n => (e2 n).trans (e1 n)) (dget_rp d2' .non)⟩
theorem de_get2 {mo mk mx : ME} {f : Expr} {apos cpos : Pos} (hu : X.A.units + 1 < cLine) (ho : DE X E k r Γ o mo) (he : DE X E k false Γ e mk) (hf : DE X E k false Γ f mx) (m : M2 X o "get" apos e f cpos) (hk : (k && r) = false := by rfl) :
    DE X E k false Γ (.Call (.Attribute o "get" apos) [e, f] [] cpos) (eGet2 mo mk mx) :=
  PE.imp (pe_dget2 hu ho he hf m) fun σ H Q ⟨M, A, ρ, hΓ, f, h⟩ => by
    refine ⟨M, A, ρ, hΓ, f, pimp (post_bind h) (fun z hz v H1 f1 g1 e1 r1 => ?_) fun c hc => hc⟩
    obtain ⟨es, ees, hz⟩ := post_opt hz
    obtain ⟨ez, fl⟩ := asDict_some ees
    rw [ez] at r1
    obtain ⟨a, kvs, ev, d1, d2⟩ := Rt.dict r1.t fl
    refine ⟨a, ev, .inl ⟨kvs, d1⟩, M, A, z.2, hΓ, f1, pimp (post_bind hz) (fun y hy w H2 f2 g2 e2 r2 => ?_) fun c hc => DX.fra g1 hc⟩
    refine ⟨M, A, y.2, hΓ, f2, pimp (post_bind hy) (fun x hx w3 H3 f3 g3 e3 r3 => ?_) fun c hc => DX.fra (g1.trans g2) hc⟩
    obtain ⟨d, ed, hx⟩ := post_opt hx
    unfold dGet2 at ed
    rw [if_pos fl] at ed
    cases ek : keyOf y.1 with
    | none => rw [ek] at ed; cases ed
    | some key =>
      rw [ek] at ed
      cases ed
      have r1' := Rx.fra hk f2 g3 (Rx.fra hk f1 g2 r1)
      have r2' : Rp X.K H3 M w y.1 := Rx.fra (r := false) (by cases k <;> rfl) f2 g3 r2
      obtain ⟨a', kvs', ev', d1', d2'⟩ := Rt.dict r1'.t fl
      rw [ev] at ev'
      cases ev'
      exact ⟨valV kvs' key, .inl ⟨kvs', key, d1', kD_rt ek (.of r2'), rfl⟩, hx _ H3 f3 (g1.trans (g2.trans g3)) (fun n => (e3 n).trans ((e2 n).trans (e1 n))) (dget_rp d2' r3)⟩
/-! ### dict(pairs) -/
def pairsOf : List D → Option (List (D × D))
  | [] => some []
  | .tuple [a, b] :: ds => if (keyOf a).isSome then (pairsOf ds).map fun r => (a, b) :: r else none
  | _ => none
def dDict : GA
  | [.list ds] => (pairsOf ds).map fun ps => .dict (dmerge [] ps)
  | _ => none
theorem pairsOf_rp {K : Fg} {H : Hp} {M : Av} : ∀ {ds : List D} {xs : List V} {ps : List (D × D)}, RpAll K H M xs ds → pairsOf ds = some ps →
    ∃ (as : List Addr) (kvs : List (Key × V)), xs = as.map V.ref ∧ Paired (fun p kv => SqT K H p [kV kv.1, kv.2]) as kvs ∧ RpK K H M kvs ps
  | [], _, ps, .nil, h => by cases h; exact ⟨[], [], rfl, .nil, .nil⟩
  | d :: ds, _, ps, .cons (v := v) h1 h2, h => by
    unfold pairsOf at h
    split at h
    · rename_i e; cases e
    · rename_i a b ds' e
      cases e
      cases ek : keyOf a with
      | none => rw [ek] at h; cases h
      | some key =>
        rw [ek] at h
        have h : (pairsOf ds).map (fun r => (a, b) :: r) = some ps := h
        cases er : pairsOf ds with
        | none => rw [er] at h; cases h
        | some qs =>
          rw [er] at h
          cases h
          obtain ⟨as, kvs, e1, e2, e3⟩ := pairsOf_rp h2 er
          cases h1 with
          | tup t1 t2 =>
            rename_i p xs'
            cases t2 with
            | cons c1 c2 => cases c2 with
              | cons c3 c4 =>
                cases c4
                rename_i v1 v2
                have ev := kD_rt ek (.of c1)
                subst ev
                refine ⟨p :: as, (key, v2) :: kvs, by rw [e1]; rfl, .cons t1.sq e2, ?_⟩
                rw [keyOf_some ek]
                exact .cons c3 e3
    · cases h
theorem call_dDict (hc : X.calm = true) : CallR X (.type "dict") (rC X.K dDict) := by
  intro pins s σ H vs us Q I rv h
  obtain ⟨M, ds, r, tk, rx, eg, q⟩ := h
  unfold dDict at eg
  split at eg
  · rename_i ds
    cases ep : pairsOf ds with
    | none => rw [ep] at eg; cases eg
    | some ps =>
      rw [ep] at eg
      cases eg
      obtain ⟨v, rfl, rd⟩ := rx1 rx
      obtain ⟨a, xs, e1, r1, a1⟩ := rd.list
      subst e1
      obtain ⟨as, kvs, e1, e2, e3⟩ := pairsOf_rp a1 ep
      subst e1
      refine call_dictP hc pins s σ H _ us Q I rv ⟨a, as, kvs, rfl, .inl r1, e2, fun p np => ?_⟩
      have s' : Same H (upd H p (.dK (mergeK [] kvs))) := fun b u e => by rw [upd_ne (ne_of_none e np)]; exact e
      exact q _ _ s' (.dcK (.inl upd_same) (tk.ne np) (rpK_merge (RpK.carry (Carry.same s') e3) .nil))
  · cases eg
/-! ### own dicts changed -/
def asK : Option D → Option (List (D × D))
  | some d => asDict d
  | none => none
theorem Fit.ownD {K : Fg} {M : Av} {A : As} {σ : St} {H : Hp} {ρ : Ev} {i : Nat} {es : List (D × D)} {Γ : List Nat} (f : Fit K M A σ H ρ) (hΓ : A.map (·.1) = Γ) (hi : Γ.contains i = true) (h : asK (getv ρ i) = some es) :
    ∃ a kvs, (i, a) ∈ A ∧ σ[i]? = some (some (.ref a)) ∧ H a = some (.dK kvs) ∧ RpK K H M kvs es := by
  cases hg : getv ρ i with
  | none => rw [hg] at h; cases h
  | some d =>
    rw [hg] at h
    obtain ⟨e1, fl⟩ := asDict_some h
    rw [e1] at hg
    obtain ⟨a, ia, h1, ow⟩ := f.ownK hΓ hi hg
    cases ow with
    | dcK g1 g2 => exact ⟨a, _, ia, h1, g1, g2⟩
    | dcT g1 g2 => rw [flat_tH] at fl; cases fl
theorem mt_setdefault : MtR X "dict.setdefault" (fun x vs H Q => ∃ (a : Addr) (kvs : List (Key × V)) (key : Key) (v : V), x = .ref a ∧ vs = [kV key, v] ∧ H a = some (.dK kvs) ∧ kvs.length < sizeLine ∧
    (∀ w, valV kvs key = some w → Q w H) ∧ (valV kvs key = none → Q v (upd H a (.dK (putK kvs key v))))) := by
  intro pins s σ H x vs w us Q I rx rv h
  obtain ⟨a, kvs, key, v, rfl, rfl, e, l, q1, q2⟩ := h
  obtain rfl : w = Value.ref a := rx
  obtain ⟨u1, u2, rfl, r1, r2⟩ := vals2 rv
  obtain ⟨z, hd, vs, rel, dd⟩ := dk_of I.hok e
  have hz : vs.length ≤ sizeLine := by rw [← rel.length]; exact z
  refine call_meetsIn PySem.F.slot_dict_setdefault dd.typeIs PySem.F.entry_dict_setdefault (PySem.F.args_dict_setdefault_3 _ _ _) (kt_meets_setdefault (mixKind X.prog X.w) a (kV_is r1) hd u2) ⟨vs, dd, hz, fun v' hv' => ?_, fun hn h' dd' hs => ?_⟩
  · have rl := rel.val key
    rw [hv'] at rl
    cases el : valV kvs key with
    | none => rw [el] at rl; exact rl.elim
    | some w =>
      rw [el] at rl
      exact ⟨w, H, I.tok _, rl, q1 w el⟩
  · have rl := rel.val key
    rw [hn] at rl
    cases el : valV kvs key with
    | some w => rw [el] at rl; exact rl.elim
    | none =>
      have he : ∃ q, h'.get? a = some q := let ⟨q, _, _, hq, _⟩ := dd'; ⟨q, hq⟩
      have hl : (putK kvs key v).length ≤ sizeLine := by have := length_putK kvs key v; omega
      exact ⟨v, _, d_write I (by rw [e]; exact True.intro) hs he (dk_new hl hd (rel.put key r2) dd'), r2, q2 el⟩
theorem mt_update : MtR X "dict.update" (fun x vs H Q => ∃ (a b : Addr) (kvs more : List (Key × V)), x = .ref a ∧ vs = [.ref b] ∧ a ≠ b ∧ H a = some (.dK kvs) ∧ Rd H b (.dK more) ∧ kvs.length + more.length ≤ sizeLine ∧ Q .non (upd H a (.dK (mergeK kvs more)))) := by
  intro pins s σ H x vs w us Q I rx rv h
  obtain ⟨a, b, kvs, more, rfl, rfl, ne, e, e2, l, q⟩ := h
  obtain rfl : w = Value.ref a := rx
  obtain rfl := Vals.ref1 rv
  obtain ⟨z, hd, vs, rel, dd⟩ := dk_of I.hok e
  obtain ⟨z2, hd2, vs2, rel2, dd2⟩ := dk_rd I.hok e2
  refine call_meetsIn PySem.F.slot_dict_update dd.typeIs PySem.F.entry_dict_update (PySem.F.args_dict_update_2 _ _) (meets_dict_update (mixKind X.prog X.w) a b ne hd2) ⟨vs, vs2, dd, dd2, by rw [← rel.length, ← rel2.length]; exact l, fun h' dd' _ hs => ?_⟩
  have he : ∃ q, h'.get? a = some q := let ⟨q, _, _, hq, _⟩ := dd'; ⟨q, hq⟩
  have hl : (mergeK kvs more).length ≤ sizeLine := Nat.le_trans (length_mergeK more kvs) l
  exact ⟨.non, _, d_write (t' := s.toks) I (by rw [e]; exact True.intro) hs he (dk_new hl hd (KV.merge rel2 rel) dd'), rfl, q⟩
def keyVal : List D → Option (Key × D)
  | [a, d] => (keyOf a).map fun x => (x, d)
  | _ => none
/-- d.setdefault(k, v) -/
def eSetD (i : Nat) (ma : MA) : ME := fun ρ => (R.opt (asK (getv ρ i))).bind fun _ => (ma ρ).bind fun z => (R.opt (asK (getv z.2 i))).bind fun es => (R.opt (keyVal z.1)).bind fun kd =>
  if es.length < sizeLine then match dlook es kd.1 with
    | some d => .ok (d, z.2)
    | none => .ok (kd.2, z.2.set i (some (.dict (dput es kd.1 kd.2))))
  else .no
theorem de_setdef {i : Nat} {m : MA} {apos cpos : Pos} (hp : PE X o (tVar i)) (ha : DA X E true false Γ (e :: es) m) (hi : Γ.contains i = true := by decide)
    (hbase : attributeBase o "setdefault" X.env (eval o X.env) = eval o X.env := by rfl)
    (hfew : ((backTo cpos (starEach (e :: es) X.env)).all (fun x => !x.1) && (backToKw cpos (keywordEach [] X.env)).all (fun x => x.1.isSome)
      && decide ((e :: es).length + ([] : List Keyword).length + (if ([] : List Keyword).isEmpty then 0 else 1) < 30)) = true := by rfl)
    (hline : (apos.endLine == cpos.line) = true := by rfl) (hs : starEach (e :: es) X.env = (false, eval e X.env) :: starEach es X.env := by rfl) (hplain : (backTo cpos (starEach es X.env)).any (·.1) = false := by rfl) :
    DE X E true false Γ (.Call (.Attribute o "setdefault" apos) (e :: es) [] cpos) (eSetD i m) :=
  PE.imp (pe_bm PySem.F.plainAttrs_dict PySem.F.slot_dict_setdefault PySem.F.type_dict_setdefault mt_setdefault hp ha hbase hfew hline hs hplain) fun σ H Q ⟨M, A, ρ, hΓ, f, h⟩ => by
    obtain ⟨ds0, e0, h⟩ := post_opt h
    obtain ⟨a, xs, ia, e1, e2, e3⟩ := f.ownD hΓ hi e0
    refine ⟨.ref a, e1, .inr (.inr (.inl ⟨rfl, .inl ⟨xs, e2⟩⟩)), M, A, ρ, hΓ, f, pimp (post_bind h) (fun z hz vs H1 f1 g1 _ r1 => ?_) fun c hc => hc⟩
    obtain ⟨ds, ed, hz⟩ := post_opt hz
    obtain ⟨⟨key, d⟩, ek, hz⟩ := post_opt hz
    obtain ⟨b, ys, ib, e4, e5, e6⟩ := f1.ownD hΓ hi ed
    obtain rfl := Fit.at_same f f1 ib e1
    by_cases hl : ds.length < sizeLine
    · rw [if_pos hl] at hz
      unfold keyVal at ek
      split at ek
      · rename_i ka da ez
        cases ekk : keyOf ka with
        | none => rw [ekk] at ek; cases ek
        | some key' =>
          rw [ekk] at ek
          cases ek
          rw [ez] at r1
          cases r1 with
          | cons c1 c2 => cases c2 with
            | cons c3 c4 =>
              cases c4
              rename_i v1 v2
              have ev := kD_rt ekk (.of c1)
              subst ev
              have c3 : Rp X.K H1 M v2 d := c3
              refine ⟨b, ys, key, v2, rfl, rfl, e5, by rw [rpK_length e6]; exact hl, fun w hw => ?_, fun hn => ?_⟩
              · obtain ⟨d', ed', rw'⟩ := (rpK_look (k := key) e6).1 w hw
                rw [ed'] at hz
                exact hz w H1 f1 g1 (fun n => Bool.noConfusion n) rw'
              · rw [(rpK_look (k := key) e6).2 hn] at hz
                have c : Carry X.K H1 (upd H1 b (.dK (putK ys key v2))) M M := Carry.at (f1.sub _ ib)
                exact hz v2 _ (f1.change ib (.dcK upd_same (RpK.carry c (rpK_put e6 c3)))) (g1.trans (Fra.change ib)) (fun n => Bool.noConfusion n) (Rp.carry c c3)
      · cases ek
    · rw [if_neg hl] at hz; exact hz.elim
/-- d.update(m) -/
def eUpd (i : Nat) (m : ME) : ME := fun ρ => (R.opt (asK (getv ρ i))).bind fun _ => (m ρ).bind fun z => (R.opt (asDict z.1)).bind fun ms => (R.opt (asK (getv z.2 i))).bind fun es =>
  if es.length + ms.length ≤ sizeLine then .ok (.none, z.2.set i (some (.dict (dmerge es ms)))) else .no
theorem de_upd {i : Nat} {m : ME} {apos cpos : Pos} (hp : PE X o (tVar i)) (ha : DE X E true false Γ e m) (hi : Γ.contains i = true := by decide)
    (hbase : attributeBase o "update" X.env (eval o X.env) = eval o X.env := by rfl)
    (hfew : ((backTo cpos (starEach [e] X.env)).all (fun x => !x.1) && (backToKw cpos (keywordEach [] X.env)).all (fun x => x.1.isSome)
      && decide (([e] : List Expr).length + ([] : List Keyword).length + (if ([] : List Keyword).isEmpty then 0 else 1) < 30)) = true := by rfl)
    (hline : (apos.endLine == cpos.line) = true := by rfl) (hs : starEach [e] X.env = (false, eval e X.env) :: starEach [] X.env := by rfl) (hplain : (backTo cpos (starEach [] X.env)).any (·.1) = false := by rfl) :
    DE X E true false Γ (.Call (.Attribute o "update" apos) [e] [] cpos) (eUpd i m) :=
  PE.imp (pe_bm PySem.F.plainAttrs_dict PySem.F.slot_dict_update PySem.F.type_dict_update mt_update hp (pa_cons ha pa_nil hs) hbase hfew hline hs hplain) fun σ H Q ⟨M, A, ρ, hΓ, f, h⟩ => by
    obtain ⟨ds0, e0, h⟩ := post_opt h
    obtain ⟨a, xs, ia, e1, e2, e3⟩ := f.ownD hΓ hi e0
    refine ⟨.ref a, e1, .inr (.inr (.inl ⟨rfl, .inl ⟨xs, e2⟩⟩)), M, A, ρ, hΓ, f, pimp (post_bind h) (fun z hz v H1 f1 g1 _ r1 => ?_) fun c hc => hc⟩
    obtain ⟨ms, em, hz⟩ := post_opt hz
    obtain ⟨ds, ed, hz⟩ := post_opt hz
    obtain ⟨b, ys, ib, e4, e5, e6⟩ := f1.ownD hΓ hi ed
    obtain rfl := Fit.at_same f f1 ib e1
    obtain ⟨ez, fl⟩ := asDict_some em
    rw [ez] at r1
    obtain ⟨b2, more, ev, d1, nm, d2⟩ := Rp.dict (show Rp X.K H1 M v (.dict ms) from r1) fl
    by_cases hl : ds.length + ms.length ≤ sizeLine
    · rw [if_pos hl] at hz
      have c : Carry X.K H1 (upd H1 b (.dK (mergeK ys more))) M M := Carry.at (f1.sub _ ib)
      refine ⟨b, b2, ys, more, rfl, by rw [ev], fun e => nm (by rw [← e]; exact f1.sub _ ib), e5, d1, by rw [rpK_length e6, rpK_length d2]; exact hl, ?_⟩
      exact hz .non _ (f1.change ib (.dcK upd_same (RpK.carry c (rpK_merge d2 e6)))) (g1.trans (Fra.change ib)) (fun n => Bool.noConfusion n) .non
    · rw [if_neg hl] at hz; exact hz.elim
/-- d[k] = v, d an own dict -/
def sPutD (o : Nat) (mv mi : ME) : MS := fun ρ => (mv ρ).bind fun v => (mi v.2).bind fun i => (R.opt (asK (getv i.2 o))).bind fun es => (R.opt (keyOf i.1)).bind fun key =>
  if es.length < sizeLine then .ok (.nx, i.2.set o (some (.dict (dput es key v.1)))) else .no
theorem ds_putD {o : Nat} {oe ie : Expr} {mv mi : ME} {p2 : Pos} (hu : X.A.units + 1 < cLine) (hp : PE X oe (tVar o)) (hi : DE X E false false (Γ ++ Γ0) ie mi) (hv : DE X E k false (Γ ++ Γ0) e mv) (ho : (Γ ++ Γ0).contains o = true := by decide)
    (hs : swapsWith e (some (.Subscript oe ie p2)) pos.line X.env = pure false := by rfl) : DS X E Γ0 Γ Γ Γl (.Assign [.Subscript oe ie p2] e pos) (sPutD o mv mi) :=
  PS.imp (ps_dput hu hp hi hv hs) fun D σ H ⟨M0, B, A0, ρ, hB, hA, dj, f, q⟩ => by
    have hΓ : (B ++ A0).map (·.1) = Γ ++ Γ0 := by rw [List.map_append, hB, hA]
    refine ⟨_, _, ρ, hΓ, f, pimp (post_bind q) (fun z hz v H1 f1 g1 _ r1 => ?_) fun c hc => DX.eff hc⟩
    have hm : o ∈ (B ++ A0).map (·.1) := by rw [hΓ]; exact List.contains_iff_mem.mp ho
    obtain ⟨⟨j0, a⟩, hq, e0⟩ := List.mem_map.mp hm
    obtain rfl : j0 = o := e0
    refine ⟨.ref a, (f1.own _ hq).1, _, _, z.2, hΓ, f1, pimp (post_bind hz) (fun y hy iv H2 f2 g2 _ r2 => ?_) fun c hc => DX.eff (DX.step (Stp.eff g1) hc)⟩
    obtain ⟨es, ed, hy⟩ := post_opt hy
    obtain ⟨key, ek, hy⟩ := post_opt hy
    obtain ⟨b, ys, ib, e4, e5, e6⟩ := f2.ownD hΓ ho ed
    have eb : a = b := Fit.at_same f1 f2 hq e4
    subst eb
    by_cases hl : es.length < sizeLine
    · rw [if_pos hl] at hy
      have s2 := eff_false g2
      have c : Carry X.K H2 (upd H2 a (.dK (putK ys key v))) (un M0 (B ++ A0)) (un M0 (B ++ A0)) := Carry.at (f2.sub _ ib)
      refine ⟨a, _, rfl, .inl ⟨ys, key, e5, kD_rt ek (.of r2), by rw [rpK_length e6]; exact hl, rfl⟩, ?_⟩
      have r1' : Rp X.K H2 (un M0 (B ++ A0)) v z.1 := Rp.carry (Carry.same s2) r1
      refine hy _ _ B hB ⟨(g1.eff_has.trans (Fra.of_same s2)).trans fun b' u eu n' => ?_, fun p hp => .inl (As.has_of hp)⟩ (f2.change ib (.dcK upd_same (RpK.carry c (rpK_put e6 r1'))))
      have ne : b' ≠ a := fun z' => n' (by rw [z']; exact As.has_of ib)
      rw [upd_ne ne]; exact eu
    · rw [if_neg hl] at hy; exact hy.elim
end
end Dt

set_option Elab.async false
set_option linter.all false
set_option maxRecDepth 100000
set_option autoImplicit false
/-! Comprehensions with two clauses. -/
namespace Dt
open PySem PySem.Spec PyProof.Rows L2 R

theorem Fit.merge2 {K : Fg} {M F : Av} {A : As} {σ σ3 : St} {H H' : Hp} {ρ ρ3 : Ev} {k : Bool} {vs : List Nat} (f : Fit K M A σ H ρ) (f3 : Fit K M A σ3 H' ρ3) (g : Fra F H H') (hF : ∀ b, F b → M b) (hk : k = false → ∀ q ∈ A, ¬ F q.2)
    (hv : ∀ p ∈ A, p.1 ∉ vs) (hw : L2.wipe σ3 vs = L2.wipe σ vs) : Fit K M A σ H' (mrg k ρ ρ3 vs) := by
  have c : Carry K H H' M M := Carry.fra g hF
  cases k with
  | false => exact ⟨f.len, f3.trk, f.sub, f.nd, fun p hp => let ⟨h1, d, h2, h3⟩ := f.own p hp; ⟨h1, d, h2, h3.carry c fun o e => g _ o e (hk rfl p hp)⟩, fun i d e n => let ⟨v, h1, h2⟩ := f.shr i d e n; ⟨v, h1, Rp.carry c h2⟩⟩
  | true =>
    have hl : σ3.length = σ.length := by rw [← wipe_length σ3 vs, hw, wipe_length]
    have hl2 : ρ.length = ρ3.length := by rw [← f.len, ← f3.len, hl]
    have ho : ∀ i, i ∉ vs → σ3[i]? = σ[i]? := fun i h => by rw [← wipe_out (σ := σ3) h, hw, wipe_out h]
    refine ⟨by show σ.length = (mergeE ρ ρ3 vs).length; rw [mergeE_len, ← hl2]; exact f.len, f3.trk, f3.sub, f3.nd, fun p hp => ?_, fun i d e n => ?_⟩
    · obtain ⟨h1, d, h2, h3⟩ := f3.own p hp
      exact ⟨by rw [← ho _ (hv p hp)]; exact h1, d, by show (mergeE ρ ρ3 vs)[p.1]? = _; rw [mergeE_out (hv p hp)]; exact h2, h3⟩
    · have e' : (mergeE ρ ρ3 vs)[i]? = some (some d) := e
      by_cases h : i ∈ vs
      · rw [mergeE_in hl2 h] at e'
        obtain ⟨v, g1, g2⟩ := f.shr i d e' n
        exact ⟨v, g1, Rp.carry c g2⟩
      · rw [mergeE_out h] at e'
        obtain ⟨v, g1, g2⟩ := f3.shr i d e' n
        exact ⟨v, by rw [← ho i h]; exact g1, g2⟩
theorem wipe_wipe (σ : St) (vs : List Nat) : wipe (wipe σ vs) vs = wipe σ vs := by
  apply List.ext_getElem?
  intro j
  by_cases hj : j ∈ vs
  · have h0 : ∀ τ : St, τ.length = σ.length → (wipe τ vs)[j]? = if j < σ.length then some none else none := by
      intro τ hτ
      by_cases hl : j < σ.length
      · rw [if_pos hl]
        have hl2 : j < (wipe τ vs).length := by rw [wipe_length, hτ]; exact hl
        rw [List.getElem?_eq_getElem hl2]
        cases e : (wipe τ vs)[j] with
        | none => rfl
        | some x =>
          have : (wipe τ vs)[j]? = some (some x) := by rw [List.getElem?_eq_getElem hl2, e]
          exact absurd hj (wipe_some this).2
      · rw [if_neg hl]
        exact List.getElem?_eq_none (by rw [wipe_length, hτ]; omega)
    rw [h0 _ (wipe_length _ _), h0 _ rfl]
  · rw [wipe_out hj]
/-- the list that grows -/
structure Gr (K : Fg) (M : Av) (p : Addr) (A : As) (σ : St) (H : Hp) (ρ : Ev) (acc : List V) (dacc : List D) : Prop where
  fit : Fit K (M.add p) A σ H ρ
  at_ : H p = some (.lst acc)
  rp : RpAll K H (M.add p) acc dacc
def effp (k : Bool) (A : As) (p : Addr) : Av := fun b => eff k A b ∨ b = p
theorem effp_sub {K : Fg} {M : Av} {A : As} {σ : St} {H : Hp} {ρ : Ev} {p : Addr} {k : Bool} (f : Fit K (M.add p) A σ H ρ) : ∀ b, effp k A p b → (M.add p) b := fun b z => z.elim (fun z => f.has b z.2) .inr
theorem lc_loop {K : Fg} {mg : Str → Option Value} {Γ : List Nat} {k : Bool} {g : MG} {tt : MB} {me : ME} {vs : List Nat} {J : It} {S : Av → Hp → Prop} {ds : List D} {M : Av} {A : As} {σ : St} {p : Addr} {Hs : Hp} {ρ0 : Ev} {acc0 : List V} {dacc0 : List D}
    (hΓ : A.map (·.1) = Γ) (hv' : ∀ q ∈ A, q.1 ∉ vs) (src : Src K J ds S) (nA : ∀ q ∈ A, q.2 ≠ p) (fin : Hp → Prop) (g0 : Gr K M p A σ Hs ρ0 acc0 dacc0) (s0 : S (M.add p) Hs) (hz : acc0.length + ds.length ≤ sizeLine)
    (q0 : (lcG k vs g tt me ds ρ0).nox.post (fun r => ∀ H' acc, Gr K M p A σ H' r.2 acc (dacc0 ++ r.1) → acc.length ≤ acc0.length + ds.length → Fra (effp k A p) Hs H' → (k = false → r.2 = ρ0) → fin H') (fun _ => False)) :
    ∃ W : Nat → Nat → Hp → Prop, (∃ m, W 0 m Hs) ∧ ∀ i m H, W i m H → (J.stop i H ∧ fin H) ∨ (J.go i H ∧ ∃ Nx : Hp → Prop, (∀ H', Nx H' → ∃ m', m' < m ∧ W (i + 1) m' H') ∧ ∀ x H', J.yld i H x H' → DTg K Γ vs g x (wipe σ vs) H' fun σ2 H2 => wipe σ2 vs = wipe σ vs ∧ DTb K mg E0 k Γ tt σ2 H2 fun b H3 =>
      if b = true then DT K mg E0 k false Γ me σ2 H3 fun y H4 => ∃ acc, H4 p = some (.lst acc) ∧ acc.length < sizeLine ∧ Nx (upd H4 p (.lst (acc ++ [y]))) else Nx H3) := by
  refine ⟨fun i m H1 => m = ds.length - i ∧ i ≤ ds.length ∧ ∃ acc dacc ρ1, Gr K M p A σ H1 ρ1 acc dacc ∧ Fra (effp k A p) Hs H1 ∧ (k = false → ρ1 = ρ0) ∧ S (M.add p) H1 ∧ acc.length ≤ acc0.length + i ∧
      (lcG k vs g tt me (ds.drop i) ρ1).nox.post (fun r => ∀ H' acc', Gr K M p A σ H' r.2 acc' (dacc ++ r.1) → acc'.length ≤ acc0.length + ds.length → Fra (effp k A p) Hs H' → (k = false → r.2 = ρ0) → fin H') (fun _ => False),
    ⟨_, rfl, Nat.zero_le _, acc0, dacc0, ρ0, g0, Fra.refl, fun _ => rfl, s0, by omega, by rw [List.drop_zero]; exact q0⟩, ?_⟩
  rintro i m H1 ⟨em, hle, acc, dacc, ρ1, gr, fr, e1, s1, hal, q1⟩
  have f1 := gr.fit
  have hp1 := gr.at_
  have ra := gr.rp
  by_cases hi : i < ds.length
  · obtain ⟨d, hd⟩ : ∃ d, ds[i]? = some d := ⟨_, List.getElem?_eq_getElem hi⟩
    have ed : ds.drop i = d :: ds.drop (i + 1) := by
      rw [List.drop_eq_getElem_cons hi]
      rw [List.getElem?_eq_getElem hi] at hd
      rw [Option.some.inj hd]
    rw [ed] at q1
    refine .inr ⟨src.go _ i H1 s1 hi, fun H2 => i + 1 ≤ ds.length ∧ ∃ acc dacc ρ1, Gr K M p A σ H2 ρ1 acc dacc ∧ Fra (effp k A p) Hs H2 ∧ (k = false → ρ1 = ρ0) ∧ S (M.add p) H2 ∧ acc.length ≤ acc0.length + (i + 1) ∧
      (lcG k vs g tt me (ds.drop (i + 1)) ρ1).nox.post (fun r => ∀ H' acc', Gr K M p A σ H' r.2 acc' (dacc ++ r.1) → acc'.length ≤ acc0.length + ds.length → Fra (effp k A p) Hs H' → (k = false → r.2 = ρ0) → fin H') (fun _ => False), fun H2 h => ⟨ds.length - (i + 1), by omega, rfl, h⟩, fun x H2 hy => ?_⟩
    obtain ⟨rfl, d', hd', rx⟩ := src.yld _ i H1 x H2 s1 hi hy
    rw [hd] at hd'
    cases hd'
    have q1 := (show ((g d (wipeE ρ1 vs)).nox.bind _).post _ _ from by
      have e : (lcG k vs g tt me (d :: ds.drop (i + 1)) ρ1) = ((g d (wipeE ρ1 vs)).nox.bind fun ρ1' => (tt ρ1').nox.bind fun t =>
        if t.1 = true then (me t.2).nox.bind fun y => (lcG k vs g tt me (ds.drop (i + 1)) (mrg k ρ1 y.2 vs)).bind fun r => .ok (y.1 :: r.1, r.2)
        else lcG k vs g tt me (ds.drop (i + 1)) (mrg k ρ1 t.2 vs)) := rfl
      rw [e] at q1
      have : ∀ {m : R (List D × Ev)} {P : List D × Ev → Prop}, m.nox.post P (fun _ => False) → m.post P (fun _ => False) := fun h => post_nox h
      exact this q1)
    have wp := f1.wipe hv'
    refine ⟨M.add p, A, wipeE ρ1 vs, d, hΓ, wp, rx, ?_⟩
    cases hg : g d (wipeE ρ1 vs) with
    | exc c => rw [hg] at q1; exact q1.elim
    | no => rw [hg] at q1; exact q1.elim
    | ok ρ2 =>
      rw [hg] at q1
      intro σ2 f2 hw2
      have hw2' : wipe σ2 vs = wipe σ vs := by rw [hw2]; exact wipe_wipe σ vs
      refine ⟨hw2', M.add p, A, ρ2, hΓ, f2, ?_⟩
      have q2 : ((tt ρ2).nox.bind _).post _ (fun _ => False) := q1
      refine noxp (X := fun _ => False) (pimp (post_noxbind q2) (fun t ht H3 f3 g3 e3 => ?_) fun c hc => hc)
      have ne0 : ∀ b, eff k A b → b ≠ p := fun b ⟨_, j, hb⟩ => nA (j, b) hb
      by_cases hb : t.1 = true
      · rw [if_pos hb] at ht
        refine ite_pos hb ⟨M.add p, A, t.2, hΓ, f3, noxp (X := fun _ => False) (pimp (post_noxbind ht) (fun y hy y4 H4 f4 g4 e4 r4 => ?_) fun c hc => hc)⟩
        have g14 : Fra (eff k A) H2 H4 := g3.trans g4
        have hp4 : H4 p = some (.lst acc) := g14 p _ hp1 fun z => ne0 p z rfl
        have mp : (M.add p) p := .inr rfl
        have cc : Carry K H4 (upd H4 p (.lst (acc ++ [y4]))) (M.add p) (M.add p) := Carry.at mp
        have fm := f1.merge (k := k) f4 g14 hv' hw2'
        have fu : Fit K (M.add p) A σ (upd H4 p (.lst (acc ++ [y4]))) (mrg k ρ1 y.2 vs) := ⟨fm.len, fun b mb => by
            by_cases e : b = p
            · subst e; exact ⟨_, upd_same⟩
            · rw [upd_ne e]; exact fm.trk b mb, fm.sub, fm.nd, fun q hq => let ⟨h1, d, h2, h3⟩ := fm.own q hq; ⟨h1, d, h2, h3.carry cc fun o eo => by rw [upd_ne (nA q hq)]; exact eo⟩,
          fun j d ej nj => let ⟨v, h1, h2⟩ := fm.shr j d ej nj; ⟨v, h1, Rp.carry cc h2⟩⟩
        have cr : Carry K H2 H4 (M.add p) (M.add p) := Carry.fra g14 fun b z => f1.has b z.2
        refine ⟨acc, hp4, by omega, by omega, acc ++ [y4], dacc ++ [y.1], mrg k ρ1 y.2 vs, ⟨fu, upd_same, RpAll.carry cc ((RpAll.carry cr ra).append (.one r4))⟩, ?_, ?_, ?_, by rw [List.length_append, List.length_singleton]; omega, ?_⟩
        · intro b o eo nb
          have nbp : b ≠ p := fun e => nb (.inr e)
          rw [upd_ne nbp]
          exact (g14.mono (fun b z => (.inl z : effp k A p b))) b o (fr b o eo nb) nb
        · intro n
          subst n
          exact e1 rfl
        · refine src.carry (M.add p) (M.add p) (M.add p) H2 _ s1 (fun b o eo nb => ?_) (fun b z => z) (fun b z => .inl z)
          have nbp : b ≠ p := fun e => nb (.inr e)
          rw [upd_ne nbp]
          exact g14 b o eo fun z => nb (f1.has b z.2)
        · have hy : ((lcG k vs g tt me (ds.drop (i + 1)) (mrg k ρ1 y.2 vs)).bind fun r => R.ok (y.1 :: r.1, r.2)).post _ (fun _ => False) := hy
          have hy2 := post_bind hy
          cases hl : lcG k vs g tt me (ds.drop (i + 1)) (mrg k ρ1 y.2 vs) with
          | exc c => rw [hl] at hy2; exact hy2.elim
          | no => rw [hl] at hy2; exact hy2.elim
          | ok r =>
            rw [hl] at hy2
            intro H' acc' a1 a2 a3 a4
            rw [List.append_assoc] at a1
            exact hy2 H' acc' a1 a2 a3 a4
      · rw [if_neg hb] at ht
        have g13 : Fra (eff k A) H2 H3 := g3
        have hp3 : H3 p = some (.lst acc) := g13 p _ hp1 fun z => ne0 p z rfl
        have fm := f1.merge (k := k) f3 g13 hv' hw2'
        have cr : Carry K H2 H3 (M.add p) (M.add p) := Carry.fra g13 fun b z => f1.has b z.2
        refine ite_neg hb ⟨by omega, acc, dacc, mrg k ρ1 t.2 vs, ⟨fm, hp3, RpAll.carry cr ra⟩, ?_, ?_, ?_, by omega, ?_⟩
        · exact fr.trans (g13.mono fun b z => .inl z)
        · intro n
          subst n
          exact e1 rfl
        · exact src.carry (M.add p) (M.add p) (eff k A) H2 H3 s1 g13 (fun b z => f1.has b z.2) (fun b z => .inl z)
        · cases hl : lcG k vs g tt me (ds.drop (i + 1)) (mrg k ρ1 t.2 vs) with
          | exc c => rw [hl] at ht; exact ht.elim
          | no => rw [hl] at ht; exact ht.elim
          | ok r => rw [hl] at ht; exact ht
  · have ed : ds.drop i = [] := List.drop_eq_nil_of_le (by omega)
    rw [ed] at q1
    have q1 : ∀ H' acc', Gr K M p A σ H' ρ1 acc' (dacc ++ []) → acc'.length ≤ acc0.length + ds.length → Fra (effp k A p) Hs H' → (k = false → ρ1 = ρ0) → fin H' := q1
    rw [List.append_nil] at q1
    exact .inl ⟨src.stop _ i H1 s1 (by omega), q1 H1 acc gr (by omega) fr e1⟩

/-! ### two clauses -/
def lcG2 (k : Bool) (vs vs1 : List Nat) (g : MG) (tt : MB) (mi1 : MA) (g1 : MG) (tt1 : MB) (me : ME) : Nat → List D → Ev → R (List D × Ev)
  | _, [], ρ => .ok ([], ρ)
  | c, d :: ds, ρ => (g d (wipeE ρ vs)).nox.bind fun ρ1 => (tt ρ1).nox.bind fun t =>
    if t.1 = true then (mi1 t.2).nox.bind fun x => if c + x.1.length ≤ sizeLine then (lcG k vs1 g1 tt1 me x.1 x.2).nox.bind fun r1 => (lcG2 k vs vs1 g tt mi1 g1 tt1 me (c + x.1.length) ds (mrg k ρ r1.2 vs)).bind fun r => .ok (r1.1 ++ r.1, r.2) else .no
    else lcG2 k vs vs1 g tt mi1 g1 tt1 me c ds (mrg k ρ t.2 vs)
def mLc2 (k : Bool) (mi : MA) (vs vs1 : List Nat) (g : MG) (tt : MB) (mi1 : MA) (g1 : MG) (tt1 : MB) (me : ME) : ME := fun ρ => (mi ρ).bind fun x => (lcG2 k vs vs1 g tt mi1 g1 tt1 me 0 x.1 x.2).nox.bind fun r => .ok (.list r.1, r.2)
theorem lc2_turn {K : Fg} {mg : Str → Option Value} {Γ : List Nat} {k : Bool} {E : XK} {mi mi1 : MA} {g g1 : MG} {tt tt1 : MB} {me : ME} {vs vs1 : List Nat} (hv : ∀ i ∈ vs, Γ.contains i = false) (hs : ∀ i ∈ vs1, i ∈ vs) {σ : St} {H : Hp} {Q : VK}
    (h : DTf K mg E k Γ (mLc2 k mi vs vs1 g tt mi1 g1 tt1 me) σ H Q) :
    tLc2 (DTi K mg E k Γ mi) (DTg K Γ vs g) (DTb K mg E0 k Γ tt) (DTi K mg E0 k Γ mi1) (DTg K Γ vs1 g1) (DTb K mg E0 k Γ tt1) (DT K mg E0 k false Γ me) vs vs1 σ H Q := by
  obtain ⟨M, A, ρ, hΓ, f, q⟩ := h
  have hv' : ∀ p ∈ A, p.1 ∉ vs := fun p hp hm => by
    have := hv _ hm
    have hp' : p.1 ∈ Γ := hΓ ▸ List.mem_map.mpr ⟨p, hp, rfl⟩
    rw [List.contains_iff_mem.mpr hp'] at this
    cases this
  have hv1 : ∀ p ∈ A, p.1 ∉ vs1 := fun p hp hm => hv' p hp (hs _ hm)
  refine ⟨M, A, ρ, hΓ, f, pimp (post_bind q) (fun x hx J S H0 f0 g0 e0 src s0 hsz => ?_) fun c hc => hc⟩
  obtain ⟨ds, ρ0⟩ := x
  have src : Src K J ds S := src
  have hx := post_noxbind hx
  intro p np
  have np0 : H p = none := none_back f0 g0 np
  have sp : Same H0 (upd H0 p (.lst [])) := fun b u e => by rw [upd_ne (ne_of_none e np)]; exact e
  have nA : ∀ q ∈ A, q.2 ≠ p := fun q hq e => by
    obtain ⟨o, eo⟩ := f0.trk q.2 (f0.sub q hq)
    rw [e, np] at eo; cases eo
  have ne0 : ∀ b, eff k A b → b ≠ p := fun b ⟨_, j, hb⟩ => nA (j, b) hb
  refine ⟨fun i m H1 => m = ds.length - i ∧ ∃ acc dacc ρ1 c, Gr K M p A σ H1 ρ1 acc dacc ∧ Fra (effp k A p) H0 H1 ∧ (k = false → ρ1 = ρ0) ∧ S (M.add p) H1 ∧ acc.length ≤ c ∧
      (lcG2 k vs vs1 g tt mi1 g1 tt1 me c (ds.drop i) ρ1).nox.post (fun r => ∀ p' H', H p' = none → Fit K (M.add p') A σ H' r.2 → Fra (eff k A) H H' → (k = false → r.2 = ρ) → OwnAt K H' (M.add p') p' (.list (dacc ++ r.1)) → Q (.ref p') H') (fun _ => False),
    ⟨_, rfl, [], [], ρ0, 0, ⟨f0.addM np, upd_same, .nil⟩, (fun b o eo nb => by rw [upd_ne (ne_of_none eo np)]; exact eo), fun _ => rfl, src.carry M (M.add p) (fun _ => False) H0 (upd H0 p (.lst [])) s0 (Fra.of_same sp) (fun _ z => z.elim) (fun b z => z.elim .inl fun e => .inr (by rw [e]; exact np)), Nat.le_refl _, by
      rw [List.drop_zero]
      exact pimp hx (fun r hr p' H' np' f' g' e' o' => hr p' H' np' f' g' e' o') fun c hc => hc⟩, ?_⟩
  rintro i m H1 ⟨em, acc, dacc, ρ1, c, gr, fr, e1, s1, hal, q1⟩
  have f1 := gr.fit
  have hp1 := gr.at_
  have ra := gr.rp
  by_cases hi : i < ds.length
  · obtain ⟨d, hd⟩ : ∃ d, ds[i]? = some d := ⟨_, List.getElem?_eq_getElem hi⟩
    have ed : ds.drop i = d :: ds.drop (i + 1) := by
      rw [List.drop_eq_getElem_cons hi]
      rw [List.getElem?_eq_getElem hi] at hd
      rw [Option.some.inj hd]
    rw [ed] at q1
    refine .inr ⟨src.go _ i H1 s1 hi, fun H2 => ∃ acc dacc ρ1 c, Gr K M p A σ H2 ρ1 acc dacc ∧ Fra (effp k A p) H0 H2 ∧ (k = false → ρ1 = ρ0) ∧ S (M.add p) H2 ∧ acc.length ≤ c ∧
      (lcG2 k vs vs1 g tt mi1 g1 tt1 me c (ds.drop (i + 1)) ρ1).nox.post (fun r => ∀ p' H', H p' = none → Fit K (M.add p') A σ H' r.2 → Fra (eff k A) H H' → (k = false → r.2 = ρ) → OwnAt K H' (M.add p') p' (.list (dacc ++ r.1)) → Q (.ref p') H') (fun _ => False), fun H2 h => ⟨ds.length - (i + 1), by omega, rfl, h⟩, fun x H2 hy => ?_⟩
    obtain ⟨rfl, d', hd', rx⟩ := src.yld _ i H1 x H2 s1 hi hy
    rw [hd] at hd'
    cases hd'
    have q1 := (show ((g d (wipeE ρ1 vs)).nox.bind _).post _ _ from by
      have e : (lcG2 k vs vs1 g tt mi1 g1 tt1 me c (d :: ds.drop (i + 1)) ρ1) = ((g d (wipeE ρ1 vs)).nox.bind fun ρ1' => (tt ρ1').nox.bind fun t =>
        if t.1 = true then (mi1 t.2).nox.bind fun x => if c + x.1.length ≤ sizeLine then (lcG k vs1 g1 tt1 me x.1 x.2).nox.bind fun r1 => (lcG2 k vs vs1 g tt mi1 g1 tt1 me (c + x.1.length) (ds.drop (i + 1)) (mrg k ρ1 r1.2 vs)).bind fun r => .ok (r1.1 ++ r.1, r.2) else .no
        else lcG2 k vs vs1 g tt mi1 g1 tt1 me c (ds.drop (i + 1)) (mrg k ρ1 t.2 vs)) := rfl
      rw [e] at q1
      have : ∀ {m : R (List D × Ev)} {P : List D × Ev → Prop}, m.nox.post P (fun _ => False) → m.post P (fun _ => False) := fun h => post_nox h
      exact this q1)
    have wp := f1.wipe hv'
    refine ⟨M.add p, A, wipeE ρ1 vs, d, hΓ, wp, rx, ?_⟩
    cases hg : g d (wipeE ρ1 vs) with
    | exc c => rw [hg] at q1; exact q1.elim
    | no => rw [hg] at q1; exact q1.elim
    | ok ρ2 =>
      rw [hg] at q1
      intro σ2 f2 hw2
      have hw2' : wipe σ2 vs = wipe σ vs := by rw [hw2]; exact wipe_wipe σ vs
      refine ⟨hw2', M.add p, A, ρ2, hΓ, f2, ?_⟩
      have q2 : ((tt ρ2).nox.bind _).post _ (fun _ => False) := q1
      refine noxp (X := fun _ => False) (pimp (post_noxbind q2) (fun t ht H3 f3 g3 e3 => ?_) fun c hc => hc)
      by_cases hb : t.1 = true
      · rw [if_pos hb] at ht
        refine ite_pos hb ⟨M.add p, A, t.2, hΓ, f3, noxp (X := fun _ => False) (pimp (post_noxbind ht) (fun y hy J1 S1 H4 f4 g4 e4 src1 s4 _ => ?_) fun c hc => hc)⟩
        obtain ⟨ds1, ρ4⟩ := y
        have src1 : Src K J1 ds1 S1 := src1
        by_cases hcl : c + ds1.length ≤ sizeLine
        · have hy : (if c + ds1.length ≤ sizeLine then (lcG k vs1 g1 tt1 me ds1 ρ4).nox.bind fun r1 => (lcG2 k vs vs1 g tt mi1 g1 tt1 me (c + ds1.length) (ds.drop (i + 1)) (mrg k ρ1 r1.2 vs)).bind fun r => R.ok (r1.1 ++ r.1, r.2) else .no).post _ (fun _ => False) := hy
          rw [if_pos hcl] at hy
          have g14 : Fra (eff k A) H2 H4 := g3.trans g4
          have hp4 : H4 p = some (.lst acc) := g14 p _ hp1 fun z => ne0 p z rfl
          have cr : Carry K H2 H4 (M.add p) (M.add p) := Carry.fra g14 fun b z => f1.has b z.2
          refine lc_loop (M := M) (A := A) (acc0 := acc) (dacc0 := dacc) (ρ0 := ρ4) hΓ hv1 src1 nA _ ⟨f4, hp4, RpAll.carry cr ra⟩ s4 (by omega) ?_
          have hy2 := post_noxbind hy
          cases hl1 : lcG k vs1 g1 tt1 me ds1 ρ4 with
          | exc c => rw [hl1] at hy2; exact hy2.elim
          | no => rw [hl1] at hy2; exact hy2.elim
          | ok r1 =>
            rw [hl1] at hy2
            intro H5 acc5 gr5 hl5 fr5 e5
            have g15 : Fra (effp k A p) H2 H5 := (g14.mono (fun b z => (.inl z : effp k A p b))).trans fr5
            refine ⟨acc5, dacc ++ r1.1, mrg k ρ1 r1.2 vs, c + ds1.length, ⟨f1.merge2 gr5.fit g15 (effp_sub f1) (fun n q hq z => ?_) hv' hw2', gr5.at_, gr5.rp⟩, fr.trans g15, fun n => ?_, src.carry (M.add p) (M.add p) (effp k A p) H2 H5 s1 g15 (effp_sub f1) (fun b z => .inl z), by omega, ?_⟩
            · rcases z with z | z
              · rw [n] at z; exact Bool.noConfusion z.1
              · exact nA q hq z
            · subst n; exact e1 rfl
            · have hy3 := post_bind hy2
              cases hl : lcG2 k vs vs1 g tt mi1 g1 tt1 me (c + ds1.length) (ds.drop (i + 1)) (mrg k ρ1 r1.2 vs) with
              | exc c => rw [hl] at hy3; exact hy3.elim
              | no => rw [hl] at hy3; exact hy3.elim
              | ok r =>
                rw [hl] at hy3
                intro p' H' a1 a2 a3 a4 a5
                rw [List.append_assoc] at a5
                exact hy3 p' H' a1 a2 a3 a4 a5
        · have hy : (if c + ds1.length ≤ sizeLine then (lcG k vs1 g1 tt1 me ds1 ρ4).nox.bind fun r1 => (lcG2 k vs vs1 g tt mi1 g1 tt1 me (c + ds1.length) (ds.drop (i + 1)) (mrg k ρ1 r1.2 vs)).bind fun r => R.ok (r1.1 ++ r.1, r.2) else .no).post _ (fun _ => False) := hy
          rw [if_neg hcl] at hy
          exact hy.elim
      · rw [if_neg hb] at ht
        have g13 : Fra (eff k A) H2 H3 := g3
        have hp3 : H3 p = some (.lst acc) := g13 p _ hp1 fun z => ne0 p z rfl
        have fm := f1.merge (k := k) f3 g13 hv' hw2'
        have cr : Carry K H2 H3 (M.add p) (M.add p) := Carry.fra g13 fun b z => f1.has b z.2
        refine ite_neg hb ⟨acc, dacc, mrg k ρ1 t.2 vs, c, ⟨fm, hp3, RpAll.carry cr ra⟩, fr.trans (g13.mono fun b z => .inl z), ?_, ?_, hal, ?_⟩
        · intro n
          subst n
          exact e1 rfl
        · exact src.carry (M.add p) (M.add p) (eff k A) H2 H3 s1 g13 (fun b z => f1.has b z.2) (fun b z => .inl z)
        · cases hl : lcG2 k vs vs1 g tt mi1 g1 tt1 me c (ds.drop (i + 1)) (mrg k ρ1 t.2 vs) with
          | exc c => rw [hl] at ht; exact ht.elim
          | no => rw [hl] at ht; exact ht.elim
          | ok r => rw [hl] at ht; exact ht
  · have ed : ds.drop i = [] := List.drop_eq_nil_of_le (by omega)
    rw [ed] at q1
    have q1 : ∀ p' H', H p' = none → Fit K (M.add p') A σ H' ρ1 → Fra (eff k A) H H' → (k = false → ρ1 = ρ) → OwnAt K H' (M.add p') p' (.list (dacc ++ [])) → Q (.ref p') H' := q1
    rw [List.append_nil] at q1
    have fr0 : Fra (eff k A) H0 H1 := fun b o eo nb => fr b o eo fun z => z.elim nb fun e => by rw [e, np] at eo; cases eo
    exact .inl ⟨src.stop _ i H1 s1 (by omega), q1 p H1 np0 f1 (g0.trans fr0) (fun n => (e1 n).trans (e0 n)) (.lst hp1 ra)⟩
section
variable {X : Cx} {E : XK} {k r : Bool} {Γ : List Nat} {a b c e tg elt iter tg1 iter1 : Expr} {es ifs ifs1 : List Expr} {pos : Pos}
abbrev Blk (X : Cx) (scope : Scope) (P : Cx → Prop) : Prop := ∀ (s : Shared) (H : Hp) (C : Addr) (cl : List (Str × Addr)) (fp : List Addr), P (X.blk s H scope (compEnvC scope cl C X.env) fp)
theorem df_lc2 {scope : Scope} {own : List (Str × Nat)} {vs1 : List Nat} {mi mi1 : MA} {g g1 : MG} {tt tt1 : MB} {me : ME} (hc : X.calm = true) (hN : X.N.Nodup) (hi : DI X E k Γ tg iter mi) (ok : BlkOk X.N X.env.scope scope own)
    (hg : Blk X scope fun Y => DG Y Γ (slots own) tg g) (ht : Blk X scope fun Y => DBs Y E0 k Γ ifs tt) (hi1 : Blk X scope fun Y => DI Y E0 k Γ tg1 iter1 mi1) (hg1 : Blk X scope fun Y => DG Y Γ vs1 tg1 g1) (ht1 : Blk X scope fun Y => DBs Y E0 k Γ ifs1 tt1)
    (he : Blk X scope fun Y => DE Y E0 k false Γ elt me) (hv : (slots own).all (fun i => !Γ.contains i) = true := by decide) (hv1 : ∀ i ∈ vs1, i ∈ slots own := by decide) (hs : ∀ x, foldedSetIterable iter X.env x = pure x := by intro _; rfl) (hs1 : ∀ env x, foldedSetIterable iter1 env x = pure x := by intro _ _; rfl) :
    DF X E k Γ (.ListComp elt [⟨tg, iter, ifs, 0⟩, ⟨tg1, iter1, ifs1, 0⟩] scope pos) (mLc2 k mi (slots own) vs1 g tt mi1 g1 tt1 me) :=
  PE.imp (pe_lc2 (wi := DTi X.K X.mg E k Γ mi) (g := DTg X.K Γ (slots own) g) (tt := DTb X.K X.mg E0 k Γ tt) (wi1 := DTi X.K X.mg E0 k Γ mi1) (g1 := DTg X.K Γ vs1 g1) (tt1 := DTb X.K X.mg E0 k Γ tt1) (te := DT X.K X.mg E0 k false Γ me) hc hN hi ok hv1 hg ht hi1 hg1 ht1 he hs hs1)
    fun σ H Q h => lc2_turn (fun i hi => by have := List.all_eq_true.mp hv i hi; simpa using this) hv1 h
theorem ps_lcF2 {i : Nat} {y : Str} {py spos : Pos} {scope : Scope} {own : List (Str × Nat)} {vs1 : List Nat} {mi mi1 : MA} {g g1 : MG} {tt tt1 : MB} {me : ME} (hc : X.calm = true) (hN : X.N.Nodup) (hy : X.N[i]? = some y) (hyl : X.env.scope.names.lookup y = some .local)
    (hsw : swapsWith (.ListComp elt [⟨tg, iter, ifs, 0⟩, ⟨tg1, iter1, ifs1, 0⟩] scope pos) (some (.Name y py)) spos.line X.env = pure true) (hi : DI X E k Γ tg iter mi) (ok : BlkOk X.N X.env.scope scope own)
    (hg : Blk X scope fun Y => DG Y Γ (slots own) tg g) (ht : Blk X scope fun Y => DBs Y E0 k Γ ifs tt) (hi1 : Blk X scope fun Y => DI Y E0 k Γ tg1 iter1 mi1) (hg1 : Blk X scope fun Y => DG Y Γ vs1 tg1 g1) (ht1 : Blk X scope fun Y => DBs Y E0 k Γ ifs1 tt1)
    (he : Blk X scope fun Y => DE Y E0 k false Γ elt me) (hv : (slots own).all (fun i => !Γ.contains i) = true := by decide) (hv1 : ∀ i ∈ vs1, i ∈ slots own := by decide) (hs : ∀ x, foldedSetIterable iter X.env x = pure x := by intro _; rfl) (hs1 : ∀ env x, foldedSetIterable iter1 env x = pure x := by intro _ _; rfl) :
    PS X (.Assign [.Name y py] (.ListComp elt [⟨tg, iter, ifs, 0⟩, ⟨tg1, iter1, ifs1, 0⟩] scope pos) spos) (tAsg (DTf X.K X.mg E k Γ (mLc2 k mi (slots own) vs1 g tt mi1 g1 tt1 me)) (gName i)) :=
  PS.imp (ps_setLc2 (i := i) (wi := DTi X.K X.mg E k Γ mi) (g := DTg X.K Γ (slots own) g) (tt := DTb X.K X.mg E0 k Γ tt) (wi1 := DTi X.K X.mg E0 k Γ mi1) (g1 := DTg X.K Γ vs1 g1) (tt1 := DTb X.K X.mg E0 k Γ tt1) (te := DT X.K X.mg E0 k false Γ me) hc hN hy hyl hsw hi ok hv1 hg ht hi1 hg1 ht1 he hs hs1)
    fun D σ H h => lc2_turn (fun i hi => by have := List.all_eq_true.mp hv i hi; simpa using this) hv1 h
end
end Dt

set_option Elab.async false
set_option linter.all false
set_option maxRecDepth 100000
set_option autoImplicit false
/-! A dict walked: locked meanwhile. -/
namespace Dt
open PySem PySem.Spec PyProof.Rows L2 R

def NFb (b : Bool) : HO → Bool
  | .frz _ _ => false
  | .dK _ => !b
  | .dT _ => !b
  | _ => true
structure Mv (b : Bool) (H H' : Hp) (M M' : Av) : Prop where
  rd : ∀ a u, Rd H a u → ¬ M a → NFb b u = true → Rd H' a u ∧ ¬ M' a
  tp : ∀ a xs, Tp H a xs → ¬ M a → Tp H' a xs ∧ ¬ M' a
section
variable {K : Fg} {H H' : Hp} {M M' : Av} {b : Bool}
mutual
theorem Rp.mv (c : Mv b H H' M M') : ∀ {v : V} {d : D}, Rp K H M v d → (b = true → d.plain = true) → Rp K H' M' v d
  | _, _, .non, _ => .non
  | _, _, .bl b, _ => .bl b
  | _, _, .int i, _ => .int i
  | _, _, .str x, _ => .str x
  | _, _, .lst h r, p => .lst (c.rd _ _ h.1 h.2 rfl) (RpAll.mv c r p)
  | _, _, .tup h r, p => .tup (h.imp (fun z => c.tp _ _ z.1 z.2) id) (RpAll.mv c r p)
  | _, _, .dcK h n r, p =>
    have hb : b = false := Bool.eq_false_iff.mpr fun z => Bool.noConfusion (p z)
    have nf : ∀ kvs, NFb b (.dK kvs) = true := fun _ => by rw [hb]; rfl
    .dcK (c.rd _ _ h n (nf _)).1 (c.rd _ _ h n (nf _)).2 (RpK.mv c hb r)
  | _, _, .dcT h n r, p =>
    have hb : b = false := Bool.eq_false_iff.mpr fun z => Bool.noConfusion (p z)
    have nf : ∀ kvs, NFb b (.dT kvs) = true := fun _ => by rw [hb]; rfl
    .dcT (c.rd _ _ h n (nf _)).1 (c.rd _ _ h n (nf _)).2 (RpT.mv c hb r)
  | _, _, .scr h, _ => .scr (h.imp (fun z => c.rd _ _ z.1 z.2 rfl) id)
theorem RpAll.mv (c : Mv b H H' M M') : ∀ {xs : List V} {ds : List D}, RpAll K H M xs ds → (b = true → PyData.plainAll ds = true) → RpAll K H' M' xs ds
  | _, _, .nil, _ => .nil
  | _, _, .cons h r, p => .cons (Rp.mv c h fun z => (Bool.and_eq_true_iff.mp (p z)).1) (RpAll.mv c r fun z => (Bool.and_eq_true_iff.mp (p z)).2)
theorem RpK.mv (c : Mv b H H' M M') (hb : b = false) : ∀ {kvs : List (Key × V)} {es : List (D × D)}, RpK K H M kvs es → RpK K H' M' kvs es
  | _, _, .nil => .nil
  | _, _, .cons h r => .cons (Rp.mv c h fun z => Bool.noConfusion (hb.symm.trans z)) (RpK.mv c hb r)
theorem RpT.mv (c : Mv b H H' M M') (hb : b = false) : ∀ {kvs : List (List Key × V)} {es : List (D × D)}, RpT K H M kvs es → RpT K H' M' kvs es
  | _, _, .nil => .nil
  | _, _, .cons h r => .cons (Rp.mv c h fun z => Bool.noConfusion (hb.symm.trans z)) (RpT.mv c hb r)
end
theorem OwnAt.mv {a : Addr} {d : D} (h : OwnAt K H M a d) (c : Mv false H H' M M') (e : ∀ o, H a = some o → H' a = some o) : OwnAt K H' M' a d := by
  cases h with
  | lst h r => exact .lst (e _ h) (RpAll.mv c r fun z => Bool.noConfusion z)
  | dcK h r => exact .dcK (e _ h) (RpK.mv c rfl r)
  | dcT h r => exact .dcT (e _ h) (RpT.mv c rfl r)
theorem OwnAt.nofrz {a : Addr} {d : D} {o : Obj} {u : HO} (h : OwnAt K H M a d) (e : H a = some (.frz o u)) : False := by
  cases h with
  | lst h _ => rw [h] at e; cases e
  | dcK h _ => rw [h] at e; cases e
  | dcT h _ => rw [h] at e; cases e
variable {A : As} {σ : St} {ρ : Ev} {d : Addr} {o : Obj} {u0 : HO}
/-- unlocking -/
theorem nf_lk {u : HO} (h : Lkb u = true) : NFb true u = false := by
  cases u <;> first | rfl | cases h
theorem Mv.un (hL : Lkb u0 = true) (e : H d = some (.frz o u0)) : Mv false H (upd H d u0) M M := ⟨fun a u r n f => by
  refine ⟨?_, n⟩
  by_cases ea : a = d
  · subst ea
    rcases r with r | ⟨o', r⟩
    · rw [e] at r; cases r; cases f
    · rw [e] at r; cases r; exact .inl upd_same
  · rcases r with r | ⟨o', r⟩
    · exact .inl (by rw [upd_ne ea]; exact r)
    · exact .inr ⟨o', by rw [upd_ne ea]; exact r⟩, fun a xs ⟨o', r, hd⟩ n => by
  refine ⟨⟨o', ?_, hd⟩, n⟩
  rw [upd_ne (fun ea => by rw [ea, e] at r; cases r; cases hL)]; exact r⟩
theorem Mv.unO (hL : Lkb u0 = true) (e : H d = some (.frz o u0)) : Mv true H (upd H d u0) (fun b => M b ∧ b ≠ d) M := ⟨fun a u r n f => by
  by_cases ea : a = d
  · subst ea
    rcases r with r | ⟨o', r⟩
    · rw [e] at r; cases r; cases f
    · rw [e] at r; cases r; rw [nf_lk hL] at f; cases f
  · refine ⟨?_, fun m => n ⟨m, ea⟩⟩
    rcases r with r | ⟨o', r⟩
    · exact .inl (by rw [upd_ne ea]; exact r)
    · exact .inr ⟨o', by rw [upd_ne ea]; exact r⟩, fun a xs ⟨o', r, hd⟩ n => by
  have ea : a ≠ d := fun ea => by rw [ea, e] at r; cases r; cases hL
  exact ⟨⟨o', by rw [upd_ne ea]; exact r, hd⟩, fun m => n ⟨m, ea⟩⟩⟩
/-- locking -/
theorem Carry.lock (hL : Lkb u0 = true) (e : H d = some u0) : Carry K H (upd H d (.frz o u0)) M M := ⟨fun a u r n => by
  refine ⟨?_, n⟩
  by_cases ea : a = d
  · subst ea
    rw [e] at r; cases r; exact .inr ⟨o, hL, upd_same⟩
  · exact .inl (by rw [upd_ne ea]; exact r)⟩
theorem trk_upd {o : HO} (tk : Trk M H) : Trk M (upd H d o) := fun b m => by
  by_cases e : b = d
  · subst e; exact ⟨_, upd_same⟩
  · rw [upd_ne e]; exact tk b m
theorem Fit.lock (hL : Lkb u0 = true) (f : Fit K M A σ H ρ) (e : H d = some u0) (n : ¬ M d) : Fit K M A σ (upd H d (.frz o u0)) ρ where
  len := f.len
  trk := trk_upd f.trk
  sub := f.sub
  nd := f.nd
  own := fun p hp => let ⟨h1, d', h2, h3⟩ := f.own p hp; ⟨h1, d', h2, h3.carry (Carry.lock hL e) fun o' eo => by rw [upd_ne (fun z => n (by rw [← z]; exact f.sub p hp))]; exact eo⟩
  shr := fun i d' e' n' => let ⟨v, h1, h2⟩ := f.shr i d' e' n'; ⟨v, h1, Rp.carry (Carry.lock hL e) h2⟩
theorem Fit.unlk (hL : Lkb u0 = true) (f : Fit K M A σ H ρ) (e : H d = some (.frz o u0)) : Fit K M A σ (upd H d u0) ρ where
  len := f.len
  trk := trk_upd f.trk
  sub := f.sub
  nd := f.nd
  own := fun p hp => let ⟨h1, d', h2, h3⟩ := f.own p hp; ⟨h1, d', h2, h3.mv (Mv.un hL e) fun o' eo => by rw [upd_ne (fun z => h3.nofrz (by rw [z]; exact e))]; exact eo⟩
  shr := fun i d' e' n' => let ⟨v, h1, h2⟩ := f.shr i d' e' n'; ⟨v, h1, Rp.mv (Mv.un hL e) h2 fun z => Bool.noConfusion z⟩
theorem Fra.unlk {F : Av} {H1 : Hp} (g : Fra F (upd H d (.frz o u0)) H1) (e : H d = some u0) : Fra F H (upd H1 d u0) := fun b u eb n => by
  by_cases z : b = d
  · subst z; rw [e] at eb; cases eb; exact upd_same
  · rw [upd_ne z]; exact g b u (by rw [upd_ne z]; exact eb) n
end

def FrzAt (j : Nat) (σ : St) (H : Hp) : Prop := ∃ (d : Addr) (o : Obj) (kvs : List (Key × V)), σ[j]? = some (some (.ref d)) ∧ H d = some (.frz o (.dK kvs))
def keysD (es : List (D × D)) : List D := es.map (·.1)
def iKy (j : Nat) : MA := fun ρ => (R.opt (asK (getv ρ j))).bind fun es => if es.length ≤ sizeLine then .ok (keysD es, ρ) else .no
theorem PS.or {X : Cx} {st : Stmt} {t1 t2 : TS} (h1 : PS X st t1) (h2 : PS X st t2) : PS X st (fun D σ H => t1 D σ H ∨ t2 D σ H) := ⟨fun pins s σ H D I q => q.elim (h1.run pins s σ H D I) (h2.run pins s σ H D I)⟩
theorem PE.or {X : Cx} {e : Expr} {t1 t2 : TE} (h1 : PE X e t1) (h2 : PE X e t2) : PE X e (fun σ H Q => t1 σ H Q ∨ t2 σ H Q) := ⟨fun pins s σ H Q I q => q.elim (h1.run pins s σ H Q I) (h2.run pins s σ H Q I)⟩
theorem rpK_keyAt {K : Fg} {H : Hp} {M : Av} : ∀ {kvs : List (Key × V)} {es : List (D × D)} {i : Nat} {k : Key} {v : V}, RpK K H M kvs es → kvs[i]? = some (k, v) → (keysD es)[i]? = some (kD k)
  | _, _, 0, _, _, .cons _ _, e => by cases e; rfl
  | _, _, i + 1, _, _, .cons _ r, e => rpK_keyAt (i := i) r e
theorem rp_key {K : Fg} {H : Hp} {M : Av} (k : Key) : Rp K H M (kV k) (kD k) := by
  cases k with
  | inl i => exact .int i
  | inr x => exact .str x
theorem src_keys {K : Fg} (d : Addr) (o : Obj) (kvs : List (Key × V)) (es : List (D × D)) (hl : kvs.length = es.length) (hk : ∀ (i : Nat) (k : Key) (v : V), kvs[i]? = some (k, v) → (keysD es)[i]? = some (kD k)) :
    Src K (Itk d o kvs) (keysD es) (fun M H => H d = some (.frz o (.dK kvs)) ∧ ¬ M d) where
  carry := fun M M' F H H' ⟨h1, h2⟩ g hF hM => ⟨g d _ h1 fun z => h2 (hF d z), fun z => (hM d z).elim h2 fun e => by rw [h1] at e; cases e⟩
  go := fun M i H ⟨h1, h2⟩ hi => ⟨h1, by rw [hl]; simpa [keysD] using hi⟩
  stop := fun M i H ⟨h1, h2⟩ hi => ⟨h1, by rw [hl]; simpa [keysD] using hi⟩
  yld := fun M i H x H' ⟨h1, h2⟩ _ ⟨e, k, v, hx, ex⟩ => ⟨e, kD k, hk i k v hx, by rw [ex]; exact rp_key k⟩
section
variable {X : Cx} {E : XK} {k r : Bool} {Γ0 Γ Γ' Γl vs : List Nat} {a b c e tg o : Expr} {es : List Expr} {pos : Pos} {st : Stmt}
theorem di_keys {j : Nat} (hp : PE X o (tVar j)) (hj : Γ.contains j = false) : PI X tg o (fun σ H R => FrzAt j σ H ∧ DTi X.K X.mg E k Γ (iKy j) σ H R) :=
  PI.imp (pi_keys hp) fun σ H R ⟨fz, M, A, ρ, hΓ, f, q⟩ => by
    obtain ⟨es, ees, q⟩ := post_opt q
    obtain ⟨d, ob, kvs, e1, e2⟩ := fz
    cases hg : getv ρ j with
    | none => rw [hg] at ees; cases ees
    | some x =>
      rw [hg] at ees
      obtain ⟨ex, fl⟩ := asDict_some ees
      rw [ex] at hg
      obtain ⟨v, ev, rv⟩ := f.shr j _ (getv_some hg) (not_own hΓ hj)
      rw [e1] at ev
      cases ev
      obtain ⟨d', kvs', ed, rd, nd, rk⟩ := Rp.dict rv fl
      cases ed
      have ek : kvs' = kvs := by
        rcases rd with rd | ⟨o', rd⟩
        · rw [e2] at rd; cases rd
        · rw [e2] at rd; cases rd; rfl
      subst ek
      by_cases hl : es.length ≤ sizeLine
      · rw [if_pos hl] at q
        exact ⟨.ref d, e1, d, ob, rfl, .inl ⟨kvs', e2, q _ _ H f Fra.refl (fun _ => rfl) (src_keys d ob kvs' es (rpK_length rk) fun i k v h => rpK_keyAt rk h) ⟨e2, nd⟩ (by simpa [keysD] using hl)⟩⟩
      · rw [if_neg hl] at q; exact q.elim
/-! ### statements -/
def sLk (j : Nat) (m : MS) : MS := fun ρ => (R.opt (asK (getv ρ j))).bind fun _ => (m ρ).nox
theorem slot_dict {K : Fg} {M : Av} {A : As} {σ : St} {H : Hp} {ρ : Ev} {Γ : List Nat} {j : Nat} {es : List (D × D)} (hΓ : A.map (·.1) = Γ) (f : Fit K M A σ H ρ) (hj : Γ.contains j = false) (ees : asK (getv ρ j) = some es) :
    ∃ d kvs, σ[j]? = some (some (.ref d)) ∧ Rd H d (.dK kvs) ∧ ¬ M d ∧ RpK K H M kvs es := by
  cases hg : getv ρ j with
  | none => rw [hg] at ees; cases ees
  | some x =>
    rw [hg] at ees
    obtain ⟨ex, fl⟩ := asDict_some ees
    rw [ex] at hg
    obtain ⟨v, ev, rv⟩ := f.shr j _ (getv_some hg) (not_own hΓ hj)
    obtain ⟨d', kvs', ed, rd, nd, rk⟩ := Rp.dict rv fl
    subst ed
    exact ⟨d', kvs', ev, rd, nd, rk⟩
theorem ds_lockS {j : Nat} {m : MS} (h : PS X st (fun D σ H => FrzAt j σ H ∧ DTs X.K X.mg E Γ0 Γ Γ' Γl m D σ H)) (hj : (Γ ++ Γ0).contains j = false) : DS X E Γ0 Γ Γ' Γl st (sLk j m) :=
  PS.imp (PS.or h (ps_lock h)) fun D σ H ⟨M0, B, A0, ρ, hB, hA, dj, f, q⟩ => by
    have hΓ : (B ++ A0).map (·.1) = Γ ++ Γ0 := by rw [List.map_append, hB, hA]
    obtain ⟨es, ees, q⟩ := post_opt q
    obtain ⟨d, kvs, ev, rd, nd, rk⟩ := slot_dict hΓ f hj ees
    have q : (m ρ).nox.post _ _ := q
    rcases rd with rd | ⟨o', rd⟩
    · refine .inr ⟨d, .dK kvs, rd, True.intro, fun od => ⟨⟨d, od, kvs, ev, upd_same⟩, M0, B, A0, ρ, hB, hA, dj, Fit.lock rfl f rd nd, ?_⟩⟩
      have nh : ¬ As.has (B ++ A0) d := fun z => nd (.inr z)
      cases hm : m ρ with
      | exc c => rw [hm] at q; exact q.elim
      | no => rw [hm] at q; exact q.elim
      | ok z =>
        rw [hm] at q
        obtain ⟨fl, ρ'⟩ := z
        have stp : ∀ {B' : As} {H' : Hp}, Stp B A0 B' (upd H d (.frz od (.dK kvs))) H' → H' d = some (.frz od (.dK kvs)) ∧ Stp B A0 B' H (upd H' d (.dK kvs)) := fun s => by
          refine ⟨s.fra d _ upd_same nh, s.fra.unlk rd, fun p hp => (s.new p hp).imp id fun e => ?_⟩
          by_cases z : p.2 = d
          · rw [z, upd_same] at e; cases e
          · rw [upd_ne z] at e; exact e
        cases fl with
        | nx => exact fun σ' H' B' e s f' => let ⟨e1, s1⟩ := stp s; ⟨e1, q σ' _ B' e s1 (Fit.unlk rfl f' e1)⟩
        | bk => exact fun σ' H' B' e s f' => let ⟨e1, s1⟩ := stp s; ⟨e1, q σ' _ B' e s1 (Fit.unlk rfl f' e1)⟩
        | ct => exact fun σ' H' B' e s f' => let ⟨e1, s1⟩ := stp s; ⟨e1, q σ' _ B' e s1 (Fit.unlk rfl f' e1)⟩
        | rt d2 =>
          intro v H' g r ow
          have e1 : H' d = some (.frz od (.dK kvs)) := g d _ upd_same nh
          refine ⟨e1, q v _ (g.unlk rd) (Rp.mv (Mv.un rfl e1) r fun z => Bool.noConfusion z) fun p hp => ?_⟩
          obtain ⟨d', h1, h2⟩ := ow p hp
          exact ⟨d', h1, h2.mv (Mv.un rfl e1) fun o eo => by rw [upd_ne (fun z => h2.nofrz (by rw [z]; exact e1))]; exact eo⟩
    · exact .inl ⟨⟨d, o', kvs, ev, rd⟩, M0, B, A0, ρ, hB, hA, dj, f, post_nox q⟩
/-- for x in d -/
theorem ds_forK {j : Nat} {iter : Expr} {body : List Stmt} {g : MG} {mb : MS} (hp : PassesOwn (model X.prog X.w) X.A X.env X.xe) (hc : X.calm = true) (hi : PE X iter (tVar j)) (hg : DG X (Γ ++ Γ0) vs tg g) (hb : DSs X E Γ0 Γ Γ Γ body mb) (hj : (Γ ++ Γ0).contains j = false := by decide)
    (hs : ∀ x, foldedSetIterable iter X.env x = pure x := by intro _; rfl) : DS X E Γ0 Γ Γ Γl (.For tg iter body [] pos) (sLk j (sForE (iKy j) g mb)) :=
  ds_lockS (PS.imp (ps_for hp hc (di_keys (E := E) (k := false) hi hj) hg hb hs) fun D σ H h => ⟨h.1, for_turn h.2⟩) hj
/-! ### comprehensions -/
def mLk (j : Nat) (m : ME) : ME := fun ρ => (R.opt (asK (getv ρ j))).bind fun _ => (m ρ).nox
theorem lock_turn {K : Fg} {mg : Str → Option Value} {j : Nat} {m : ME} {σ : St} {H : Hp} {Q : VK} (hj : Γ.contains j = false) (h : DTf K mg E k Γ (mLk j m) σ H Q) :
    (FrzAt j σ H ∧ DTf K mg E k Γ m σ H Q) ∨ tLockE (fun σ H Q => FrzAt j σ H ∧ DTf K mg E k Γ m σ H Q) σ H Q := by
  obtain ⟨M, A, ρ, hΓ, f, q⟩ := h
  obtain ⟨es, ees, q⟩ := post_opt q
  obtain ⟨d, kvs, ev, rd, nd, rk⟩ := slot_dict hΓ f hj ees
  have q : (m ρ).nox.post _ _ := q
  rcases rd with rd | ⟨o', rd⟩
  · refine .inr ⟨d, .dK kvs, rd, True.intro, fun od => ⟨⟨d, od, kvs, ev, upd_same⟩, M, A, ρ, hΓ, Fit.lock rfl f rd nd, ?_⟩⟩
    have nh : ¬ eff k A d := fun z => nd (f.has d z.2)
    cases hm : m ρ with
    | exc c => rw [hm] at q; exact q.elim
    | no => rw [hm] at q; exact q.elim
    | ok z =>
      rw [hm] at q
      intro p H' np f' g e1 ow
      have ed : H' d = some (.frz od (.dK kvs)) := g d _ upd_same nh
      have np0 : H p = none := by
        by_cases z : p = d
        · rw [z, upd_same] at np; cases np
        · rw [upd_ne z] at np; exact np
      exact ⟨ed, q p _ np0 (Fit.unlk rfl f' ed) (g.unlk rd) e1 (ow.mv (Mv.un rfl ed) fun o eo => by rw [upd_ne (fun z => ow.nofrz (by rw [z]; exact ed))]; exact eo)⟩
  · exact .inl ⟨⟨d, o', kvs, ev, rd⟩, M, A, ρ, hΓ, f, post_nox q⟩
/-- .. over an own dict: what comes has no dict -/
def mLkO (j : Nat) (m : ME) : ME := fun ρ => (R.opt (asK (getv ρ j))).bind fun _ => (m ρ).nox.bind fun z => if z.1.plain then .ok z else .no
theorem lockO_turn {K : Fg} {mg : Str → Option Value} {j : Nat} {m : ME} {σ : St} {H : Hp} {Q : VK} (hj : Γ.contains j = true) (hΓ' : Γ' = Γ.filter (fun i => !(i == j))) (h : DT K mg E false false Γ (mLkO j m) σ H Q) :
    tLockE (fun σ H Q => FrzAt j σ H ∧ DTf K mg E false Γ' m σ H Q) σ H Q := by
  obtain ⟨M, A, ρ, hΓ, f, q⟩ := h
  obtain ⟨es, ees, q⟩ := post_opt q
  obtain ⟨d, kvs, ia, ev, hd, rk⟩ := f.ownD hΓ hj ees
  have md : M d := f.sub _ ia
  refine ⟨d, .dK kvs, hd, True.intro, fun od => ⟨⟨d, od, kvs, ev, upd_same⟩, (fun b => M b ∧ b ≠ d), A.filter (fun q => !(q.1 == j)), ρ, ?_, ?_, ?_⟩⟩
  · rw [hΓ', ← hΓ, List.filter_map]; rfl
  · have ne : ∀ q ∈ A.filter (fun q => !(q.1 == j)), q.2 ≠ d ∧ q ∈ A := fun q hq => by
      obtain ⟨h1, h2⟩ := List.mem_filter.mp hq
      refine ⟨fun e => ?_, h1⟩
      have := nd_inj f.nd (i := q.1) (j := j) (a := d) (by rw [← e]; exact h1) ia
      simp [this] at h2
    have c : Carry K H (upd H d (.frz od (.dK kvs))) M (fun b => M b ∧ b ≠ d) := ⟨fun a u r n => by
      have na : a ≠ d := fun e => n (by rw [e]; exact md)
      exact ⟨.inl (by rw [upd_ne na]; exact r), fun z => n z.1⟩⟩
    refine ⟨f.len, fun b mb => trk_upd f.trk b mb.1, fun q hq => ⟨f.sub _ (ne q hq).2, (ne q hq).1⟩, ?_, fun q hq => ?_, fun i d' e n => ?_⟩
    · exact f.nd.sublist (List.Sublist.map _ List.filter_sublist)
    · obtain ⟨h1, d', h2, h3⟩ := f.own q (ne q hq).2
      exact ⟨h1, d', h2, h3.carry c fun o eo => by rw [upd_ne (ne q hq).1]; exact eo⟩
    · by_cases ei : i = j
      · subst ei
        cases hg : getv ρ i with
        | none => rw [hg] at ees; cases ees
        | some x =>
          rw [hg] at ees
          obtain ⟨ex, fl⟩ := asDict_some ees
          rw [ex] at hg
          rw [getv_some hg] at e
          cases e
          exact ⟨.ref d, ev, .dcK (.inr ⟨od, upd_same⟩) (fun z => z.2 rfl) (RpK.carry c rk)⟩
      · obtain ⟨v, h1, h2⟩ := f.shr i d' e fun a ha => n a (List.mem_filter.mpr ⟨ha, by simp [ei]⟩)
        exact ⟨v, h1, Rp.carry c h2⟩
  · have q : ((m ρ).nox.bind fun z => if z.1.plain then R.ok z else .no).post _ _ := q
    cases hm : m ρ with
    | exc c => rw [hm] at q; exact q.elim
    | no => rw [hm] at q; exact q.elim
    | ok z =>
      rw [hm] at q
      have q : (if z.1.plain then R.ok z else R.no).post _ _ := q
      by_cases hp : z.1.plain = true
      · rw [if_pos hp] at q
        intro p H' np f' g e1 ow
        have ed : H' d = some (.frz od (.dK kvs)) := g d _ upd_same fun z => Bool.noConfusion z.1
        have g2 : Same H (upd H' d (.dK kvs)) := eff_false (A := A) (Fra.mono (g.unlk hd) fun b z => Bool.noConfusion z.1)
        have ez : z.2 = ρ := e1 rfl
        have np1 : ¬ (fun b => M b ∧ b ≠ d) p := fun z => by
          obtain ⟨o', eo⟩ := f.trk p z.1
          rw [upd_ne z.2, eo] at np; cases np
        exact ⟨ed, q _ _ (by rw [ez]; exact f.same g2) (Fra.of_eff g2) (fun _ => ez) (Rp.mv (Mv.unO rfl ed) (ow.rp np1) fun _ => hp)⟩
      · rw [if_neg hp] at q; exact q.elim
end
end Dt

set_option Elab.async false
set_option linter.all false
set_option maxRecDepth 100000
set_option autoImplicit false
/-! index, count, isinstance, constants, two names at once. -/
namespace Dt
open PySem PySem.Spec PyProof.Rows L2 R

/-! ### a method of lists and tuples -/
def isSq : D → Option (Bool × List D)
  | .list ds => some (false, ds)
  | .tuple ds => some (true, ds)
  | _ => none
def Sqo (K : Fg) (H : Hp) (M : Av) (x : V) (b : Bool) (ds : List D) : Prop := ∃ a xs, x = .ref a ∧ (match b with | false => Rd H a (.lst xs) | true => STm K H M a xs) ∧ RpAll K H M xs ds
theorem Rt.sqo {K : Fg} {H : Hp} {M : Av} {x : V} {d : D} {b : Bool} {ds : List D} (h : Rt K H M x d) (e : isSq d = some (b, ds)) : Sqo K H M x b ds := by
  cases d with
  | list l => cases e; obtain ⟨a, xs, e1, r1, a1⟩ := h.list; exact ⟨a, xs, e1, r1, a1⟩
  | tuple l => cases e; obtain ⟨a, xs, e1, r1, a1⟩ := h.tuple; exact ⟨a, xs, e1, r1, a1⟩
  | _ => cases e
section
variable {X : Cx} {pins : List (Addr × Obj)} {σ : St} {H : Hp} {s : Shared} {M : Av}
theorem sqo_at {x : V} {v : Value} {b : Bool} {ds : List D} (I : Inv X pins σ H s) (rx : RelV x v) (h : Sqo X.K H M x b ds) :
    s.TypeIs v (if b then "tuple" else "list") ∧ (∀ a, v = .ref a → ∃ ob, s.heap.get? a = some ob ∧ ob.dict = none) ∧
    ∃ (a : Addr) (its : List Value) (xs : List V) (n : Nat) (sl : Array (Option Value)), v = .ref a ∧ Vals xs its ∧ RpAll X.K H M xs ds ∧ xs.length ≤ sizeLine ∧ s.heap.get? a = some { cls := .type (if b then "tuple" else "list"), dict := none, data := .seq its.toArray n, slots := sl } := by
  obtain ⟨a, xs, rfl, hb, ra⟩ := h
  obtain rfl : v = Value.ref a := rx
  cases b with
  | false =>
    obtain ⟨hl, its, n, rv, _, ho⟩ := Inv.lstR I (show Rd H a (.lst xs) from hb)
    exact ⟨⟨_, ho, rfl⟩, fun c e => by cases e; exact ⟨_, ho, rfl⟩, a, its, xs, n, #[], rfl, rv, ra, hl, ho⟩
  | true =>
    suffices fin : ∃ (o : Obj) (its : List Value) (n : Nat), s.heap.get? a = some o ∧ o.dict = none ∧ o.cls = .type "tuple" ∧ o.data = .seq its.toArray n ∧ Vals xs its ∧ xs.length ≤ sizeLine by
      obtain ⟨⟨cls, dd, dt, sl⟩, its, n, ho, hd, hc, hs, rv, hl⟩ := fin
      simp only at hd hc hs
      subst hd hc hs
      exact ⟨⟨_, ho, rfl⟩, fun c e => by cases e; exact ⟨_, ho, rfl⟩, a, its, xs, n, sl, rfl, rv, ra, hl, ho⟩
    rcases (show STm X.K H M a xs from hb) with ⟨⟨o, e, hd⟩, _⟩ | ⟨o, its, n, e, hd, hc, hs, hz, rv⟩
    · obtain ⟨ho, hz, its, rv, o2, h2, hc, n, hs⟩ := I.hok a _ e
      rw [ho] at h2
      cases h2
      exact ⟨o, its, n, ho, hd, hc, hs, rv, hz⟩
    · exact ⟨o, its.toList, n, I.kIn a o e, hd, hc, by rw [Array.toArray_toList]; exact hs, rv, by rw [rv.length, Array.length_toList]; exact hz⟩
end
def dPlace (ds : List D) (d : D) : Option Nat := ds.findIdx? fun y => PyData.eqv y d
def dIndex : G2 := fun x d => match isSq x with
  | some (_, ds) => if inOk d ds then (dPlace ds d).map fun j => .int (j : Nat) else none
  | none => none
def dCount : G2 := fun x d => match isSq x with
  | some (_, ds) => if inOk d ds then some (.int ((ds.countP fun y => PyData.eqv y d : Nat) : Int)) else none
  | none => none
section
variable {X : Cx} {E : XK} {k r : Bool} {Γ0 Γ Γ' Γl : List Nat} {a b c e o tg : Expr} {es : List Expr} {pos : Pos} {st : Stmt}
/-- o.m(e), o a list or a tuple -/
def rQ (K : Fg) (g : G2) (b : Bool) (x : V) (ys : List V) (H : Hp) (Q : VK) : Prop := ∃ (M : Av) (dd d : D) (ds : List D) (r : D) (y : V), Trk M H ∧ ys = [y] ∧ Sqo K H M x b ds ∧ isSq dd = some (b, ds) ∧ Rp K H M y d ∧ g dd d = some r ∧ ∀ w H', Same H H' → Rp K H' M w r → Q w H'
def MtQ (X : Cx) (m : Str) (g : G2) : Prop := ∀ b : Bool, ∃ id, Slot (if b then "tuple" else "list") m id ∧ typeOf (.builtin id) = pure (.type "method_descriptor") ∧ MtR X id (rQ X.K g b)
def tMQ (K : Fg) (g : G2) (to : TE) (ta : TA) : TE := fun σ H Q => to σ H fun x H1 => ∃ b, (∃ (M : Av) (ds : List D), Sqo K H1 M x b ds) ∧ ta σ H1 fun ys H2 => rQ K g b x ys H2 Q
theorem pe_mq {m : Str} {g : G2} {apos cpos : Pos} {to : TE} {t : TA} (hm : MtQ X m g) (ho : PE X o to) (ha : PA X [e] t)
    (hbase : attributeBase o m X.env (eval o X.env) = eval o X.env := by rfl)
    (hfew : ((backTo cpos (starEach [e] X.env)).all (fun x => !x.1) && (backToKw cpos (keywordEach [] X.env)).all (fun x => x.1.isSome)
      && decide (([e] : List Expr).length + ([] : List Keyword).length + (if ([] : List Keyword).isEmpty then 0 else 1) < 30)) = true := by rfl)
    (hline : (apos.endLine == cpos.line) = true := by rfl) (hs : starEach [e] X.env = (false, eval e X.env) :: starEach [] X.env := by rfl) (hplain : (backTo cpos (starEach [] X.env)).any (·.1) = false := by rfl) :
    PE X (.Call (.Attribute o m apos) [e] [] cpos) (tMQ X.K g to t) := by
  refine ⟨fun pins s σ H Q I h => ?_⟩
  refine wpAny_Call_method_late hbase hfew hline rfl (thn (ho.run pins s σ H _ I h) fun v s1 ⟨x, H1, I1, r1, b, ⟨M, ds, sq⟩, q1⟩ => ?_)
  obtain ⟨h1, h2, _⟩ := sqo_at I1 r1 sq
  obtain ⟨id, slot, hty, run⟩ := hm b
  refine ⟨_, id, by cases b; exact PySem.F.plainAttrs_list; exact PySem.F.plainAttrs_tuple, slot, hty, h1, h2, ?_⟩
  have hA := ha.run cpos pins s1 σ H1 _ I1 q1
  rw [hs] at hA ⊢
  refine Calls.callWith_builtin (by show (false || (backTo cpos (starEach [] X.env)).any (·.1)) = false; rw [hplain] <;> rfl) (Calls.evalArgs_plain ?_)
  exact thn hA fun us s2 ⟨vs, H2, I2, r2, q2⟩ => run pins s2 σ H2 x vs v us Q I2 r1 r2 q2
def eMQ (g : G2) (mo : ME) (ma : MA) : ME := fun ρ => (mo ρ).bind fun x => (R.opt (isSq x.1)).bind fun _ => (ma x.2).bind fun y => (R.opt (match y.1 with | [d] => g x.1 d | _ => none)).bind fun r => .ok (r, y.2)
theorem de_mq {m : Str} {g : G2} {apos cpos : Pos} {mo : ME} {ma : MA} (hm : MtQ X m g) (ho : DE X E k r Γ o mo) (ha : DA X E k false Γ [e] ma) (hk : (k && r) = false := by rfl)
    (hbase : attributeBase o m X.env (eval o X.env) = eval o X.env := by rfl)
    (hfew : ((backTo cpos (starEach [e] X.env)).all (fun x => !x.1) && (backToKw cpos (keywordEach [] X.env)).all (fun x => x.1.isSome)
      && decide (([e] : List Expr).length + ([] : List Keyword).length + (if ([] : List Keyword).isEmpty then 0 else 1) < 30)) = true := by rfl)
    (hline : (apos.endLine == cpos.line) = true := by rfl) (hs : starEach [e] X.env = (false, eval e X.env) :: starEach [] X.env := by rfl) (hplain : (backTo cpos (starEach [] X.env)).any (·.1) = false := by rfl) :
    DE X E k false Γ (.Call (.Attribute o m apos) [e] [] cpos) (eMQ g mo ma) :=
  PE.imp (pe_mq hm ho ha hbase hfew hline hs hplain) fun σ H Q ⟨M, A, ρ, hΓ, f, h⟩ => by
    refine ⟨M, A, ρ, hΓ, f, pimp (post_bind h) (fun z hz x H1 f1 g1 e1 r1 => ?_) fun c hc => hc⟩
    obtain ⟨⟨b, ds⟩, eb, hz⟩ := post_opt hz
    refine ⟨b, ⟨M, ds, r1.t.sqo eb⟩, M, A, z.2, hΓ, f1, pimp (post_bind hz) (fun y hy ys H2 f2 g2 e2 r2 => ?_) fun c hc => DX.fra g1 hc⟩
    obtain ⟨w, ew, hy⟩ := post_opt hy
    have r1' := (Rx.fra hk f1 g2 r1).t.sqo eb
    split at ew
    · rename_i d ed
      rw [ed] at r2
      cases r2 with
      | cons c1 c2 =>
        cases c2
        exact ⟨M, z.1, d, ds, w, _, f2.trk, rfl, r1', eb, c1, ew, fun u H' s' rp => hy u H' (f2.same s') ((g1.trans g2).trans (Fra.of_eff s')) (fun n => (e2 n).trans (e1 n)) rp⟩
    · cases ew
theorem sq_reads {pins : List (Addr × Obj)} {σ : St} {H : Hp} {s : Shared} {M : Av} {xs : List V} {its : List Value} {ds : List D} (I : Inv X pins σ H s) (rv : Vals xs its) (ra : RpAll X.K H M xs ds) (p : PyData.plainAll ds = true) : ∃ as, ReadsAll s.heap its.toArray.toList ds as := by
  obtain ⟨as, h⟩ := Dp.readsAll I ds _ its (RpAll.dp ra p) rv
  exact ⟨as, by simpa using h⟩
theorem mt_index (hu : X.A.units + 110 < cLine) : MtQ X "index" dIndex := by
  intro b
  refine ⟨if b then "tuple.index" else "list.index", by cases b; exact PySem.F.slot_list_index; exact PySem.F.slot_tuple_index, by cases b; exact PySem.F.type_list_index; exact PySem.F.type_tuple_index, ?_⟩
  intro pins s σ H x ys v us Q I rx rv h
  obtain ⟨M, dd, d, ds, r, y, tk, rfl, sq, ed, rp, eg, q⟩ := h
  obtain ⟨u, rfl, ru⟩ := vals1 rv
  obtain ⟨_, _, a, its, xs, n, sl, rfl, rvv, ra, hl, ho⟩ := sqo_at I rx sq
  unfold dIndex at eg
  rw [ed] at eg
  have eg : (if inOk d ds then (dPlace ds d).map fun j => PyData.int (j : Nat) else none) = some r := eg
  by_cases hz : inOk d ds = true
  · rw [if_pos hz] at eg
    obtain ⟨h1, h2, h3⟩ := inOk_of hz
    cases ep : dPlace ds d with
    | none => rw [ep] at eg; cases eg
    | some j =>
      rw [ep] at eg
      cases eg
      obtain ⟨as, rs⟩ := sq_reads I rvv ra h1
      obtain ⟨bs, r2⟩ := Dp.reads I d y u (rp.dp h2) ru
      obtain ⟨hj, hit, hno⟩ := SeqAt.hit_at (d := d) rs h1 ep
      have hsz : its.toArray.size ≤ sizeLine := by rw [List.size_toArray, ← rvv.length]; exact hl
      have hsl := sizeLine_eq
      have items := SeqAt.items_plain (A := X.A) rs r2 h1 h2 (by omega)
      cases b with
      | false =>
        exact call_meets PySem.F.slot_list_index ⟨_, ho, rfl⟩ PySem.F.entry_list_index (PySem.F.args_list_index_2 _ _)
          (SeqAt.list_indexAt a its.toArray n none sl u (fun u => PyData.eqv (SeqAt.readOf s.heap u) d) j hj (by omega) hit hno) ⟨ho, items, ⟨.int (j : Nat), H, I.tok _, ⟨_, rfl⟩, q _ H (Same.refl _) (.int _)⟩⟩
      | true =>
        exact call_meets PySem.F.slot_tuple_index ⟨_, ho, rfl⟩ PySem.F.entry_tuple_index (PySem.F.args_tuple_index_2 _ _)
          (TI.tuple_indexAt a its.toArray n none sl u (fun u => PyData.eqv (SeqAt.readOf s.heap u) d) j hj hit hno) ⟨ho, items, ⟨.int (j : Nat), H, I.tok _, ⟨_, rfl⟩, q _ H (Same.refl _) (.int _)⟩⟩
  · rw [if_neg hz] at eg; cases eg
theorem mt_count (hu : X.A.units + 110 < cLine) : MtQ X "count" dCount := by
  intro b
  refine ⟨if b then "tuple.count" else "list.count", by cases b; exact PySem.F.slot_list_count; exact PySem.F.slot_tuple_count, by cases b; exact PySem.F.type_list_count; exact PySem.F.type_tuple_count, ?_⟩
  intro pins s σ H x ys v us Q I rx rv h
  obtain ⟨M, dd, d, ds, r, y, tk, rfl, sq, ed, rp, eg, q⟩ := h
  obtain ⟨u, rfl, ru⟩ := vals1 rv
  obtain ⟨_, _, a, its, xs, n, sl, rfl, rvv, ra, hl, ho⟩ := sqo_at I rx sq
  unfold dCount at eg
  rw [ed] at eg
  have eg : (if inOk d ds then some (PyData.int ((ds.countP fun y => PyData.eqv y d : Nat) : Int)) else none) = some r := eg
  by_cases hz : inOk d ds = true
  · rw [if_pos hz] at eg
    obtain ⟨h1, h2, h3⟩ := inOk_of hz
    cases eg
    obtain ⟨as, rs⟩ := sq_reads I rvv ra h1
    obtain ⟨bs, r2⟩ := Dp.reads I d y u (rp.dp h2) ru
    cases b with
    | false => exact SeqAt.count_list_data ⟨_, ho, rfl, _, rfl⟩ rs r2 h1 h2 (by omega) ⟨.int _, H, I.tok _, ⟨_, rfl⟩, q _ H (Same.refl _) (.int _)⟩
    | true => exact SeqAt.count_tuple_data ⟨_, ho, rfl, _, rfl⟩ rs r2 h1 h2 (by omega) ⟨.int _, H, I.tok _, ⟨_, rfl⟩, q _ H (Same.refl _) (.int _)⟩
  · rw [if_neg hz] at eg; cases eg

/-! ### isinstance -/
def dIsi (T : String) : D → Bool
  | .none => T == "NoneType"
  | .bool _ => T == "bool" || T == "int"
  | .int _ => T == "int"
  | .str _ => T == "str"
  | .list _ => T == "list"
  | .tuple _ => T == "tuple"
  | .dict _ => T == "dict"
def tyD : D → String
  | .none => "NoneType"
  | .bool _ => "bool"
  | .int _ => "int"
  | .str _ => "str"
  | .list _ => "list"
  | .tuple _ => "tuple"
  | .dict _ => "dict"
def isiTys : List String := ["int", "str", "bool", "tuple", "list", "dict"]
theorem isi_all : (["NoneType", "bool", "int", "str", "list", "tuple", "dict"].all fun a => isiTys.all fun T => decide (kitB a T = some (match a with | "NoneType" => T == "NoneType" | "bool" => T == "bool" || T == "int" | s => T == s))) = true := by decide +kernel
theorem isi_kit {T : String} (hT : isiTys.contains T = true) (d : D) : kitB (tyD d) T = some (dIsi T d) := by
  have h : ∀ a ∈ ["NoneType", "bool", "int", "str", "list", "tuple", "dict"], kitB a T = some (match a with | "NoneType" => T == "NoneType" | "bool" => T == "bool" || T == "int" | s => T == s) := fun a ha =>
    of_decide_eq_true (List.all_eq_true.mp (List.all_eq_true.mp isi_all a ha) T (List.contains_iff_mem.mp hT))
  cases d with
  | none => exact h _ (by decide)
  | bool _ => exact h "bool" (by decide)
  | int _ => exact h "int" (by decide)
  | str _ => exact h "str" (by decide)
  | list _ => exact h "list" (by decide)
  | tuple _ => exact h "tuple" (by decide)
  | dict _ => exact h "dict" (by decide)
theorem Rt.ty {K : Fg} {H : Hp} {M : Av} {v : V} {d : D} (h : Rt K H M v d) (hd : ∀ es, d = .dict es → flatK es = true) : TyX K H v (.type (tyD d)) := by
  have lst : ∀ {a : Addr} {xs : List V}, Rd H a (.lst xs) → TyX K H (.ref a) (.type "list") := fun h => by
    rcases h with h | ⟨o, h⟩
    · exact .base (.lst h)
    · exact .base (.frz h)
  have dic : ∀ {a : Addr} {kvs : List (Key × V)}, Rd H a (.dK kvs) → TyX K H (.ref a) (.type "dict") := fun h => by
    rcases h with h | ⟨o, h⟩
    · exact .base (.dK h)
    · exact .fDict h
  cases d with
  | none => obtain rfl := h.non; exact .base .non
  | bool b => obtain rfl := h.bl; exact .base (.bl b)
  | int i => obtain rfl := h.int; exact .base (.int i)
  | str x => obtain rfl := h.str; exact .base (.str x)
  | list ds => obtain ⟨a, xs, e, r, _⟩ := h.list; subst e; exact lst r
  | tuple ds =>
    obtain ⟨a, xs, e, r, _⟩ := h.tuple
    subst e
    rcases r with ⟨⟨o, e, _⟩, _⟩ | ⟨o, its, n, e, _, hc, _⟩
    · exact .fTuple e
    · exact .kTuple e hc
  | dict es =>
    obtain ⟨a, kvs, e, r, _⟩ := h.dict (hd es rfl)
    subst e
    exact dic r
def mIsi (T : String) (m : ME) : ME := fun ρ => (m ρ).bind fun x => if (match x.1 with | .dict es => flatK es | _ => true) then .ok (.bool (dIsi T x.1), x.2) else .no
theorem de_isi {m : ME} {p p2 : Pos} {T : String} {y : Str} (hT : isiTys.contains T = true) (hg : Gl X "isinstance") (hm : X.mg "isinstance" = none) (hgT : Gl X y) (hmT : X.mg y = none) (hv : bootBuiltins y = some (.type T)) (he : DE X E k r Γ e m) (hn : y ≠ "__name__" := by decide) (hdb : (y == ("__debug__" : Str)) = false := by decide)
    (hs : starEach [e, .Name y p2] X.env = (false, eval e X.env) :: starEach [.Name y p2] X.env := by rfl) (hs2 : starEach [.Name y p2] X.env = (false, eval (.Name y p2) X.env) :: starEach [] X.env := by rfl)
    (hpl : (backTo pos (starEach [.Name y p2] X.env)).any (·.1) = false := by rfl) :
    DE X E k false Γ (.Call (.Name "isinstance" p) [e, .Name y p2] [] pos) (mIsi T m) :=
  PE.imp (pe_callB call_isi hg hm (by decide +kernel) (pa_cons he (pa_cons (pe_bltn hgT hmT hv (show RelV (V.ty T) (Value.type T) from rfl) hn hdb) pa_nil hs2) hs) (by decide) (by decide) hs hpl) fun σ H Q ⟨M, A, ρ, hΓ, f, h⟩ => by
    refine ⟨M, A, ρ, hΓ, f, pimp (post_bind h) (fun z hz v H1 f1 g1 e1 r1 => ?_) fun c hc => hc⟩
    by_cases hd : (match z.1 with | .dict es => flatK es | _ => true) = true
    · rw [if_pos hd] at hz
      refine ⟨v, .ty T, .type (tyD z.1), .type T, dIsi T z.1, rfl, .ty T, r1.t.ty (fun es ee => by rw [ee] at hd; exact hd), kit_ty (isi_kit hT z.1), ?_⟩
      exact hz _ H1 f1 g1 e1 (.bl _)
    · rw [if_neg hd] at hz; exact hz.elim

/-! ### names of the module -/
theorem de_glob {x : Str} {v : V} {u : Value} {d : D} (hg : Gl X x) (hm : X.mg x = some u) (hr : RelV v u) (hp : ∀ H M, Rp X.K H M v d) (hd : (x == ("__debug__" : Str)) = false := by decide) : DE X E k false Γ (.Name x pos) (fun ρ => .ok (d, ρ)) :=
  PE.imp (pe_glob hg hm hr hd) fun σ H Q ⟨M, A, ρ, hΓ, f, h⟩ => h v H f Fra.refl (fun _ => rfl) (hp H M)

/-! ### two names at once -/
def sPar (i j : Nat) (ma : MA) : MS := fun ρ => (ma ρ).bind fun x => match x.1 with
  | [a, b] => .ok (.nx, (x.2.set i (some a)).set j (some b))
  | _ => .no
theorem ds_par {i j : Nat} {x y : Str} {ma : MA} {px py pt : Pos} {kt k2 pt2} (hc : X.calm = true) (hN : X.N.Nodup) (hi : X.N[i]? = some x) (hj : X.N[j]? = some y) (hx : X.env.scope.names.lookup x = some .local) (hy : X.env.scope.names.lookup y = some .local) (ha : DA X E k false (Γ ++ Γ0) [a, b] ma)
    (hw : swappedStores [.Tuple [.Name x px, .Name y py] kt pt] (.Tuple [a, b] k2 pt2) X.env = pure (some [x, y])) (hij : i ≠ j := by decide) (hΓi : (Γ ++ Γ0).contains i = false := by decide) (hΓj : (Γ ++ Γ0).contains j = false := by decide)
    (hs : swapsWithSole [.Tuple [.Name x px, .Name y py] kt pt] (.Tuple [a, b] k2 pt2) pos.line X.env = pure false := by rfl) :
    DS X E Γ0 Γ Γ Γl (.Assign [.Tuple [.Name x px, .Name y py] kt pt] (.Tuple [a, b] k2 pt2) pos) (sPar i j ma) :=
  PS.imp (ps_par hc hN hi hj hij hx hy ha hw hs) fun D σ H ⟨M0, B, A0, ρ, hB, hA, dj, f, q⟩ => by
    have hΓ' : (B ++ A0).map (·.1) = Γ ++ Γ0 := by rw [List.map_append, hB, hA]
    refine ⟨_, _, ρ, hΓ', f, pimp (post_bind q) (fun z hz vs H' f' g' e' r' => ?_) fun c hc => DX.eff hc⟩
    obtain ⟨ds, ρ'⟩ := z
    cases r' with
    | nil => exact hz.elim
    | cons r1 r2 =>
      cases r2 with
      | nil => exact hz.elim
      | cons r3 r4 =>
        cases r4 with
        | cons _ _ => exact hz.elim
        | nil => exact ⟨_, _, rfl, hz _ H' B hB (Stp.eff g') ((f'.set (not_own hΓ' hΓi) r1).set (not_own hΓ' hΓj) r3)⟩
end
end Dt

set_option Elab.async false
set_option linter.all false
set_option maxRecDepth 100000
set_option autoImplicit false
/-! Defs that give a new object. -/
namespace Dt
open PySem PySem.Spec PyProof.Rows L2 R

theorem Fit.to {K : Fg} {M M' : Av} {A : As} {σ : St} {H H' : Hp} {ρ : Ev} (f : Fit K M A σ H ρ) (c : Carry K H H' M M') (s : ∀ q ∈ A, ∀ o, H q.2 = some o → H' q.2 = some o) (hM : ∀ q ∈ A, M' q.2) (tk : Trk M' H') : Fit K M' A σ H' ρ :=
  ⟨f.len, tk, hM, f.nd, fun q hq => let ⟨h1, d, h2, h3⟩ := f.own q hq; ⟨h1, d, h2, h3.carry c (s q hq)⟩, fun i d e n => let ⟨v, h1, h2⟩ := f.shr i d e n; ⟨v, h1, Rp.carry c h2⟩⟩
def runFr (n N : Nat) (body : MS) (ds : List D) : R D := if ds.length = n then (body (startE n N ds)).bind fun z => match z.1 with
    | .rt d => .ok d
    | _ => .no
  else .no
def spFr (K : Fg) (mg : Str → Option Value) (fn : List D → R D) : Sp := fun vs H Q E => ∃ (M0 : Av) (ds : List D), Trk M0 H ∧ RpAll K H M0 vs ds ∧
  (fn ds).post (fun d => ∀ p H', H p = none → Same H H' → OwnAt K H' (M0.add p) p d → Q (.ref p) H') (fun c => ∀ C H', mg c = some (.ref C) → Same H H' → E (.ref C) none H')
section
variable {X : Cx} {E : XK} {k r : Bool} {Γ0 Γ Γ' Γ1 Γ2 Γl : List Nat} {a b c e : Expr} {es : List Expr} {pos p : Pos} {x : Str} {f : Addr} {fd : FuncData} {ps : List Str} {kf : Nat} {st : Stmt} {rest : List Stmt}
theorem fr_turn {K : Fg} {mg : Str → Option Value} {fn : List D → R D} {σ : St} {H : Hp} {Q : VK} {M : Av} {A : As} {ρ : Ev} {z : List D × Ev} {vs : List V} {H1 : Hp} (fi : Fit K M A σ H ρ) (f1 : Fit K M A σ H1 z.2) (g1 : Fra (eff k A) H H1) (e1 : k = false → z.2 = ρ) (r1 : RpAll K H1 M vs z.1)
    (hz : ((fn z.1).bind fun d => R.ok (d, z.2)).post (fun z => ∀ p H', H p = none → Fit K (M.add p) A σ H' z.2 → Fra (eff k A) H H' → (k = false → z.2 = ρ) → OwnAt K H' (M.add p) p z.1 → Q (.ref p) H') (DX mg E (eff k A) H)) : spFr K mg fn vs H1 Q E := by
  refine ⟨M, z.1, f1.trk, r1, pimp (post_bind hz) (fun d hd p H' np s' ow => ?_) fun c hc C H' hC s' => hc C H' hC (g1.trans (Fra.of_eff s'))⟩
  have c : Carry K H1 H' M (M.add p) := (Carry.add np).trans (Carry.same s')
  have tk : Trk (M.add p) H' := fun b mb => mb.elim (f1.trk.same s' b) fun e => by rw [e]; exact ow.there
  exact hd p H' (none_back f1 g1 np) (f1.to c (fun q hq o eo => s' _ _ eo) (fun q hq => .inl (f1.sub q hq)) tk) (g1.trans (Fra.of_eff s')) e1 ow
theorem df_callF {fn : List D → R D} {m : MA} (F : FnOk X.prog X.w X.K X.mg X.base (L2.CX X.prog X.w) kf f fd ps (spFr X.K X.mg fn)) (hr : Room kf X.A) (hg : Gl X x) (hm : X.mg x = some (.ref f)) (hk : PySem.W.keepIn X.K (.ref f) = true) (hb : Binds X.K fd ps []) (hx : Passes (L2.CX X.prog X.w) X E)
    (ha : DA X E k false Γ (e :: es) m) (hdb : (x == ("__debug__" : Str)) = false := by decide) (he : starEach (e :: es) X.env = (false, eval e X.env) :: starEach es X.env := by rfl) (hpl : (backTo pos (starEach es X.env)).any (·.1) = false := by rfl) :
    DF X E k Γ (.Call (.Name x p) (e :: es) [] pos) (mCallF fn m) :=
  PE.imp (pe_call F hr hg hm hk hb .nil hx ha hdb he hpl) fun σ H Q ⟨M, A, ρ, hΓ, fi, h⟩ => by
    refine ⟨M, A, ρ, hΓ, fi, pimp (post_bind h) (fun z hz vs H1 f1 g1 e1 r1 => ?_) (fun c hc => hc)⟩
    show spFr X.K X.mg fn (vs ++ []) H1 Q E
    rw [List.append_nil]
    exact fr_turn fi f1 g1 e1 r1.all hz
/-! ### the block of such a def -/
def DTsF (K : Fg) (mg : Str → Option Value) (E : XK) (Γ : List Nat) (m : MS) : TS := fun D σ H =>
  ∃ (M0 : Av) (B : As) (ρ : Ev), B.map (·.1) = Γ ∧ (∀ p ∈ B ++ [], ¬ M0 p.2) ∧ Fit K (un M0 (B ++ [])) (B ++ []) σ H ρ ∧
    (m ρ).post (fun z => match z.1 with | .rt d => ∀ p H', (As.has B p ∨ H p = none) → Fra (As.has B) H H' → OwnAt K H' (M0.add p) p d → D.rt (.ref p) H' | _ => False) (DX mg E (As.has B) H)
def DSf (X : Cx) (E : XK) (Γ : List Nat) (sts : List Stmt) (m : MS) : Prop := PSs X sts (DTsF X.K X.mg E Γ m)
def sSeqF (m m' : MS) : MS := fun ρ => (m ρ).bind fun z => match z.1 with
  | .nx => m' z.2
  | _ => .no
theorem hasNil {B : As} : ∀ b, As.has (B ++ []) b ↔ As.has B b := fun b => by rw [List.append_nil]
theorem dsf_cons {m m' : MS} (h1 : DS X E [] Γ Γ1 [] st m) (h2 : DSf X E Γ1 rest m') : DSf X E Γ (st :: rest) (sSeqF m m') :=
  PSs.imp (pss_cons h1 h2) fun D σ H ⟨M0, B, ρ, hB, dj, f, q⟩ => by
    refine ⟨M0, B, [], ρ, hB, rfl, dj, f, pimp (post_bind q) (fun z hz => ?_) fun c hc C H' e g => hc C H' e (g.mono fun b z => (hasNil b).mp z)⟩
    obtain ⟨fl, ρ'⟩ := z
    cases fl with
    | nx =>
      intro σ' H' B' e s f'
      have hz : (m' ρ').post _ _ := hz
      refine ⟨M0, B', ρ', e, s.apart dj f.trkM, f', pimp hz (fun z2 h => ?_) fun c hc C H2 e2 g => hc C H2 e2 ((s.fra_trans (g.mono fun b z => (hasNil b).mpr z)).mono fun b z => (hasNil b).mp z)⟩
      obtain ⟨fl2, ρ2⟩ := z2
      cases fl2 with
      | rt d =>
        intro p H2 hp g ow
        refine h p H2 ?_ ((s.fra_trans (g.mono fun b z => (hasNil b).mpr z)).mono fun b z => (hasNil b).mp z) ow
        rcases hp with ⟨i, hp⟩ | hp
        · exact (s.new (i, p) hp)
        · cases e3 : H p with
          | none => exact .inr rfl
          | some o =>
            by_cases n : As.has (B ++ []) p
            · exact .inl ((hasNil p).mp n)
            · have := s.fra p o e3 n
              rw [hp] at this; cases this
      | nx => exact h.elim
      | bk => exact h.elim
      | ct => exact h.elim
    | rt d => exact hz.elim
    | bk => exact hz.elim
    | ct => exact hz.elim
theorem dsf_free {sts : List Stmt} {m : MS} (h : DSf X E Γ1 sts m) (hs : Γ1.Sublist Γ := by decide) : DSf X E Γ sts m :=
  PSs.imp h fun D σ H ⟨M0, B, ρ, hB, dj, f, q⟩ => by
    obtain ⟨B', s1, s2⟩ := sublist_of_map (B := B) (by rw [hB]; exact hs)
    have hh : ∀ b, As.has B' b → As.has B b := fun b ⟨i, z⟩ => ⟨i, s1.subset z⟩
    have st : Stp B [] B' H H := ⟨Fra.refl, fun p hp => .inl (As.has_of (s1.subset hp))⟩
    refine ⟨M0, B', ρ, s2, st.apart dj f.trkM, f.less dj s1, pimp q (fun z hz => ?_) fun c hc C H2 e2 g => hc C H2 e2 (g.mono hh)⟩
    obtain ⟨fl, ρ'⟩ := z
    cases fl with
    | rt d => exact fun p H2 hp g ow => hz p H2 (hp.imp (hh p) id) (g.mono hh) ow
    | nx => exact hz
    | bk => exact hz
    | ct => exact hz
/-- return x, an own object -/
theorem dsf_ret {i : Nat} (he : PE X e (tVar i)) (hi : Γ.contains i = true := by decide) : DSf X E Γ [.Return (some e) pos] (sRet (var i)) :=
  PSs.imp (pss_one (ps_ret he)) fun D σ H ⟨M0, B, ρ, hB, dj, f, q⟩ => by
    have e0 : sRet (var i) ρ = ((R.opt (getv ρ i)).bind fun d => R.ok (Fl.rt d, ρ)) := by
      unfold sRet var
      cases getv ρ i <;> rfl
    rw [e0] at q
    obtain ⟨d, ed, q2⟩ := post_opt q
    have q3 : ∀ p H', (As.has B p ∨ H p = none) → Fra (As.has B) H H' → OwnAt X.K H' (M0.add p) p d → D.rt (.ref p) H' := q2
    have hm : i ∈ B.map (·.1) := by rw [hB]; exact List.contains_iff_mem.mp hi
    obtain ⟨⟨j, a⟩, hq, e0⟩ := List.mem_map.mp hm
    obtain rfl : j = i := e0
    obtain ⟨o1, d1, o2, o3⟩ := f.own (j, a) (List.mem_append_left _ hq)
    rw [getv_some ed] at o2
    cases o2
    refine ⟨.ref a, o1, q3 a H (.inl (As.has_of hq)) Fra.refl (o3.carry (Carry.weak fun b z => z.elim .inl fun e => .inr ?_) fun _ e => e)⟩
    rw [e]
    exact (hasNil a).mpr (As.has_of hq)
/-- return of a new thing -/
theorem dsf_retE {m : ME} (he : DF X E k Γ e m) : DSf X E Γ [.Return (some e) pos] (sRet m) :=
  PSs.imp (pss_one (ps_ret he)) fun D σ H ⟨M0, B, ρ, hB, dj, f, q⟩ => by
    refine ⟨_, _, ρ, by rw [List.map_append, hB]; exact List.append_nil _, f, pimp (post_bind q) (fun z hz p H' np f' g e' ow => ?_) fun c hc C H' e' g => hc C H' e' (g.mono fun b z => (hasNil b).mp z.2)⟩
    refine hz p H' (.inr np) (g.mono fun b z => (hasNil b).mp z.2) (ow.carry (Carry.weak fun b z => z.elim (fun z => .inl (.inl z)) .inr) fun _ e => e)
end
section
variable {P : Program} {w : World} {K : Fg} {mg : Str → Option Value} {base : Heap} {x qual : Str} {params : Arguments} {body : List Stmt} {scope : Scope} {f : Addr} {fd : FuncData} {N ps : List Str} {k : Nat}
theorem fn_fresh {mb : MS} (F : FunD K x qual params body scope [] [] f fd) (S : FnScope N ps scope) (hN : ps.length ≤ N.length) (hb : Bdy P w K mg base N qual scope f k fun X E => DSf X E [] body mb) :
    FnOk P w K mg base (L2.CX P w) (k + 1) f fd ps (spFr K mg (runFr ps.length N.length mb)) := by
  refine F.ok S (fun vs H Q E h => ?_) (fun cdv A outer s H vs Q E hr h => ?_)
  · obtain ⟨M0, ds, tk, r, q⟩ := h
    unfold runFr at q
    by_cases hl : ds.length = ps.length
    · rw [r.length, hl]
    · rw [if_neg hl] at q; exact q.elim
  · obtain ⟨M0, ds, tk, r, q⟩ := h
    refine ⟨_, hb cdv A outer s H E (cs_of hr), ?_⟩
    by_cases hl : ds.length = ps.length
    · unfold runFr at q
      rw [if_pos hl] at q
      refine ⟨M0, [], _, rfl, fun p hp => (by cases hp), startFit hl hN tk r, pimp (post_bind q) (fun z hz => ?_) fun c hc C H' hC g => hc C H' hC fun b o e => g b o e fun ⟨i, z⟩ => (by cases z)⟩
      obtain ⟨fl, ρ'⟩ := z
      cases fl with
      | rt d =>
        intro p H' hp g ow
        exact hz p H' (hp.elim (fun ⟨i, z⟩ => by cases z) id) (fun b o e => g b o e fun ⟨i, z⟩ => (by cases z)) ow
      | nx => exact hz.elim
      | bk => exact hz.elim
      | ct => exact hz.elim
    · unfold runFr at q
      rw [if_neg hl] at q; exact q.elim
end
end Dt

set_option Elab.async false
set_option linter.all false
set_option maxRecDepth 100000
set_option autoImplicit false
/-! Constants of the module, the end. -/
namespace Dt
open PySem PySem.Spec PyProof.Rows L2 R

theorem datB_ok {K : Fg} : ∀ (n : Nat) (u : Value) (d : D), datB K n u d = true → ∃ v, RelV v u ∧ ∀ H M, Rp K H M v d := by
  intro n
  induction n with
  | zero => intro u d h; cases h
  | succ n ih =>
    have all : ∀ (us : List Value) (ds : List D), (us.length == ds.length) = true → ((us.zip ds).all fun p => datB K n p.1 p.2) = true → ∃ vs, Vals vs us ∧ ∀ H M, RpAll K H M vs ds := by
      intro us
      induction us with
      | nil =>
        intro ds h1 _
        cases ds with
        | nil => exact ⟨[], .nil, fun _ _ => .nil⟩
        | cons _ _ => simp at h1
      | cons u us ih2 =>
        intro ds h1 h2
        cases ds with
        | nil => simp at h1
        | cons d ds =>
          rw [List.zip_cons_cons, List.all_cons] at h2
          obtain ⟨h3, h4⟩ := Bool.and_eq_true_iff.mp h2
          obtain ⟨v, r, p⟩ := ih u d h3
          obtain ⟨vs, rs, ps⟩ := ih2 ds (by simpa using h1) h4
          exact ⟨v :: vs, .cons r rs, fun H M => .cons (p H M) (ps H M)⟩
    intro u d h
    cases u with
    | none => cases d with
      | none => exact ⟨.non, (show RelV V.non Value.none from rfl), fun _ _ => .non⟩
      | _ => cases h
    | bool b => cases d with
      | bool c =>
        have h : (b == c) = true := h
        have e : b = c := by simpa using h
        subst e
        exact ⟨.bl b, (show RelV (V.bl b) (Value.bool b) from rfl), fun _ _ => .bl _⟩
      | _ => cases h
    | int i t => cases d with
      | int j =>
        have e : i = j := of_decide_eq_true h
        subst e
        exact ⟨.int i, (show RelV (V.int i) (Value.int i t) from ⟨t, rfl⟩), fun _ _ => .int _⟩
      | _ => cases h
    | str x t => cases d with
      | str y =>
        have e : x = y := of_decide_eq_true h
        subst e
        exact ⟨.str x, (show RelV (V.str x) (Value.str x t) from ⟨t, rfl⟩), fun _ _ => .str _⟩
      | _ => cases h
    | ref a => cases d with
      | tuple ds =>
        have h : (match K.lookup a with
          | some ⟨.type c, none, .seq its _, _⟩ => decide (c = "tuple") && (decide (its.size ≤ sizeLine) && ((its.toList.length == ds.length) && ((its.toList.zip ds).all fun p => datB K n p.1 p.2)))
          | _ => false) = true := h
        split at h
        · rename_i c its m sl q
          obtain ⟨h1, h⟩ := Bool.and_eq_true_iff.mp h
          obtain ⟨h2, h⟩ := Bool.and_eq_true_iff.mp h
          obtain ⟨h3, h4⟩ := Bool.and_eq_true_iff.mp h
          obtain ⟨vs, rs, ps⟩ := all _ _ h3 h4
          have hc := of_decide_eq_true h1
          subst hc
          exact ⟨.ref a, (show RelV (V.ref a) (Value.ref a) from rfl), fun H M => .tup (.inr ⟨_, its, m, q, rfl, rfl, rfl, of_decide_eq_true h2, rs⟩) (ps H M)⟩
        · cases h
      | _ => cases h
    | _ => cases d <;> cases h
/-- a name of the module that stands for data -/
def Con (K : Fg) (mg : Str → Option Value) (x : Str) (d : D) : Prop := ∃ u v, mg x = some u ∧ RelV v u ∧ ∀ H M, Rp K H M v d
theorem conB_ok {K : Fg} {h : Heap} {mg : Str → Option Value} {x : Str} {d : D} (X : K.In h) (G : h.Ns mainGlobals mg) (c : conB K x d = true) : Con K mg x d := by
  unfold conB at c
  split at c
  · rename_i u e
    obtain ⟨v, r, p⟩ := datB_ok _ _ _ c
    exact ⟨u, v, PySem.W.mg_of X G e, r, p⟩
  · cases c
section
variable {X : Cx} {E : XK} {k r : Bool} {Γ0 Γ Γ' Γl : List Nat} {a b c e : Expr} {es : List Expr} {pos : Pos} {st : Stmt}
theorem de_con {x : Str} {d : D} (h : Con X.K X.mg x d) (hg : Gl X x) (hd : (x == ("__debug__" : Str)) = false := by decide) : DE X E k false Γ (.Name x pos) (cst d) := by
  obtain ⟨u, v, hm, hr, hp⟩ := h
  exact de_glob hg hm hr hp hd
/-- name = [..] on one line -/
theorem ds_setF0 {i : Nat} {m : ME} (h : PS X st (tAsg (DTf X.K X.mg E k (Γ ++ Γ0) m) (gName i))) (hΓ : (Γ ++ Γ0).contains i = false := by decide) : DS X E Γ0 Γ Γ Γl st (sSet (gSet i) m) :=
  ds_set0 (PS.imp h fun D σ H ⟨M, A, ρ, hA, f, q⟩ => ⟨M, A, ρ, hA, f, pimp q (fun z hz p H' np f' g e' o => hz _ H' (f'.unadd f) g e' (o.rp (f.trk.ne np))) fun c hc => hc⟩) hΓ
/-- .. over a dict, shared, own -/
theorem ds_setLk {i j : Nat} {m : ME} (h : PS X st (tAsg (fun σ H Q => FrzAt j σ H ∧ DTf X.K X.mg E k (Γ ++ Γ0) m σ H Q) (gName i))) (hj : (Γ ++ Γ0).contains j = false := by decide) (hΓ : (Γ ++ Γ0).contains i = false := by decide) : DS X E Γ0 Γ Γ Γl st (sSet (gSet i) (mLk j m)) :=
  ds_setF0 (k := k) (PS.imp (PS.or h (ps_lock h)) fun D σ H h => lock_turn (Q := fun x H1 => gName i x σ H1 D.nx) hj h) hΓ
theorem ds_setLkO {i j : Nat} {m : ME} (h : PS X st (tAsg (fun σ H Q => FrzAt j σ H ∧ DTf X.K X.mg E false Γ' m σ H Q) (gName i))) (hj : (Γ ++ Γ0).contains j = true := by decide) (hΓ' : Γ' = (Γ ++ Γ0).filter (fun i => !(i == j)) := by rfl) (hΓ : (Γ ++ Γ0).contains i = false := by decide) :
    DS X E Γ0 Γ Γ Γl st (sSet (gSet i) (mLkO j m)) :=
  ds_set0 (E := E) (k := false) (PS.imp (ps_lock h) fun D σ H h => lockO_turn (Q := fun x H1 => gName i x σ H1 D.nx) hj hΓ' h) hΓ
theorem df_lk {j : Nat} {m : ME} (h : PE X e (fun σ H Q => FrzAt j σ H ∧ DTf X.K X.mg E k Γ m σ H Q)) (hj : Γ.contains j = false := by decide) : DF X E k Γ e (mLk j m) := PE.imp (PE.or h (pe_lock h)) fun σ H Q h => lock_turn hj h
theorem de_lkO {j : Nat} {m : ME} (h : PE X e (fun σ H Q => FrzAt j σ H ∧ DTf X.K X.mg E false Γ' m σ H Q)) (hj : Γ.contains j = true := by decide) (hΓ' : Γ' = Γ.filter (fun i => !(i == j)) := by rfl) : DE X E false false Γ e (mLkO j m) := PE.imp (pe_lock h) fun σ H Q h => lockO_turn hj hΓ' h
/-! a comprehension over a dict's keys -/
theorem pf_lcK {j : Nat} {tg elt iter : Expr} {ifs : List Expr} {scope : Scope} {own : List (Str × Nat)} {g : MG} {tt : MB} {me : ME} (hc : X.calm = true) (hN : X.N.Nodup) (hi : PE X iter (tVar j)) (ok : BlkOk X.N X.env.scope scope own)
    (hg : Blk X scope fun Y => DG Y Γ (slots own) tg g) (ht : Blk X scope fun Y => DBs Y E0 k Γ ifs tt) (he : Blk X scope fun Y => DE Y E0 k false Γ elt me) (hj : Γ.contains j = false := by decide) (hv : (slots own).all (fun i => !Γ.contains i) = true := by decide) (hs : ∀ x, foldedSetIterable iter X.env x = pure x := by intro _; rfl) :
    PE X (.ListComp elt [⟨tg, iter, ifs, 0⟩] scope pos) (fun σ H Q => FrzAt j σ H ∧ DTf X.K X.mg E k Γ (mLc k (iKy j) (slots own) g tt me) σ H Q) :=
  PE.imp (pe_lc (g := DTg X.K Γ (slots own) g) (tt := DTb X.K X.mg E0 k Γ tt) (te := DT X.K X.mg E0 k false Γ me) hc hN (di_keys (E := E) (k := k) hi hj) ok hg ht he hs) fun σ H Q h => ⟨h.1, lc_turn (fun i hi => by have := List.all_eq_true.mp hv i hi; simpa using this) h.2⟩
theorem ps_lcK {i j : Nat} {y : Str} {py spos : Pos} {tg elt iter : Expr} {ifs : List Expr} {scope : Scope} {own : List (Str × Nat)} {g : MG} {tt : MB} {me : ME} (hc : X.calm = true) (hN : X.N.Nodup) (hy : X.N[i]? = some y) (hyl : X.env.scope.names.lookup y = some .local)
    (hsw : swapsWith (.ListComp elt [⟨tg, iter, ifs, 0⟩] scope pos) (some (.Name y py)) spos.line X.env = pure true) (hi : PE X iter (tVar j)) (ok : BlkOk X.N X.env.scope scope own)
    (hg : Blk X scope fun Y => DG Y Γ (slots own) tg g) (ht : Blk X scope fun Y => DBs Y E0 k Γ ifs tt) (he : Blk X scope fun Y => DE Y E0 k false Γ elt me) (hj : Γ.contains j = false := by decide) (hv : (slots own).all (fun i => !Γ.contains i) = true := by decide) (hs : ∀ x, foldedSetIterable iter X.env x = pure x := by intro _; rfl) :
    PS X (.Assign [.Name y py] (.ListComp elt [⟨tg, iter, ifs, 0⟩] scope pos) spos) (tAsg (fun σ H Q => FrzAt j σ H ∧ DTf X.K X.mg E k Γ (mLc k (iKy j) (slots own) g tt me) σ H Q) (gName i)) :=
  PS.imp (ps_setLc (i := i) (g := DTg X.K Γ (slots own) g) (tt := DTb X.K X.mg E0 k Γ tt) (te := DT X.K X.mg E0 k false Γ me) hc hN hy hyl hsw (di_keys (E := E) (k := k) hi hj) ok hg ht he hs) fun D σ H h => ⟨h.1, lc_turn (fun i hi => by have := List.all_eq_true.mp hv i hi; simpa using this) h.2⟩
theorem gl {x : Str} (h : X.env.kindOf x = some .globalImplicit) : Gl X x := h
end
def blkB (N : List Str) (sc scope : Scope) (own : List (Str × Nat)) : Bool :=
  decide (scope.kind = .function) && (scope.names.all (fun y => decide (scope.names.lookup y.1 = some y.2)) && (own.all (fun p => decide (N[p.2]? = some p.1)) &&
    (scope.names.all (fun y => decide (y.2 ≠ .free) || (decide (sc.names.lookup y.1 = some .cell) || decide (sc.names.lookup y.1 = some .free))) &&
     scope.names.all (fun y => (decide (y.2 ≠ .local) && decide (y.2 ≠ .cell)) || ((own.map (·.1)).contains y.1 || !(N.contains y.1))))))
theorem blk_ok {N : List Str} {sc scope : Scope} {own : List (Str × Nat)} (h : blkB N sc scope own = true) : BlkOk N sc scope own := by
  obtain ⟨h1, h⟩ := Bool.and_eq_true_iff.mp h
  obtain ⟨h2, h⟩ := Bool.and_eq_true_iff.mp h
  obtain ⟨h3, h⟩ := Bool.and_eq_true_iff.mp h
  obtain ⟨h4, h5⟩ := Bool.and_eq_true_iff.mp h
  refine ⟨of_decide_eq_true h1, fun y hy => of_decide_eq_true (List.all_eq_true.mp h2 y hy), fun p hp => of_decide_eq_true (List.all_eq_true.mp h3 p hp), fun y hy e => ?_, fun y hy e => ?_⟩
  · have := List.all_eq_true.mp h4 y hy
    rcases Bool.or_eq_true_iff.mp this with z | z
    · exact absurd e (of_decide_eq_true z)
    · exact (Bool.or_eq_true_iff.mp z).imp of_decide_eq_true of_decide_eq_true
  · have := List.all_eq_true.mp h5 y hy
    rcases Bool.or_eq_true_iff.mp this with z | z
    · obtain ⟨z1, z2⟩ := Bool.and_eq_true_iff.mp z
      exact e.elim (fun e => absurd e (of_decide_eq_true z1)) fun e => absurd e (of_decide_eq_true z2)
    · rcases Bool.or_eq_true_iff.mp z with z | z
      · exact .inl (List.contains_iff_mem.mp z)
      · exact .inr fun hm => by
          rw [List.contains_iff_mem.mpr hm] at z
          cases z
/-! ### the facts of a top -/
structure Fx (fa : List He.Fa) (fn : List He.DefD) (K : Fg) (mg : Str → Option Value) : Prop where
  h : ∃ h : Heap, K.In h ∧ h.Ns mainGlobals mg
  c : He.SaysD fa fn K
section
variable {fa : List He.Fa} {fn : List He.DefD} {K : Fg} {mg : Str → Option Value}
theorem Fx.free (Z : Fx fa fn K mg) (i : Nat) {x : Str} (h : fa[i]? = some (.free x) := by rfl) : mg x = none := let ⟨_, a, b⟩ := Z.h; He.free_ok a b (Z.c.fact i h)
theorem Fx.glo (Z : Fx fa fn K mg) (i : Nat) {x : Str} (h : fa[i]? = some (.glo x) := by rfl) : mg x = some (.ref (He.ga K x)) := let ⟨_, a, b⟩ := Z.h; He.glo_ok a b (Z.c.fact i h)
/-- the law's script at the start -/
theorem law_start {K : Fg} {mg : Str → Option Value} {fn : List D → R D} {H : Hp} {a : Addr} {ns : List Int} (hS : SqL K H a (ns.map V.int)) (h : fn [scrD ns] = .ok (.bool true)) : spP K mg fn [.ref a] H (fun v _ => v = .bl true) fun _ _ _ => False := by
  refine ⟨fun _ => False, [scrD ns], fun _ z => z.elim, .one (.scr (hS.imp (fun z => ⟨z, id⟩) id)), ?_⟩
  rw [h]
  exact fun v H' _ r => (Rt.of r).bl
end
end Dt
namespace Dt
open PySem PySem.Spec PyProof.Rows L2 R
theorem Cz.rm {X : Cx} {E : XK} {k j : Nat} (z : Cz X E k) (h : j ≤ k := by omega) : Room j X.A := z.room.mono h
theorem fn_none {P : Program} {w : World} {K : Fg} {mg : Str → Option Value} {base : Heap} {k : Nat} {f : Addr} {fd : FuncData} {ps : List Str} {CX : CXT} : FnOk P w K mg base CX k f fd ps (spP K mg fun _ => .no) :=
  ⟨fun vs H Q E ⟨_, _, _, _, q⟩ => q.elim, fun A outer s H args us vs Q E _ _ _ _ ⟨_, _, _, _, q⟩ => q.elim⟩
end Dt
namespace Dt
open PySem PySem.Spec PyProof.Rows L2 R
/-- the law is walked: what it may let out hangs on the world -/
theorem walkW {l : PySem.W.OpenLaw} {m k : Nat} {pq : Program} {ls : List Str} {XP : (Str → Option Value) → Heap → Prop} {YP : World → Heap → Prop} {dr : DefRec} {C : World → CXT} {y : Str} (h1 : l.most = some m) (h2 : m ≤ sizeLine) (h3 : dr.params.defaults = []) (hr : Room k callerA)
    (F : ∀ (w : World) (g : Str → Option Value) (fa : Addr) (hp : Heap), YP w hp → hp.Ns mainGlobals g → g dr.name = some (.ref fa) → ∃ (K : Fg) (fd : FuncData) (sp : Sp), K.In hp ∧ (∀ (s : Shared) (u : Value), BindsTo s fd ⟨[u], []⟩ [(y, u)]) ∧
      (∀ (H : Hp) (a : Addr) (ns : List Int), ns.length ≤ m → SqL K H a (ns.map V.int) → sp [.ref a] H (fun v _ => v = .bl true) fun _ _ _ => False) ∧ ∀ base : Heap, K.In base → base.Ns mainGlobals g → FnOk l.prog w K g base (C w) k fa fd [y] sp)
    (hC : ∀ (w : World) (H : Hp) (s : Shared) (e : Value) (s' : Shared), C w [] H s (fun _ _ _ => False) e s' → False) : PySem.W.WalkO pq ls XP YP l.row.toRowW dr [] (fun f vs => PySem.call f vs) := by
  refine Att.attach_call h1 h3 fun w _ s1 g _ fa _ _ _ _ a us zs G Y _ _ _ k1 k2 k3 k4 k5 => ?_
  obtain ⟨K, fd, sp, X, b, q1, q2⟩ := F w g fa _ Y G.T.g k1
  refine law_call X G.T.g G.T.b G.T.builtins G.T.nolimit k5 k2 k3 (Nat.le_trans k4 h2) hr q2 b (fun H _ S => q1 H a zs k4 S) fun H e s' => hC w H s1 e s'
theorem cx_no {P : Program} {w : World} (H : Hp) (s : Shared) (e : Value) (s' : Shared) (h : L2.CX P w [] H s (fun _ _ _ => False) e s') : False := by
  obtain ⟨_, _, _, _, _, _, _, _, _, _, _, _, z⟩ := h
  exact z
end Dt

set_option Elab.async false
set_option linter.all false
set_option maxRecDepth 100000
set_option autoImplicit false
/-! More rules: new lists by +, own lists read among effects, list(d), min, max, chains. -/
namespace Dt
open PySem PySem.Spec PyProof.Rows L2 R

/-! ### xs + ys, new -/
def dCat : G2
  | .list xs, .list ys => if xs.length + ys.length ≤ sizeLine then some (.list (xs ++ ys)) else none
  | _, _ => none
def rFr (K : Fg) (g : G2) : R2 := fun x y H Q => ∃ (M : Av) (d e r : D), Trk M H ∧ Rt K H M x d ∧ Rt K H M y e ∧ g d e = some r ∧ ∀ p o, H p = none → OwnAt K (upd H p o) (M.add p) p r → Q (.ref p) (upd H p o)
theorem op_dCat {X : Cx} : OpR X (binaryOp .Add) (rFr X.K dCat) := by
  intro pins s σ H x y v u Q I rx ry h
  obtain ⟨M, d, e, r, tk, rd, re, eg, q⟩ := h
  unfold dCat at eg
  split at eg
  · split at eg
    · rename_i hz
      cases eg
      obtain ⟨a, xs, e1, r1, a1⟩ := rd.list
      obtain ⟨b, ys, e2, r2, a2⟩ := re.list
      refine op_catR pins s σ H x y v u Q I rx ry ⟨a, b, xs, ys, e1, e2, r1, r2, by rw [a1.length, a2.length]; exact hz, fun p np => q p _ np (.lst upd_same ?_)⟩
      exact RpAll.carry ((Carry.add np).trans (Carry.same fun b u e => by rw [upd_ne (ne_of_none e np)]; exact e)) (a1.append a2)
    · cases eg
  · cases eg
section
variable {X : Cx} {E : XK} {k r : Bool} {Γ0 Γ Γ' Γl : List Nat} {a b c e o tg : Expr} {es : List Expr} {pos : Pos} {st : Stmt}
theorem df_cat {ma mb : ME} {ra rb : Bool} (ha : DE X E k ra Γ a ma) (hb : DE X E k rb Γ b mb) (hk : (k && ra) = false := by rfl) : DF X E k Γ (.BinOp a .Add b pos) (mOp dCat ma mb) :=
  PE.imp (pe_op op_dCat ha hb) fun σ H Q ⟨M, A, ρ, hΓ, f, h⟩ => by
    refine ⟨M, A, ρ, hΓ, f, pimp (post_bind h) (fun z hz v1 H1 f1 g1 e1 r1 => ?_) (fun c hc => hc)⟩
    refine ⟨M, A, z.2, hΓ, f1, pimp (post_bind hz) (fun z2 hz2 v2 H2 f2 g2 e2 r2 => ?_) (fun c hc => DX.fra g1 hc)⟩
    obtain ⟨w, ew, q⟩ := post_opt hz2
    refine ⟨M, z.1, z2.1, w, f2.trk, (r1.fra hk f1 g2).t, r2.t, ew, fun p o np ow => ?_⟩
    have np1 : H1 p = none := none_back f2 g2 np
    exact q p _ (none_back f1 g1 np1) (f2.addM np) ((g1.trans g2).trans (Fra.of_eff fun b u e => by rw [upd_ne (ne_of_none e np)]; exact e)) (fun n => (e2 n).trans (e1 n)) ow
/-! ### xs[e], xs an own list or dict, e with effects -/
def mSubO (i : Nat) (g : G2) (mb : ME) : ME := fun ρ => (R.opt (getv ρ i)).bind fun _ => (mb ρ).bind fun y => (R.opt (getv y.2 i)).bind fun d => (R.opt (g d y.1)).bind fun r => .ok (r, y.2)
theorem de_subO {i : Nat} {mb : ME} {rb : Bool} (hu : X.A.units + 1 < cLine) (ho : PE X o (tVar i)) (hb : DE X E k rb Γ b mb) (hs : PlainIx b) (hi : Γ.contains i = true := by decide) : DE X E k false Γ (.Subscript o b pos) (mSubO i dIxA mb) :=
  PE.imp (pe_ix (op_dIxA hu) ho hb hs) fun σ H Q ⟨M, A, ρ, hΓ, f, h⟩ => by
    obtain ⟨d0, e0, h⟩ := post_opt h
    have hm : i ∈ A.map (·.1) := by rw [hΓ]; exact List.contains_iff_mem.mp hi
    obtain ⟨⟨j, a⟩, hq, e⟩ := List.mem_map.mp hm
    obtain rfl : j = i := e
    refine ⟨.ref a, (f.own _ hq).1, M, A, ρ, hΓ, f, pimp (post_bind h) (fun z hz v H1 f1 g1 e1 r1 => ?_) fun c hc => hc⟩
    obtain ⟨d, ed, hz⟩ := post_opt hz
    obtain ⟨w, ew, hz⟩ := post_opt hz
    obtain ⟨o1, d', o2, o3⟩ := f1.own _ hq
    rw [getv_some ed] at o2
    cases o2
    exact ⟨M, d, z.1, w, f1.trk, o3.t, r1.t, ew, fun u H' s' rp => hz u H' (f1.same s') (g1.trans (Fra.of_eff s')) e1 rp⟩
/-! ### list(d) -/
def dListA : GA
  | [.dict es] => if flatK es then some (.list (keysD es)) else none
  | xs => dList xs
theorem rpK_keys {K : Fg} {H : Hp} {M : Av} : ∀ {kvs : List (Key × V)} {es : List (D × D)}, RpK K H M kvs es → RpAll K H M (kvs.map fun kv => kV kv.1) (keysD es)
  | _, _, .nil => .nil
  | _, _, .cons h r => .cons (rp_key _) (rpK_keys r)
theorem dListA_or (ds : List D) : (∃ es, ds = [.dict es]) ∨ dListA ds = dList ds := by
  unfold dListA
  split
  · exact .inl ⟨_, rfl⟩
  · exact .inr rfl
theorem call_dListA (hc : X.calm = true) : CallR X (.type "list") (rC X.K dListA) := by
  intro pins s σ H vs us Q I rv h
  obtain ⟨M, ds, r, tk, rx, eg, q⟩ := h
  rcases dListA_or ds with ⟨es, rfl⟩ | e
  · have eg : (if flatK es then some (PyData.list (keysD es)) else none) = some r := eg
    by_cases fl : flatK es = true
    · rw [if_pos fl] at eg
      cases eg
      obtain ⟨v, rfl, rd⟩ := rx1 rx
      obtain ⟨a, kvs, e1, r1, r2⟩ := rd.dict fl
      subst e1
      exact call_listD hc pins s σ H _ us Q I rv ⟨a, kvs, rfl, r1, fun p np => let ⟨s', rp⟩ := new_lst tk np (rpK_keys r2); q _ _ s' rp⟩
    · rw [if_neg fl] at eg; cases eg
  · exact call_dList pins s σ H vs us Q I rv ⟨M, ds, r, tk, rx, e ▸ eg, q⟩
/-! ### max, min of whole numbers -/
def imax : List Int → Option Int
  | [] => none
  | x :: xs => some (xs.foldl max x)
def imin : List Int → Option Int
  | [] => none
  | x :: xs => some (xs.foldl min x)
theorem foldl_max (xs : List Int) : ∀ x : Int, (xs.foldl max x = x ∨ xs.foldl max x ∈ xs) ∧ x ≤ xs.foldl max x ∧ ∀ a ∈ xs, a ≤ xs.foldl max x := by
  induction xs with
  | nil => intro x; exact ⟨.inl rfl, Int.le_refl _, by simp⟩
  | cons y ys ih =>
    intro x
    rw [List.foldl_cons]
    obtain ⟨h1, h2, h3⟩ := ih (max x y)
    have m1 : max x y = x ∨ max x y = y := by omega
    have m2 : x ≤ max x y ∧ y ≤ max x y := by omega
    refine ⟨?_, Int.le_trans m2.1 h2, fun a ha => ?_⟩
    · rcases h1 with h1 | h1
      · rcases m1 with m | m
        · exact .inl (by rw [h1, m])
        · exact .inr (by rw [h1, m]; exact List.mem_cons_self)
      · exact .inr (List.mem_cons_of_mem _ h1)
    · rcases List.mem_cons.mp ha with e | ha
      · subst e; exact Int.le_trans m2.2 h2
      · exact h3 a ha
theorem foldl_min (xs : List Int) : ∀ x : Int, (xs.foldl min x = x ∨ xs.foldl min x ∈ xs) ∧ xs.foldl min x ≤ x ∧ ∀ a ∈ xs, xs.foldl min x ≤ a := by
  induction xs with
  | nil => intro x; exact ⟨.inl rfl, Int.le_refl _, by simp⟩
  | cons y ys ih =>
    intro x
    rw [List.foldl_cons]
    obtain ⟨h1, h2, h3⟩ := ih (min x y)
    have m1 : min x y = x ∨ min x y = y := by omega
    have m2 : min x y ≤ x ∧ min x y ≤ y := by omega
    refine ⟨?_, Int.le_trans h2 m2.1, fun a ha => ?_⟩
    · rcases h1 with h1 | h1
      · rcases m1 with m | m
        · exact .inl (by rw [h1, m])
        · exact .inr (by rw [h1, m]; exact List.mem_cons_self)
      · exact .inr (List.mem_cons_of_mem _ h1)
    · rcases List.mem_cons.mp ha with e | ha
      · subst e; exact Int.le_trans h2 m2.2
      · exact h3 a ha

theorem int_list {K : Fg} {H : Hp} {M : Av} : ∀ {xs : List V} {ns : List Int}, RpAll K H M xs (ns.map .int) → xs = ns.map V.int
  | [], [], _ => rfl
  | [], _ :: _, h => by cases h
  | _ :: _, [], h => by cases h
  | x :: xs, n :: ns, h => by
    cases h with
    | cons h r => rw [int_list r, (Rt.of h).int]; rfl
def dMax : GA
  | [.int i, .int j] => some (.int (if j > i then j else i))
  | [.list ds] => ((asInts ds).bind imax).map .int
  | _ => none
def dMin : GA
  | [.int i, .int j] => some (.int (if j < i then j else i))
  | [.list ds] => ((asInts ds).bind imin).map .int
  | _ => none
def dSum : GA
  | [.list ds] => (asInts ds).map fun ns => .int ns.sum
  | _ => none
theorem call_dMax (hc : X.calm = true) : CallR X (.builtin "max") (rC X.K dMax) := by
  intro pins s σ H vs us Q I rv h
  obtain ⟨M, ds, r, tk, rx, eg, q⟩ := h
  unfold dMax at eg
  split at eg
  · cases eg
    obtain ⟨v, w, rfl, r1, r2⟩ := rx2 rx
    exact call_max2 hc pins s σ H _ us Q I rv ⟨_, _, by rw [r1.int, r2.int], q _ H (Same.refl _) (.int _)⟩
  · rename_i ds
    cases ei : asInts ds with
    | none => rw [ei] at eg; cases eg
    | some ns =>
      rw [ei] at eg
      obtain ⟨v, rfl, rd⟩ := rx1 rx
      obtain ⟨a, xs, e1, r1, a1⟩ := rd.list
      subst e1
      rw [asInts_some ei] at a1
      have ex := int_list a1
      subst ex
      cases ns with
      | nil => cases eg
      | cons n ns =>
        cases eg
        obtain ⟨h1, h2, h3⟩ := foldl_max ns n
        refine cr_max hc pins s σ H _ us Q I rv ⟨a, n :: ns, rfl, .inl r1, Nat.succ_pos _, fun m hm hy => ?_⟩
        have e : m = ns.foldl max n := by
          have l1 : ns.foldl max n ≤ m := hy _ (h1.elim (fun e => by rw [e]; exact List.mem_cons_self) fun z => List.mem_cons_of_mem _ z)
          have l2 : m ≤ ns.foldl max n := (List.mem_cons.mp hm).elim (fun e => by rw [e]; exact h2) fun z => h3 m z
          omega
        rw [e]
        exact q _ H (Same.refl _) (.int _)
  · cases eg
theorem call_dMin (hc : X.calm = true) : CallR X (.builtin "min") (rC X.K dMin) := by
  intro pins s σ H vs us Q I rv h
  obtain ⟨M, ds, r, tk, rx, eg, q⟩ := h
  unfold dMin at eg
  split at eg
  · cases eg
    obtain ⟨v, w, rfl, r1, r2⟩ := rx2 rx
    exact call_min2 hc pins s σ H _ us Q I rv ⟨_, _, by rw [r1.int, r2.int], q _ H (Same.refl _) (.int _)⟩
  · rename_i ds
    cases ei : asInts ds with
    | none => rw [ei] at eg; cases eg
    | some ns =>
      rw [ei] at eg
      obtain ⟨v, rfl, rd⟩ := rx1 rx
      obtain ⟨a, xs, e1, r1, a1⟩ := rd.list
      subst e1
      rw [asInts_some ei] at a1
      have ex := int_list a1
      subst ex
      cases ns with
      | nil => cases eg
      | cons n ns =>
        cases eg
        obtain ⟨h1, h2, h3⟩ := foldl_min ns n
        refine cr_min hc pins s σ H _ us Q I rv ⟨a, n :: ns, rfl, .inl r1, Nat.succ_pos _, fun m hm hy => ?_⟩
        have e : m = ns.foldl min n := by
          have l1 : m ≤ ns.foldl min n := hy _ (h1.elim (fun e => by rw [e]; exact List.mem_cons_self) fun z => List.mem_cons_of_mem _ z)
          have l2 : ns.foldl min n ≤ m := (List.mem_cons.mp hm).elim (fun e => by rw [e]; exact h2) fun z => h3 m z
          omega
        rw [e]
        exact q _ H (Same.refl _) (.int _)
  · cases eg
theorem call_dSum (hc : X.calm = true) : CallR X (.builtin "sum") (rC X.K dSum) := by
  intro pins s σ H vs us Q I rv h
  obtain ⟨M, ds, r, tk, rx, eg, q⟩ := h
  unfold dSum at eg
  split at eg
  · rename_i ds
    cases ei : asInts ds with
    | none => rw [ei] at eg; cases eg
    | some ns =>
      rw [ei] at eg
      cases eg
      obtain ⟨v, rfl, rd⟩ := rx1 rx
      obtain ⟨a, xs, e1, r1, a1⟩ := rd.list
      subst e1
      rw [asInts_some ei] at a1
      have ex := int_list a1
      subst ex
      exact cr_sum hc pins s σ H _ us Q I rv ⟨a, ns, rfl, .inl r1, q _ H (Same.refl _) (.int _)⟩
  · cases eg
/-! ### a < b < c -/
def mChain (g1 g2 : G2) (ma mb mc : ME) : ME := fun ρ => (ma ρ).bind fun x => (mb x.2).bind fun y => (R.opt (g1 x.1 y.1)).bind fun t => match t with
  | .bool true => (mc y.2).bind fun z => (R.opt (g2 y.1 z.1)).bind fun r => .ok (r, z.2)
  | .bool false => .ok (.bool false, y.2)
  | _ => .no

theorem Rx.same {K : Fg} {H H' : Hp} {M : Av} {v : V} {d : D} {r : Bool} (s : Same H H') (h : Rx r K H M v d) : Rx r K H' M v d := by
  cases r with
  | true => exact Rt.same s h
  | false => exact Rp.carry (Carry.same s) h
theorem de_chain {op op' : CmpOp} {g1 g2 : G2} {ma mb mc : ME} {ra rb rc : Bool} (ho : OpR X (compareOp op) (rD X.K g1)) (ho' : OpR X (compareOp op') (rD X.K g2)) (ha : DE X E k ra Γ a ma) (hb : DE X E k rb Γ b mb) (hc : DE X E k rc Γ c mc)
    (hk : (k && ra) = false := by rfl) (hk2 : (k && rb) = false := by rfl) (hm : lastMarks [op, op'] [b, c] = false := by with_unfolding_all rfl) : DE X E k false Γ (.Compare a [op, op'] [b, c] pos) (mChain g1 g2 ma mb mc) :=
  PE.imp (pe_chain ho ho' ha hb hc hm) fun σ H Q ⟨M, A, ρ, hΓ, f, h⟩ => by
    refine ⟨M, A, ρ, hΓ, f, pimp (post_bind h) (fun z hz v1 H1 f1 g1' e1 r1 => ?_) (fun c hc => hc)⟩
    refine ⟨M, A, z.2, hΓ, f1, pimp (post_bind hz) (fun z2 hz2 v2 H2 f2 g2' e2 r2 => ?_) (fun c hc => DX.fra g1' hc)⟩
    obtain ⟨w, ew, q⟩ := post_opt hz2
    refine ⟨M, z.1, z2.1, w, f2.trk, (r1.fra hk f1 g2').t, r2.t, ew, fun u H' s' rp => ?_⟩
    have g3 : Fra (eff k A) H H' := (g1'.trans g2').trans (Fra.of_eff s')
    cases w with
    | bool t =>
      have eu := (Rt.of rp).bl
      refine ⟨t, eu, ?_⟩
      cases t with
      | false =>
        rw [if_neg (by decide)]
        exact q _ H' (f2.same s') g3 (fun n => (e2 n).trans (e1 n)) (.bl _)
      | true =>
        rw [if_pos rfl]
        refine ⟨M, A, z2.2, hΓ, f2.same s', pimp (post_bind q) (fun z3 hz3 v3 H3 f3 g4 e3 r3 => ?_) (fun c hc => DX.fra g3 hc)⟩
        obtain ⟨w3, ew3, q3⟩ := post_opt hz3
        exact ⟨M, z2.1, z3.1, w3, f3.trk, (Rx.fra hk2 (f2.same s') g4 (Rx.same s' r2)).t, r3.t, ew3, fun u H4 s4 rp4 => q3 u H4 (f3.same s4) ((g3.trans g4).trans (Fra.of_eff s4)) (fun n => (e3 n).trans ((e2 n).trans (e1 n))) rp4⟩
    | _ => exact q.elim
end
end Dt

set_option Elab.async false
set_option linter.all false
set_option maxRecDepth 100000
set_option autoImplicit false
/-! Dicts with tuples of ints and texts as keys. -/
namespace Dt
open PySem PySem.Spec PyProof.Rows L2 R

def asT : D → Option (List (D × D))
  | .dict ((.bool true, .none) :: es) => some es
  | _ => none
theorem asT_some {d : D} {es : List (D × D)} (h : asT d = some es) : d = .dict (tH :: es) := by
  unfold asT at h
  split at h
  · cases h; rfl
  · cases h
def keysOf : List D → Option (List Key)
  | [] => some []
  | d :: ds => (keyOf d).bind fun k => (keysOf ds).map (k :: ·)
theorem keysOf_cons {d : D} {ds : List D} {ks : List Key} (h : keysOf (d :: ds) = some ks) : ∃ k ks', keyOf d = some k ∧ keysOf ds = some ks' ∧ ks = k :: ks' := by
  unfold keysOf at h
  cases e : keyOf d with
  | none => rw [e] at h; cases h
  | some k =>
    rw [e] at h
    cases e2 : keysOf ds with
    | none => rw [e2] at h; cases h
    | some ks' =>
      rw [e2] at h
      cases h
      exact ⟨k, ks', rfl, rfl, rfl⟩
theorem keysOf_kD : ∀ ks : List Key, keysOf (ks.map kD) = some ks
  | [] => rfl
  | k :: ks => by
    rw [List.map_cons]
    unfold keysOf
    rw [keyOf_kD, keysOf_kD ks]; rfl
def tkey : D → Option (List Key)
  | .tuple ds => keysOf ds
  | _ => none
theorem tkey_kT (k : List Key) : tkey (kT k) = some k := keysOf_kD k
def tlook (es : List (D × D)) (k : List Key) : Option D := (es.find? fun e => decide (tkey e.1 = some k)).map (·.2)
def tput (es : List (D × D)) (k : List Key) (d : D) : List (D × D) :=
  if (es.any fun e => decide (tkey e.1 = some k)) = true then es.map (fun e => if tkey e.1 = some k then (e.1, d) else e) else es ++ [(kT k, d)]
section
variable {K : Fg} {H : Hp} {M : Av} {v : V} {d : D}
theorem rpAll_keys : ∀ {vs : List V} {ds : List D} {ks : List Key}, RpAll K H M vs ds → keysOf ds = some ks → vs = ks.map kV
  | _, _, _, .nil, e => by cases e; rfl
  | _, _, _, .cons h r, e => by
    obtain ⟨k, ks', e1, e2, rfl⟩ := keysOf_cons e
    rw [List.map_cons, ← rpAll_keys r e2, kD_rt e1 (.of h)]
theorem rpT_length : ∀ {kvs : List (List Key × V)} {es : List (D × D)}, RpT K H M kvs es → kvs.length = es.length
  | _, _, .nil => rfl
  | _, _, .cons _ r => congrArg Nat.succ (rpT_length r)
theorem rpT_any {k : List Key} : ∀ {kvs : List (List Key × V)} {es : List (D × D)}, RpT K H M kvs es → (kvs.any fun kv => decide (kv.1 = k)) = (es.any fun e => decide (tkey e.1 = some k))
  | _, _, .nil => rfl
  | _, _, .cons (k := k') h r => by
    rw [List.any_cons, List.any_cons, rpT_any r, tkey_kT]
    congr 1
    by_cases e : k' = k
    · simp [e]
    · rw [decide_eq_false e, decide_eq_false fun z => e (Option.some.inj z)]
theorem rpT_repl {k : List Key} (hv : Rp K H M v d) : ∀ {kvs : List (List Key × V)} {es : List (D × D)}, RpT K H M kvs es → RpT K H M (kvs.map fun kv => if kv.1 = k then (kv.1, v) else kv) (es.map fun e => if tkey e.1 = some k then (e.1, d) else e)
  | _, _, .nil => .nil
  | _, _, .cons (k := k') (v := v') (d := d') h r => by
    have ih := rpT_repl (k := k) hv r
    rw [List.map_cons, List.map_cons, tkey_kT]
    by_cases e : k' = k
    · rw [if_pos e, if_pos (congrArg some e)]; exact .cons hv ih
    · rw [if_neg e, if_neg fun z => e (Option.some.inj z)]; exact .cons h ih
theorem rpT_snoc {k : List Key} (hv : Rp K H M v d) : ∀ {kvs : List (List Key × V)} {es : List (D × D)}, RpT K H M kvs es → RpT K H M (kvs ++ [(k, v)]) (es ++ [(kT k, d)])
  | _, _, .nil => .cons hv .nil
  | _, _, .cons h r => .cons h (rpT_snoc hv r)
theorem rpT_put {k : List Key} {kvs : List (List Key × V)} {es : List (D × D)} (r : RpT K H M kvs es) (hv : Rp K H M v d) : RpT K H M (putK kvs k v) (tput es k d) := by
  unfold putK tput
  rw [rpT_any r]
  split
  · exact rpT_repl hv r
  · exact rpT_snoc hv r
theorem rpT_look {k : List Key} : ∀ {kvs : List (List Key × V)} {es : List (D × D)} {d : D}, RpT K H M kvs es → tlook es k = some d → ∃ v, valV kvs k = some v ∧ Rp K H M v d
  | _, _, _, .nil, h => by cases h
  | _, _, d, .cons (k := k') (v := v') (kvs := kvs) (d := d') (es := es) h r, hh => by
    unfold tlook at hh
    unfold valV
    rw [List.find?_cons, tkey_kT] at hh
    rw [List.find?_cons]
    by_cases e : k' = k
    · subst e
      simp only [decide_true, Option.map_some] at hh ⊢
      exact ⟨v', rfl, by cases hh; exact h⟩
    · have e1 : decide ((k', v').1 = k) = false := decide_eq_false e
      have e2 : decide (some k' = some k) = false := decide_eq_false fun z => e (Option.some.inj z)
      rw [e2] at hh
      rw [e1]
      exact rpT_look r hh
theorem Rt.dictT {es : List (D × D)} (h : Rt K H M v (.dict (tH :: es))) : ∃ a kvs, v = .ref a ∧ Rd H a (.dT kvs) ∧ RpT K H M kvs es := by
  generalize e : (PyData.dict (tH :: es)) = d at h
  cases h with
  | of h => cases h with
    | dcK h1 h2 h3 =>
      cases e
      have := rpK_flat h3
      rw [flat_tH] at this; cases this
    | dcT h1 h2 h3 => cases e; exact ⟨_, _, rfl, h1, h3⟩
    | scr h => cases e
    | _ => cases e
  | dcK h1 h2 =>
    cases e
    have := rpK_flat h2
    rw [flat_tH] at this; cases this
  | dcT h1 h2 => cases e; exact ⟨_, _, rfl, h1, h2⟩
  | lst _ _ => cases e
theorem Rp.dictT {es : List (D × D)} (h : Rp K H M v (.dict (tH :: es))) : ∃ a kvs, v = .ref a ∧ Rd H a (.dT kvs) ∧ ¬ M a ∧ RpT K H M kvs es := by
  generalize e : (PyData.dict (tH :: es)) = d at h
  cases h with
  | dcK h1 h2 h3 =>
    cases e
    have := rpK_flat h3
    rw [flat_tH] at this; cases this
  | dcT h1 h2 h3 => cases e; exact ⟨_, _, rfl, h1, h2, h3⟩
  | scr h => cases e
  | _ => cases e
end
section
variable {X : Cx} {E : XK} {k r : Bool} {Γ0 Γ Γ' Γl vs : List Nat} {a b c e tg o : Expr} {es : List Expr} {pos : Pos} {st : Stmt}
def mDictT : ME := fun ρ => .ok (.dict [tH], ρ)
theorem df_dictT : DF X E k Γ (.Dict [] [] pos) mDictT :=
  PE.imp pe_dnewT fun σ H Q ⟨M, A, ρ, hΓ, f, h⟩ p np =>
    h p _ np (f.addM np) (Fra.of_eff fun b u e => by rw [upd_ne (ne_of_none e np)]; exact e) (fun _ => rfl) (.dcT upd_same .nil)
/-- d[(x, y)] -/
def eGetT (mo : ME) (mk : MA) : ME := fun ρ => (mo ρ).bind fun o => (R.opt (asT o.1)).bind fun es => (mk o.2).bind fun z => (R.opt (keysOf z.1)).bind fun ks =>
  if z.1.length ≤ 1000 then (R.opt (tlook es ks)).bind fun d => .ok (d, z.2) else .no
def rGetT : R2 := fun x y H Q => ∃ a v, x = .ref a ∧ DGet H a y (some v) ∧ Q v H
theorem op_getT (hu : X.A.units + 1 < cLine) : IxR X rGetT := by
  intro value slice pins s σ H x y v u Q I rx ry h hs
  obtain ⟨a, w, e1, g, q⟩ := h
  subst e1
  obtain rfl : v = Value.ref a := rx
  exact tail_any (dict_typeIs I g) PySem.F.slot_dict_getitem.lookup (d_getItem hu I g ry fun w' s' I' rw2 => ⟨w, H, I', rw2, q⟩) hs
theorem de_getT {mo : ME} {mk : MA} {x1 : Nat} {p2 : Pos} (hu : X.A.units + 1 < cLine) (ho : DE X E k r Γ o mo) (he : DA X E k false Γ es mk) (hs : PlainIx (.Tuple es x1 p2)) (hk : (k && r) = false := by rfl) :
    DE X E k false Γ (.Subscript o (.Tuple es x1 p2) pos) (eGetT mo mk) :=
  PE.imp (pe_ix (op_getT hu) ho (pe_tup he) hs) fun σ H Q ⟨M, A, ρ, hΓ, f, h⟩ => by
    refine ⟨M, A, ρ, hΓ, f, pimp (post_bind h) (fun z hz v H1 f1 g1 e1 r1 => ?_) fun c hc => hc⟩
    obtain ⟨ds, ees, hz⟩ := post_opt hz
    have ez := asT_some ees
    rw [ez] at r1
    refine ⟨M, A, z.2, hΓ, f1, pimp (post_bind hz) (fun y hy ws H2 f2 g2 e2 r2 => ?_) fun c hc => DX.fra g1 hc⟩
    obtain ⟨ks, ek, hy⟩ := post_opt hy
    by_cases hl : y.1.length ≤ 1000
    · rw [if_pos hl] at hy
      obtain ⟨d, ed, hy⟩ := post_opt hy
      have ra := r2.all
      have ew := rpAll_keys ra ek
      refine ⟨by rw [ra.length]; exact Nat.le_of_lt (small1000 hl), fun p np => ?_⟩
      have sm : Same H2 (upd H2 p (.tup ws)) := fun b u eb => by rw [upd_ne (ne_of_none eb np)]; exact eb
      have r1' := Rx.fra hk f1 g2 r1
      obtain ⟨a', kvs', ev', d1', d2'⟩ := Rt.dictT r1'.t
      obtain ⟨w, ew2, rw2⟩ := rpT_look d2' ed
      refine ⟨a', w, ev', .inr ⟨kvs', ks, p, rd_same sm d1', rfl, by rw [upd_same, ew], ew2.symm⟩, ?_⟩
      exact hy _ _ (f2.same sm) ((g1.trans g2).trans (Fra.of_eff sm)) (fun n => (e2 n).trans (e1 n)) (Rp.carry (Carry.same sm) rw2)
    · rw [if_neg hl] at hy; exact hy.elim
/-- d[(x, y)] = v -/
def asTo (o : Option D) : Option (List (D × D)) := o.bind asT
def sPutT (o : Nat) (mv : ME) (mk : MA) : MS := fun ρ => (mv ρ).bind fun v => (mk v.2).bind fun z => (R.opt (asTo (getv z.2 o))).bind fun es => (R.opt (keysOf z.1)).bind fun ks =>
  if es.length < sizeLine ∧ z.1.length ≤ 1000 then .ok (.nx, z.2.set o (some (.dict (tH :: tput es ks v.1)))) else .no
theorem Fit.ownT {K : Fg} {M : Av} {A : As} {σ : St} {H : Hp} {ρ : Ev} {i : Nat} {es : List (D × D)} {Γ : List Nat} (f : Fit K M A σ H ρ) (hΓ : A.map (·.1) = Γ) (hi : Γ.contains i = true) (h : asTo (getv ρ i) = some es) :
    ∃ a kvs, (i, a) ∈ A ∧ σ[i]? = some (some (.ref a)) ∧ H a = some (.dT kvs) ∧ RpT K H M kvs es := by
  cases hg : getv ρ i with
  | none => rw [hg] at h; cases h
  | some d =>
    rw [hg] at h
    have e1 := asT_some h
    rw [e1] at hg
    obtain ⟨a, ia, h1, ow⟩ := f.ownK hΓ hi hg
    generalize e : (PyData.dict (tH :: es)) = d at ow
    cases ow with
    | dcK g1 g2 =>
      cases e
      have := rpK_flat g2
      rw [flat_tH] at this; cases this
    | dcT g1 g2 => cases e; exact ⟨a, _, ia, h1, g1, g2⟩
    | lst _ _ => cases e
theorem ds_putT {o : Nat} {oe : Expr} {mv : ME} {mk : MA} {x1 : Nat} {p2 p3 : Pos} (hu : X.A.units + 1 < cLine) (hp : PE X oe (tVar o)) (hi : DA X E false false (Γ ++ Γ0) es mk) (hv : DE X E k false (Γ ++ Γ0) e mv) (ho : (Γ ++ Γ0).contains o = true := by decide)
    (hs : swapsWith e (some (.Subscript oe (.Tuple es x1 p3) p2)) pos.line X.env = pure false := by rfl) : DS X E Γ0 Γ Γ Γl (.Assign [.Subscript oe (.Tuple es x1 p3) p2] e pos) (sPutT o mv mk) :=
  PS.imp (ps_dput hu hp (pe_tup hi) hv hs) fun D σ H ⟨M0, B, A0, ρ, hB, hA, dj, f, q⟩ => by
    have hΓ : (B ++ A0).map (·.1) = Γ ++ Γ0 := by rw [List.map_append, hB, hA]
    refine ⟨_, _, ρ, hΓ, f, pimp (post_bind q) (fun z hz v H1 f1 g1 _ r1 => ?_) fun c hc => DX.eff hc⟩
    have hm : o ∈ (B ++ A0).map (·.1) := by rw [hΓ]; exact List.contains_iff_mem.mp ho
    obtain ⟨⟨j0, a⟩, hq, e0⟩ := List.mem_map.mp hm
    obtain rfl : j0 = o := e0
    refine ⟨.ref a, (f1.own _ hq).1, _, _, z.2, hΓ, f1, pimp (post_bind hz) (fun y hy ws H2 f2 g2 _ r2 => ?_) fun c hc => DX.eff (DX.step (Stp.eff g1) hc)⟩
    obtain ⟨es', ed, hy⟩ := post_opt hy
    obtain ⟨ks, ek, hy⟩ := post_opt hy
    by_cases hl : es'.length < sizeLine ∧ y.1.length ≤ 1000
    · rw [if_pos hl] at hy
      have ra := r2.all
      have ew := rpAll_keys ra ek
      refine ⟨by rw [ra.length]; exact Nat.le_of_lt (small1000 hl.2), fun p np => ?_⟩
      have sm : Same H2 (upd H2 p (.tup ws)) := fun b u eb => by rw [upd_ne (ne_of_none eb np)]; exact eb
      have f3 := f2.same sm
      obtain ⟨b, ys, ib, e4, e5, e6⟩ := f3.ownT hΓ ho ed
      have eb : a = b := Fit.at_same f1 f3 hq e4
      subst eb
      have s2 : Same H1 H2 := eff_false g2
      have s3 : Same H1 (upd H2 p (.tup ws)) := fun b' u eu => sm _ _ (s2 _ _ eu)
      have c : Carry X.K (upd H2 p (.tup ws)) (upd (upd H2 p (.tup ws)) a (.dT (putK ys ks v))) (un M0 (B ++ A0)) (un M0 (B ++ A0)) := Carry.at (f3.sub _ ib)
      refine ⟨a, _, rfl, .inr ⟨ys, ks, p, e5, rfl, by rw [upd_same, ew], by rw [rpT_length e6]; exact hl.1, rfl⟩, ?_⟩
      have r1' : Rp X.K (upd H2 p (.tup ws)) (un M0 (B ++ A0)) v z.1 := Rp.carry (Carry.same s3) r1
      refine hy _ _ B hB ⟨(g1.eff_has.trans (Fra.of_same s3)).trans fun b' u eu n' => ?_, fun p hp => .inl (As.has_of hp)⟩ (f3.change ib (.dcT upd_same (RpT.carry c (rpT_put e6 r1'))))
      have ne : b' ≠ a := fun z' => n' (by rw [z']; exact As.has_of ib)
      rw [upd_ne ne]; exact eu
    · rw [if_neg hl] at hy; exact hy.elim
end
end Dt

set_option Elab.async false
set_option linter.all false
set_option maxRecDepth 100000
set_option autoImplicit false
/-! A dict with tuples as keys walked: for x, y in d. -/
namespace Dt
open PySem PySem.Spec PyProof.Rows L2 R

def FrzAtT (j : Nat) (σ : St) (H : Hp) : Prop := ∃ (d : Addr) (o : Obj) (kvs : List (List Key × V)), σ[j]? = some (some (.ref d)) ∧ H d = some (.frz o (.dT kvs))
def iKyT (j : Nat) : MA := fun ρ => (R.opt (asTo (getv ρ j))).bind fun es => if es.length ≤ sizeLine then .ok (keysD es, ρ) else .no
theorem rpT_keyAt {K : Fg} {H : Hp} {M : Av} : ∀ {kvs : List (List Key × V)} {es : List (D × D)} {i : Nat} {k : List Key} {v : V}, RpT K H M kvs es → kvs[i]? = some (k, v) → (keysD es)[i]? = some (kT k)
  | _, _, 0, _, _, .cons _ _, e => by cases e; rfl
  | _, _, i + 1, _, _, .cons _ r, e => rpT_keyAt (i := i) r e
theorem rpAll_kD {K : Fg} {H : Hp} {M : Av} : ∀ ks : List Key, RpAll K H M (ks.map kV) (ks.map kD)
  | [] => .nil
  | k :: ks => .cons (rp_key k) (rpAll_kD ks)
def DTgT (K : Fg) (Γ vs : List Nat) (m : MG) : TG := fun v σ H Q => ∃ (M : Av) (A : As) (ρ : Ev) (q : Addr) (ks : List Key), A.map (·.1) = Γ ∧ Fit K M A σ H ρ ∧ v = .ref q ∧ H q = some (.tup (ks.map kV)) ∧
  (m (kT ks) ρ).post (fun ρ' => ∀ σ', Fit K M A σ' H ρ' → wipe σ' vs = wipe σ vs → Q σ' H) (fun _ => False)
def DGT (X : Cx) (Γ vs : List Nat) (tg : Expr) (m : MG) : Prop := PG X tg (DTgT X.K Γ vs m)
theorem DTgT.of {K : Fg} {Γ vs : List Nat} {g : MG} {M : Av} {A : As} {ρ : Ev} {v : V} {qa : Addr} {ks : List Key} {σ : St} {H : Hp} {Q : St → Hp → Prop} (h1 : A.map (·.1) = Γ) (f : Fit K M A σ H ρ) (ev : v = .ref qa) (hq : H qa = some (.tup (ks.map kV)))
    (h : (g (kT ks) ρ).nox.post (fun ρ' => ∀ σ', Fit K M A σ' H ρ' → Q σ' H) (fun _ => False)) : DTgT K Γ vs g v σ H Q := ⟨M, A, ρ, qa, ks, h1, f, ev, hq, by
  cases q : g (kT ks) ρ with
  | ok a => rw [q] at h; exact fun σ' f' _ => h σ' f'
  | exc c => rw [q] at h; exact h
  | no => rw [q] at h; exact h⟩
theorem slot_dictT {K : Fg} {M : Av} {A : As} {σ : St} {H : Hp} {ρ : Ev} {Γ : List Nat} {j : Nat} {es : List (D × D)} (hΓ : A.map (·.1) = Γ) (f : Fit K M A σ H ρ) (hj : Γ.contains j = false) (ees : asTo (getv ρ j) = some es) :
    ∃ d kvs, σ[j]? = some (some (.ref d)) ∧ Rd H d (.dT kvs) ∧ ¬ M d ∧ RpT K H M kvs es := by
  cases hg : getv ρ j with
  | none => rw [hg] at ees; cases ees
  | some x =>
    rw [hg] at ees
    have ex := asT_some ees
    rw [ex] at hg
    obtain ⟨v, ev, rv⟩ := f.shr j _ (getv_some hg) (not_own hΓ hj)
    obtain ⟨d', kvs', ed, rd, nd, rk⟩ := Rp.dictT rv
    subst ed
    exact ⟨d', kvs', ev, rd, nd, rk⟩
theorem cfz {M M' F : Av} {H H' : Hp} {d0 : Addr} {u : HO} (h1 : H d0 = some u) (h2 : ¬ M d0) (g : Fra F H H') (hF : ∀ b, F b → M b) (hM : ∀ b, M' b → M b ∨ H b = none) : H' d0 = some u ∧ ¬ M' d0 :=
  ⟨g d0 _ h1 fun z => h2 (hF d0 z), fun z => (hM d0 z).elim h2 fun e => by rw [h1] at e; cases e⟩
section
variable {X : Cx} {E : XK} {k r : Bool} {Γ0 Γ Γ' Γl vs : List Nat} {a b c e tg o : Expr} {es : List Expr} {pos : Pos} {st : Stmt}
theorem dgT_tup {es : List Expr} {k n : Nat} {gs : MGs} (hc : X.calm = true) (h : DGs X Γ vs es gs) (hn : (assignEach es X.env).length = n := by rfl) (hst : (assignEach es X.env).findIdx? (·.1) = none := by rfl) : DGT X Γ vs (.Tuple es k pos) (gTpl n gs) :=
  PG.imp (pg_tup hc h hn hst) fun v σ H Q ⟨M, A, ρ, qa, ks, h1, f, ev, hq, p⟩ => by
    have p' : (if (ks.map kD).length = n then gs (ks.map kD) ρ else R.no).post (fun ρ' => ∀ σ', Fit X.K M A σ' H ρ' → wipe σ' vs = wipe σ vs → Q σ' H) (fun _ => False) := p
    by_cases hl : (ks.map kD).length = n
    · rw [if_pos hl] at p'
      exact ⟨qa, ks.map kV, ev, .inl (.inl hq), by rw [List.length_map] at hl ⊢; exact hl, M, A, ρ, ks.map kD, h1, f, rpAll_kD ks, p'⟩
    · rw [if_neg hl] at p'; exact p'.elim
def sLkT (j : Nat) (m : MS) : MS := fun ρ => (R.opt (asTo (getv ρ j))).bind fun _ => (m ρ).nox
theorem ds_lockST {j : Nat} {m : MS} (h : PS X st (fun D σ H => FrzAtT j σ H ∧ DTs X.K X.mg E Γ0 Γ Γ' Γl m D σ H)) (hj : (Γ ++ Γ0).contains j = false) : DS X E Γ0 Γ Γ' Γl st (sLkT j m) :=
  PS.imp (PS.or h (ps_lock h)) fun D σ H ⟨M0, B, A0, ρ, hB, hA, dj, f, q⟩ => by
    have hΓ : (B ++ A0).map (·.1) = Γ ++ Γ0 := by rw [List.map_append, hB, hA]
    obtain ⟨es, ees, q⟩ := post_opt q
    obtain ⟨d, kvs, ev, rd, nd, rk⟩ := slot_dictT hΓ f hj ees
    have q : (m ρ).nox.post _ _ := q
    rcases rd with rd | ⟨o', rd⟩
    · refine .inr ⟨d, .dT kvs, rd, True.intro, fun od => ⟨⟨d, od, kvs, ev, upd_same⟩, M0, B, A0, ρ, hB, hA, dj, Fit.lock rfl f rd nd, ?_⟩⟩
      have nh : ¬ As.has (B ++ A0) d := fun z => nd (.inr z)
      cases hm : m ρ with
      | exc c => rw [hm] at q; exact q.elim
      | no => rw [hm] at q; exact q.elim
      | ok z =>
        rw [hm] at q
        obtain ⟨fl, ρ'⟩ := z
        have stp : ∀ {B' : As} {H' : Hp}, Stp B A0 B' (upd H d (.frz od (.dT kvs))) H' → H' d = some (.frz od (.dT kvs)) ∧ Stp B A0 B' H (upd H' d (.dT kvs)) := fun s => by
          refine ⟨s.fra d _ upd_same nh, s.fra.unlk rd, fun p hp => (s.new p hp).imp id fun e => ?_⟩
          by_cases z : p.2 = d
          · rw [z, upd_same] at e; cases e
          · rw [upd_ne z] at e; exact e
        cases fl with
        | nx => exact fun σ' H' B' e s f' => let ⟨e1, s1⟩ := stp s; ⟨e1, q σ' _ B' e s1 (Fit.unlk rfl f' e1)⟩
        | bk => exact fun σ' H' B' e s f' => let ⟨e1, s1⟩ := stp s; ⟨e1, q σ' _ B' e s1 (Fit.unlk rfl f' e1)⟩
        | ct => exact fun σ' H' B' e s f' => let ⟨e1, s1⟩ := stp s; ⟨e1, q σ' _ B' e s1 (Fit.unlk rfl f' e1)⟩
        | rt d2 =>
          intro v H' g r ow
          have e1 : H' d = some (.frz od (.dT kvs)) := g d _ upd_same nh
          refine ⟨e1, q v _ (g.unlk rd) (Rp.mv (Mv.un rfl e1) r fun z => Bool.noConfusion z) fun p hp => ?_⟩
          obtain ⟨d', h1, h2⟩ := ow p hp
          exact ⟨d', h1, h2.mv (Mv.un rfl e1) fun o eo => by rw [upd_ne (fun z => h2.nofrz (by rw [z]; exact e1))]; exact eo⟩
    · exact .inl ⟨⟨d, o', kvs, ev, rd⟩, M0, B, A0, ρ, hB, hA, dj, f, post_nox q⟩
theorem for_turnT {K : Fg} {mg : Str → Option Value} {j : Nat} {g : MG} {mb : MS} {D : Ends} {σ : St} {H : Hp} (hj : (Γ ++ Γ0).contains j = false) (h : FrzAtT j σ H ∧ DTs K mg E Γ0 Γ Γ Γl (sForE (iKyT j) g mb) D σ H) :
    tFor (iKeys (tVar j)) (DTgT K (Γ ++ Γ0) vs g) (DTs K mg E Γ0 Γ Γ Γ mb) D σ H := by
    obtain ⟨fz, M0, B, A0, ρ, hB, hA, dj, f, q⟩ := h
    have hΓ : (B ++ A0).map (·.1) = Γ ++ Γ0 := by rw [List.map_append, hB, hA]
    have q : (((R.opt (asTo (getv ρ j))).bind fun es => if es.length ≤ sizeLine then R.ok (keysD es, ρ) else .no).bind fun x => sFor g mb x.1 x.2).post (Pst K M0 A0 Γ Γl D B H) (DX mg E (As.has (B ++ A0)) H) := q
    cases ees : asTo (getv ρ j) with
    | none => rw [ees] at q; exact q.elim
    | some es =>
    rw [ees] at q
    have q : ((if es.length ≤ sizeLine then R.ok (keysD es, ρ) else .no).bind fun x => sFor g mb x.1 x.2).post (Pst K M0 A0 Γ Γl D B H) (DX mg E (As.has (B ++ A0)) H) := q
    obtain ⟨d0, ob, kvs, e1, e2⟩ := fz
    obtain ⟨d', kvs', ev, rd, nd, rk⟩ := slot_dictT hΓ f hj ees
    rw [e1] at ev
    cases ev
    have ek : kvs' = kvs := by
      rcases rd with rd | ⟨o', rd⟩
      · rw [e2] at rd; cases rd
      · rw [e2] at rd; cases rd; rfl
    subst ek
    have hlen := rpT_length rk
    have hl : es.length ≤ sizeLine := by
      by_cases hl : es.length ≤ sizeLine
      · exact hl
      · rw [if_neg hl] at q; exact q.elim
    rw [if_pos hl] at q
    have hx : (sFor g mb (keysD es) ρ).post (Pst K M0 A0 Γ Γl D B H) (DX mg E (As.has (B ++ A0)) H) := q
    have kl : (keysD es).length = kvs'.length := by unfold keysD; rw [List.length_map, hlen]
    refine ⟨.ref d0, e1, d0, ob, rfl, .inr ⟨kvs', e2, ?_⟩⟩
    have s0 : H d0 = some (.frz ob (.dT kvs')) ∧ ¬ (un M0 (B ++ A0)) d0 := ⟨e2, nd⟩
    generalize hds : keysD es = ds at hx kl
    refine ⟨fun i m σ1 H1 => m = ds.length - i ∧ ∃ B1 ρ1, B1.map (·.1) = Γ ∧ Stp B A0 B1 H H1 ∧ Fit K (un M0 (B1 ++ A0)) (B1 ++ A0) σ1 H1 ρ1 ∧ (H1 d0 = some (.frz ob (.dT kvs')) ∧ ¬ (un M0 (B1 ++ A0)) d0) ∧ (sFor g mb (ds.drop i) ρ1).post (Pst K M0 A0 Γ Γl D B H) (DX mg E (As.has (B ++ A0)) H),
      ⟨_, rfl, B, ρ, hB, Stp.refl, f, s0, by rw [List.drop_zero]; exact hx⟩, ?_⟩
    rintro i m σ1 H1 ⟨em, B1, ρ1, hB1, s1, f1, sr, q1⟩
    by_cases hi : i < ds.length
    · obtain ⟨d, hd⟩ : ∃ d, ds[i]? = some d := ⟨_, List.getElem?_eq_getElem hi⟩
      have ed : ds.drop i = d :: ds.drop (i + 1) := by
        rw [List.drop_eq_getElem_cons hi]
        rw [List.getElem?_eq_getElem hi] at hd
        rw [Option.some.inj hd]
      rw [ed] at q1
      refine .inr ⟨⟨sr.1, by rw [← kl]; exact hi⟩, fun σ' H' => ∃ B' ρ', B'.map (·.1) = Γ ∧ Stp B A0 B' H H' ∧ Fit K (un M0 (B' ++ A0)) (B' ++ A0) σ' H' ρ' ∧ (H' d0 = some (.frz ob (.dT kvs')) ∧ ¬ (un M0 (B' ++ A0)) d0) ∧ (sFor g mb (ds.drop (i + 1)) ρ').post (Pst K M0 A0 Γ Γl D B H) (DX mg E (As.has (B ++ A0)) H), fun σ' H' h => ⟨ds.length - (i + 1), by omega, rfl, h⟩, fun x H' hy => ?_⟩
      obtain ⟨rfl, ks, vk, qa, hk, ex, hq⟩ := hy
      have hd' : ds[i]? = some (kT ks) := by rw [← hds]; exact rpT_keyAt rk hk
      rw [hd] at hd'
      cases hd'
      refine DTgT.of (by rw [List.map_append, hB1, hA]) f1 ex hq (pimp (post_noxbind (show ((g (kT ks) ρ1).nox.bind _).post _ _ from q1)) (fun ρ2 h2 σ2 f2 => ?_) fun c hc => hc)
      refine ⟨M0, B1, A0, ρ2, hB1, hA, s1.apart dj f.trkM, f2, pimp (post_bind h2) (fun z hz => ?_) fun c hc => DX.step s1 hc⟩
      have cS : ∀ (B' : As) (H3 : Hp), Stp B1 A0 B' H' H3 → (H3 d0 = some (.frz ob (.dT kvs')) ∧ ¬ (un M0 (B' ++ A0)) d0) := fun B' H3 s => cfz sr.1 sr.2 s.fra (fun b z => .inr z) fun b z => by
        rcases z with z | z
        · exact .inl (.inl z)
        · rcases As.has_append.mp z with ⟨j, z⟩ | z
          · rcases s.new _ z with z | z
            · exact .inl (.inr (As.has_append.mpr (.inl z)))
            · exact .inr z
          · exact .inl (.inr (As.has_append.mpr (.inr z)))
      obtain ⟨fl, ρ3⟩ := z
      cases fl with
      | nx => exact fun σ' H3 B' e s f' => ⟨B', ρ3, e, s1.trans f1.trk0 s, f', cS B' H3 s, hz⟩
      | ct => exact fun σ' H3 B' e s f' => ⟨B', ρ3, e, s1.trans f1.trk0 s, f', cS B' H3 s, hz⟩
      | bk => exact fun σ' H3 B' e s f' => hz σ' H3 B' e (s1.trans f1.trk0 s) f'
      | rt d => exact fun v H3 g r o => hz v H3 (s1.fra_trans g) r o
    · have ed : ds.drop i = [] := List.drop_eq_nil_of_le (by omega)
      rw [ed] at q1
      exact .inl ⟨⟨sr.1, by omega⟩, q1 σ1 H1 B1 hB1 s1 f1⟩
theorem ds_forT {j : Nat} {iter : Expr} {body : List Stmt} {g : MG} {mb : MS} (hp : PassesOwn (model X.prog X.w) X.A X.env X.xe) (hc : X.calm = true) (hi : PE X iter (tVar j)) (hg : DGT X (Γ ++ Γ0) vs tg g) (hb : DSs X E Γ0 Γ Γ Γ body mb) (hj : (Γ ++ Γ0).contains j = false := by decide)
    (hs : ∀ x, foldedSetIterable iter X.env x = pure x := by intro _; rfl) : DS X E Γ0 Γ Γ Γl (.For tg iter body [] pos) (sLkT j (sForE (iKyT j) g mb)) :=
  ds_lockST (PS.imp (ps_for hp hc (pi_keys hi) hg hb hs) fun D σ H h => for_turnT hj h) hj
end
end Dt

set_option Elab.async false
set_option linter.all false
set_option maxRecDepth 100000
set_option autoImplicit false
/-! sorted(d), d a dict with int or text keys. -/
namespace Dt
section
open PySem PySem.Spec PyProof.Rows PySem.W PySem.Calls PyProof.V
variable {prog : Program} {w : World} {A : Around} {E : Value → Shared → Prop} {s : Shared} {T : String} {r d : Addr} {n : Nat} {P : Nat → Value → Prop} {OK : Heap → Prop}
theorem collect_kdl {R : List Value → Shared → Prop} (K : KdlSrc prog w T r d n P OK) (hh : A.handled = none) (hok : OK s.heap) (hn : n ≤ sizeLine)
    (h : ∀ (h' : Heap) (tk : Nat) (acc' : Array Value), (∀ b o, s.heap.get? b = some o → h'.get? b = some o) → ItemsOf P acc' n → R acc'.toList { s with heap := h', toks := tk }) :
    wpAny (model prog w) A (collect (.ref r)) R E s := by
  have hlt := K.there _ hok
  unfold collect
  refine wpAny_bind (wpAny_runValue (codeAny_builtin entry_proto_collect' ?_))
  rw [Around.under_plainId PySem.F.plain_proto_collect _]
  show wpAny _ A.in1 (newList [] >>= fun l => again (.builtin "list.__iadd__" ⟨[l, .ref r], []⟩)) _ _ s
  refine wpAny_bind (wpAny_newObj_type ?_)
  refine wpAny_pure ⟨plainId_quiet PySem.F.plain_list_iadd _, codeAny_builtin entry_list_iadd' ?_⟩
  rw [Around.under_plainId PySem.F.plain_list_iadd _]
  have hS₁ : (s.heap.push { cls := .type "list", data := .seq ([] : List Value).toArray }).get? s.heap.objs.size = some { cls := .type "list", data := .seq #[] } := Heap.get?_push_size _ rfl
  show wpAny _ A.in1 (Builtin.List.listExtendWith (.ref s.heap.objs.size) (.ref r) (.ref s.heap.objs.size)) _ _ _
  have key := kdl_extend (prog := prog) (w := w) (A := A) (s := { s with heap := s.heap.push { cls := .type "list", data := .seq ([] : List Value).toArray } })
    (R := fun (q : Result) (s' : Shared) => ∃ (h' : Heap) (tk : Nat) (acc' : Array Value) (c' : Nat), q = .ok (.ret (.ref s.heap.objs.size)) ∧ s' = { s with heap := h', toks := tk } ∧
      (∀ b o, s.heap.get? b = some o → h'.get? b = some o) ∧ h'.get? s.heap.objs.size = some { cls := .type "list", dict := none, data := .seq acc' c', slots := #[] } ∧ ItemsOf P acc' n)
    K hh (K.keep _ _ hok fun b _ o e => Heap.get?_push_of_some _ e) s.heap.objs.size (Nat.ne_of_gt hlt.1) (Nat.ne_of_gt hlt.2) (.ref s.heap.objs.size) 0 hS₁
    (fun h' tk acc' c' hk hS' hacc => ⟨h', tk, acc', c', rfl, rfl, fun b o e => hk b o (Nat.ne_of_lt (Heap.lt_size e)) (Heap.get?_push_of_some _ e), hS', hacc⟩) hn
  refine wpAny_mono key (fun fin s' x => ?_) fun e s' x => ?_
  · cases fin with
    | done f =>
      obtain ⟨h', tk, acc', c', e, rfl, hk, hS', hacc⟩ := x
      cases e
      show wpAny _ A (load s.heap.objs.size >>= _) _ _ _
      refine wpAny_bind (wpAny_load hS' ?_)
      refine wpAny_pure ?_
      exact h h' tk acc' hk hacc
    | again c₁ =>
      refine ⟨x.1, codeAny_mono x.2 fun q s₂ y => ?_⟩
      obtain ⟨h', tk, acc', c', rfl, rfl, hk, hS', hacc⟩ := y
      show wpAny _ A (load s.heap.objs.size >>= _) _ _ _
      refine wpAny_bind (wpAny_load hS' ?_)
      refine wpAny_pure ?_
      exact h h' tk acc' hk hacc
  · obtain ⟨_, _, _, _, e', _⟩ := x
    cases e'
end
open PySem PySem.Spec PyProof.Rows L2 R
open PySem.W (alike AllAlike Sortable dataLe EachIs)
section
variable {X : Cx} {pins : List (Addr × Obj)} {σ : St} {H : Hp} {s' : Shared} {M : Av}
theorem sorted_runK (hu : X.A.units + 70 < cLine) (hc0 : X.calm = true) {a0 : Addr} {kvs : List (Key × V)} {ds : List D}
    (hK : Rd H a0 (.dK kvs)) (I : Inv X pins σ H s') (tk : Trk M H) (rd : RpAll X.K H M (kvs.map fun kv => kV kv.1) ds)
    (ko : keysOk ds = true) {Q : VK}
    (q : ∀ (p : Addr) (ys : List V), H p = none → RpAll X.K H M ys (sortP ds) → Q (.ref p) (upd H p (.lst ys))) :
    wpAny (model X.prog X.w) X.A (call (.builtin "sorted") [.ref a0]) (EP X pins σ Q) X.xe s' := by
  obtain ⟨al, so, pl⟩ := keysOk_of ko
  obtain ⟨z, lo, vs, rk, hd0⟩ := dk_rd I.hok hK
  obtain ⟨ep0, hat⟩ := hd0.dictAt
  have hlv : kvs.length = vs.length := Paired.length rk
  refine call_function_entry_kw kind_sorted plain_sorted entry_sorted (args_sorted1 _) ?_
  unfold Builtin.«sorted»
  refine wpAny_bind (m := checkCount "sorted" 1 1 _) (wpAny_pure ?_)
  refine wpAny_bind (collect_kdl (PySem.W.kdl_dict (knd := mixKind X.prog X.w) (kvs := vs) (ep := ep0) lo) (I.ok.hd hc0) hat (by rw [← hlv]; exact z) fun h1 tk1 acc' k1 hacc => ?_)
  have rv : Vals (kvs.map fun kv => kV kv.1) acc'.toList := by
    have el : acc'.toList.length = acc'.size := by simp
    refine vals_of_at (by rw [List.length_map, el, hacc.1, hlv]) fun j x w h1 h2 => ?_
    obtain ⟨k, y, hky, hi⟩ := hacc.2 j w (by rw [← Array.getElem?_toList]; exact h2)
    have e1 : (kvs.map (·.1))[j]? = some k := by
      rw [KV.keys rk, List.getElem?_map, hky] <;> rfl
    have e2 : (kvs.map fun kv => kV kv.1)[j]? = some (kV k) := by
      have e3 : (kvs.map fun kv => kV kv.1) = (kvs.map (·.1)).map kV := by rw [List.map_map] <;> rfl
      rw [e3, List.getElem?_map, e1] <;> rfl
    rw [e2] at h1
    cases h1
    exact keyIs_rel hi
  generalize acc'.toList = us at rv
  generalize hxs : (kvs.map fun kv => kV kv.1) = xs at rv rd
  have hl : xs.length ≤ sizeLine := by rw [← hxs, List.length_map]; exact z
  have hz : us.length ≤ sizeLine := by rw [← rv.length]; exact hl
  refine wpAny_bind (wpAny_newList ?_ hz)
  refine wpAny_bind (wpAny_holding (wpAny_call_entry_kw slot_list_sort ⟨_, Heap.get?_push_size _ rfl, rfl⟩ entry_list_sort ?body (args_list_sort _)))
  case body =>
    show wpAny (model X.prog X.w) X.A.in1.in1 (Builtin.«list.sort» ⟨[.ref h1.objs.size], _⟩) _ _ _
    have I0 : Inv X pins σ H { s' with heap := h1, toks := tk1 } := I.kept (t' := tk1) k1
    have ho1 : (h1.push (PyProof.Rows.seqObj "list" us.toArray 0)).get? h1.objs.size = some (PyProof.Rows.seqObj "list" us.toArray 0) := Heap.get?_push_size _ rfl
    have hn : H h1.objs.size = none := I0.hok.fresh (Nat.le_refl _)
    have old : ∀ b o', h1.get? b = some o' → (h1.push (PyProof.Rows.seqObj "list" us.toArray 0)).get? b = some o' := fun b o' e => Heap.get?_push_of_some _ e
    have pairs : EachIs (fun (u : Value) (b : V × D) => RelV b.1 u ∧ Rp X.K H M b.1 b.2) us (xs.zip ds) := eachPair (h := h1) rv rd
    have ez : (xs.zip ds).map (fun b => b.2) = ds := List.map_snd_zip (by rw [rd.length]; exact Nat.le_refl _)
    have er : EachIs (fun (v : Value) (b : V × D) => ∃ as, Reads (PySem.W.sortingHeap (h1.push (PyProof.Rows.seqObj "list" us.toArray 0)) h1.objs.size us) v b.2 as) us (xs.zip ds) := by
      have m := PySem.W.each_mem pairs
      refine m.mono fun v b hb => ?_
      have hm : b.2 ∈ ds := by
        have := List.mem_map_of_mem (f := fun b : V × D => b.2) hb.2
        rw [ez] at this; exact this
      obtain ⟨as, r⟩ := Dp.reads I0 _ _ _ (hb.1.2.dp (pl _ hm).1) hb.1.1
      exact ⟨as, PyProof.Rows.Reads.keeps (fun b o e => PySem.W.sortingHeap_old (Nat.ne_of_lt (Heap.lt_size e)) (old b o e)) r⟩
    have al' : AllAlike ((xs.zip ds).map fun b => b.2) := by rw [ez]; exact al
    have hlen : (PySem.W.sortVals (PySem.W.dataKind (PySem.W.sortingHeap (h1.push (PyProof.Rows.seqObj "list" us.toArray 0)) h1.objs.size us) ((xs.zip ds).map fun b => b.2)) false us us).length = us.length := PySem.W.sortVals_length false rfl
    refine PySem.W.list_sort_vals (κ := PySem.W.dataKind (PySem.W.sortingHeap (h1.push (PyProof.Rows.seqObj "list" us.toArray 0)) h1.objs.size us) ((xs.zip ds).map fun b => b.2)) ho1
      (PySem.W.SortsAt.data (s := { s' with toks := tk1, heap := PySem.W.sortingHeap (h1.push (PyProof.Rows.seqObj "list" us.toArray 0)) h1.objs.size us }) (PySem.W.each_map (R := fun v d => ∃ as, Reads (PySem.W.sortingHeap (h1.push (PyProof.Rows.seqObj "list" us.toArray 0)) h1.objs.size us) v d as) (fun b : V × D => b.2) er) al' (by rw [ez]; exact so) (by
        rw [ez]; intro d hd
        have h1 := (pl d hd).2
        show X.A.units + 1 + 1 + d.depth < cLine
        omega)) hz ?_
    have out := PySem.W.sortVals_data false pairs er al'
    obtain ⟨fv, fr⟩ := eachPairOut out
    have em : ((xs.zip ds).mergeSort (dataLe false fun b : V × D => b.2)).map (fun b => b.2) = sortP ds := by
      have := PySem.W.sort_maps (s := dataLe false fun d : D => d) (fun b : V × D => b.2) (l := xs.zip ds) (r := dataLe false fun b : V × D => b.2) fun a _ b _ => rfl
      rw [ez] at this
      exact this
    rw [em] at fr
    obtain ⟨ep, he'⟩ := PyProof.Rows.sortedHeap_at (out := (PySem.W.sortVals (PySem.W.dataKind (PySem.W.sortingHeap (h1.push (PyProof.Rows.seqObj "list" us.toArray 0)) h1.objs.size us) ((xs.zip ds).map fun b => b.2)) false us us).toArray) ho1
    refine ⟨_, rfl, wpAny_pure ⟨_, rfl, ⟨.ref h1.objs.size, _, I0.laid (t' := tk1) (a := h1.objs.size) (o := .lst (((xs.zip ds).mergeSort (dataLe false fun b : V × D => b.2)).map (·.1))) (fun b o e => ?_) (Nat.le_refl _) ⟨?_, _, ep, fv, he'⟩, rfl, q _ _ hn fr⟩⟩⟩
    · exact (PyProof.Rows.sortedHeap_old (Nat.ne_of_lt (Heap.lt_size e)) (by rw [size_push']; exact Nat.lt_succ_of_lt (Heap.lt_size e))).trans (old b o e)
    · rw [List.length_map, List.length_mergeSort, List.length_zip]
      omega
end
/-- what sorted gives, of a dict too -/
def dSortedA : GA
  | [.dict es] => if flatK es && keysOk (keysD es) then some (.list (sortP (keysD es))) else none
  | xs => dSorted xs
section
variable {X : Cx} {E : XK} {k r : Bool} {Γ : List Nat} {e : Expr} {es : List Expr} {pos p : Pos}
theorem rp_keys {K : Fg} {H : Hp} {M : Av} : ∀ {kvs : List (Key × V)} {es : List (D × D)}, RpK K H M kvs es → RpAll K H M (kvs.map fun kv => kV kv.1) (keysD es)
  | _, _, .nil => .nil
  | _, _, .cons (k := k) _ r => .cons (rp_key k) (rp_keys r)
theorem call_dSortedA (hc : X.calm = true) (hu : X.A.units + 110 < cLine) : CallR X (.builtin "sorted") (rC X.K dSortedA) := by
  intro pins s σ H vs us Q I rv h
  obtain ⟨M, ds, r, tk, rx, eg, q⟩ := h
  by_cases hd : ∃ es, ds = [.dict es]
  · obtain ⟨es, rfl⟩ := hd
    have eg : (if flatK es && keysOk (keysD es) then some (PyData.list (sortP (keysD es))) else none) = some r := eg
    by_cases fl : (flatK es && keysOk (keysD es)) = true
    · rw [if_pos fl] at eg
      cases eg
      obtain ⟨fl, ko⟩ := Bool.and_eq_true_iff.mp fl
      obtain ⟨v, rfl, rd⟩ := rx1 rx
      obtain ⟨a, kvs, e1, r1, r2⟩ := rd.dict fl
      subst e1
      obtain rfl := Vals.ref1 rv
      exact sorted_runK (by omega) hc r1 I tk (rp_keys r2) ko fun p ys np rp => let ⟨s', rp'⟩ := new_lst tk np rp; q _ _ s' rp'
    · rw [if_neg fl] at eg; cases eg
  · have eg : dSorted ds = some r := by
      rw [← eg]
      match ds, hd with
      | [], _ => rfl
      | [.dict es], hd => exact absurd ⟨es, rfl⟩ hd
      | [.none], _ => rfl
      | [.bool _], _ => rfl
      | [.int _], _ => rfl
      | [.str _], _ => rfl
      | [.list _], _ => rfl
      | [.tuple _], _ => rfl
      | a :: b :: l, _ => cases a <;> rfl
    exact call_dSorted hu pins s σ H vs us Q I rv ⟨M, ds, r, tk, rx, eg, q⟩
theorem de_sortedA {m : MA} (hc : X.calm = true) (hu : X.A.units + 110 < cLine) (hg : Gl X "sorted") (hm : X.mg "sorted" = none) (ha : DA X E k r Γ [e] m) (he : starEach [e] X.env = (false, eval e X.env) :: starEach [] X.env := by rfl) (hpl : (backTo pos (starEach [] X.env)).any (·.1) = false := by rfl) :
    DE X E k false Γ (.Call (.Name "sorted" p) [e] [] pos) (mCall dSortedA m) :=
  de_callB (call_dSortedA hc hu) hg hm (by decide +kernel) ha (by decide) (by decide) he hpl
end
end Dt

set_option Elab.async false
set_option linter.all false
set_option maxRecDepth 100000
set_option autoImplicit false
/-! dict(t), t a tuple of pairs. -/
namespace Dt
open PySem PySem.Spec PyProof.Rows L2 R
section
variable {X : Cx} {pins : List (Addr × Obj)} {σ : St} {H : Hp} {s : Shared} {M : Av}
theorem keys_pick {as : List Addr} {prs : List (Key × Value)} (h : ∀ (j : Nat) (q : Key × Value), prs[j]? = some q → ∃ (b : Addr) (u : Value), as[j]? = some b ∧ IsTup s.heap b #[u, q.2] ∧ keyIs q.1 u = true) :
    ∃ g : Nat → Value, ∀ (j : Nat) (q : Key × Value), prs[j]? = some q → ∃ b : Addr, as[j]? = some b ∧ IsTup s.heap b #[g j, q.2] ∧ keyIs q.1 (g j) = true := by
  have : ∀ j : Nat, ∃ u : Value, ∀ q : Key × Value, prs[j]? = some q → ∃ b : Addr, as[j]? = some b ∧ IsTup s.heap b #[u, q.2] ∧ keyIs q.1 u = true := fun j => by
    cases e : prs[j]? with
    | none => exact ⟨.none, fun q z => by cases z⟩
    | some q =>
      obtain ⟨b, u, h1, h2, h3⟩ := h j q e
      exact ⟨u, fun q' z => by cases z; exact ⟨b, h1, h2, h3⟩⟩
  exact ⟨fun j => Classical.choose (this j), fun j => Classical.choose_spec (this j)⟩
end
def dDictA : GA
  | [.tuple ds] => (pairsOf ds).map fun ps => .dict (dmerge [] ps)
  | xs => dDict xs
theorem call_dDictA {X : Cx} (hc : X.calm = true) : CallR X (.type "dict") (rC X.K dDictA) := by
  intro pins s σ H vs us Q I rv h
  obtain ⟨M, ds, r, tk, rx, eg, q⟩ := h
  by_cases hd : ∃ es, ds = [.tuple es]
  · obtain ⟨es, rfl⟩ := hd
    have eg : (pairsOf es).map (fun ps => PyData.dict (dmerge [] ps)) = some r := eg
    cases ep : pairsOf es with
    | none => rw [ep] at eg; cases eg
    | some ps =>
      rw [ep] at eg
      cases eg
      obtain ⟨v, rfl, rd⟩ := rx1 rx
      obtain ⟨a0, xs0, e0, r0, a0r⟩ := rd.tuple
      subst e0
      obtain rfl := Vals.ref1 rv
      obtain ⟨_, _, a, its, xs, n, sl, ea, rvv, ra, hl, ho⟩ := sqo_at (b := true) I (show RelV (V.ref a0) (Value.ref a0) from rfl) ⟨a0, xs0, rfl, r0, a0r⟩
      cases ea
      obtain ⟨as, kvs, e1, e2, e3⟩ := pairsOf_rp ra ep
      subst e1
      have ei := refs_at rvv
      subst ei
      rw [List.length_map] at hl
      obtain ⟨prs, rel, hpl, hpr⟩ := pairs_of I e2
      obtain ⟨g, hg⟩ := keys_pick hpr
      have hps : ∀ j k v, (prs.mapIdx fun j q => (g j, q.2))[j]? = some (k, v) → ∃ q, prs[j]? = some q ∧ k = g j ∧ v = q.2 := fun j k v e => by
        rw [List.getElem?_mapIdx] at e
        cases q : prs[j]? with
        | none => rw [q] at e; cases e
        | some p => rw [q] at e; cases e; exact ⟨p, rfl, rfl, rfl⟩
      have sz : (as.map Value.ref).toArray.size = (prs.mapIdx fun j q => (g j, q.2)).length := by rw [List.size_toArray, List.length_map, List.length_mapIdx, hpl]
      refine PySem.call_dict_pairs (knd := mixKind X.prog X.w) (kvs := prs) (PySem.PairArg.tuple a0 (as.map Value.ref).toArray (fun j => as.getD j 0) (prs.mapIdx fun j q => (g j, q.2))) (I.ok.hd hc) ⟨⟨_, n, ho, rfl, rfl, rfl⟩, sz, fun j k v e => ?_⟩ ⟨by rw [List.length_mapIdx], fun i key v e => ?_⟩ (by rw [List.length_mapIdx, hpl]; exact hl) fun h' tk' hd' k => ?_
      · obtain ⟨q, hq, rfl, rfl⟩ := hps j k v e
        obtain ⟨b, hb, ht, _⟩ := hg j q hq
        have eb : as.getD j 0 = b := by rw [List.getD_eq_getElem?_getD, hb]; rfl
        refine ⟨by simp [hb, eb], .inl ?_⟩
        show s.heap.IsTuple (as.getD j 0) #[g j, q.2]
        rw [eb]
        exact ht
      · obtain ⟨q, hq, rfl, rfl⟩ := hps i key v e
        obtain ⟨b, hb, _, hk⟩ := hg i q hq
        exact ⟨q.1, hq, hk⟩
      · have hm : (s.heap.objs.size == sysModules) = false := beq_eq_false_iff_ne.mpr (Nat.ne_of_gt I.big)
        have hlen : (mergeK [] kvs).length ≤ sizeLine := by
          refine Nat.le_trans (length_mergeK kvs []) ?_
          rw [List.length_nil, Nat.zero_add, rel.length, hpl]
          exact hl
        have np := I.hok.fresh (Nat.le_refl s.heap.objs.size)
        have s' : Same H (upd H s.heap.objs.size (.dK (mergeK [] kvs))) := fun b u e => by rw [upd_ne (ne_of_none e np)]; exact e
        exact ⟨.ref s.heap.objs.size, upd H s.heap.objs.size (.dK (mergeK [] kvs)), I.laid (t' := tk') (fun b o e => k b o (by simp) e) (Nat.le_refl _) (show ObjOk X.prog X.w _ _ _ (.dK (mergeK [] kvs)) from ⟨hlen, hm, merged [] prs, KV.merge rel .nil, hd'⟩), rfl, q _ _ s' (.dcK (.inl upd_same) (tk.ne np) (rpK_merge (RpK.carry (Carry.same s') e3) .nil))⟩
  · have eg : dDict ds = some r := by
      rw [← eg]
      match ds, hd with
      | [], _ => rfl
      | [.tuple es], hd => exact absurd ⟨es, rfl⟩ hd
      | [.none], _ => rfl
      | [.bool _], _ => rfl
      | [.int _], _ => rfl
      | [.str _], _ => rfl
      | [.list _], _ => rfl
      | [.dict _], _ => rfl
      | a :: b :: l, _ => cases a <;> rfl
    exact call_dDict hc pins s σ H vs us Q I rv ⟨M, ds, r, tk, rx, eg, q⟩
end Dt

set_option Elab.async false
set_option linter.all false
set_option maxRecDepth 100000
set_option autoImplicit false
/-! Exceptions: an own class of ValueError, raised with a text. -/
namespace Dt
open PySem PySem.Spec PyProof.Rows L2 R
def bmVE : List Value := [.type "ValueError", .type "Exception", .type "BaseException", .type "object"]
def isTy : Option Value → Bool
  | some (.type n) => decide (n = "type")
  | _ => false
/-- a name of the module that stands for a class of ValueError -/
def clsB (K : Fg) (x : Str) : Bool := match PySem.W.nsIn K mainGlobals x with
  | some (some (.ref C)) => PySem.W.excIn K C bmVE "ValueError.__new__" && (PySem.W.keepIn K (.ref C) && (PySem.W.subIn K (.ref C) (.type "BaseException") == some true && isTy (PySem.W.typeIn K (.ref C))))
  | _ => false
def Cls (K : Fg) (mg : Str → Option Value) (x : Str) : Prop := ∃ C, mg x = some (.ref C) ∧ PySem.W.excIn K C bmVE "ValueError.__new__" = true ∧ PySem.W.keepIn K (.ref C) = true ∧ PySem.W.subIn K (.ref C) (.type "BaseException") = some true ∧ PySem.W.typeIn K (.ref C) = some (.type "type")
theorem isTy_some {o : Option Value} (h : isTy o = true) : o = some (.type "type") := by
  cases o with
  | none => cases h
  | some v =>
    cases v with
    | type n =>
      have h : decide (n = "type") = true := h
      rw [of_decide_eq_true h]
    | _ => cases h
section
variable {X : Cx} {E : XK} {Γ0 Γ Γl : List Nat} {x m : Str} {j : Nat} {p p2 pos pos' : Pos}
theorem ds_raise (hc : X.calm = true) (tk : Takes X (fun c d _ H => E c d H)) (h : Cls X.K X.mg x) (hg : Gl X x) (hdb : (x == ("__debug__" : Str)) = false := by decide) : DS X E Γ0 Γ Γ Γl (.Raise (some (.Call (.Name x p) [.Constant (.str m) j p2] [] pos)) none pos') (fun _ => .exc x) := by
  obtain ⟨C, hC, q, kC, s1, s2⟩ := h
  exact PS.imp (ps_raise hc tk (pmk_own PySem.F.excBase_ValueError q hC kC (raises_own s1 s2) hg hdb)) fun D σ H ⟨M0, B, A0, ρ, h1, h2, dj, f, qq⟩ => qq C H hC (Fra.refl)
end
/-! try: return e, except X as n: return True or False; in a def without own lists -/
def sTryRet (m : ME) (tab : List (Str × Bool)) (d : D) : MS := fun ρ => match m ρ with
  | .ok z => .ok (.rt z.1, z.2)
  | .exc c => match tab.lookup c with
    | some true => .ok (.rt d, ρ)
    | some false => .exc c
    | none => .no
  | .no => .no
section
variable {X : Cx} {E : XK} {Γ' Γl : List Nat} {x n : Str} {i j k : Nat} {b : Bool} {e : Expr} {m : ME} {tab : List (Str × Bool)} {hc : Value} {np rp rp2 p3 pos pos' : Pos}
theorem ds_tryRet (cs : Cs X E k) (hs : X.stack = X.env :: X.outer) (hf : X.env.frame = some X.env.locals) (hN : X.N.Nodup) (hi : X.N[i]? = some n) (hln : X.env.kindOf n = some .local) (hcn : Names X x hc)
    (ht : ∀ c bb, tab.lookup c = some bb → ∃ C, X.mg c = some (.ref C) ∧ PySem.W.exmOne X.K (.ref C) hc = some bb)
    (he : ∀ (pn : List (Addr × Obj)) (xe : Value → Shared → Prop) (E' : XK), Cz (X.tr pn xe) E' k → DE (X.tr pn xe) E' false false [] e m) :
    DS X E [] [] Γ' Γl (.Try [.Return (some e) rp] [.ExceptHandler (some (.Name x np)) (some n) [.Return (some (.Constant (.bool b) j p3)) rp2] pos'] [] [] pos) (sTryRet m tab (.bool b)) := by
  refine PS.imp (ps_try_as (tb := fun W D σ H => DT X.K X.mg (fun c d H' => ∀ σ, W c d σ H') false false [] m σ H D.rt) (ts := fun a cls d D σ H => D.rt (.bl b) H) (Wout := fun c d _ H => E c d H) hs hf hN hi hln hcn cs.takes (fun W pn xe tk own => ?_) (fun a oe cls d pn hz hv => ?_)) fun D σ H ⟨M0, B, A0, ρ, hB, hA, dj, f, q⟩ => ?_
  · exact pss_one (PS.imp (ps_ret (he pn xe _ ⟨cs.calm, cs.room, passes_call tk fun _ _ _ _ h => h _⟩)) fun D σ H h => h)
  · exact pss_one (PS.imp (ps_ret pe_bl) fun D σ H h => h)
  · have eB : B = [] := List.map_eq_nil_iff.mp hB
    have eA : A0 = [] := List.map_eq_nil_iff.mp hA
    subst eB
    subst eA
    have same : ∀ {H'}, Fra (eff false []) H H' → Fra (As.has ([] ++ [])) H H' := fun g a o e hn => g a o e fun z => (by cases z.1)
    refine ⟨_, _, ρ, rfl, f, ?_⟩
    unfold sTryRet at q
    cases hm : m ρ with
    | ok z =>
      rw [hm] at q
      exact fun v H' f' g' e' r' => q v H' (same g') r' fun p hp => by cases hp
    | exc c =>
      rw [hm] at q
      intro C H' hC g σ'
      cases hl : tab.lookup c with
      | none =>
        have q : (match tab.lookup c with | some true => R.ok (Fl.rt (.bool b), ρ) | some false => .exc c | none => .no).post _ _ := q
        rw [hl] at q
        exact q.elim
      | some bb =>
        obtain ⟨C', hC', hx⟩ := ht c bb hl
        rw [hC] at hC'
        cases hC'
        have q : (match tab.lookup c with | some true => R.ok (Fl.rt (.bool b), ρ) | some false => .exc c | none => .no).post _ _ := q
        rw [hl] at q
        refine ⟨bb, hx, fun hb a na => ?_, fun hb => ?_⟩
        · subst hb
          exact q (.bl b) H' (same g) (.bl b) fun p hp => by cases hp
        · subst hb
          exact q C H' hC (same g)
    | no =>
      rw [hm] at q
      exact q.elim
end
/-! the facts, as the head asks them -/
theorem clsB_ok {K : Fg} {h : Heap} {mg : Str → Option Value} {x : Str} (X : K.In h) (G : h.Ns mainGlobals mg) (c : clsB K x = true) : Cls K mg x := by
  unfold clsB at c
  split at c
  · rename_i C e
    rw [Bool.and_eq_true, Bool.and_eq_true, Bool.and_eq_true] at c
    exact ⟨C, PySem.W.mg_of X G e, c.1, c.2.1, by simpa using c.2.2.1, isTy_some c.2.2.2⟩
  · cases c
def ExAll (K : Fg) (mg : Str → Option Value) (x : Str) (tab : List (Str × Bool)) : Prop := ∃ C', mg x = some (.ref C') ∧ ∀ p ∈ tab, ∃ C, mg p.1 = some (.ref C) ∧ PySem.W.exmOne K (.ref C) (.ref C') = some p.2
def exmB (K : Fg) (x : Str) (tab : List (Str × Bool)) : Bool := match PySem.W.nsIn K mainGlobals x with
  | some (some (.ref C')) => tab.all fun p => match PySem.W.nsIn K mainGlobals p.1 with
    | some (some (.ref C)) => PySem.W.exmOne K (.ref C) (.ref C') == some p.2
    | _ => false
  | _ => false
theorem exmB_ok {K : Fg} {h : Heap} {mg : Str → Option Value} {x : Str} {tab : List (Str × Bool)} (X : K.In h) (G : h.Ns mainGlobals mg) (c : exmB K x tab = true) : ExAll K mg x tab := by
  unfold exmB at c
  split at c
  · rename_i C e
    refine ⟨C, PySem.W.mg_of X G e, fun p hp => ?_⟩
    have c := List.all_eq_true.mp c p hp
    split at c
    · rename_i C2 e2
      exact ⟨C2, PySem.W.mg_of X G e2, by simpa using c⟩
    · cases c
  · cases c
theorem lookup_in : ∀ {tab : List (Str × Bool)} {c : Str} {b : Bool}, tab.lookup c = some b → (c, b) ∈ tab
  | [], _, _, h => by cases h
  | (a, y) :: tab, c, b, h => by
    unfold List.lookup at h
    split at h
    · rename_i e
      cases h
      have : c = a := by simpa using e
      rw [this]
      exact List.mem_cons_self
    · exact List.mem_cons_of_mem _ (lookup_in h)
section
variable {X : Cx} {E : XK} {Γ' Γl : List Nat} {x n : Str} {i j k : Nat} {b : Bool} {e : Expr} {m : ME} {tab : List (Str × Bool)} {np rp rp2 p3 pos pos' : Pos}
theorem ds_try1 (cs : Cs X E k) (hs : X.stack = X.env :: X.outer) (hf : X.env.frame = some X.env.locals) (hN : X.N.Nodup) (hi : X.N[i]? = some n) (hln : X.env.kindOf n = some .local) (hg : Gl X x) (ht : ExAll X.K X.mg x tab)
    (he : ∀ (pn : List (Addr × Obj)) (xe : Value → Shared → Prop) (E' : XK), Cz (X.tr pn xe) E' k → DE (X.tr pn xe) E' false false [] e m) (hdb : (x == ("__debug__" : Str)) = false := by decide) :
    DS X E [] [] Γ' Γl (.Try [.Return (some e) rp] [.ExceptHandler (some (.Name x np)) (some n) [.Return (some (.Constant (.bool b) j p3)) rp2] pos'] [] [] pos) (sTryRet m tab (.bool b)) := by
  obtain ⟨C', hC, h⟩ := ht
  exact ds_tryRet cs hs hf hN hi hln ⟨hg, hdb, .inl hC⟩ (fun c bb hl => h _ (lookup_in hl)) he
end
end Dt

set_option Elab.async false
set_option linter.all false
set_option maxRecDepth 100000
set_option autoImplicit false
/-! xs.remove(x), xs an own list, x among its items. -/
namespace Dt
open PySem PySem.Spec PyProof.Rows L2 R
def rRem (K : Fg) : V → List V → Hp → VK → Prop := fun x vs H Q => ∃ l xs y ds d j, x = .ref l ∧ vs = [y] ∧ H l = some (.lst xs) ∧ DpAll K H xs ds ∧ Dp K H y d ∧ PyData.plainAll ds = true ∧ d.plain = true ∧ d.depth ≤ 100 ∧ SeqAt.dataPlace ds d = some j ∧ Q .non (upd H l (.lst (xs.eraseIdx j)))
section
variable {X : Cx} {E : XK} {k r : Bool} {Γ : List Nat} {e : Expr}
theorem mt_rem (hu : X.A.units + 110 < cLine) : MtM X "list.remove" (rRem X.K) := by
  intro pins s σ H x vs v us Q I rx rv h
  obtain ⟨l, xs, y, ds, d, j, rfl, rfl, hH, da, dy, p1, p2, dl, hp, q⟩ := h
  cases rx
  obtain ⟨u, rfl, ru⟩ := rv.one
  obtain ⟨z, its, n, r, hl, e⟩ := I.lstM hH
  obtain ⟨as, r1⟩ := Dp.reads I _ y u dy ru
  obtain ⟨bs, r2⟩ := Dp.readsAll I _ _ _ da r
  refine SeqAt.remove_list_data (vs := its.toArray) ⟨_, e, rfl, n, rfl⟩ (by simpa using r2) r1 p1 p2 (by omega) hp (by rw [List.size_toArray, ← hl]; exact z) ?_
  refine ⟨.non, _, I.lset (its' := its.eraseIdx j) hH e ?_ (r.eraseIdx j) ?_, rfl, q⟩
  · show its.toArray.eraseIdxIfInBounds j = (its.eraseIdx j).toArray
    rw [List.eraseIdxIfInBounds_toArray]
  · have := len_erase xs j
    omega
/-- xs.remove(e) -/
def eRem (i : Nat) (m : ME) : ME := fun ρ => (R.opt (asL (getv ρ i))).bind fun _ => (m ρ).bind fun z => (R.opt (asL (getv z.2 i))).bind fun ds =>
  if inOk z.1 ds = true then (R.opt (SeqAt.dataPlace ds z.1)).bind fun j => .ok (.none, z.2.set i (some (.list (ds.eraseIdx j)))) else .no
theorem de_rem {i : Nat} {o : Expr} {m : ME} {apos cpos : Pos} (hu : X.A.units + 110 < cLine) (hp : PE X o (tVar i)) (ha : DE X E true false Γ e m) (hi : Γ.contains i = true := by decide)
    (hbase : attributeBase o "remove" X.env (eval o X.env) = eval o X.env := by rfl)
    (hfew : ((backTo cpos (starEach [e] X.env)).all (fun x => !x.1) && (backToKw cpos (keywordEach [] X.env)).all (fun x => x.1.isSome)
      && decide (([e] : List Expr).length + ([] : List Keyword).length + (if ([] : List Keyword).isEmpty then 0 else 1) < 30)) = true := by rfl)
    (hline : (apos.endLine == cpos.line) = true := by rfl) (hs : starEach [e] X.env = (false, eval e X.env) :: starEach [] X.env := by rfl) (hplain : (backTo cpos (starEach [] X.env)).any (·.1) = false := by rfl) :
    DE X E true false Γ (.Call (.Attribute o "remove" apos) [e] [] cpos) (eRem i m) :=
  PE.imp (pe_bm PySem.F.plainAttrs_list PySem.F.slot_list_remove PySem.F.type_list_remove (mt_rem hu) hp (pa_cons ha pa_nil hs) hbase hfew hline hs hplain) fun σ H Q ⟨M, A, ρ, hΓ, f, h⟩ => by
    obtain ⟨ds0, e0, h⟩ := post_opt h
    obtain ⟨a, xs, ia, e1, e2, e3⟩ := f.ownL hΓ hi (asL_some e0)
    refine ⟨.ref a, e1, .inl ⟨rfl, xs, .inl (.inl e2)⟩, M, A, ρ, hΓ, f, pimp (post_bind h) (fun z hz v H1 f1 g1 _ r1 => ?_) fun c hc => hc⟩
    obtain ⟨ds, ed, hz⟩ := post_opt hz
    obtain ⟨b, ys, ib, e4, e5, e6⟩ := f1.ownL hΓ hi (asL_some ed)
    obtain rfl := Fit.at_same f f1 ib e1
    by_cases hl : inOk z.1 ds = true
    · rw [if_pos hl] at hz
      obtain ⟨j, ej, hz⟩ := post_opt hz
      obtain ⟨q1, q2, q3⟩ := inOk_of hl
      have c : Carry X.K H1 (upd H1 b (.lst (ys.eraseIdx j))) M M := Carry.at (f1.sub _ ib)
      refine ⟨b, ys, v, ds, z.1, j, rfl, rfl, e5, e6.dp q1, (Rt.of r1).dp q2, q1, q2, q3, ej, ?_⟩
      exact hz .non _ (f1.change ib (.lst upd_same (RpAll.carry c (e6.eraseIdx j)))) (g1.trans (Fra.change ib)) (fun n => Bool.noConfusion n) .non
    · rw [if_neg hl] at hz; exact hz.elim
end
end Dt

set_option Elab.async false
set_option linter.all false
set_option maxRecDepth 100000
set_option autoImplicit false
/-! x, y = [], [] : two own lists at once. -/
namespace Dt
open PySem PySem.Spec PyProof.Rows L2 R
section
variable {X : Cx} {E : XK} {k r : Bool} {Γ0 Γ Γ' Γ1 Γ2 Γl : List Nat} {pos : Pos}
theorem own_turn {i : Nat} {m : ME} (hΓ : (Γ ++ Γ0).contains i = false) {D : Ends} {σ : St} {H : Hp} (hh : DTs X.K X.mg E Γ0 Γ (i :: Γ) Γl (sSet (gOwn i) m) D σ H) : tAsg (DTf X.K X.mg E k (Γ ++ Γ0) m) (gName i) D σ H := by
  obtain ⟨M0, B, A0, ρ, hB, hA, dj, f, q⟩ := hh
  have hΓ' : (B ++ A0).map (·.1) = Γ ++ Γ0 := by rw [List.map_append, hB, hA]
  refine ⟨_, _, ρ, hΓ', f, pimp (post_bind q) (fun z hz p H' np f' g' e' o => ?_) fun c hc => DX.eff hc⟩
  have ni := not_own hΓ' hΓ
  have np' : ∀ q ∈ B ++ A0, q.2 ≠ p := fun q hq e => by
    obtain ⟨o, eo⟩ := f.trk q.2 (.inr (As.has_of hq))
    rw [e, np] at eo; cases eo
  by_cases hl3 : i < z.2.length
  · have hz : (((if i < z.2.length then R.ok (z.2.set i (some z.1)) else R.no).nox).bind fun ρ' => R.ok (Fl.nx, ρ')).post (Pst X.K M0 A0 (i :: Γ) Γl D B H) (DX X.mg E (As.has (B ++ A0)) H) := hz
    rw [if_pos hl3] at hz
    have hsub : ∀ b, un M0 (((i, p) :: B) ++ A0) b → ((un M0 (B ++ A0)).add p) b := fun b z => by
      rcases z with z | ⟨j, z⟩
      · exact .inl (.inl z)
      · rcases List.mem_cons.mp z with z | z
        · exact .inr (congrArg Prod.snd z)
        · exact .inl (.inr ⟨j, z⟩)
    have c : Carry X.K H' H' ((un M0 (B ++ A0)).add p) (un M0 (((i, p) :: B) ++ A0)) := Carry.weak hsub
    refine hz _ H' ((i, p) :: B) (by rw [List.map_cons, hB]) ⟨g'.eff_has, fun q hq => ?_⟩ ⟨by rw [List.length_set, List.length_set]; exact f'.len, fun b mb => f'.trk b (hsub b mb), fun q hq => .inr (As.has_of hq), ?_, fun q hq => ?_, fun j d ej nj => ?_⟩
    · rcases List.mem_cons.mp hq with e | hq
      · rw [e]; exact .inr np
      · exact .inl (As.has_of hq)
    · show (p :: (B ++ A0).map (·.2)).Nodup
      refine List.nodup_cons.mpr ⟨fun hm => ?_, f.nd⟩
      obtain ⟨q, hq, e⟩ := List.mem_map.mp hm
      exact np' q hq e
    · rcases List.mem_cons.mp (show q ∈ (i, p) :: (B ++ A0) from hq) with e | hq
      · subst e
        exact ⟨List.getElem?_set_self (by rw [f'.len]; exact hl3), z.1, List.getElem?_set_self hl3, o.carry c fun _ e => e⟩
      · have ne : i ≠ q.1 := fun e => ni q.2 (by rw [e]; exact hq)
        obtain ⟨h1, d', h2, h3⟩ := f'.own q hq
        exact ⟨by rw [List.getElem?_set_ne ne]; exact h1, d', by rw [List.getElem?_set_ne ne]; exact h2, h3.carry c fun _ e => e⟩
    · by_cases ej' : i = j
      · subst ej'
        exact absurd (List.mem_cons_self (a := (i, p)) (l := B ++ A0)) (nj p)
      · rw [List.getElem?_set_ne ej'] at ej
        obtain ⟨w, h1, h2⟩ := f'.shr j d ej fun a hq => nj a (List.mem_cons_of_mem _ hq)
        exact ⟨w, by rw [List.getElem?_set_ne ej']; exact h1, Rp.carry c h2⟩
  · have hz : (((if i < z.2.length then R.ok (z.2.set i (some z.1)) else R.no).nox).bind fun ρ' => R.ok (Fl.nx, ρ')).post (Pst X.K M0 A0 (i :: Γ) Γl D B H) (DX X.mg E (As.has (B ++ A0)) H) := hz
    rw [if_neg hl3] at hz
    exact hz.elim


theorem seq_turn {m m' : MS} {t u : TS} (h1 : ∀ {D σ H}, DTs X.K X.mg E Γ0 Γ Γ1 Γl m D σ H → t D σ H) (h2 : ∀ {D σ H}, DTs X.K X.mg E Γ0 Γ1 Γ2 Γl m' D σ H → u D σ H) {D : Ends} {σ : St} {H : Hp} (hh : DTs X.K X.mg E Γ0 Γ Γ2 Γl (sSeq m m') D σ H) : t { D with nx := fun σ' H' => u D σ' H' } σ H := by
  obtain ⟨M0, B, A0, ρ, hB, hA, dj, f, q⟩ := hh
  refine h1 ⟨M0, B, A0, ρ, hB, hA, dj, f, pimp (post_bind q) (fun z hz => ?_) fun c hc => hc⟩
  obtain ⟨fl, ρ'⟩ := z
  cases fl with
  | nx =>
    exact fun σ' H' B' e s f' => h2 ⟨M0, B', A0, ρ', e, hA, s.apart dj f.trkM, f', pimp (show (m' ρ').post _ _ from hz) (fun z2 h => Pst.step s f'.trk0 h) fun c hc => DX.step s hc⟩
  | rt d => exact hz
  | bk => exact hz
  | ct => exact hz
theorem nil_turn {K : Fg} {mg : Str → Option Value} {Γ : List Nat} {σ : St} {H : Hp} {Q : VK} (h : DTf K mg E k Γ (mLst aNil) σ H Q) : ∀ p, H p = none → Q (.ref p) (upd H p (.lst [])) := fun p np => by
  obtain ⟨M, A, ρ, hΓ, f, h⟩ := h
  exact h p _ np (f.addM np) (Fra.of_eff fun b u e => by rw [upd_ne (ne_of_none e np)]; exact e) (fun _ => rfl) (.lst upd_same .nil)
/-- x, y = ([], []) -/
theorem ds_nil2 {i j : Nat} {x y : Str} {px py pt : Pos} {kt k2 pt2} {p1 p2 : Pos} (hc : X.calm = true) (hN : X.N.Nodup) (hi : X.N[i]? = some x) (hj : X.N[j]? = some y) (hij : i ≠ j)
    (hx : X.env.scope.names.lookup x = some .local) (hy : X.env.scope.names.lookup y = some .local)
    (hw : swappedStores [.Tuple [.Name x px, .Name y py] kt pt] (.Tuple [.List [] p1, .List [] p2] k2 pt2) X.env = pure (some [x, y]))
    (hs : swapsWithSole [.Tuple [.Name x px, .Name y py] kt pt] (.Tuple [.List [] p1, .List [] p2] k2 pt2) pos.line X.env = pure false := by rfl)
    (h1 : (Γ ++ Γ0).contains i = false := by decide) (h2 : ((i :: Γ) ++ Γ0).contains j = false := by decide) :
    DS X E Γ0 Γ (j :: i :: Γ) Γl (.Assign [.Tuple [.Name x px, .Name y py] kt pt] (.Tuple [.List [] p1, .List [] p2] k2 pt2) pos) (sSeq (sSet (gOwn i) (mLst aNil)) (sSet (gOwn j) (mLst aNil))) :=
  PS.imp (ps_par hc hN hi hj hij hx hy (pa_cons (pe_lst pa_nil) (pa_cons (pe_lst pa_nil) pa_nil)) hw hs) fun D σ H hh => by
    have q := seq_turn (t := tAsg (DTf X.K X.mg E false (Γ ++ Γ0) (mLst aNil)) (gName i)) (u := tAsg (DTf X.K X.mg E false ((i :: Γ) ++ Γ0) (mLst aNil)) (gName j)) (fun h => own_turn h1 h) (fun h => own_turn h2 h) hh
    have a := nil_turn q
    refine ⟨Nat.zero_le _, fun p np => ⟨Nat.zero_le _, fun p' np' => ⟨.ref p, .ref p', rfl, ?_⟩⟩⟩
    have b : DTf X.K X.mg E false ((i :: Γ) ++ Γ0) (mLst aNil) (σ.set i (some (.ref p))) (upd H p (.lst [])) (fun x H1 => gName j x (σ.set i (some (.ref p))) H1 D.nx) := a p np
    exact nil_turn b p' np'
end
end Dt

set_option Elab.async false
set_option linter.all false
set_option maxRecDepth 100000
set_option autoImplicit false
/-! Sets of nested tuples (ints, texts, None within): what is asked of a key, and the search. -/
namespace Dt
section
open PySem PySem.Spec PyProof.Rows L2
variable {P : Program} {w : World}

mutual
/-- a key is of no class statement -/
theorem ofA_key : ∀ (k : NestedKey) (v : Value) (n : Nat) (s : Shared), NestedIs s.heap k v → k.depth ≤ n → ∀ (A : Around) (E : Value → Shared → Prop) (Q : Bool → Shared → Prop), Q false s → wpAny (model P w) A (ofAClassStatement n v) Q E s
  | .none, _, n, s, x, _, A, E, Q, h => by cases x; cases n <;> exact wpAny_pure h
  | .num i, _, n, s, x, _, A, E, Q, h => by cases x <;> cases n <;> exact wpAny_pure h
  | .text y, _, n, s, x, _, A, E, Q, h => by cases x; cases n <;> exact wpAny_pure h
  | .tup ks, _, n, s, x, hn, A, E, Q, h => by
    cases x with
    | @tup a o vs m _ hg hc hd hk =>
      cases n with
      | zero =>
        have e : ks.length = ks.length := rfl
        simp only [NestedKey.depth] at hn
        omega
      | succ n =>
        simp only [NestedKey.depth] at hn
        have hT : s.TypeIs (.ref a) "tuple" := ⟨o, hg, hc⟩
        unfold ofAClassStatement
        refine wpAny_bind (wpAny_typeOf hT ?_)
        dsimp only
        have e : (("tuple" : String) == "tuple") = true := by decide
        simp only [e, if_true, Bool.not_true, Bool.false_eq_true, if_false]
        try refine wpAny_bind (wpAny_pure ?_)
        try simp only [Bool.not_true, Bool.false_eq_true, if_false]
        show wpAny _ _ (seqItems? (.ref a) >>= _) _ _ s
        refine wpAny_bind (wpAny_seqItems hg hd ?_)
        dsimp only
        refine wpAny_bind ?_
        show wpAny _ _ (forIn vs _ _) _ _ s
        rw [← Array.forIn_toList]
        refine wpAny_forIn_list _ (fun rest r s' => r.1 = none ∧ s' = s ∧ ∀ v ∈ rest, ∀ (A : Around) (E : Value → Shared → Prop) (Q : Bool → Shared → Prop), Q false s → wpAny (model P w) A (ofAClassStatement n v) Q E s) _ ?_ ?_ _ _
          ⟨rfl, rfl, ofA_keys ks _ n s hk (by omega)⟩
        · rintro v rest r s' ⟨hr, rfl, hall⟩
          refine wpAny_bind (hall v List.mem_cons_self _ _ _ ?_)
          simp only [Bool.false_eq_true, if_false]
          exact wpAny_pure ⟨rfl, rfl, fun u hu' => hall u (List.mem_cons_of_mem _ hu')⟩
        · rintro ⟨r1, r2⟩ s' ⟨hr, rfl, _⟩
          simp only at hr
          subst hr
          exact wpAny_pure h
theorem ofA_keys : ∀ (ks : List NestedKey) (vs : List Value) (n : Nat) (s : Shared), NestedAll s.heap ks vs → NestedKey.depthAll ks ≤ n → ∀ v ∈ vs, ∀ (A : Around) (E : Value → Shared → Prop) (Q : Bool → Shared → Prop), Q false s → wpAny (model P w) A (ofAClassStatement n v) Q E s
  | [], _, n, s, x, _, v, hv => by cases x; cases hv
  | k :: ks, _, n, s, x, hn, v, hv => by
    cases x with
    | cons x1 x2 =>
      simp only [NestedKey.depthAll] at hn
      rcases List.mem_cons.mp hv with e | hv
      · rw [e]; exact ofA_key k _ n s x1 (by omega)
      · exact ofA_keys ks _ n s x2 (by omega) v hv
end
mutual
/-- whether the hash goes by value: answered, one way or the other -/
theorem hashBy_key : ∀ (k : NestedKey) (v : Value) (n : Nat) (s : Shared), NestedIs s.heap k v → ∀ (A : Around) (E : Value → Shared → Prop) (Q : Bool → Shared → Prop), (∀ b, Q b s) → wpAny (model P w) A (hashByValue n v) Q E s
  | .none, _, n, s, x, A, E, Q, h => by cases x; cases n <;> exact wpAny_pure (h _)
  | .num i, _, n, s, x, A, E, Q, h => by cases x <;> cases n <;> exact wpAny_pure (h _)
  | .text y, _, n, s, x, A, E, Q, h => by cases x; cases n <;> exact wpAny_pure (h _)
  | .tup ks, _, n, s, x, A, E, Q, h => by
    cases x with
    | @tup a o vs m _ hg hc hd hk =>
      cases n with
      | zero => exact wpAny_pure (h _)
      | succ n =>
        have hT : s.TypeIs (.ref a) "tuple" := ⟨o, hg, hc⟩
        unfold hashByValue
        refine wpAny_bind (wpAny_specialOf hT F.slot_tuple_hash.lookup ?_)
        show wpAny _ _ (seqItems? (.ref a) >>= _) _ _ s
        refine wpAny_bind (wpAny_seqItems hg hd ?_)
        refine wpAny_bind ?_
        show wpAny _ _ (forIn vs _ _) _ _ s
        rw [← Array.forIn_toList]
        refine wpAny_forIn_list _ (fun rest r s' => r.1 = none ∧ s' = s ∧ ∀ v ∈ rest, ∀ (A : Around) (E : Value → Shared → Prop) (Q : Bool → Shared → Prop), (∀ b, Q b s) → wpAny (model P w) A (hashByValue n v) Q E s) _ ?_ ?_ _ _
          ⟨rfl, rfl, hashBy_keys ks _ n s hk⟩
        · rintro v rest r s' ⟨hr, rfl, hall⟩
          refine wpAny_bind (hall v List.mem_cons_self _ _ _ fun b => ?_)
          cases b
          · simp only [Bool.not_false, if_true]
            exact wpAny_pure (wpAny_pure (h false))
          · simp only [Bool.not_true, Bool.false_eq_true, if_false]
            exact wpAny_pure ⟨rfl, rfl, fun u hu' => hall u (List.mem_cons_of_mem _ hu')⟩
        · rintro ⟨r1, r2⟩ s' ⟨hr, rfl, _⟩
          simp only at hr
          subst hr
          exact wpAny_pure (h true)
theorem hashBy_keys : ∀ (ks : List NestedKey) (vs : List Value) (n : Nat) (s : Shared), NestedAll s.heap ks vs → ∀ v ∈ vs, ∀ (A : Around) (E : Value → Shared → Prop) (Q : Bool → Shared → Prop), (∀ b, Q b s) → wpAny (model P w) A (hashByValue n v) Q E s
  | [], _, n, s, x, v, hv => by cases x; cases hv
  | k :: ks, _, n, s, x, v, hv => by
    cases x with
    | cons x1 x2 =>
      rcases List.mem_cons.mp hv with e | hv
      · rw [e]; exact hashBy_key k _ n s x1
      · exact hashBy_keys ks _ n s x2 v hv
end
variable {A : Around} {E : Value → Shared → Prop} {s : Shared}
/-- the tuple at b is the key k -/
abbrev IsN (h : Heap) (k : NestedKey) (b : Addr) : Prop := NestedIs h k (.ref b) ∧ k.depth ≤ 8
/-- a search among keys shows nothing -/
theorem seen_key {k : NestedKey} {b : Addr} {Q : Bool → Shared → Prop} (hk : IsN s.heap k b) {ys : List Value} (hy : ∀ y ∈ ys, ∃ k' c, y = Value.ref c ∧ IsN s.heap k' c) (h : Q false s) :
    wpAny (model P w) A (searchCouldBeSeen (.ref b) ys) Q E s := by
  unfold searchCouldBeSeen
  refine wpAny_bind ?_
  refine wpAny_forIn_list _ (fun rest r s' => r.1 = none ∧ s' = s ∧ ∀ y ∈ rest, ∃ k' c, y = Value.ref c ∧ IsN s.heap k' c) _ ?_ ?_ _ _ ⟨rfl, rfl, hy⟩
  · rintro v rest r s' ⟨hr, rfl, hall⟩
    obtain ⟨k', c, rfl, hc⟩ := hall v List.mem_cons_self
    have rest' : ∀ y ∈ rest, ∃ k' c, y = Value.ref c ∧ IsN s'.heap k' c := fun u hu' => hall u (List.mem_cons_of_mem _ hu')
    dsimp only
    by_cases hv : (b == c || (carriedByValue (.ref b) && carriedByValue (.ref c))) = true
    · refine wp_if_pos hv ?_
      exact wpAny_pure ⟨rfl, rfl, rest'⟩
    · refine wp_if_neg hv ?_
      refine wpAny_bind (quiet_key k _ 8 s' hk.1 hk.2 _ _ _ ?_)
      simp only [Bool.not_true, Bool.false_eq_true, if_false]
      refine wpAny_bind (quiet_key k' _ 8 s' hc.1 hc.2 _ _ _ ?_)
      simp only [Bool.not_true, Bool.false_eq_true, if_false]
      refine wpAny_bind (ofA_key k _ 8 s' hk.1 hk.2 _ _ _ ?_)
      simp only [Bool.false_eq_true, if_false]
      refine wpAny_bind (ofA_key k' _ 8 s' hc.1 hc.2 _ _ _ ?_)
      simp only [Bool.false_eq_true, if_false]
      exact wpAny_pure ⟨rfl, rfl, rest'⟩
  · rintro ⟨r1, r2⟩ s' ⟨hr, rfl, _⟩
    simp only at hr
    subst hr
    exact wpAny_pure h
end
end Dt

set_option Elab.async false
set_option linter.all false
set_option maxRecDepth 100000
set_option autoImplicit false
/-! Sets of nested tuples: the table, the search, adding. -/
namespace Dt
section
open PySem PySem.Spec PyProof.Rows L2
variable {P : Program} {w : World} {A : Around} {E : Value → Shared → Prop} {s : Shared}
abbrev Lk := List (Addr × NestedKey)
def hsN (w : World) (L : Lk) : List Int := L.map fun p => p.2.hash w
def rowsN (w : World) (L : Lk) : List (Int × Value) := L.map fun p => (p.2.hash w, Value.ref p.1)
theorem rowsN_len (L : Lk) : (rowsN w L).length = L.length := List.length_map _
theorem hsN_len (L : Lk) : (hsN w L).length = L.length := List.length_map _
theorem size_of {L : Lk} {es : Array (Int × Value)} (h : es.toList = rowsN w L) : es.size = L.length := by
  rw [← Array.length_toList, h, rowsN_len]
theorem entry_of {L : Lk} {es : Array (Int × Value)} (h : es.toList = rowsN w L) {i : Nat} {p : Addr × NestedKey} (e : L[i]? = some p) : es[i]? = some (p.2.hash w, Value.ref p.1) := by
  rw [← Array.getElem?_toList, h, rowsN, List.getElem?_map, e] <;> rfl
theorem fits_of {L : Lk} {es : Array (Int × Value)} {t : SetTable} (h : es.toList = rowsN w L) (T : TabOk t (hsN w L)) (hr : L.length ≤ t.mask) : t.fits es.size = true := by
  have h1 := T.sz
  rw [hsN_len] at h1
  rw [size_of h]
  unfold SetTable.fits SetTable.fill
  rw [T.dm, Bool.and_eq_true, beq_iff_eq, decide_eq_true_eq]
  show t.place.size = L.length ∧ t.place.size + 0 ≤ t.mask
  omega
/-- at a stands the set of the keys of L -/
structure SetN (w : World) (h : Heap) (a : Addr) (L : Lk) (es : Array (Int × Value)) (ep : Nat) (t : SetTable) : Prop where
  ob : ∃ o, h.get? a = some o ∧ o.ExactSet ∧ o.data = .set es ep t
  rows : es.toList = rowsN w L
  tab : TabOk t (hsN w L)
  nd : (L.map (·.2)).Nodup
  tup : ∀ p ∈ L, IsN h p.2 p.1
  led : w.params.followText "set-order" = true ∨ t.led = true
  room : L.length * 5 < t.mask * 3
  few : L.length < 64
variable {a : Addr} {L : Lk} {es : Array (Int × Value)} {ep : Nat} {t : SetTable}
theorem SetN.fits (R : SetN w s.heap a L es ep t) : t.fits es.size = true := fits_of R.rows R.tab (by have := R.room; omega)
theorem nogw {t : SetTable} (h : MaskOk t.mask) : ¬ t.gaveWay = true := by
  unfold SetTable.gaveWay
  rw [mask_odd h]
  decide
theorem nth_dm (m : Nat) : ∀ (n : Nat) (p : SetTable.Probe), p.dummy = none → (nth m p n).dummy = none
  | 0, _, h => h
  | n + 1, p, h => nth_dm m n (adv m p) (by unfold adv; split <;> exact h)
/-- the hash's way, its c-th state -/
abbrev stN (m : Nat) (h : Int) (c : Nat) : SetTable.Probe := nth m (runAt m (SetTable.bits h % (m + 1)) (SetTable.bits h)) c
theorem stN_add (m : Nat) (h : Int) (c q : Nat) : nth m (stN m h c) q = stN m h (c + q) := (nth_add m c _ q).symm
/-- from the c-th step of the way on -/
theorem seekN (R : SetN w s.heap a L es ep t) {x : Addr} {k : NestedKey} (hx : IsN s.heap k x) (hu : A.units + 8 < cLine) {K : Nat} (hKf : K < 10 * SetTable.turns t.mask)
    (hK : way t.mask (k.hash w) K ∉ t.place.toList) (hKb : ∀ c, c < K → way t.mask (k.hash w) c ∈ t.place.toList) {Q : SetFound → Shared → Prop}
    (hin : k ∈ L.map (·.2) → Q (.there none) s) (hout : k ∉ L.map (·.2) → Q (.free (way t.mask (k.hash w) K) false) s) :
    ∀ (f c : Nat) (stand : Option SetTable.Probe), stand.getD (t.probeStart (k.hash w)) = stN t.mask (k.hash w) c → c ≤ K → K - c < f →
      (∀ (i : Nat) p, L[i]? = some p → p.2 = k → ∃ c', c ≤ c' ∧ c' < K ∧ t.place.toList[i]? = some (way t.mask (k.hash w) c')) →
      wpAny (model P w) A (setSearchFrom a (.ref x) (k.hash w) true f stand) Q E s
  | 0, c, stand, _, _, hf, _ => absurd hf (Nat.not_lt_zero _)
  | f + 1, c, stand, hst, hc, hf, hre => by
    obtain ⟨o, ho, hex, hd⟩ := R.ob
    have hfits := R.fits
    generalize hh : k.hash w = h at *
    rw [setSearchFrom_succ]
    refine wpAny_bind (wpAny_setState_of ho hd hfits ?_)
    dsimp only
    refine wp_if_neg (nogw R.tab.mok) ?_
    try refine wpAny_bind (wpAny_pure ?_)
    have ew : ∀ q, (nth t.mask (stN t.mask h c) q).j = way t.mask h (c + q) := fun q => congrArg SetTable.Probe.j (stN_add t.mask h c q)
    have spec := go_spec t R.tab.ris R.tab.dm (fun i => (es[i]?.map (·.1)).getD 0) h (10 * SetTable.turns t.mask) (K - c) _ (nth_dm t.mask c _ rfl) (by omega)
      (fun q hq => by rw [ew]; exact hKb (c + q) (by omega)) (by rw [ew, show c + (K - c) = K by omega]; exact hK)
    have hashAt : ∀ (i : Nat) p, L[i]? = some p → p.2 = k → (fun i => (es[i]?.map (·.1)).getD 0) i = h := fun i p hp hk => by
      show (es[i]?.map (·.1)).getD 0 = h
      rw [entry_of R.rows hp, ← hh, ← hk] <;> rfl
    -- none of k is passed
    have pass : ∀ {n : Nat}, (∀ (q i : Nat), q < n → t.place.toList[i]? = some (nth t.mask (stN t.mask h c) q).j → (fun i : Nat => (es[i]?.map (·.1)).getD 0) i = h → False) →
        ∀ {i : Nat} {p : Addr × NestedKey} {c' : Nat}, L[i]? = some p → p.2 = k → c ≤ c' → t.place.toList[i]? = some (way t.mask h c') → c + n ≤ c' := fun {n} hno {i p c'} hp hk h1 h2 => by
      rcases Nat.lt_or_ge c' (c + n) with z | z
      · exact absurd (hashAt i p hp hk) fun y => hno (c' - c) i (by omega) (by rw [ew, show c + (c' - c) = c' by omega]; exact h2) y
      · exact z
    rcases spec with ⟨q, i, hq, hi, hhi, hno, hpr⟩ | ⟨hno, hpr⟩
    · have hpr' : t.probe (fun i => (es[i]?.map (·.1)).getD 0) h (stand.getD (t.probeStart h)) = some (.candidate (way t.mask h (c + q)) i (stN t.mask h (c + (q + 1)))) := by
        rw [hst, ← ew, ← stN_add]
        exact hpr
      rw [hpr']
      dsimp only
      rw [ew] at hi
      have hil : i < L.length := by
        have h1 : i < t.place.toList.length := (List.getElem?_eq_some_iff.mp hi).1
        have h2 := R.tab.sz
        rw [hsN_len] at h2
        rw [Array.length_toList] at h1
        omega
      have hp : L[i]? = some L[i] := List.getElem?_eq_getElem hil
      generalize hpe : L[i] = p at hp
      have hmem : p ∈ L := List.mem_of_getElem? hp
      have rest : wpAny (model P w) A (searchRest a (.ref x) h true f es t (way t.mask h (c + q)) i (stN t.mask h (c + (q + 1)))) Q E s := by
        unfold searchRest
        rw [entry_of R.rows hp]
        dsimp only
        refine wpAny_bind (wpAny_holding ((nestedKind P w).eqBool hu (R.tup p hmem) hx ?_))
        refine wpAny_bind (wpAny_setState_of ho hd hfits ?_)
        dsimp only
        by_cases hkk : p.2 = k
        · refine wp_if_pos (by simp [hkk]) ?_
          exact wpAny_pure (hin (List.mem_map.mpr ⟨p, hmem, hkk⟩))
        · refine wp_if_neg (by simp [hkk]) ?_
          try refine wpAny_bind (wpAny_pure ?_)
          rw [sameMem]
          dsimp only
          have hsl : t.slot (way t.mask h (c + q)) = .live i := slot_live R.tab.ris hi
          simp only [if_true, hsl, entry_of R.rows hp]
          refine wpAny_bind (wpAny_isSame_ref_self (wpAny_bind (wpAny_pure ?_)))
          simp only [if_true]
          refine wp_if_neg (by simp [hkk]) ?_
          have go := seekN R hx hu (K := K) hKf (by rw [hh]; exact hK) (by rw [hh]; exact hKb) (Q := Q) hin (by rw [hh]; exact hout) f (c + (q + 1)) (some (stN t.mask h (c + (q + 1)))) (by rw [hh] <;> rfl) (by omega) (by omega)
          rw [hh] at go
          refine go fun i0 p0 h0 hk0 => ?_
          obtain ⟨c', a1, a2, a3⟩ := hre i0 p0 h0 hk0
          have b1 := pass (n := q) (fun q' i' h1 h2 h3 => hno q' i' h1 h2 h3) h0 hk0 a1 a3
          refine ⟨c', ?_, a2, a3⟩
          rcases Nat.lt_or_ge (c + q) c' with y | y
          · omega
          · exfalso
            have ec : c' = c + q := Nat.le_antisymm y b1
            rw [ec] at a3
            have s0 := slot_live R.tab.ris a3
            rw [hsl] at s0
            injection s0 with s0
            rw [← s0, hp] at h0
            exact hkk ((congrArg Prod.snd (Option.some.inj h0)).trans hk0)
      by_cases hl : t.led = true
      · refine wp_if_neg (by simp [hl]) ?_
        try refine wpAny_bind (wpAny_pure ?_)
        exact rest
      · refine wp_if_pos (by simp [hl]) ?_
        refine wpAny_bind (seen_key hx (fun y hy => ?_) ?_)
        · obtain ⟨e, he, ee⟩ := List.mem_map.mp hy
          have he1 : e ∈ es ∧ e.1 = h := by simpa using he
          have he2 : e ∈ es.toList := by simpa using he1.1
          rw [R.rows] at he2
          obtain ⟨p2, hp2, e2⟩ := List.mem_map.mp he2
          exact ⟨p2.2, p2.1, by rw [← ee, ← e2], R.tup p2 hp2⟩
        · refine wp_if_neg (by decide) ?_
          try refine wpAny_bind (wpAny_pure ?_)
          exact rest
    · have hpr' : t.probe (fun i => (es[i]?.map (·.1)).getD 0) h (stand.getD (t.probeStart h)) = some (.empty (way t.mask h K) none) := by
        have e2 : way t.mask h K = (nth t.mask (stN t.mask h c) (K - c)).j := by rw [ew, show c + (K - c) = K by omega]
        rw [hst, e2]
        exact hpr
      rw [hpr']
      dsimp only
      refine wpAny_pure (hout fun hm => ?_)
      obtain ⟨p0, h0, hk0⟩ := List.mem_map.mp hm
      obtain ⟨i0, hi0, e0⟩ := List.getElem_of_mem h0
      have h00 : L[i0]? = some p0 := by rw [List.getElem?_eq_getElem hi0, e0]
      obtain ⟨c', a1, a2, a3⟩ := hre i0 p0 h00 hk0
      have := pass (n := K - c) (fun q' i' h1 h2 h3 => hno q' i' h1 h2 h3) h00 hk0 a1 a3
      omega
/-- the search as adding asks for it -/
theorem searchN (R : SetN w s.heap a L es ep t) {x : Addr} {k : NestedKey} (hx : IsN s.heap k x) (hu : A.units + 8 < cLine) {Q : SetFound → Shared → Prop}
    (hin : k ∈ L.map (·.2) → Q (.there none) s)
    (hout : ∀ K, k ∉ L.map (·.2) → way t.mask (k.hash w) K ∉ t.place.toList → (∀ c, c < K → way t.mask (k.hash w) c ∈ t.place.toList) → Q (.free (way t.mask (k.hash w) K) false) s) :
    wpAny (model P w) A (setSearch a (.ref x) (k.hash w) true) Q E s := by
  have hroom := R.room
  obtain ⟨K, hKf, hK, hKb⟩ := R.tab.first (by rw [hsN_len]; omega) (k.hash w)
  have hbig : K < 100000 := by
    have : 10 * SetTable.turns t.mask ≤ 1420 := by
      unfold SetTable.turns
      rcases R.tab.mok with e | e | e <;> omega
    omega
  unfold setSearch
  refine seekN R hx hu hKf hK hKb hin (fun hn => hout K hn hK hKb) 100000 0 none rfl (Nat.zero_le _) (by omega) fun i p hp hk => ?_
  have hi : (hsN w L)[i]? = some (k.hash w) := by rw [hsN, List.getElem?_map, hp, ← hk] <;> rfl
  have hil : i < t.place.toList.length := by
    have h1 : i < L.length := (List.getElem?_eq_some_iff.mp hp).1
    have h2 := R.tab.sz
    rw [hsN_len] at h2
    rw [Array.length_toList]
    omega
  have hj := List.getElem?_eq_getElem hil
  obtain ⟨c, hc, e⟩ := R.tab.before hK hi hj
  exact ⟨c, Nat.zero_le _, hc, by rw [hj, e]⟩
end
end Dt

set_option Elab.async false
set_option linter.all false
set_option maxRecDepth 100000
set_option autoImplicit false
/-! Sets of nested tuples: one put in. -/
namespace Dt
section
open PySem PySem.Spec PyProof.Rows L2
variable {P : Program} {w : World} {A : Around} {E : Value → Shared → Prop} {s : Shared}
theorem IsN.keep {h h' : Heap} {k : NestedKey} {b : Addr} (x : IsN h k b) (hk : ∀ c o, h.get? c = some o → h'.get? c = some o) : IsN h' k b := ⟨NestedIs.at (fun a o _ _ e _ => hk a o e) k _ x.1, x.2⟩
/-- a key is not the set -/
theorem IsN.same {h h' : Heap} {k : NestedKey} {a b : Addr} {o : Obj} {es : Array (Int × Value)} {ep : Nat} {t : SetTable} (x : IsN h k b) (ho : h.get? a = some o) (hd : o.data = .set es ep t) (hs : Heap.SameBut a h h') : IsN h' k b :=
  ⟨NestedIs.at (fun c oc vs n e ed => by
    have hne : c ≠ a := by
      rintro rfl
      rw [ho] at e
      cases e
      rw [hd] at ed
      exact nomatch ed
    exact (hs.2 c hne).trans e) k _ x.1, x.2⟩
/-- the rows, in another order -/
theorem orderN (L : Lk) (es : Array (Int × Value)) (order : Array Nat) (hr : es.toList = rowsN w L) (hp : order.toList.Perm (List.range L.length)) :
    ∃ L2, (order.filterMap (es[·]?)).toList = rowsN w L2 ∧ L2.Perm L ∧ hsN w L2 = order.toList.map fun i => (es.map (·.1)).getD i 0 := by
  have hsz := size_of hr
  have key : ∀ l : List Nat, (∀ i ∈ l, i < L.length) → l.filterMap (fun i => es[i]?) = rowsN w (l.filterMap fun i => L[i]?) ∧ hsN w (l.filterMap fun i => L[i]?) = l.map fun i => (es.map (·.1)).getD i 0 := by
    intro l
    induction l with
    | nil => intro _; exact ⟨rfl, rfl⟩
    | cons i l ih =>
      intro hl
      have hi := hl i List.mem_cons_self
      obtain ⟨e1, e3⟩ := ih fun j hj => hl j (List.mem_cons_of_mem _ hj)
      have el : L[i]? = some L[i] := List.getElem?_eq_getElem hi
      have ee := entry_of hr el
      have e4 : (es.map (·.1)).getD i 0 = (L[i]).2.hash w := by
        have e5 : (es.map (·.1))[i]? = some ((L[i]).2.hash w) := by rw [Array.getElem?_map, ee] <;> rfl
        simp [Array.getD_eq_getD_getElem?, e5]
      rw [List.filterMap_cons_some ee, List.filterMap_cons_some el, e1]
      refine ⟨rfl, ?_⟩
      rw [List.map_cons, e4, ← e3]
      rfl
  obtain ⟨e1, e3⟩ := key order.toList fun i hi => List.mem_range.mp (hp.mem_iff.mp hi)
  refine ⟨_, by first | (rw [Array.toList_filterMap]; exact e1) | simpa using e1, ?_, e3⟩
  have h2 : ∀ n, n ≤ L.length → (List.range n).filterMap (fun i => L[i]?) = L.take n := by
    intro n
    induction n with
    | zero => intro _; rfl
    | succ n ih =>
      intro hn
      have hlt : n < L.length := hn
      rw [List.range_succ, List.filterMap_append, ih (Nat.le_of_lt hlt), List.take_succ, List.getElem?_eq_getElem hlt, List.filterMap_cons_some (List.getElem?_eq_getElem hlt)] <;> rfl
  have h1 := hp.filterMap fun i => L[i]?
  rw [h2 L.length (Nat.le_refl _), List.take_length] at h1
  exact h1
variable {a : Addr} {L : Lk} {es : Array (Int × Value)} {ep : Nat} {t : SetTable}
/-- the table laid anew, larger -/
theorem relayN {o : Obj} (ho : s.heap.get? a = some o) (hex : o.ExactSet) (hd : o.data = .set es ep t) (hrows : es.toList = rowsN w L) (T0 : TabOk t (hsN w L)) (hfl : L.length ≤ t.mask)
    (nd : (L.map (·.2)).Nodup) (tup : ∀ p ∈ L, IsN s.heap p.2 p.1) (ld : w.params.followText "set-order" = true ∨ t.led = true) (few : L.length < 64) {wanted M : Nat}
    (hw : SetTable.sizeAbove wanted - 1 = M) (hM : MaskOk M) (hw2 : SetTable.sizeAbove wanted ≤ 128) (hn : L.length * 5 < M * 3) {Q : Unit → Shared → Prop}
    (hQ : ∀ h' L' es' ep' t', Heap.SameBut a s.heap h' → SetN w h' a L' es' ep' t' → L'.Perm L → Q () { s with heap := h' }) : wpAny (model P w) A (setRelay a wanted) Q E s := by
  have hsl := size_of hrows
  obtain ⟨t', order, e, hp, T, em, el, _, ed⟩ := relaid_ok t (hs := es.map (·.1)) (wanted := wanted) hw hM (by rw [Array.size_map, hsl]; omega)
  rw [Array.size_map, hsl] at hp
  obtain ⟨L2, r1, r2, r3⟩ := orderN L es order hrows hp
  rw [← r3] at T
  have hs2 : (order.filterMap (es[·]?)).size = es.size := by rw [size_of r1, r2.length_eq, hsl]
  rw [setRelay_eq]
  refine wpAny_bind (wpAny_setState_of ho hd (fits_of hrows T0 hfl) ?_)
  dsimp only
  refine wp_if_neg (by rw [sizeLine_eq]; omega) ?_
  try refine wpAny_bind (wpAny_pure ?_)
  rw [e]
  dsimp only
  refine wpAny_bind ?_
  refine wp_if_neg (by rw [hs2]; simp) ?_
  try refine wpAny_bind (wpAny_pure ?_)
  refine wpAny_pure ?_
  dsimp only
  refine wpAny_storeSet_of ho hd ?_ (by rw [hs2, hsl, sizeLine_eq]; omega)
  have sb : Heap.SameBut a s.heap (s.heap.update a (Obj.putSet (order.filterMap (es[·]?)) t')) := Heap.SameBut.update ..
  refine hQ _ L2 (order.filterMap (es[·]?)) (ep + 1) t' sb ?_ r2
  exact ⟨⟨_, store_at ho hd, ⟨hex.1, hex.2.1, hex.2.2⟩, rfl⟩, r1, T, (r2.map (·.2)).nodup_iff.mpr nd, fun p hpm => (tup p (r2.mem_iff.mp hpm)).same ho hd sb, by rw [el]; exact ld, by rw [r2.length_eq, em]; exact hn, by rw [r2.length_eq]; exact few⟩
/-- whether the hash went by value changes nothing but the mark -/
theorem TabOk.marked {t : SetTable} {hs : List Int} (T : TabOk t hs) (b : Bool) : TabOk (if b = true then t else { t with plain := false }) hs ∧ (if b = true then t else { t with plain := false }).mask = t.mask ∧
    (if b = true then t else { t with plain := false }).led = t.led ∧ (if b = true then t else { t with plain := false }).fill = t.fill := by
  cases b
  · exact ⟨⟨T.ris, T.dm, T.sz, T.mok, T.bd, T.reach⟩, rfl, rfl, rfl⟩
  · exact ⟨T, rfl, rfl, rfl⟩
theorem addN (R : SetN w s.heap a L es ep t) {x : Addr} {k : NestedKey} (hx : IsN s.heap k x) (hu : A.units + 8 < cLine) (hfew : k ∉ L.map (·.2) → L.length + 1 < 64) {Q : Bool → Shared → Prop}
    (hQ : ∀ b h' L' es' ep' t', Heap.SameBut a s.heap h' → SetN w h' a L' es' ep' t' → (k ∈ L.map (·.2) → L' = L) → (k ∉ L.map (·.2) → L'.Perm ((x, k) :: L)) → Q b { s with heap := h' }) :
    wpAny (model P w) A (setAddHashed a (.ref x) (k.hash w)) Q E s := by
  obtain ⟨o, ho, hex, hd⟩ := R.ob
  have hsl := size_of R.rows
  have hroom := R.room
  have hfits := R.fits
  unfold setAddHashed
  refine wpAny_holding ?_
  rw [show (100000 : Nat) = 99999 + 1 from rfl, setAddHashedIn_succ]
  refine wpAny_bind (wpAny_setState_of ho hd hfits ?_)
  dsimp only
  refine wp_if_neg (by simp [byScan, Value.scannable]) ?_
  try refine wpAny_bind (wpAny_pure ?_)
  refine wpAny_bind (searchN R hx hu (fun hm => ?_) fun K hm hK hb => ?_)
  · dsimp only
    exact wpAny_pure (hQ false s.heap L es ep t (Heap.SameBut.refl a s.heap) R (fun _ => rfl) fun z => absurd hm z)
  · dsimp only
    have hfew := hfew hm
    refine wpAny_bind (wpAny_setState_of ho hd hfits ?_)
    dsimp only
    obtain ⟨q1, q2, q3, q4, q5, q6, q7, q8, q9⟩ := R.tab.put hK hb
    generalize hpt : t.put (way t.mask (k.hash w) K) = pt at q1 q3 q4 q5 q6 q7 q8 q9 ⊢
    obtain ⟨t0, p⟩ := pt
    dsimp only at q1 q3 q4 q5 q6 q7 q8 q9 ⊢
    subst q1
    have main : ∀ bv : Bool, wpAny (model P w) A (do
        storeSet a (SetTable.insertAt es (SetTable.below t.place (way t.mask (k.hash w) K)) (k.hash w, Value.ref x)) (if bv = true then t0 else { t0 with plain := false })
        if (!false && (if bv = true then t0 else { t0 with plain := false }).tooFull) = true then setRelay a (SetTable.grown (es.size + 1))
        return true) Q E s := fun bv => by
      obtain ⟨m1, m2, m3, m4⟩ := TabOk.marked q3 bv
      generalize (if bv = true then t0 else { t0 with plain := false }) = t1 at m1 m2 m3 m4 ⊢
      have hin : (SetTable.insertAt es (SetTable.below t.place (way t.mask (k.hash w) K)) (k.hash w, Value.ref x)).toList = rowsN w (L.take (SetTable.below t.place (way t.mask (k.hash w) K)) ++ (x, k) :: L.drop (SetTable.below t.place (way t.mask (k.hash w) K))) := by
        rw [SetTable.toList_insertAt, R.rows]
        unfold rowsN
        rw [List.map_append, List.map_cons, List.map_take, List.map_drop]
      generalize hpp : SetTable.below t.place (way t.mask (k.hash w) K) = p at q2 m1 hin ⊢
      have pm := put_perm L p (x, k)
      have hhs : hsN w (L.take p ++ (x, k) :: L.drop p) = (hsN w L).take p ++ k.hash w :: (hsN w L).drop p := by
        unfold hsN
        rw [List.map_append, List.map_cons, List.map_take, List.map_drop]
      rw [← hhs] at m1
      have nd1 : ((L.take p ++ (x, k) :: L.drop p).map (·.2)).Nodup := by
        refine (pm.map (·.2)).nodup_iff.mpr ?_
        rw [List.map_cons]
        exact List.nodup_cons.mpr ⟨hm, R.nd⟩
      have hlen : (L.take p ++ (x, k) :: L.drop p).length = L.length + 1 := pm.length_eq
      generalize SetTable.insertAt es p (k.hash w, Value.ref x) = es1 at hin ⊢
      generalize L.take p ++ (x, k) :: L.drop p = L1 at pm hlen m1 nd1 hin
      have hes : es1.size = L.length + 1 := by rw [size_of hin, hlen]
      refine wpAny_bind (wpAny_storeSet_of ho hd ?_ (by rw [hes, sizeLine_eq]; omega))
      have sb : Heap.SameBut a s.heap (s.heap.update a (Obj.putSet es1 t1)) := Heap.SameBut.update ..
      have ho1 := store_at (es' := es1) (t' := t1) ho hd
      generalize s.heap.update a (Obj.putSet es1 t1) = h1 at sb ho1 ⊢
      have tup1 : ∀ p ∈ L1, IsN h1 p.2 p.1 := fun p hp => by
        rcases List.mem_cons.mp (pm.mem_iff.mp hp) with e | hp
        · rw [e]; exact hx.same ho hd sb
        · exact (R.tup p hp).same ho hd sb
      have ld1 : w.params.followText "set-order" = true ∨ t1.led = true := by rw [m3, q5]; exact R.led
      have hfill : t1.fill = L.length + 1 := by rw [m4, q9, hsN_len]
      have hmask : t1.mask = t.mask := by rw [m2, q4]
      by_cases hf : t1.tooFull = true
      · first
          | (refine wpAny_bind ?_; refine wp_if_pos (by simp [hf]) ?_)
          | (refine wp_if_pos (by simp [hf]) ?_; refine wpAny_bind ?_)
        have hfull : (L.length + 1) * 5 ≥ t1.mask * 3 := by
          have h := hf
          unfold SetTable.tooFull at h
          rw [decide_eq_true_eq, hfill] at h
          exact h
        rw [hmask] at hfull
        rw [hsl]
        have two : (t.mask = 7 ∧ L.length = 4) ∨ (t.mask = 31 ∧ L.length = 18) := by
          rcases R.tab.mok with e | e | e <;> rw [e] at hfull hroom
          · left; exact ⟨e, by omega⟩
          · right; exact ⟨e, by omega⟩
          · exfalso; omega
        have go : ∀ M, SetTable.sizeAbove (SetTable.grown (L.length + 1)) - 1 = M → MaskOk M → SetTable.sizeAbove (SetTable.grown (L.length + 1)) ≤ 128 → (L.length + 1) * 5 < M * 3 →
            wpAny (model P w) A (setRelay a (SetTable.grown (L.length + 1))) (fun _ s' => wpAny (model P w) A (pure true) Q E s') E { s with heap := h1 } := fun M h1' h2' h3' h4' => by
          refine relayN (s := { s with heap := h1 }) ho1 ⟨hex.1, hex.2.1, hex.2.2⟩ rfl hin m1 (by rw [hlen, hmask]; rcases two with ⟨e, e2⟩ | ⟨e, e2⟩ <;> omega) nd1 tup1 ld1 (by rw [hlen]; exact hfew) h1' h2' h3' (by rw [hlen]; exact h4') ?_
          intro h2 L2 es2 ep2 t2 sb2 R2 pm2
          exact wpAny_pure (hQ true h2 L2 es2 ep2 t2 (sb.trans sb2) R2 (fun z => absurd z hm) fun _ => pm2.trans pm)
        rcases two with ⟨_, e2⟩ | ⟨_, e2⟩
        · exact go 31 (by rw [e2, size_20]) (.inr (.inl rfl)) (by rw [e2, size_20]; decide) (by omega)
        · exact go 127 (by rw [e2, size_76]) (.inr (.inr rfl)) (by rw [e2, size_76]; decide) (by omega)
      · first
          | refine wp_if_neg (by simp [hf]) ?_
          | (refine wpAny_bind ?_; refine wp_if_neg (by simp [hf]) ?_; refine wpAny_pure ?_)
        refine wpAny_pure (hQ true h1 L1 es1 (ep + 1) t1 sb ⟨⟨_, ho1, ⟨hex.1, hex.2.1, hex.2.2⟩, rfl⟩, hin, m1, nd1, tup1, ld1, ?_, by rw [hlen]; exact hfew⟩ (fun z => absurd z hm) fun _ => pm)
        have h := hf
        unfold SetTable.tooFull at h
        rw [decide_eq_true_eq, hfill] at h
        rw [hlen]
        omega
    by_cases hp1 : t0.plain = true
    · first
        | (refine wpAny_bind ?_; refine wp_if_pos hp1 ?_; refine hashBy_key k _ 8 s hx.1 _ _ _ fun b => ?_)
        | refine wp_if_pos hp1 (wpAny_bind (hashBy_key k _ 8 s hx.1 _ _ _ fun b => ?_))
      exact main b
    · first
        | (refine wpAny_bind ?_; refine wp_if_neg hp1 ?_; refine wpAny_pure ?_)
        | refine wp_if_neg hp1 (wpAny_bind (wpAny_pure ?_))
      exact main true
end
end Dt

set_option Elab.async false
set_option linter.all false
set_option maxRecDepth 100000
set_option autoImplicit false
/-! Sets of nested tuples: set(xs). -/
namespace Dt
section
open PySem PySem.Spec PyProof.Rows L2
/-- what the set has got from the first i items -/
structure GotN (ks : Lk) (i : Nat) (L : Lk) : Prop where
  sub : ∀ p ∈ L, p ∈ ks.take i
  all : ∀ p ∈ ks.take i, p.2 ∈ L.map (·.2)
theorem GotN.zero (ks : Lk) : GotN ks 0 [] := ⟨fun p h => (by cases h), fun p h => (by simp at h)⟩
theorem GotN.same {ks L : Lk} {i : Nat} {x : Addr × NestedKey} (g : GotN ks i L) (h : ks[i]? = some x) (hm : x.2 ∈ L.map (·.2)) : GotN ks (i + 1) L := by
  have e := take_next h
  refine ⟨fun p hp => by rw [e]; exact List.mem_append_left _ (g.sub p hp), fun p hp => ?_⟩
  rw [e] at hp
  rcases List.mem_append.mp hp with z | z
  · exact g.all p z
  · rw [List.mem_singleton.mp z]; exact hm
theorem GotN.more {ks L L' : Lk} {i : Nat} {x : Addr × NestedKey} (g : GotN ks i L) (h : ks[i]? = some x) (pm : L'.Perm (x :: L)) : GotN ks (i + 1) L' := by
  have e0 := take_next h
  refine ⟨fun p hp => ?_, fun p hp => ?_⟩
  · rw [e0]
    rcases List.mem_cons.mp (pm.mem_iff.mp hp) with e | z
    · rw [e]; exact List.mem_append_right _ (List.mem_singleton.mpr rfl)
    · exact List.mem_append_left _ (g.sub p z)
  · rw [(pm.map (·.2)).mem_iff, List.map_cons]
    rw [e0] at hp
    rcases List.mem_append.mp hp with z | z
    · exact List.mem_cons_of_mem _ (g.all p z)
    · rw [List.mem_singleton.mp z]; exact List.mem_cons_self
/-- not many unlike keys -/
def FewN (ks : Lk) : Prop := ∀ l : List NestedKey, l.Nodup → (∀ k ∈ l, k ∈ ks.map (·.2)) → l.length < 64
variable {P : Program} {w : World} {A : Around} {E : Value → Shared → Prop} {s : Shared}
theorem SetN.keep {h h' : Heap} {a : Addr} {L : Lk} {es : Array (Int × Value)} {ep : Nat} {t : SetTable} (R : SetN w h a L es ep t) (ha : ∀ o, h.get? a = some o → h'.get? a = some o) (ht : ∀ p ∈ L, IsN h' p.2 p.1) : SetN w h' a L es ep t := by
  obtain ⟨o, ho, r⟩ := R.ob
  exact ⟨⟨o, ha o ho, r⟩, R.rows, R.tab, R.nd, ht, R.led, R.room, R.few⟩
theorem setN_fresh (P : Program) {h : Heap} {a : Addr} (ho : h.get? a = some { cls := .type "set", dict := none, data := .set #[] 0 (.fresh 0 0 (!w.params.followText "set-order")) }) : SetN w h a [] #[] 0 (.fresh 0 0 (!w.params.followText "set-order")) where
  ob := ⟨_, ho, ⟨rfl, rfl, rfl⟩, rfl⟩
  rows := rfl
  tab := (setTR_fresh (P := P) ho).tab
  nd := List.nodup_nil
  tup := fun p hp => (by cases hp)
  led := (setTR_fresh (P := P) ho).led
  room := by show 0 * 5 < 7 * 3; decide
  few := by show 0 < 64; decide
/-- set.update's loop -/
theorem updateN {I : Addr} {fp wr : List Addr} {G : Array GenState → Array GenState → Prop} {n : Nat} {Pv : Nat → Value → Prop} {St : Nat → Shared → Prop} {R : Result → Shared → Prop}
    (W : WalksS P w A.in1 I fp wr G n Pv St) (S : Addr) (hSf : S ∉ fp) (ks : Lk) (hn : n = ks.length) (hfew : FewN ks) (hval : ∀ i v, Pv i v → ∃ p, ks[i]? = some p ∧ v = .ref p.1)
    (h0 : Heap) (hk : ∀ p ∈ ks, IsN h0 p.2 p.1) (hS0 : h0.get? S = none) (hw0 : ∀ b ∈ wr, h0.get? b = none) (hu : A.in1.units + 8 < cLine) :
    ∀ (k i : Nat) (s : Shared), n - i = k → i ≤ n → St i s → (∀ b o, h0.get? b = some o → s.heap.get? b = some o) → (∃ L es ep t, SetN w s.heap S L es ep t ∧ GotN ks i L) →
      (∀ s' L es ep t, Moved (S :: wr) G s s' → SetN w s'.heap S L es ep t → GotN ks n L → (∀ b o, h0.get? b = some o → s'.heap.get? b = some o) → R (.ok (.ret .none)) s') →
      codeAny (model P w) A (.builtin "set.update.loop" ⟨[.ref S, .ref I], []⟩) R s := by
  have hSw : S ∉ wr := fun h => hSf (W.sub _ h)
  have hsub : ∀ b ∈ wr, b ∈ S :: wr := fun b hb => List.mem_cons_of_mem _ hb
  have keepM : ∀ {s s' : Shared}, Moved wr G s s' → (∀ b o, h0.get? b = some o → s.heap.get? b = some o) → ∀ b o, h0.get? b = some o → s'.heap.get? b = some o := fun hm hkp b o e =>
    hm.heap b o (fun hb => by rw [hw0 b hb] at e; cases e) (hkp b o e)
  intro k
  induction k with
  | zero =>
    intro i s hk' hi hst hkp ⟨L, es, ep, t, hS, g⟩ hR
    have hin : i = n := by omega
    subst hin
    refine codeAny_builtin F.entry_set_update_loop ?_
    rw [Around.under_plainId F.plain_set_update_loop _]
    show wpAny _ A.in1 (pyNext (.ref I) >>= _) _ _ s
    refine wpAny_bind (W.done s _ _ hst fun s' hm => ?_)
    show wpAny _ A.in1 (ret Value.none) _ _ s'
    have hkp' := keepM hm hkp
    exact wpAny_pure (hR s' L es ep t (hm.mono hsub) (hS.keep (fun o e => hm.heap S o hSw e) fun p hp => (hk p (List.mem_of_mem_take (g.sub p hp))).keep hkp') g hkp')
  | succ k ih =>
    intro i s hk' hi hst hkp ⟨L, es, ep, t, hS, g⟩ hR
    have hlt : i < n := by omega
    refine codeAny_builtin F.entry_set_update_loop ?_
    rw [Around.under_plainId F.plain_set_update_loop _]
    show wpAny _ A.in1 (pyNext (.ref I) >>= _) _ _ s
    refine wpAny_bind (W.item i s _ _ hlt hst fun v s' hP hst' hm => ?_)
    obtain ⟨p, hp, rfl⟩ := hval i v hP
    have hkp' := keepM hm hkp
    have hS' : SetN w s'.heap S L es ep t := hS.keep (fun o e => hm.heap S o hSw e) fun q hq => (hk q (List.mem_of_mem_take (g.sub q hq))).keep hkp'
    have hx : IsN s'.heap p.2 p.1 := (hk p (List.mem_of_getElem? hp)).keep hkp'
    show wpAny _ A.in1 (holding [Value.ref p.1] (setAdd S (.ref p.1)) >>= _) _ _ s'
    refine wpAny_bind (wpAny_holding ?_)
    unfold setAdd
    refine wpAny_holding ?_
    refine wpAny_bind ((nestedKind P w).pyHash (A := A.in1) hu hx ?_)
    refine addN (s := { s' with toks := s'.toks + p.2.draws }) hS' hx hu (fun hm => ?_) fun b h' L' es' ep' t' hsb hS2 c1 c2 => ?_
    · have := hfew (p.2 :: L.map (·.2)) (List.nodup_cons.mpr ⟨hm, hS.nd⟩) fun k hk => by
        rcases List.mem_cons.mp hk with e | hk
        · rw [e]; exact List.mem_map.mpr ⟨p, List.mem_of_getElem? hp, rfl⟩
        · obtain ⟨q, hq, e⟩ := List.mem_map.mp hk
          exact List.mem_map.mpr ⟨q, List.mem_of_mem_take (g.sub q hq), e⟩
      rw [List.length_cons, List.length_map] at this
      exact this
    have g' : GotN ks (i + 1) L' := by
      rcases Classical.em (p.2 ∈ L.map (·.2)) with c | c
      · rw [c1 c]; exact g.same hp c
      · exact g.more hp (c2 c)
    have hkp2 : ∀ b o, h0.get? b = some o → h'.get? b = some o := fun b o e => (hsb.2 b (fun z => by rw [z, hS0] at e; cases e)).trans (hkp' b o e)
    refine wpAny_pure ⟨plainId_quiet F.plain_set_update_loop _, ih (i + 1) _ (by omega) hlt (W.frame _ s' _ _ hst' (Nat.le_add_right _ _) fun b hb o e => ?_) hkp2 ⟨L', es', ep', t', hS2, g'⟩ fun s'' L2 es2 ep2 t2 hm'' hS'' g'' hkp'' => ?_⟩
    · rw [hsb.2 b (fun h : b = S => hSf (by rw [← h]; exact hb))]; exact e
    · refine hR s'' L2 es2 ep2 t2 (Moved.trans W.gtrans ((hm.mono hsub).then_heap (Nat.le_add_right _ _) fun b o hb e => ?_) hm'') hS'' g'' hkp''
      rw [hsb.2 b (fun h : b = S => hb (by rw [h]; exact List.mem_cons_self))]; exact e
abbrev nuS (w : World) : Obj := { cls := .type "set", dict := none, data := .set #[] 0 (.fresh 0 0 (!w.params.followText "set-order")) }
/-- behind pyIter: the loop, on either sequence -/
theorem loopN {T : String} (hT : T = "list" ∨ T = "tuple") {l : Addr} {o : Obj} {items : Array Value} {n : Nat} (ks : Lk) {Q : Result → Shared → Prop} (hh : A.handled = none) (ho : s.heap.get? l = some o) (hc : o.cls = .type T) (hd : o.data = .seq items n)
    (hit : items.toList = ks.map fun p => Value.ref p.1) (hk : ∀ p ∈ ks, IsN s.heap p.2 p.1) (hfew : FewN ks) (hu : A.in1.units + 8 < cLine) {itc : String} (hic : itc = (if T = "list" then "list_iterator" else "tuple_iterator"))
    (h : ∀ (h' : Heap) (tk : Nat) L es ep t, SetN w h' s.heap.objs.size L es ep t → GotN ks ks.length L → (∀ b o, s.heap.get? b = some o → h'.get? b = some o) → Q (.ok (.ret .none)) { s with heap := h', toks := tk }) :
    codeAny (model P w) A (.builtin "set.update.loop" ⟨[.ref s.heap.objs.size, .ref (s.heap.objs.size + 1)], []⟩) Q { s with heap := (s.heap.push (nuS w)).push { cls := .type itc, data := .fields #[.ref l, .int 0 0] } } := by
  have hS : (s.heap.push (nuS w)).get? s.heap.objs.size = some (nuS w) := Heap.get?_push_size _ rfl
  have hisz : items.size = ks.length := by
    have q := congrArg List.length hit
    rw [Array.length_toList, List.length_map] at q
    exact q
  have hlS : l < s.heap.objs.size := Heap.lt_size ho
  have hh3 : A.in1.handled = none := by simp [hh]
  have hsz : (s.heap.push (nuS w)).objs.size = s.heap.objs.size + 1 := Heap.size_push ..
  have hneI : l ≠ s.heap.objs.size + 1 := Nat.ne_of_lt (Nat.lt_succ_of_lt hlS)
  have hSf : s.heap.objs.size ∉ [s.heap.objs.size + 1, l] := by
    simp only [List.mem_cons, List.mem_singleton, List.not_mem_nil, or_false, not_or]
    exact ⟨Nat.ne_of_lt (Nat.lt_succ_self _), Nat.ne_of_gt hlS⟩
  have hval : ∀ (i : Nat) (v : Value), items[i]? = some v → ∃ p, ks[i]? = some p ∧ v = .ref p.1 := fun i v hv => by
    have q : items.toList[i]? = some v := by rw [Array.getElem?_toList]; exact hv
    rw [hit, List.getElem?_map] at q
    cases hq : ks[i]? with
    | none => rw [hq] at q; cases q
    | some p =>
      rw [hq] at q
      exact ⟨p, rfl, (Option.some.inj q).symm⟩
  have none_of : ∀ b, s.heap.objs.size ≤ b → s.heap.get? b = none := fun b hb => by
    cases q : s.heap.get? b with
    | none => rfl
    | some o => exact absurd (Nat.lt_of_lt_of_le (Heap.lt_size q) hb) (Nat.lt_irrefl _)
  have up : ∀ b o, s.heap.get? b = some o → ((s.heap.push (nuS w)).push { cls := .type itc, data := .fields #[.ref l, .int 0 0] }).get? b = some o := fun b o e => Heap.get?_push_of_some _ (Heap.get?_push_of_some _ e)
  have hiter : ((s.heap.push (nuS w)).push { cls := .type itc, data := .fields #[.ref l, .int 0 0] }).get? (s.heap.objs.size + 1) = some { cls := .type itc, data := .fields #[.ref l, .int 0 0] } := by
    rw [← hsz]
    exact Heap.get?_push_size _ rfl
  have start : ∃ L es ep t, SetN w ((s.heap.push (nuS w)).push { cls := .type itc, data := .fields #[.ref l, .int 0 0] }) s.heap.objs.size L es ep t ∧ GotN ks 0 L :=
    ⟨[], #[], 0, _, setN_fresh P (Heap.get?_push_of_some _ hS), GotN.zero ks⟩
  have fin : ∀ {wr : List Addr} {G : Array GenState → Array GenState → Prop} (s' : Shared) L es ep t, (∀ a b, G a b → b = a) → Moved wr G { s with heap := (s.heap.push (nuS w)).push { cls := .type itc, data := .fields #[.ref l, .int 0 0] } } s' → SetN w s'.heap s.heap.objs.size L es ep t → GotN ks items.size L → (∀ b o, s.heap.get? b = some o → s'.heap.get? b = some o) → Q (.ok (.ret .none)) s' := fun s' L es ep t hG hm hS' g' hkp => by
    obtain ⟨h', g2, d', tk', os'⟩ := s'
    have eg : g2 = s.gens := hG _ _ hm.gens
    have ed : d' = s.drawn := hm.drawn
    have eo : os' = s.os := hm.os
    subst eg; subst ed; subst eo
    rw [hisz] at g'
    exact h h' tk' L es ep t hS' g' hkp
  rcases hT with e | e
  · subst e
    have hic : itc = "list_iterator" := by rw [hic, if_pos rfl]
    subst hic
    have hl : s.heap.IsList l items := ⟨o, ho, hc, n, hd⟩
    exact updateN ((Walks.list hh3 _ l hneI items).toS) s.heap.objs.size hSf ks hisz hfew hval s.heap hk (none_of _ (Nat.le_refl _)) (fun b hb => none_of b (by rw [List.mem_singleton.mp hb]; exact Nat.le_succ _)) hu (items.size - 0) 0 _ (by omega) (Nat.zero_le _)
      ⟨⟨_, hiter, rfl, rfl⟩, (hl.push _).push _⟩ up start fun s' L es ep t hm hS' g' hkp => fin s' L es ep t (fun a b e => e) hm hS' g' hkp
  · subst e
    have hic : itc = "tuple_iterator" := by rw [hic, if_neg (by decide)]
    subst hic
    have hl : s.heap.IsTuple l items := ⟨o, ho, hc, n, hd⟩
    exact updateN ((Walks.tuple hh3 _ l hneI items).toS) s.heap.objs.size hSf ks hisz hfew hval s.heap hk (none_of _ (Nat.le_refl _)) (fun b hb => none_of b (by rw [List.mem_singleton.mp hb]; exact Nat.le_succ _)) hu (items.size - 0) 0 _ (by omega) (Nat.zero_le _)
      ⟨⟨_, hiter, rfl, rfl⟩, ⟨o, up _ _ ho, hc, n, hd⟩⟩ up start fun s' L es ep t hm hS' g' hkp => fin s' L es ep t (fun a b e => e) hm hS' g' hkp
end
end Dt

set_option Elab.async false
set_option linter.all false
set_option maxRecDepth 100000
set_option autoImplicit false
/-! The call of set, over any loop. -/
namespace Dt
section
open PySem PySem.Spec PyProof.Rows L2
variable {P : Program} {w : World} {A : Around} {E : Value → Shared → Prop} {s : Shared}
/-- the kind of iterator -/
abbrev itC (T : String) : String := if T = "list" then "list_iterator" else "tuple_iterator"
set_option maxHeartbeats 3200000 in
theorem call_setV {T : String} (hT0 : T = "list" ∨ T = "tuple") {l : Addr} {ol : Obj} {items : Array Value} {nl : Nat} {Post : Heap → Prop} {Q : Value → Shared → Prop} (hol : s.heap.get? l = some ol) (hcl : ol.cls = .type T) (hdl : ol.data = .seq items nl)
    (hloop : ∀ (A' : Around) (Q' : Result → Shared → Prop), A'.handled = A.handled → A'.units ≤ A.units + 8 → (∀ (h' : Heap) (tk : Nat), Post h' → Q' (.ok (.ret .none)) { s with heap := h', toks := tk }) →
      codeAny (model P w) A' (.builtin "set.update.loop" ⟨[.ref s.heap.objs.size, .ref (s.heap.objs.size + 1)], []⟩) Q' { s with heap := (s.heap.push (nuS w)).push { cls := .type (itC T), data := .fields #[.ref l, .int 0 0] } })
    (h : ∀ (h' : Heap) (tk : Nat), Post h' → Q (.ref s.heap.objs.size) { s with heap := h', toks := tk }) :
    wpAny (model P w) A (call (.type "set") [.ref l]) Q E s := by
  obtain ⟨c, tl, hmro⟩ := F.called_set.mro
  have hmade := F.called_set.made
  have hsub := F.called_set.sub
  refine wpAny_call (codeAny_of_tree ?_)
  show wpAny _ _ (callAny (.type "set") _) _ _ _
  refine wpAny_pure ⟨Code.quiet_builtin _ (by decide +kernel), codeAny_builtin F.entry_type_call ?_⟩
  rw [Around.under_plain (weight_type_call_type "set" [.ref l] []) rfl]
  have h1 := F.called_set.notType
  have h2 := F.called_set.canCreate
  have hct := F.typeCall_set_1 (.ref l)
  repeat (any_goals (first | assumption | wp_step))
  refine codeAny_mono (code_set_led1 (.ref l) (E := E) (Q₁ := fun obj s₁ => obj = .ref s.heap.objs.size ∧ s₁ = { s with heap := s.heap.push (nuS w) }) ⟨rfl, rfl⟩) fun r s₁ hr => ?_
  cases r with
  | error e => exact hr
  | ok fl =>
    cases fl with
    | ret obj =>
      obtain ⟨rfl, rfl⟩ := hr
      have hS : (s.heap.push (nuS w)).get? s.heap.objs.size = some (nuS w) := Heap.get?_push_size _ rfl
      have hT : Shared.TypeIs { s with heap := s.heap.push (nuS w) } (.ref s.heap.objs.size) "set" := ⟨_, hS, rfl⟩
      have hli := F.called_set.init.lookup
      have hbi := F.called_set.init.bind (.ref s.heap.objs.size)
      repeat (any_goals (first | assumption | wp_step))
      refine codeAny_mono (codeAny_call_builtin (R := wants (fun r s₂ => r = .none ∧ ∃ h' tk, s₂ = { s with heap := h', toks := tk } ∧ Post h') E) F.called_set.init.plain F.entry_set_init (check_set_init_1 hT ?_)) fun r₂ s₂ hr₂ => ?_
      · have hsz : (s.heap.push (nuS w)).objs.size = s.heap.objs.size + 1 := Heap.size_push ..
        obtain ⟨ocls, odict, odata, oslots⟩ := ol
        simp only at hcl hdl
        subst hcl; subst hdl
        rcases hT0 with e | e
        · subst e
          have hol' : (s.heap.push (nuS w)).get? l = some { cls := .type "list", dict := odict, data := .seq items nl, slots := oslots } := Heap.get?_push_of_some _ hol
          have hsls := F.sub_list_set
          have hslf := F.sub_list_frozenset
          have hne : (Value.type "list" == Value.type "dict") = false := by decide
          have hl1 : (s.heap.push (nuS w)).IsList l items := ⟨_, hol', rfl, nl, rfl⟩
          unfold Builtin.«set.__init__» noKeywords Builtin.Frozenset.updateFrom
          generalize hPI : pyIter = PI
          wp_walk
          subst hPI
          refine wpAny_pyIter_list hl1 ?_
          refine wpAny_bind (wpAny_runValue ?_)
          dsimp only
          rw [hsz]
          refine hloop _ _ (by simp) (by simp only [Around.in1_units]; omega) fun h' tk R => ?_
          refine wpAny_pure ?_
          show wpAny _ _ (ret Value.none) _ _ _
          exact wpAny_pure ⟨rfl, h', tk, rfl, R⟩
        · subst e
          have hol' : (s.heap.push (nuS w)).get? l = some { cls := .type "tuple", dict := odict, data := .seq items nl, slots := oslots } := Heap.get?_push_of_some _ hol
          have hsls := F.sub_tuple_set
          have hslf := F.sub_tuple_frozenset
          have hne : (Value.type "tuple" == Value.type "dict") = false := by decide
          have hl1 : (s.heap.push (nuS w)).IsTuple l items := ⟨_, hol', rfl, nl, rfl⟩
          unfold Builtin.«set.__init__» noKeywords Builtin.Frozenset.updateFrom
          generalize hPI : pyIter = PI
          wp_walk
          subst hPI
          refine wpAny_pyIter_tuple hl1 ?_
          refine wpAny_bind (wpAny_runValue ?_)
          dsimp only
          rw [hsz]
          refine hloop _ _ (by simp) (by simp only [Around.in1_units]; omega) fun h' tk R => ?_
          refine wpAny_pure ?_
          show wpAny _ _ (ret Value.none) _ _ _
          exact wpAny_pure ⟨rfl, h', tk, rfl, R⟩
      · cases r₂ with
        | error e => exact hr₂
        | ok fl₂ =>
          cases fl₂ with
          | ret r =>
            obtain ⟨rfl, h', tk, rfl, hS'⟩ := hr₂
            repeat (any_goals (first | assumption | wp_step))
            exact h _ _ hS'
          | _ => exact hr₂.elim
    | _ => exact hr.elim
end
end Dt

set_option Elab.async false
set_option linter.all false
set_option maxRecDepth 100000
set_option autoImplicit false
/-! Data that may stand in a set; each once. -/
namespace Dt
section
open PySem PySem.Spec PyProof.Rows L2
open PySem.W (alike AllAlike Sortable dataLe EachIs keyToks toks_eqv lex_pre)
/-- ints, texts, None, tuples of such, of depth n at most -/
def hkB : Nat → D → Bool
  | 0, .none => true
  | 0, .int _ => true
  | 0, .str _ => true
  | 0, _ => false
  | _ + 1, .none => true
  | _ + 1, .int _ => true
  | _ + 1, .str _ => true
  | n + 1, .tuple ds => ds.all (hkB n)
  | _ + 1, _ => false
def toK : Nat → D → NestedKey
  | 0, .int i => .num i
  | 0, .str x => .text x
  | 0, _ => .none
  | _ + 1, .int i => .num i
  | _ + 1, .str x => .text x
  | n + 1, .tuple ds => .tup (ds.map (toK n))
  | _ + 1, _ => .none
/-- a tuple that may stand in a set -/
def keyB : D → Bool
  | .tuple ds => hkB 8 (.tuple ds)
  | _ => false
theorem datas_map : ∀ l : List NestedKey, NestedKey.datas l = l.map NestedKey.data
  | [] => by rw [NestedKey.datas]; rfl
  | k :: l => by rw [NestedKey.datas, datas_map l]; rfl
theorem depthAll_le {n : Nat} : ∀ l : List NestedKey, (∀ k ∈ l, k.depth ≤ n) → NestedKey.depthAll l ≤ n
  | [], _ => by rw [NestedKey.depthAll]; exact Nat.zero_le _
  | k :: l, h => by
    rw [NestedKey.depthAll]
    have h1 := h k List.mem_cons_self
    have h2 := depthAll_le l fun x hx => h x (List.mem_cons_of_mem _ hx)
    omega
theorem data_toK : ∀ (n : Nat) (d : D), hkB n d = true → (toK n d).data = d
  | 0, .none, _ => rfl
  | 0, .int _, _ => rfl
  | 0, .str _, _ => rfl
  | 0, .bool _, h => nomatch h
  | 0, .list _, h => nomatch h
  | 0, .tuple _, h => nomatch h
  | 0, .dict _, h => nomatch h
  | _ + 1, .none, _ => rfl
  | _ + 1, .int _, _ => rfl
  | _ + 1, .str _, _ => rfl
  | _ + 1, .bool _, h => nomatch h
  | _ + 1, .list _, h => nomatch h
  | _ + 1, .dict _, h => nomatch h
  | n + 1, .tuple ds, h => by
    show NestedKey.data (.tup (ds.map (toK n))) = _
    rw [NestedKey.data, datas_map, List.map_map]
    have h' : ∀ d ∈ ds, hkB n d = true := List.all_eq_true.mp h
    have e : ds.map (NestedKey.data ∘ toK n) = ds.map id := List.map_congr_left fun d hd => data_toK n d (h' d hd)
    rw [e, List.map_id]
theorem toK_depth : ∀ (n : Nat) (d : D), (toK n d).depth ≤ n
  | 0, d => by cases d <;> exact Nat.le_refl _
  | n + 1, .tuple ds => by
    show NestedKey.depth (.tup (ds.map (toK n))) ≤ _
    rw [NestedKey.depth]
    have := depthAll_le (n := n) (ds.map (toK n)) fun k hk => by
      obtain ⟨d, _, rfl⟩ := List.mem_map.mp hk
      exact toK_depth n d
    omega
  | _ + 1, .none => Nat.zero_le _
  | _ + 1, .int _ => Nat.zero_le _
  | _ + 1, .str _ => Nat.zero_le _
  | _ + 1, .bool _ => Nat.zero_le _
  | _ + 1, .list _ => Nat.zero_le _
  | _ + 1, .dict _ => Nat.zero_le _
mutual
theorem reads_key {h : Heap} : ∀ (d : D) (n : Nat) (v : Value) (as : List Addr), Reads h v d as → hkB n d = true → NestedIs h (toK n d) v
  | .none, n, v, as, r, _ => by cases r; cases n <;> exact .none
  | .int i, n, v, as, r, _ => by cases r; cases n <;> exact .int _ _
  | .str x, n, v, as, r, _ => by cases r; cases n <;> exact .text _ _
  | .bool _, n, v, as, r, k => by cases n <;> cases k
  | .list _, n, v, as, r, k => by cases n <;> cases k
  | .dict _, n, v, as, r, k => by cases n <;> cases k
  | .tuple ds, 0, v, as, r, k => by cases k
  | .tuple ds, n + 1, v, as, r, k => by
    cases r with
    | tuple ho hc hd ra => exact .tup ho hc hd (reads_keys ds n _ as ra (List.all_eq_true.mp k))
theorem reads_keys {h : Heap} : ∀ (ds : List D) (n : Nat) (vs : List Value) (as : List Addr), ReadsAll h vs ds as → (∀ d ∈ ds, hkB n d = true) → NestedAll h (ds.map (toK n)) vs
  | [], n, vs, as, r, _ => by cases r; exact .nil
  | d :: ds, n, vs, as, r, k => by
    cases r with
    | cons r1 r2 => exact .cons (reads_key d n _ _ r1 (k d List.mem_cons_self)) (reads_keys ds n _ _ r2 fun x hx => k x (List.mem_cons_of_mem _ hx))
end
mutual
theorem eqv_hk : ∀ (d e : D) (n m : Nat), hkB n d = true → hkB m e = true → PyData.eqv d e = true → d = e
  | .none, e, n, m, h1, h2, h => by cases e <;> simp [PyData.eqv] at h ⊢
  | .int i, e, n, m, h1, h2, h => by
    cases e <;> simp [PyData.eqv] at h ⊢
    · cases m <;> cases h2
    · exact h
  | .str x, e, n, m, h1, h2, h => by
    cases e <;> simp [PyData.eqv] at h ⊢
    exact h
  | .bool _, e, n, m, h1, h2, h => by cases n <;> cases h1
  | .list _, e, n, m, h1, h2, h => by cases n <;> cases h1
  | .dict _, e, n, m, h1, h2, h => by cases n <;> cases h1
  | .tuple ds, e, 0, m, h1, h2, h => by cases h1
  | .tuple ds, e, n + 1, m, h1, h2, h => by
    cases e with
    | tuple es =>
      cases m with
      | zero => cases h2
      | succ m =>
        have h' : PyData.eqvAll ds es = true := by rw [PyData.eqv] at h; exact h
        rw [eqv_hks ds es n m (List.all_eq_true.mp h1) (List.all_eq_true.mp h2) h']
    | _ => simp [PyData.eqv] at h
theorem eqv_hks : ∀ (ds es : List D) (n m : Nat), (∀ d ∈ ds, hkB n d = true) → (∀ d ∈ es, hkB m d = true) → PyData.eqvAll ds es = true → ds = es
  | [], [], _, _, _, _, _ => rfl
  | [], _ :: _, _, _, _, _, h => by simp [PyData.eqvAll] at h
  | _ :: _, [], _, _, _, _, h => by simp [PyData.eqvAll] at h
  | d :: ds, e :: es, n, m, h1, h2, h => by
    rw [PyData.eqvAll, Bool.and_eq_true] at h
    rw [eqv_hk d e n m (h1 d List.mem_cons_self) (h2 e List.mem_cons_self) h.1, eqv_hks ds es n m (fun x hx => h1 x (List.mem_cons_of_mem _ hx)) (fun x hx => h2 x (List.mem_cons_of_mem _ hx)) h.2]
end
mutual
theorem eqv_self : ∀ (d : D) (n : Nat), hkB n d = true → PyData.eqv d d = true
  | .none, n, h => by simp [PyData.eqv]
  | .int i, n, h => by simp [PyData.eqv]
  | .str x, n, h => by simp [PyData.eqv]
  | .bool _, n, h => by cases n <;> cases h
  | .list _, n, h => by cases n <;> cases h
  | .dict _, n, h => by cases n <;> cases h
  | .tuple ds, 0, h => by cases h
  | .tuple ds, n + 1, h => by rw [PyData.eqv]; exact eqv_selfs ds n (List.all_eq_true.mp h)
theorem eqv_selfs : ∀ (ds : List D) (n : Nat), (∀ d ∈ ds, hkB n d = true) → PyData.eqvAll ds ds = true
  | [], _, _ => by rw [PyData.eqvAll]
  | d :: ds, n, h => by rw [PyData.eqvAll, eqv_self d n (h d List.mem_cons_self), eqv_selfs ds n fun x hx => h x (List.mem_cons_of_mem _ hx)]; rfl
end
/-- each once -/
def ndup : List D → List D
  | [] => []
  | d :: ds => if ds.any (PyData.eqv d) = true then ndup ds else d :: ndup ds
theorem ndup_facts {n : Nat} : ∀ {ds : List D}, (∀ d ∈ ds, hkB n d = true) → (ndup ds).Nodup ∧ ∀ x, x ∈ ndup ds ↔ x ∈ ds
  | [], _ => ⟨List.nodup_nil, fun _ => Iff.rfl⟩
  | d :: ds, h => by
    have hd := h d List.mem_cons_self
    have ht : ∀ x ∈ ds, hkB n x = true := fun x hx => h x (List.mem_cons_of_mem _ hx)
    obtain ⟨a, b⟩ := ndup_facts ht
    have key : ds.any (PyData.eqv d) = true ↔ d ∈ ds := by
      rw [List.any_eq_true]
      constructor
      · rintro ⟨x, hx, e⟩
        rw [eqv_hk d x n n hd (ht x hx) e]; exact hx
      · intro z; exact ⟨d, z, eqv_self d n hd⟩
    unfold ndup
    by_cases c : ds.any (PyData.eqv d) = true
    · rw [if_pos c]
      refine ⟨a, fun x => ?_⟩
      rw [b, List.mem_cons]
      refine ⟨.inr, fun z => z.elim (fun e => by rw [e]; exact key.mp c) id⟩
    · rw [if_neg c]
      refine ⟨List.nodup_cons.mpr ⟨fun z => c (key.mpr ((b d).mp z)), a⟩, fun x => ?_⟩
      rw [List.mem_cons, List.mem_cons, b]
theorem len_sub {α : Type} : ∀ {l m : List α}, l.Nodup → (∀ x ∈ l, x ∈ m) → l.length ≤ m.length
  | [], _, _, _ => Nat.zero_le _
  | x :: l, m, h, hs => by
    obtain ⟨h1, h2⟩ := List.nodup_cons.mp h
    obtain ⟨p, q, e⟩ := List.append_of_mem (hs x List.mem_cons_self)
    subst e
    have := len_sub (m := p ++ q) h2 fun y hy => by
      rcases List.mem_append.mp (hs y (List.mem_cons_of_mem _ hy)) with z | z
      · exact List.mem_append_left _ z
      · rcases List.mem_cons.mp z with e | z
        · rw [e] at hy; exact absurd hy h1
        · exact List.mem_append_right _ z
    rw [List.length_append] at this
    rw [List.length_cons, List.length_append, List.length_cons]
    omega
theorem toks_apart {n : Nat} {d e : D} (hd : hkB n d = true) (he : hkB n e = true) (al : alike d e = true) (h : keyToks d = keyToks e) : d = e := by
  obtain ⟨_, t2⟩ := toks_eqv d e al
  cases c : PyData.eqv d e with
  | true => exact eqv_hk d e n n hd he c
  | false =>
    exfalso
    have q := t2 c [] [.inl 0]
    rw [h] at q
    have e1 := PySem.W.lex_pre (keyToks e) [] [.inl 0]
    have e2 := PySem.W.lex_pre (keyToks e) [] []
    rw [e1] at q
    rw [List.append_nil] at e2
    rw [e2] at q
    revert q
    decide
theorem sortP_congr {n : Nat} {l m : List D} (p : l.Perm m) (al : AllAlike l) (hk : ∀ d ∈ l, hkB n d = true) : sortP l = sortP m := by
  have pw := fun l : List D => PySem.W.sort_pairwise (PySem.W.sortLe_total _ _ _ : PySem.W.TotalLe (dataLe false fun d : D => d)) l
  have sp := fun l : List D => List.mergeSort_perm l (dataLe false fun d : D => d)
  refine List.Perm.eq_of_pairwise ?_ (pw l) (pw m) ((sp l).trans (p.trans (sp m).symm))
  intro a b ha hb h1 h2
  have ha' : a ∈ l := (sp l).mem_iff.mp ha
  have hb' : b ∈ l := p.mem_iff.mpr ((sp m).mem_iff.mp hb)
  have g1 : (!(listOrd itemOrd).blt (keyToks b) (keyToks a)) = true := h1
  have g2 : (!(listOrd itemOrd).blt (keyToks a) (keyToks b)) = true := h2
  rw [Bool.not_eq_true'] at g1 g2
  exact toks_apart (hk a ha') (hk b hb') (al a ha' b hb') ((listOrd itemOrd).total _ _ g2 g1)
end
end Dt

set_option Elab.async false
set_option linter.all false
set_option maxRecDepth 100000
set_option autoImplicit false
/-! set(xs) by value. -/
namespace Dt
section
open PySem PySem.Spec PyProof.Rows L2
variable {P : Program} {w : World} {A : Around} {E : Value → Shared → Prop} {s : Shared}
/-- the loop, ints -/
theorem loopI {T : String} (hT : T = "list" ∨ T = "tuple") {l : Addr} {o : Obj} {items : Array Value} {n : Nat} (ns : List Int) {Q : Result → Shared → Prop} (hh : A.handled = none) (ho : s.heap.get? l = some o) (hc : o.cls = .type T) (hd : o.data = .seq items n)
    (hit : IntsAre items.toList ns) (hb : ns.length + 1 < scanBound)
    (h : ∀ (h' : Heap) (tk c : Nat), SetR w h' s.heap.objs.size (fun j => decide (j ∈ ns)) c → (∀ b o, s.heap.get? b = some o → h'.get? b = some o) → Q (.ok (.ret .none)) { s with heap := h', toks := tk }) :
    codeAny (model P w) A (.builtin "set.update.loop" ⟨[.ref s.heap.objs.size, .ref (s.heap.objs.size + 1)], []⟩) Q { s with heap := (s.heap.push (nuS w)).push { cls := .type (itC T), data := .fields #[.ref l, .int 0 0] } } := by
  have hS : (s.heap.push (nuS w)).get? s.heap.objs.size = some (nuS w) := Heap.get?_push_size _ rfl
  have hisz : items.size = ns.length := by
    have q := IntsAre.length hit
    rw [Array.length_toList] at q
    exact q
  have hlS : l < s.heap.objs.size := Heap.lt_size ho
  have hh3 : A.in1.handled = none := by simp [hh]
  have hsz : (s.heap.push (nuS w)).objs.size = s.heap.objs.size + 1 := Heap.size_push ..
  have hneI : l ≠ s.heap.objs.size + 1 := Nat.ne_of_lt (Nat.lt_succ_of_lt hlS)
  have hSf : s.heap.objs.size ∉ [s.heap.objs.size + 1, l] := by
    simp only [List.mem_cons, List.mem_singleton, List.not_mem_nil, or_false, not_or]
    exact ⟨Nat.ne_of_lt (Nat.lt_succ_self _), Nat.ne_of_gt hlS⟩
  have hval : ∀ (i : Nat) (v : Value), items[i]? = some v → ∃ k t, ns[i]? = some k ∧ v = .int k t := fun i v hv => by
    have q : items.toList[i]? = some v := by rw [Array.getElem?_toList]; exact hv
    have key : ∀ {vs : List Value} {ns : List Int} {i : Nat}, IntsAre vs ns → vs[i]? = some v → ∃ k t, ns[i]? = some k ∧ v = .int k t := by
      intro vs ns i x
      induction x generalizing i with
      | nil => intro e; simp at e
      | cons k t _ ih =>
        intro e
        cases i with
        | zero => simp at e; exact ⟨k, t, rfl, e.symm⟩
        | succ i =>
          obtain ⟨k', t', e1, e2⟩ := ih (i := i) (by simpa using e)
          exact ⟨k', t', by simpa using e1, e2⟩
    exact key hit q
  have up : ∀ b o, s.heap.get? b = some o → ((s.heap.push (nuS w)).push { cls := .type (itC T), data := .fields #[.ref l, .int 0 0] }).get? b = some o := fun b o e => Heap.get?_push_of_some _ (Heap.get?_push_of_some _ e)
  have hiter : ((s.heap.push (nuS w)).push { cls := .type (itC T), data := .fields #[.ref l, .int 0 0] }).get? (s.heap.objs.size + 1) = some { cls := .type (itC T), data := .fields #[.ref l, .int 0 0] } := by
    rw [← hsz]
    exact Heap.get?_push_size _ rfl
  have start : ∃ c, c ≤ 0 ∧ SetR w ((s.heap.push (nuS w)).push { cls := .type (itC T), data := .fields #[.ref l, .int 0 0] }) s.heap.objs.size (fun j => decide (j ∈ ns.take 0)) c :=
    ⟨0, Nat.le_refl _, setR_new_at (Heap.get?_push_of_some _ hS)⟩
  have fin : ∀ {G : Array GenState → Array GenState → Prop} (s' : Shared) c, (∀ a b, G a b → b = a) → Moved [s.heap.objs.size, s.heap.objs.size + 1] G { s with heap := (s.heap.push (nuS w)).push { cls := .type (itC T), data := .fields #[.ref l, .int 0 0] } } s' → SetR w s'.heap s.heap.objs.size (fun j => decide (j ∈ ns)) c → Q (.ok (.ret .none)) s' := fun s' c hG hm hS' => by
    have hkp : ∀ b o, s.heap.get? b = some o → s'.heap.get? b = some o := fun b o e => hm.heap b o (fun hb => by
      have hlt := Heap.lt_size e
      rcases List.mem_cons.mp hb with z | z
      · rw [z] at hlt; exact absurd hlt (Nat.lt_irrefl _)
      · rw [List.mem_singleton.mp z] at hlt; exact absurd hlt (Nat.not_lt_of_le (Nat.le_succ _))) (up b o e)
    obtain ⟨h', g2, d', tk', os'⟩ := s'
    have eg : g2 = s.gens := hG _ _ hm.gens
    have ed : d' = s.drawn := hm.drawn
    have eo : os' = s.os := hm.os
    subst eg; subst ed; subst eo
    exact h h' tk' c hS' hkp
  rcases hT with e | e
  · subst e
    have hl : s.heap.IsList l items := ⟨o, ho, hc, n, hd⟩
    exact set_update_ints ((Walks.list hh3 _ l hneI items).toS) s.heap.objs.size hSf ns hisz hb hval (items.size - 0) 0 _ (by omega) (Nat.zero_le _)
      ⟨⟨_, hiter, rfl, rfl⟩, (hl.push _).push _⟩ start fun s' c hm _ hS' => fin s' c (fun a b e => e) hm hS'
  · subst e
    have hl : s.heap.IsTuple l items := ⟨o, ho, hc, n, hd⟩
    exact set_update_ints ((Walks.tuple hh3 _ l hneI items).toS) s.heap.objs.size hSf ns hisz hb hval (items.size - 0) 0 _ (by omega) (Nat.zero_le _)
      ⟨⟨_, hiter, rfl, rfl⟩, ⟨o, up _ _ ho, hc, n, hd⟩⟩ start fun s' c hm _ hS' => fin s' c (fun a b e => e) hm hS'
end
section
open PySem PySem.Spec PyProof.Rows L2 R
theorem hk_plain : ∀ (n : Nat) (d : D), hkB n d = true → d.plain = true
  | 0, .none, _ => rfl
  | 0, .int _, _ => rfl
  | 0, .str _, _ => rfl
  | 0, .bool _, h => nomatch h
  | 0, .list _, h => nomatch h
  | 0, .tuple _, h => nomatch h
  | 0, .dict _, h => nomatch h
  | _ + 1, .none, _ => rfl
  | _ + 1, .int _, _ => rfl
  | _ + 1, .str _, _ => rfl
  | _ + 1, .bool _, h => nomatch h
  | _ + 1, .list _, h => nomatch h
  | _ + 1, .dict _, h => nomatch h
  | n + 1, .tuple ds, h => by
    rw [PyData.plain]
    have h' : ∀ d ∈ ds, hkB n d = true := List.all_eq_true.mp h
    have : ∀ (l : List D), (∀ d ∈ l, d.plain = true) → PyData.plainAll l = true := by
      intro l
      induction l with
      | nil => intro _; rw [PyData.plainAll]
      | cons d l ih =>
        intro z
        rw [PyData.plainAll, z d List.mem_cons_self, ih fun x hx => z x (List.mem_cons_of_mem _ hx)]
        rfl
    exact this ds fun d hd => hk_plain n d (h' d hd)
/-- a set whose members are borne -/
def SetV (K : Fg) (H : Hp) (M : Av) (w : World) (h : Heap) (a : Addr) (ds : List D) : Prop :=
  ∃ (o : Obj) (es : Array (Int × Value)) (ep : Nat) (t : SetTable) (xs1 : List V) (ds1 : List D), h.get? a = some o ∧ o.ExactSet ∧ o.data = .set es ep t ∧ t.fits es.size = true ∧ Ris t.place.toList ∧ (w.params.followText "set-order" = true ∨ t.led = true) ∧ es.size < scanBound ∧
    Vals xs1 (es.toList.map (·.2)) ∧ RpAll K H M xs1 ds1 ∧ ds1.Nodup ∧ ∀ x, x ∈ ds1 ↔ x ∈ ds
/-- an int -/
def intB : D → Bool
  | .int _ => true
  | _ => false
def intV : D → Int
  | .int i => i
  | _ => 0
/-- what a set takes -/
def setB (ds : List D) : Bool := (ds.all keyB && decide ((ndup ds).length < 64)) || (ds.all intB && decide (ds.length < 4000))
theorem keyB_hk {d : D} (h : keyB d = true) : hkB 8 d = true ∧ ∃ ds, d = .tuple ds := by
  cases d <;> first | exact ⟨h, _, rfl⟩ | cases h
theorem intB_eq {d : D} (h : intB d = true) : d = .int (intV d) := by
  cases d <;> first | rfl | cases h
theorem setB_hk {ds : List D} (h : setB ds = true) : ∀ d ∈ ds, hkB 8 d = true := fun d hd => by
  unfold setB at h
  rcases Bool.or_eq_true_iff.mp h with z | z
  · exact (keyB_hk (List.all_eq_true.mp (Bool.and_eq_true_iff.mp z).1 d hd)).1
  · rw [intB_eq (List.all_eq_true.mp (Bool.and_eq_true_iff.mp z).1 d hd)]; rfl
theorem ref_of_tup {K : Fg} {H : Hp} {M : Av} {v : V} {d : D} (h : Rp K H M v d) : (∃ ds, d = .tuple ds) → ∃ a, v = .ref a := by
  cases h with
  | tup h r => intro _; exact ⟨_, rfl⟩
  | scr h => intro _; exact ⟨_, rfl⟩
  | lst h r => intro _; exact ⟨_, rfl⟩
  | dcK h n r => intro _; exact ⟨_, rfl⟩
  | dcT h n r => intro _; exact ⟨_, rfl⟩
  | _ => rintro ⟨_, e⟩; cases e
variable {X : Cx} {pins : List (Addr × Obj)} {σ : St} {H : Hp} {s : Shared} {M : Av}
theorem row_keys (I : Inv X pins σ H s) : ∀ {xs : List V} {us : List Value} {ds : List D}, Vals xs us → RpAll X.K H M xs ds → (∀ d ∈ ds, keyB d = true) →
    ∃ ks : Lk, us = ks.map (fun p => Value.ref p.1) ∧ ks.map (fun p => p.2.data) = ds ∧ ∀ p ∈ ks, IsN s.heap p.2 p.1 ∧ Rp X.K H M (.ref p.1) p.2.data ∧ p.2 = toK 8 p.2.data
  | _, _, _, .nil, .nil, _ => ⟨[], rfl, rfl, fun p hp => nomatch hp⟩
  | _, _, _, .cons (a := v) (b := u) r1 r2, .cons (d := d) p1 p2, hk => by
    obtain ⟨ks, e1, e2, e3⟩ := row_keys I r2 p2 fun x hx => hk x (List.mem_cons_of_mem _ hx)
    obtain ⟨k1, tup⟩ := keyB_hk (hk d List.mem_cons_self)
    obtain ⟨a, rfl⟩ := ref_of_tup p1 tup
    have r1' : u = Value.ref a := r1
    subst r1'
    obtain ⟨as, rr⟩ := Dp.reads I d _ _ (p1.dp (hk_plain 8 d k1)) r1
    have ed := data_toK 8 d k1
    refine ⟨(a, toK 8 d) :: ks, by rw [e1]; rfl, by rw [List.map_cons, e2, ed], fun p hp => ?_⟩
    rcases List.mem_cons.mp hp with e | hp
    · rw [e]
      refine ⟨⟨reads_key d 8 _ as rr k1, toK_depth 8 d⟩, ?_, ?_⟩
      · show Rp X.K H M (.ref a) (toK 8 d).data
        rw [ed]; exact p1
      · show toK 8 d = toK 8 (toK 8 d).data
        rw [ed]
    · exact e3 p hp
theorem row_ints {K : Fg} : ∀ {xs : List V} {us : List Value} {ds : List D}, Vals xs us → RpAll K H M xs ds → (∀ d ∈ ds, intB d = true) → IntsAre us (ds.map intV)
  | _, _, _, .nil, .nil, _ => .nil
  | _, _, _, .cons (a := v) (b := u) r1 r2, .cons (d := d) p1 p2, hk => by
    have e := intB_eq (hk d List.mem_cons_self)
    generalize intV d = i at e
    subst e
    cases p1
    obtain ⟨t, rfl⟩ := r1
    exact .cons i t (row_ints r2 p2 fun x hx => hk x (List.mem_cons_of_mem _ hx))
theorem vals_refs : ∀ L : Lk, Vals (L.map fun p => V.ref p.1) (L.map fun p => Value.ref p.1)
  | [] => .nil
  | p :: L => .cons rfl (vals_refs L)
theorem rp_refs {K : Fg} : ∀ {L : Lk}, (∀ p ∈ L, Rp K H M (.ref p.1) p.2.data) → RpAll K H M (L.map fun p => V.ref p.1) (L.map fun p => p.2.data)
  | [], _ => .nil
  | p :: L, h => .cons (h p List.mem_cons_self) (rp_refs fun q hq => h q (List.mem_cons_of_mem _ hq))
theorem vals_ints : ∀ {l : List (Int × Value)}, (∀ e ∈ l, GoodE e) → Vals (l.map fun e => V.int (L2.keyOf e)) (l.map (·.2))
  | [], _ => .nil
  | e :: l, h => by
    obtain ⟨k, t, h1, _⟩ := h e List.mem_cons_self
    refine .cons ?_ (vals_ints fun x hx => h x (List.mem_cons_of_mem _ hx))
    refine ⟨t, ?_⟩
    show e.2 = Value.int (L2.keyOf e) t
    unfold L2.keyOf
    rw [h1]
theorem rp_ints {K : Fg} : ∀ (l : List (Int × Value)), RpAll K H M (l.map fun e => V.int (L2.keyOf e)) (l.map fun e => .int (L2.keyOf e))
  | [] => .nil
  | e :: l => .cons (.int _) (rp_ints l)
theorem nodup_of_map {α β : Type} (f : α → β) : ∀ {l : List α}, (∀ x ∈ l, ∀ y ∈ l, f x = f y → x = y) → l.Nodup → (l.map f).Nodup
  | [], _, _ => List.nodup_nil
  | x :: l, h, nd => by
    obtain ⟨h1, h2⟩ := List.nodup_cons.mp nd
    rw [List.map_cons]
    refine List.nodup_cons.mpr ⟨fun z => ?_, nodup_of_map f (fun a ha b hb => h a (List.mem_cons_of_mem _ ha) b (List.mem_cons_of_mem _ hb)) h2⟩
    obtain ⟨y, hy, e⟩ := List.mem_map.mp z
    rw [h x List.mem_cons_self y (List.mem_cons_of_mem _ hy) e.symm] at h1
    exact h1 hy
/-- set(xs) -/
theorem set_run (hu : X.A.units + 70 < cLine) (hc0 : X.calm = true) {A : Around} (hA : A.handled = X.A.handled) (hAu : A.units ≤ X.A.units + 8) {E : Value → Shared → Prop} {T : String} {a0 : Addr} {o : Obj} {n : Nat} {xs : List V} {us : List Value} {ds : List D}
    (hT : T = "list" ∨ T = "tuple") (ho : s.heap.get? a0 = some o) (hc : o.cls = .type T) (hd : o.data = .seq us.toArray n) (I : Inv X pins σ H s) (rv : Vals xs us) (rd : RpAll X.K H M xs ds) (sb : setB ds = true) {Q : Value → Shared → Prop}
    (q : ∀ (h' : Heap) (tk : Nat), (∀ b o, s.heap.get? b = some o → h'.get? b = some o) → SetV X.K H M X.w h' s.heap.objs.size ds → Q (.ref s.heap.objs.size) { s with heap := h', toks := tk }) :
    wpAny (model X.prog X.w) A (call (.type "set") [.ref a0]) Q E s := by
  have hh : A.handled = none := hA.trans (I.ok.hd hc0)
  have hkk := setB_hk sb
  refine call_setV (Post := fun h' => (∀ b o, s.heap.get? b = some o → h'.get? b = some o) ∧ SetV X.K H M X.w h' s.heap.objs.size ds) hT ho hc hd (fun A' Q' h1 h2 h3 => ?_) fun h' tk hp => q h' tk hp.1 hp.2
  have hh' : A'.handled = none := h1.trans hh
  unfold setB at sb
  rcases Bool.or_eq_true_iff.mp sb with z | z
  · obtain ⟨z1, z2⟩ := Bool.and_eq_true_iff.mp z
    have z2 := of_decide_eq_true z2
    obtain ⟨ks, e1, e2, e3⟩ := row_keys I rv rd fun d hd => List.all_eq_true.mp z1 d hd
    have few : FewN ks := fun l nl hl => by
      have inj : ∀ x ∈ l, ∀ y ∈ l, x.data = y.data → x = y := fun x hx y hy e => by
        obtain ⟨p, hp, ep⟩ := List.mem_map.mp (hl x hx)
        obtain ⟨p', hp', ep'⟩ := List.mem_map.mp (hl y hy)
        have a1 := (e3 p hp).2.2
        have a2 := (e3 p' hp').2.2
        rw [ep] at a1
        rw [ep'] at a2
        rw [a1, a2, e]
      have nd := nodup_of_map NestedKey.data inj nl
      have := len_sub (m := ndup ds) nd fun x hx => by
        obtain ⟨k, hk, e⟩ := List.mem_map.mp hx
        obtain ⟨p, hp, ep⟩ := List.mem_map.mp (hl k hk)
        rw [(ndup_facts hkk).2, ← e2]
        exact List.mem_map.mpr ⟨p, hp, by rw [ep, e]⟩
      rw [List.length_map] at this
      omega
    refine loopN hT ks hh' ho hc hd (by rw [← e1]) (fun p hp => (e3 p hp).1) few (by simp only [Around.in1_units]; omega) (itc := itC T) rfl fun h' tk L es ep t R g k => h3 h' tk ⟨k, ?_⟩
    obtain ⟨o', ho', hex', hd'⟩ := R.ob
    have hsub : ∀ p ∈ L, p ∈ ks := fun p hp => List.mem_of_mem_take (g.sub p hp)
    refine ⟨o', es, ep, t, L.map fun p => V.ref p.1, L.map fun p => p.2.data, ho', hex', hd', R.fits (s := { s with heap := h' }), R.tab.ris, R.led, ?_, ?_, rp_refs fun p hp => (e3 p (hsub p hp)).2.1, ?_, fun x => ?_⟩
    · have h1 := size_of R.rows
      have h2 := R.few
      unfold scanBound
      omega
    · rw [R.rows]
      unfold rowsN
      rw [List.map_map]
      exact vals_refs L
    · have e : (L.map fun p => p.2.data) = (L.map (·.2)).map NestedKey.data := by rw [List.map_map] <;> rfl
      rw [e]
      refine nodup_of_map _ (fun x hx y hy exy => ?_) R.nd
      obtain ⟨p, hp, ep⟩ := List.mem_map.mp hx
      obtain ⟨p', hp', ep'⟩ := List.mem_map.mp hy
      have a1 := (e3 p (hsub p hp)).2.2
      have a2 := (e3 p' (hsub p' hp')).2.2
      rw [ep] at a1
      rw [ep'] at a2
      rw [a1, a2, exy]
    · constructor
      · intro hx
        obtain ⟨p, hp, e⟩ := List.mem_map.mp hx
        rw [← e2, ← e]
        exact List.mem_map.mpr ⟨p, hsub p hp, rfl⟩
      · intro hx
        rw [← e2] at hx
        obtain ⟨p, hp, e⟩ := List.mem_map.mp hx
        obtain ⟨p', hp', e'⟩ := List.mem_map.mp (g.all p (by rw [List.take_length]; exact hp))
        exact List.mem_map.mpr ⟨p', hp', by rw [e', e]⟩
  · obtain ⟨z1, z2⟩ := Bool.and_eq_true_iff.mp z
    have z2 := of_decide_eq_true z2
    have ii : IntsAre us.toArray.toList (ds.map intV) := by simpa using row_ints rv rd fun d hd => List.all_eq_true.mp z1 d hd
    refine loopI hT (ds.map intV) hh' ho hc hd ii (by rw [List.length_map]; unfold scanBound; omega) fun h' tk c R k => h3 h' tk ⟨k, ?_⟩
    obtain ⟨o', es, ep, t, ho', hex', hd', g, nd, hm, hb, hf, hn, hr, hl⟩ := R
    refine ⟨o', es, ep, t, _, _, ho', hex', hd', hf, hr, hl, hb, vals_ints g, rp_ints es.toList, ?_, fun x => ?_⟩
    · have e : (es.toList.map fun e => (.int (L2.keyOf e) : D)) = (es.toList.map L2.keyOf).map PyData.int := by rw [List.map_map] <;> rfl
      rw [e]
      exact nodup_of_map _ (fun x _ y _ exy => by cases exy; rfl) nd
    · have e : (es.toList.map fun e => (.int (L2.keyOf e) : D)) = (es.toList.map L2.keyOf).map PyData.int := by rw [List.map_map] <;> rfl
      rw [e]
      constructor
      · intro hx
        obtain ⟨i, hi, e⟩ := List.mem_map.mp hx
        have := of_decide_eq_true ((hm i).mpr hi)
        obtain ⟨d, hd, e'⟩ := List.mem_map.mp this
        have := intB_eq (List.all_eq_true.mp z1 d hd)
        rw [← e, ← e', ← this]; exact hd
      · intro hx
        refine List.mem_map.mpr ⟨intV x, (hm _).mp (decide_eq_true (List.mem_map.mpr ⟨x, hx, rfl⟩)), ?_⟩
        exact (intB_eq (List.all_eq_true.mp z1 x hx)).symm
end
end Dt

set_option Elab.async false
set_option linter.all false
set_option maxRecDepth 100000
set_option autoImplicit false
/-! sorted(set(xs)), len(set(xs)). -/
namespace Dt
section
open PySem PySem.Spec PyProof.Rows L2 R PySem.Calls
open PySem.W (alike AllAlike Sortable dataLe EachIs)
theorem vals_perm {K : Fg} {H : Hp} {M : Av} {us us2 : List Value} (p : us.Perm us2) : ∀ {xs : List V} {ds : List D}, Vals xs us → RpAll K H M xs ds → ∃ xs2 ds2, Vals xs2 us2 ∧ RpAll K H M xs2 ds2 ∧ ds2.Perm ds := by
  induction p with
  | nil => intro xs ds r1 r2; exact ⟨xs, ds, r1, r2, .refl _⟩
  | cons u p ih =>
    intro xs ds r1 r2
    cases r1 with
    | cons a b =>
      cases r2 with
      | cons c d =>
        obtain ⟨xs2, ds2, e1, e2, e3⟩ := ih b d
        exact ⟨_, _, .cons a e1, .cons c e2, e3.cons _⟩
  | swap u v l =>
    intro xs ds r1 r2
    cases r1 with
    | cons a b =>
      cases b with
      | cons a' b =>
        cases r2 with
        | cons c d =>
          cases d with
          | cons c' d => exact ⟨_, _, .cons a' (.cons a b), .cons c' (.cons c d), List.Perm.swap ..⟩
  | trans p1 p2 ih1 ih2 =>
    intro xs ds r1 r2
    obtain ⟨xs2, ds2, e1, e2, e3⟩ := ih1 r1 r2
    obtain ⟨xs3, ds3, f1, f2, f3⟩ := ih2 e1 e2
    exact ⟨xs3, ds3, f1, f2, f3.trans e3⟩
theorem keysOk_sub {l m : List D} (h : keysOk l = true) (hs : ∀ x ∈ m, x ∈ l) : keysOk m = true := by
  have sub : ∀ p : D → Bool, l.all p = true → m.all p = true := fun p hp => List.all_eq_true.mpr fun x hx => List.all_eq_true.mp hp x (hs x hx)
  unfold keysOk at h ⊢
  obtain ⟨h1, h3⟩ := Bool.and_eq_true_iff.mp h
  obtain ⟨h1, h2⟩ := Bool.and_eq_true_iff.mp h1
  refine Bool.and_eq_true_iff.mpr ⟨Bool.and_eq_true_iff.mpr ⟨?_, ?_⟩, sub _ h3⟩
  · refine List.all_eq_true.mpr fun x hx => ?_
    exact sub _ (List.all_eq_true.mp h1 x (hs x hx))
  · rcases Bool.or_eq_true_iff.mp h2 with z | z
    · exact Bool.or_eq_true_iff.mpr (.inl (sub _ z))
    · exact Bool.or_eq_true_iff.mpr (.inr (sub _ z))
variable {X : Cx} {pins : List (Addr × Obj)} {σ : St} {H : Hp} {s' : Shared} {M : Av}
theorem sorted_runS (hu : X.A.units + 70 < cLine) (hc0 : X.calm = true) {a0 : Addr} {ds0 : List D}
    (sv : SetV X.K H M X.w s'.heap a0 ds0) (hk0 : ∀ d ∈ ds0, hkB 8 d = true) (I : Inv X pins σ H s') (tk : Trk M H)
    (ko0 : keysOk (ndup ds0) = true) {Q : VK}
    (q : ∀ (p : Addr) (ys : List V), H p = none → RpAll X.K H M ys (sortP (ndup ds0)) → Q (.ref p) (upd H p (.lst ys))) :
    wpAny (model X.prog X.w) X.A (call (.builtin "sorted") [.ref a0]) (EP X pins σ Q) X.xe s' := by
  obtain ⟨o, es, ep, t, xs1, ds1, ho, hex, hd, hf, hr, hl0, hsz, rv1, rd1, nd1, mem1⟩ := sv
  have hh : X.A.in1.handled = none := by simp [I.ok.hd hc0]
  refine call_function_entry_kw kind_sorted plain_sorted entry_sorted (args_sorted1 _) ?_
  unfold Builtin.«sorted»
  refine wpAny_bind (m := checkCount "sorted" 1 1 _) (wpAny_pure ?_)
  refine wpAny_bind (collect_set (A := X.A.in1) hh ⟨o, ho, hex.1, hd⟩ hf hsz hr hl0 fun s1 us k1 hz1 g1 o1 pm => ?_)
  obtain ⟨xs, ds, rv, rd, pd⟩ := vals_perm pm.symm rv1 rd1
  have pn : ds.Perm (ndup ds0) := by
    obtain ⟨n1, n2⟩ := ndup_facts hk0
    exact pd.trans ((List.perm_ext_iff_of_nodup nd1 n1).mpr fun x => (mem1 x).trans (n2 x).symm)
  have ko : keysOk ds = true := keysOk_sub ko0 fun x hx => pn.mem_iff.mp hx
  have hk : ∀ d ∈ ds, hkB 8 d = true := fun d hd => hk0 d (((ndup_facts hk0).2 d).mp (pn.mem_iff.mp hd))
  obtain ⟨al, so, pl⟩ := keysOk_of ko
  have es2 : sortP ds = sortP (ndup ds0) := sortP_congr pn al hk
  rw [← es2] at q
  have hz : us.length ≤ sizeLine := by
    rw [pm.length_eq, List.length_map, Array.length_toList]
    exact fits_of_scanBound hsz
  have hl : xs.length ≤ sizeLine := by rw [rv.length]; exact hz
  have I0 : Inv X pins σ H s1 := I.call' (ch := []) o1 (Un.kept k1) (I.hok.kept k1) (by rw [g1]; exact I.bare) (fun _ z => nomatch z)
  refine wpAny_bind (wpAny_newList ?_ hz)
  refine wpAny_bind (wpAny_holding (wpAny_call_entry_kw slot_list_sort ⟨_, Heap.get?_push_size _ rfl, rfl⟩ entry_list_sort ?body (args_list_sort _)))
  case body =>
    show wpAny (model X.prog X.w) X.A.in1.in1 (Builtin.«list.sort» ⟨[.ref s1.heap.objs.size], _⟩) _ _ _
    have ho1 : (s1.heap.push (PyProof.Rows.seqObj "list" us.toArray 0)).get? s1.heap.objs.size = some (PyProof.Rows.seqObj "list" us.toArray 0) := Heap.get?_push_size _ rfl
    have hn : H s1.heap.objs.size = none := I0.hok.fresh (Nat.le_refl _)
    have old : ∀ b o', s1.heap.get? b = some o' → (s1.heap.push (PyProof.Rows.seqObj "list" us.toArray 0)).get? b = some o' := fun b o' e => Heap.get?_push_of_some _ e
    have pairs : EachIs (fun (u : Value) (b : V × D) => RelV b.1 u ∧ Rp X.K H M b.1 b.2) us (xs.zip ds) := eachPair (h := s1.heap) rv rd
    have ez : (xs.zip ds).map (fun b => b.2) = ds := List.map_snd_zip (by rw [rd.length]; exact Nat.le_refl _)
    have er : EachIs (fun (v : Value) (b : V × D) => ∃ as, Reads (PySem.W.sortingHeap (s1.heap.push (PyProof.Rows.seqObj "list" us.toArray 0)) s1.heap.objs.size us) v b.2 as) us (xs.zip ds) := by
      have m := PySem.W.each_mem pairs
      refine m.mono fun v b hb => ?_
      have hm : b.2 ∈ ds := by
        have := List.mem_map_of_mem (f := fun b : V × D => b.2) hb.2
        rw [ez] at this; exact this
      obtain ⟨as, r⟩ := Dp.reads I0 _ _ _ (hb.1.2.dp (pl _ hm).1) hb.1.1
      exact ⟨as, PyProof.Rows.Reads.keeps (fun b o e => PySem.W.sortingHeap_old (Nat.ne_of_lt (Heap.lt_size e)) (old b o e)) r⟩
    have al' : AllAlike ((xs.zip ds).map fun b => b.2) := by rw [ez]; exact al
    have hlen : (PySem.W.sortVals (PySem.W.dataKind (PySem.W.sortingHeap (s1.heap.push (PyProof.Rows.seqObj "list" us.toArray 0)) s1.heap.objs.size us) ((xs.zip ds).map fun b => b.2)) false us us).length = us.length := PySem.W.sortVals_length false rfl
    refine PySem.W.list_sort_vals (κ := PySem.W.dataKind (PySem.W.sortingHeap (s1.heap.push (PyProof.Rows.seqObj "list" us.toArray 0)) s1.heap.objs.size us) ((xs.zip ds).map fun b => b.2)) ho1
      (PySem.W.SortsAt.data (s := { s1 with heap := PySem.W.sortingHeap (s1.heap.push (PyProof.Rows.seqObj "list" us.toArray 0)) s1.heap.objs.size us }) (PySem.W.each_map (R := fun v d => ∃ as, Reads (PySem.W.sortingHeap (s1.heap.push (PyProof.Rows.seqObj "list" us.toArray 0)) s1.heap.objs.size us) v d as) (fun b : V × D => b.2) er) al' (by rw [ez]; exact so) (by
        rw [ez]; intro d hd
        have h1 := (pl d hd).2
        show X.A.units + 1 + 1 + d.depth < cLine
        omega)) hz ?_
    have out := PySem.W.sortVals_data false pairs er al'
    obtain ⟨fv, fr⟩ := eachPairOut out
    have em : ((xs.zip ds).mergeSort (dataLe false fun b : V × D => b.2)).map (fun b => b.2) = sortP ds := by
      have := PySem.W.sort_maps (s := dataLe false fun d : D => d) (fun b : V × D => b.2) (l := xs.zip ds) (r := dataLe false fun b : V × D => b.2) fun a _ b _ => rfl
      rw [ez] at this
      exact this
    rw [em] at fr
    obtain ⟨ep, he'⟩ := PyProof.Rows.sortedHeap_at (out := (PySem.W.sortVals (PySem.W.dataKind (PySem.W.sortingHeap (s1.heap.push (PyProof.Rows.seqObj "list" us.toArray 0)) s1.heap.objs.size us) ((xs.zip ds).map fun b => b.2)) false us us).toArray) ho1
    refine ⟨_, rfl, wpAny_pure ⟨_, rfl, ⟨.ref s1.heap.objs.size, _, I0.laid (t' := s1.toks) (a := s1.heap.objs.size) (o := .lst (((xs.zip ds).mergeSort (dataLe false fun b : V × D => b.2)).map (·.1))) (fun b o e => ?_) (Nat.le_refl _) ⟨?_, _, ep, fv, he'⟩, rfl, q _ _ hn fr⟩⟩⟩
    · exact (PyProof.Rows.sortedHeap_old (Nat.ne_of_lt (Heap.lt_size e)) (by rw [size_push']; exact Nat.lt_succ_of_lt (Heap.lt_size e))).trans (old b o e)
    · rw [List.length_map, List.length_mergeSort, List.length_zip]
      omega
theorem len_runS (hc0 : X.calm = true) {a0 : Addr} {ds0 : List D}
    (sv : SetV X.K H M X.w s'.heap a0 ds0) (hk0 : ∀ d ∈ ds0, hkB 8 d = true) (I : Inv X pins σ H s') {Q : VK}
    (q : Q (.int ((ndup ds0).length : Nat)) H) :
    wpAny (model X.prog X.w) X.A (call (.builtin "len") [.ref a0]) (EP X pins σ Q) X.xe s' := by
  obtain ⟨o, es, ep, t, xs1, ds1, ho, hex, hd, hf, hr, hl0, hsz, rv1, rd1, nd1, mem1⟩ := sv
  have e : es.size = (ndup ds0).length := by
    obtain ⟨n1, n2⟩ := ndup_facts hk0
    have p : ds1.Perm (ndup ds0) := (List.perm_ext_iff_of_nodup nd1 n1).mpr fun x => (mem1 x).trans (n2 x).symm
    have h1 := rv1.length
    rw [List.length_map] at h1
    have h2 := rd1.length
    have h3 := p.length_eq
    have h4 : es.toList.length = es.size := Array.length_toList
    omega
  unfold scanBound at hsz
  exact call_len_set ho hex hd hf (by omega) ⟨.int ((ndup ds0).length : Nat), H, I.tok _, ⟨_, by rw [e]⟩, q⟩
end
section
open PySem PySem.Spec PyProof.Rows L2 R PySem.Calls
variable {X : Cx} {E : XK} {k r : Bool} {Γ : List Nat} {a : Expr} {p p2 q pos : Pos}
/-- f(set(x)) -/
def CallS (X : Cx) (id : String) (r : List V → Hp → VK → Prop) : Prop := ∀ (pins : List (Addr × Obj)) (s : Shared) (σ : St) (H : Hp) (vs : List V) (us : List Value) (Q : VK), Inv X pins σ H s → Vals vs us → r vs H Q →
  wpAny (model X.prog X.w) X.A (call (.type "set") us) (fun v s' => wpAny (model X.prog X.w) X.A (call (.builtin id) [v]) (EP X pins σ Q) X.xe s') X.xe s
theorem pe_setB {id : String} {x : Str} {t : TA} {r : List V → Hp → VK → Prop} (hc : CallS X id r) (hg : Gl X x) (hm : X.mg x = none) (hv : bootBuiltins x = some (.builtin id)) (hg2 : Gl X "set") (hm2 : X.mg "set" = none) (ha : PA X [a] t) (hn : x ≠ "__name__" := by decide) (hdb : (x == ("__debug__" : Str)) = false := by decide)
    (he : starEach [a] X.env = (false, eval a X.env) :: starEach [] X.env := by rfl) (hpl : (backTo q (starEach [] X.env)).any (·.1) = false := by rfl) : PE X (.Call (.Name x p) [.Call (.Name "set" p2) [a] [] q] [] pos) (tCB r t) := by
  refine ⟨fun pins s σ H Q I h => ?_⟩
  refine wpAny_Call_Name_kw (ld_blt I hg hm hv ?_ hn hdb)
  refine PyProof.Rows.callWith_builtin1 (PyProof.Rows.args_cons ?_ rfl) rfl rfl
  refine wpAny_Call_Name_kw (ld_blt I hg2 hm2 PyProof.Rows.boot_set ?_ (by decide) (by decide))
  refine PyProof.Rows.callWith_type1 (thn (ha.run q pins s σ H _ I h) fun us s1 ⟨vs, H1, I1, r1, q1⟩ => ?_) he hpl
  exact wpAny_mono (hc pins s1 σ H1 vs us Q I1 r1 q1) (fun v s' x => PyProof.Rows.args_nil x) (fun e s' x => x)
def dSortSet : GA
  | [.list ds] => if setB ds && keysOk (ndup ds) then some (.list (sortP (ndup ds))) else none
  | [.tuple ds] => if setB ds && keysOk (ndup ds) then some (.list (sortP (ndup ds))) else none
  | _ => none
def dLenSet : GA
  | [.list ds] => if setB ds then some (.int ((ndup ds).length : Nat)) else none
  | [.tuple ds] => if setB ds then some (.int ((ndup ds).length : Nat)) else none
  | _ => none
theorem call_sortSet (hc : X.calm = true) (hu : X.A.units + 110 < cLine) : CallS X "sorted" (rC X.K dSortSet) := by
  intro pins s σ H vs us Q I rv h
  obtain ⟨M, ds, r, tk, rx, eg, q⟩ := h
  have fin : ∀ {T : String} {a0 : Addr} {o : Obj} {n : Nat} {xs : List V} {us : List Value} {ds : List D}, (T = "list" ∨ T = "tuple") → s.heap.get? a0 = some o → o.cls = .type T → o.data = .seq us.toArray n → Vals xs us → RpAll X.K H M xs ds →
      (if (setB ds && keysOk (ndup ds)) = true then some (PyData.list (sortP (ndup ds))) else none) = some r →
      wpAny (model X.prog X.w) X.A (call (.type "set") [.ref a0]) (fun v s' => wpAny (model X.prog X.w) X.A (call (.builtin "sorted") [v]) (EP X pins σ Q) X.xe s') X.xe s := by
    intro T a0 o n xs us ds hT ho hcl hd rv rd eg
    by_cases c : (setB ds && keysOk (ndup ds)) = true
    · rw [if_pos c] at eg
      cases eg
      obtain ⟨c1, c2⟩ := Bool.and_eq_true_iff.mp c
      refine set_run (by omega) hc rfl (Nat.le_add_right _ _) hT ho hcl hd I rv rd c1 fun h' tk' k sv => ?_
      have I2 : Inv X pins σ H { s with heap := h', toks := tk' } := I.kept k
      exact sorted_runS (by omega) hc sv (setB_hk c1) I2 tk c2 fun p ys np rp => let ⟨s', rp'⟩ := new_lst tk np rp; q _ _ s' rp'
    · rw [if_neg c] at eg; cases eg
  unfold dSortSet at eg
  split at eg
  · obtain ⟨v, rfl, rd⟩ := rx1 rx
    obtain ⟨a, xs, e1, r1, a1⟩ := rd.list
    subst e1
    obtain rfl := Vals.ref1 rv
    obtain ⟨hl, its, n, rvv, _, ho⟩ := Inv.lstR I r1
    exact fin (.inl rfl) ho rfl rfl rvv a1 eg
  · obtain ⟨v, rfl, rd⟩ := rx1 rx
    obtain ⟨a, xs, e1, r1, a1⟩ := rd.tuple
    subst e1
    obtain rfl := Vals.ref1 rv
    obtain ⟨its, rvv, pl, hl⟩ := I.tuple r1.sq
    obtain ⟨o, ho, hcl, n, hd⟩ := pl
    exact fin (.inr rfl) ho hcl hd rvv a1 eg
  · cases eg
theorem call_lenSet (hc : X.calm = true) (hu : X.A.units + 110 < cLine) : CallS X "len" (rC X.K dLenSet) := by
  intro pins s σ H vs us Q I rv h
  obtain ⟨M, ds, r, tk, rx, eg, q⟩ := h
  have fin : ∀ {T : String} {a0 : Addr} {o : Obj} {n : Nat} {xs : List V} {us : List Value} {ds : List D}, (T = "list" ∨ T = "tuple") → s.heap.get? a0 = some o → o.cls = .type T → o.data = .seq us.toArray n → Vals xs us → RpAll X.K H M xs ds →
      (if setB ds = true then some (PyData.int ((ndup ds).length : Nat)) else none) = some r →
      wpAny (model X.prog X.w) X.A (call (.type "set") [.ref a0]) (fun v s' => wpAny (model X.prog X.w) X.A (call (.builtin "len") [v]) (EP X pins σ Q) X.xe s') X.xe s := by
    intro T a0 o n xs us ds hT ho hcl hd rv rd eg
    by_cases c : setB ds = true
    · rw [if_pos c] at eg
      cases eg
      refine set_run (by omega) hc rfl (Nat.le_add_right _ _) hT ho hcl hd I rv rd c fun h' tk' k sv => ?_
      have I2 : Inv X pins σ H { s with heap := h', toks := tk' } := I.kept k
      exact len_runS hc sv (setB_hk c) I2 (q _ _ (Same.refl _) (.int _))
    · rw [if_neg c] at eg; cases eg
  unfold dLenSet at eg
  split at eg
  · obtain ⟨v, rfl, rd⟩ := rx1 rx
    obtain ⟨a, xs, e1, r1, a1⟩ := rd.list
    subst e1
    obtain rfl := Vals.ref1 rv
    obtain ⟨hl, its, n, rvv, _, ho⟩ := Inv.lstR I r1
    exact fin (.inl rfl) ho rfl rfl rvv a1 eg
  · obtain ⟨v, rfl, rd⟩ := rx1 rx
    obtain ⟨a, xs, e1, r1, a1⟩ := rd.tuple
    subst e1
    obtain rfl := Vals.ref1 rv
    obtain ⟨its, rvv, pl, hl⟩ := I.tuple r1.sq
    obtain ⟨o, ho, hcl, n, hd⟩ := pl
    exact fin (.inr rfl) ho hcl hd rvv a1 eg
  · cases eg
theorem de_sortSet {m : MA} (hc : X.calm = true) (hu : X.A.units + 110 < cLine) (hg : Gl X "sorted") (hm : X.mg "sorted" = none) (hg2 : Gl X "set") (hm2 : X.mg "set" = none) (ha : DA X E k r Γ [a] m)
    (he : starEach [a] X.env = (false, eval a X.env) :: starEach [] X.env := by rfl) (hpl : (backTo q (starEach [] X.env)).any (·.1) = false := by rfl) :
    DE X E k false Γ (.Call (.Name "sorted" p) [.Call (.Name "set" p2) [a] [] q] [] pos) (mCall dSortSet m) :=
  PE.imp (pe_setB (call_sortSet hc hu) hg hm (by decide +kernel) hg2 hm2 ha (by decide) (by decide) he hpl) fun σ H Q h => dt_call (r := r) h
theorem de_lenSet {m : MA} (hc : X.calm = true) (hu : X.A.units + 110 < cLine) (hg : Gl X "len") (hm : X.mg "len" = none) (hg2 : Gl X "set") (hm2 : X.mg "set" = none) (ha : DA X E k r Γ [a] m)
    (he : starEach [a] X.env = (false, eval a X.env) :: starEach [] X.env := by rfl) (hpl : (backTo q (starEach [] X.env)).any (·.1) = false := by rfl) :
    DE X E k false Γ (.Call (.Name "len" p) [.Call (.Name "set" p2) [a] [] q] [] pos) (mCall dLenSet m) :=
  PE.imp (pe_setB (call_lenSet hc hu) hg hm (by decide +kernel) hg2 hm2 ha (by decide) (by decide) he hpl) fun σ H Q h => dt_call (r := r) h
end
end Dt

set_option Elab.async false
set_option linter.all false
set_option maxRecDepth 100000
set_option autoImplicit false
/-! Defs that change a list parameter and give a new object. -/
namespace Dt
open PySem PySem.Spec PyProof.Rows L2 R
def spG (K : Fg) (mg : Str → Option Value) (j : Nat) (fn : List D → R (D × D)) : Sp := fun vs H Q E => ∃ (M0 : Av) (ds : List D) (a : Addr) (dj : D), Trk M0 H ∧ ¬ M0 a ∧ vs.length = ds.length ∧
  vs[j]? = some (.ref a) ∧ ds[j]? = some dj ∧ OwnAt K H (M0.add a) a dj ∧ (∀ i d, i ≠ j → ds[i]? = some d → ∃ v, vs[i]? = some v ∧ Rp K H (M0.add a) v d) ∧
  (fn ds).nox.post (fun z => ∀ p H', H p = none → Fra (fun b => b = a) H H' → OwnAt K H' ((M0.add a).add p) p z.1 → OwnAt K H' ((M0.add a).add p) a z.2 → Q (.ref p) H') (fun _ => False)
def runG (n N j : Nat) (body : MS) (ds : List D) : R (D × D) := if ds.length = n then (body (startE n N ds)).bind fun z => match z.1 with
    | .rt d => (R.opt (getv z.2 j)).bind fun x => .ok (d, x)
    | _ => .no
  else .no
section
variable {X : Cx} {E : XK} {k r : Bool} {Γ0 Γ Γ' Γ1 Γ2 Γl : List Nat} {a b c e : Expr} {es : List Expr} {pos p : Pos} {x : Str} {f : Addr} {fd : FuncData} {ps : List Str} {kf : Nat} {st : Stmt} {rest : List Stmt}
theorem df_callG {j : Nat} {fn : List D → R (D × D)} {m : MAr} (F : FnOk X.prog X.w X.K X.mg X.base (L2.CX X.prog X.w) kf f fd ps (spG X.K X.mg j fn)) (hr : Room kf X.A) (hg : Gl X x) (hm : X.mg x = some (.ref f)) (hk : PySem.W.keepIn X.K (.ref f) = true) (hb : Binds X.K fd ps []) (hx : Passes (L2.CX X.prog X.w) X E)
    (ha : DAr X E true Γ (e :: es) m) (hdb : (x == ("__debug__" : Str)) = false := by decide) (he : starEach (e :: es) X.env = (false, eval e X.env) :: starEach es X.env := by rfl) (hpl : (backTo pos (starEach es X.env)).any (·.1) = false := by rfl) :
    DF X E true Γ (.Call (.Name x p) (e :: es) [] pos) (mCallI j fn m) :=
  PE.imp (pe_call F hr hg hm hk hb .nil hx ha hdb he hpl) fun σ H Q ⟨M, A, ρ, hΓ, fi, h⟩ => by
    refine ⟨M, A, ρ, hΓ, fi, pimp (post_bind h) (fun z hz vs H1 f1 g1 e1 r1 => ?_) (fun c hc => hc)⟩
    show spG X.K X.mg j fn (vs ++ []) H1 Q E
    rw [List.append_nil]
    cases hj : z.1[j]? with
    | none => rw [hj] at hz; exact hz.elim
    | some q =>
      cases q with
      | val d => rw [hj] at hz; exact hz.elim
      | «at» i =>
        rw [hj] at hz
        obtain ⟨a, ea, ia⟩ := r1.getAt hj
        by_cases hall : (z.1.eraseIdx j).all isVal = true
        · have hz : ((R.opt (arD z.2 z.1)).bind fun ds => (fn ds).nox.bind fun y => R.ok (y.1, z.2.set i (some y.2))).post _ _ := (by
            have : (if (z.1.eraseIdx j).all isVal = true then (R.opt (arD z.2 z.1)).bind fun ds => (fn ds).nox.bind fun y => R.ok (y.1, z.2.set i (some y.2)) else R.no).post _ _ := hz
            rw [if_pos hall] at this
            exact this)
          obtain ⟨ds, ed, hz⟩ := post_opt hz
          obtain ⟨l1, l2, l3⟩ := arD_get ed
          obtain ⟨dj, edj, gj⟩ := l3 j i hj
          have ma : M a := f1.sub _ ia
          have bk : ∀ b, (Av.add (fun b => M b ∧ b ≠ a) a) b ↔ M b := fun b => ⟨fun z => z.elim (·.1) fun e => by rw [e]; exact ma, fun z => by
            by_cases e : b = a
            · exact .inr e
            · exact .inl ⟨z, e⟩⟩
          have c1 : ∀ H, Carry X.K H H M (Av.add (fun b => M b ∧ b ≠ a) a) := fun H => Carry.weak fun b z => (bk b).mp z
          have c2 : ∀ H, Carry X.K H H (Av.add (fun b => M b ∧ b ≠ a) a) M := fun H => Carry.weak fun b z => (bk b).mpr z
          obtain ⟨o1, d1, o2, o3⟩ := f1.own _ ia
          rw [getv_some gj] at o2
          cases o2
          refine ⟨fun b => M b ∧ b ≠ a, ds, a, dj, fun b hb => f1.trk b hb.1, fun z => z.2 rfl, by rw [r1.len, l1], ea, edj, o3.carry (c1 H1) (fun _ e => e), fun i' d' ne hd' => ?_, pimp (post_noxbind hz) (fun y hy p H' np g' rp ow => ?_) fun c hc => hc⟩
          · have hi' : i' < z.1.length := by rw [l1]; exact (List.getElem?_eq_some_iff.mp hd').1
            obtain ⟨q, hq⟩ : ∃ q, z.1[i']? = some q := ⟨_, List.getElem?_eq_getElem hi'⟩
            cases q with
            | val d2 =>
              obtain ⟨v, ev, rv⟩ := r1.getVal hq
              have := l2 i' d2 hq
              rw [hd'] at this
              cases this
              exact ⟨v, ev, Rp.carry (c1 H1) rv⟩
            | «at» l =>
              have hmem : Ar.at l ∈ z.1.eraseIdx j := List.mem_eraseIdx_iff_getElem?.mpr ⟨i', ne, hq⟩
              have := List.all_eq_true.mp hall _ hmem
              cases this
          · have gg : Fra (eff true A) H1 H' := g'.mono fun b z => ⟨rfl, i, by rw [z]; exact ia⟩
            have cc : Carry X.K H1 H' M (M.add p) := (Carry.add np).trans (Carry.fra gg fun b z => .inl (eff_sub f1 b z))
            have c2p : Carry X.K H' H' (Av.add (Av.add (fun b => M b ∧ b ≠ a) a) p) (M.add p) := Carry.weak fun b z => z.elim (fun m => .inl ((bk b).mpr m)) .inr
            have hil : i < z.2.length := (List.getElem?_eq_some_iff.mp (getv_some gj)).1
            refine hy p H' (none_back f1 g1 np) ⟨by rw [List.length_set]; exact f1.len, fun b mb => ?_, fun q hq => .inl (f1.sub q hq), f1.nd, fun q hq => ?_, fun l d' el nl => ?_⟩ (g1.trans gg) (fun n => Bool.noConfusion n) (rp.carry c2p fun _ e => e)
            · rcases mb with mb | e
              · by_cases e : b = a
                · rw [e]
                  exact ow.there
                · obtain ⟨o, eo⟩ := f1.trk b mb
                  exact ⟨o, g' b o eo e⟩
              · rw [e]
                exact rp.there
            · obtain ⟨h1, d', h2, h3⟩ := f1.own q hq
              by_cases e : q.2 = a
              · have : q.1 = i := nd_inj f1.nd (by rw [← e]; exact hq) ia
                rw [this, e]
                exact ⟨o1, y.2, List.getElem?_set_self hil, ow.carry c2p fun _ e => e⟩
              · have ne : i ≠ q.1 := fun e2 => by
                  rw [← e2, o1] at h1
                  cases h1
                  exact e rfl
                exact ⟨h1, d', by rw [List.getElem?_set_ne ne]; exact h2, h3.carry cc fun o' eo => g' _ _ eo e⟩
            · have ne : i ≠ l := fun e => nl a (by rw [← e]; exact ia)
              rw [List.getElem?_set_ne ne] at el
              obtain ⟨w, h1, h2⟩ := f1.shr l d' el nl
              exact ⟨w, h1, Rp.carry cc h2⟩
        · have : (if (z.1.eraseIdx j).all isVal = true then (R.opt (arD z.2 z.1)).bind fun ds => (fn ds).nox.bind fun y => R.ok (y.1, z.2.set i (some y.2)) else R.no).post _ _ := hz
          rw [if_neg hall] at this
          exact this.elim
/-! ### the block of such a def -/
def DTsG (K : Fg) (mg : Str → Option Value) (E : XK) (Γ0 Γ : List Nat) (m : MS) : TS := fun D σ H =>
  ∃ (M0 : Av) (B A0 : As) (ρ : Ev), B.map (·.1) = Γ ∧ A0.map (·.1) = Γ0 ∧ (∀ p ∈ B ++ A0, ¬ M0 p.2) ∧ Fit K (un M0 (B ++ A0)) (B ++ A0) σ H ρ ∧
    (m ρ).post (fun z => match z.1 with
      | .rt d => ∀ p H', (As.has B p ∨ H p = none) → Fra (As.has (B ++ A0)) H H' → OwnAt K H' ((un M0 A0).add p) p d → (∀ q ∈ A0, ∃ d', z.2[q.1]? = some (some d') ∧ OwnAt K H' ((un M0 A0).add p) q.2 d') → D.rt (.ref p) H'
      | _ => False) (DX mg E (As.has (B ++ A0)) H)
def DSg (X : Cx) (E : XK) (Γ0 Γ : List Nat) (sts : List Stmt) (m : MS) : Prop := PSs X sts (DTsG X.K X.mg E Γ0 Γ m)
theorem dsg_cons {m m' : MS} (h1 : DS X E Γ0 Γ Γ1 [] st m) (h2 : DSg X E Γ0 Γ1 rest m') : DSg X E Γ0 Γ (st :: rest) (sSeqF m m') :=
  PSs.imp (pss_cons h1 h2) fun D σ H ⟨M0, B, A0, ρ, hB, hA, dj, f, q⟩ => by
    refine ⟨M0, B, A0, ρ, hB, hA, dj, f, pimp (post_bind q) (fun z hz => ?_) fun c hc => hc⟩
    obtain ⟨fl, ρ'⟩ := z
    cases fl with
    | nx =>
      intro σ' H' B' e s f'
      have hz : (m' ρ').post _ _ := hz
      refine ⟨M0, B', A0, ρ', e, hA, s.apart dj f.trkM, f', pimp hz (fun z2 h => ?_) fun c hc => DX.step s hc⟩
      obtain ⟨fl2, ρ2⟩ := z2
      cases fl2 with
      | rt d =>
        intro p H2 hp g ow oa
        refine h p H2 ?_ (s.fra_trans g) ow oa
        rcases hp with ⟨i, hp⟩ | hp
        · exact s.new (i, p) hp
        · cases e3 : H p with
          | none => exact .inr rfl
          | some o =>
            by_cases n : As.has (B ++ A0) p
            · rcases As.has_append.mp n with n | n
              · exact .inl n
              · obtain ⟨o', eo⟩ := f'.trk0 p n
                rw [hp] at eo; cases eo
            · have := s.fra p o e3 n
              rw [hp] at this; cases this
      | nx => exact h.elim
      | bk => exact h.elim
      | ct => exact h.elim
    | rt d => exact hz.elim
    | bk => exact hz.elim
    | ct => exact hz.elim
theorem dsg_free {sts : List Stmt} {m : MS} (h : DSg X E Γ0 Γ1 sts m) (hs : Γ1.Sublist Γ := by decide) : DSg X E Γ0 Γ sts m :=
  PSs.imp h fun D σ H ⟨M0, B, A0, ρ, hB, hA, dj, f, q⟩ => by
    obtain ⟨B', s1, s2⟩ := sublist_of_map (B := B) (by rw [hB]; exact hs)
    have st : Stp B A0 B' H H := ⟨Fra.refl, fun p hp => .inl (As.has_of (s1.subset hp))⟩
    refine ⟨M0, B', A0, ρ, s2, hA, st.apart dj f.trkM, f.less dj s1, pimp q (fun z hz => ?_) fun c hc => DX.step st hc⟩
    obtain ⟨fl, ρ'⟩ := z
    cases fl with
    | rt d => exact fun p H2 hp g ow oa => hz p H2 (hp.imp (fun ⟨i, z⟩ => ⟨i, s1.subset z⟩) id) (st.fra_trans g) ow oa
    | nx => exact hz
    | bk => exact hz
    | ct => exact hz
/-- return x, an own object -/
theorem dsg_ret {i : Nat} (he : PE X e (tVar i)) (hi : Γ.contains i = true := by decide) : DSg X E Γ0 Γ [.Return (some e) pos] (sRet (var i)) :=
  PSs.imp (pss_one (ps_ret he)) fun D σ H ⟨M0, B, A0, ρ, hB, hA, dj, f, q⟩ => by
    have e0 : sRet (var i) ρ = ((R.opt (getv ρ i)).bind fun d => R.ok (Fl.rt d, ρ)) := by
      unfold sRet var
      cases getv ρ i <;> rfl
    rw [e0] at q
    obtain ⟨d, ed, q2⟩ := post_opt q
    have q3 : ∀ p H', (As.has B p ∨ H p = none) → Fra (As.has (B ++ A0)) H H' → OwnAt X.K H' ((un M0 A0).add p) p d → (∀ q ∈ A0, ∃ d', ρ[q.1]? = some (some d') ∧ OwnAt X.K H' ((un M0 A0).add p) q.2 d') → D.rt (.ref p) H' := q2
    have hm : i ∈ B.map (·.1) := by rw [hB]; exact List.contains_iff_mem.mp hi
    obtain ⟨⟨j, a⟩, hq, e0⟩ := List.mem_map.mp hm
    obtain rfl : j = i := e0
    obtain ⟨o1, d1, o2, o3⟩ := f.own (j, a) (List.mem_append_left _ hq)
    rw [getv_some ed] at o2
    cases o2
    have cw : Carry X.K H H (un M0 (B ++ A0)) ((un M0 A0).add a) := Carry.weak fun b z => z.elim (fun z => z.elim .inl fun z => .inr (As.has_append.mpr (.inr z))) fun e => .inr (by rw [e]; exact As.has_append.mpr (.inl (As.has_of hq)))
    refine ⟨.ref a, o1, q3 a H (.inl (As.has_of hq)) Fra.refl (o3.carry cw fun _ e => e) fun q hq' => ?_⟩
    obtain ⟨_, d', h2, h3⟩ := f.own q (List.mem_append_right _ hq')
    exact ⟨d', h2, h3.carry cw fun _ e => e⟩
/-- return of a new thing -/
theorem dsg_retE {m : ME} (he : DF X E k (Γ ++ Γ0) e m) : DSg X E Γ0 Γ [.Return (some e) pos] (sRet m) :=
  PSs.imp (pss_one (ps_ret he)) fun D σ H ⟨M0, B, A0, ρ, hB, hA, dj, f, q⟩ => by
    refine ⟨_, _, ρ, by rw [List.map_append, hB, hA], f, pimp (post_bind q) (fun z hz p H' np f' g e' ow => ?_) fun c hc => DX.eff hc⟩
    have cw : Carry X.K H' H' (Av.add (un M0 (B ++ A0)) p) ((un M0 A0).add p) := Carry.weak fun b z => z.elim (fun z => z.elim (fun z => .inl (.inl z)) fun z => .inl (.inr (As.has_append.mpr (.inr z)))) .inr
    refine hz p H' (.inr np) g.eff_has (ow.carry cw fun _ e => e) fun q hq' => ?_
    obtain ⟨_, d', h2, h3⟩ := f'.own q (List.mem_append_right _ hq')
    exact ⟨d', h2, h3.carry cw fun _ e => e⟩
end
section
variable {P : Program} {w : World} {K : Fg} {mg : Str → Option Value} {base : Heap} {x qual : Str} {params : Arguments} {body : List Stmt} {scope : Scope} {f : Addr} {fd : FuncData} {N ps : List Str} {k : Nat}
theorem fn_ownF {j : Nat} {mb : MS} (F : FunD K x qual params body scope [] [] f fd) (S : FnScope N ps scope) (hN : ps.length ≤ N.length) (hj : j < ps.length)
    (hb : Bdy P w K mg base N qual scope f k fun X E => DSg X E [j] [] body mb) :
    FnOk P w K mg base (L2.CX P w) (k + 1) f fd ps (spG K mg j (runG ps.length N.length j mb)) := by
  refine F.ok S (fun vs H Q E h => ?_) (fun cdv A outer s H vs Q E hr h => ?_)
  · obtain ⟨M0, ds, a, dj, tk, na, hlv, e1, e2, ow, ot, q⟩ := h
    by_cases hl : ds.length = ps.length
    · rw [hlv, hl]
    · unfold runG at q
      rw [if_neg hl] at q; exact q.elim
  · obtain ⟨M0, ds, a, dj, tk, na, hlv, e1, e2, ow, ot, q⟩ := h
    refine ⟨_, hb cdv A outer s H E (cs_of hr), ?_⟩
    by_cases hl : ds.length = ps.length
    · unfold runG at q
      rw [if_pos hl] at q
      have u1 : ∀ b, un M0 ([] ++ [(j, a)]) b → (M0.add a) b := fun b z => z.elim .inl fun ⟨i, z⟩ => .inr (by
        have := List.mem_singleton.mp z
        exact congrArg Prod.snd this)
      have u2 : ∀ b, (M0.add a) b → un M0 ([] ++ [(j, a)]) b := fun b z => z.elim .inl fun e => .inr ⟨j, by rw [e]; exact List.mem_singleton.mpr rfl⟩
      have c1 : ∀ H, Carry K H H (M0.add a) (un M0 ([] ++ [(j, a)])) := fun H => Carry.weak u1
      have c2 : ∀ H, Carry K H H (un M0 ([] ++ [(j, a)])) (M0.add a) := fun H => Carry.weak u2
      have hjd : j < ds.length := by rw [hl]; exact hj
      have ta : ∃ o, H a = some o := ow.there
      have gs : ∀ (i : Nat) (d : D), (startE ps.length N.length ds)[i]? = some (some d) → ds[i]? = some d := fun i d e => by
        unfold startE at e
        by_cases hi : i < ds.length
        · rw [List.getElem?_append_left (by rw [List.length_map]; exact hi), List.getElem?_map] at e
          cases q : ds[i]? with
          | none => rw [q] at e; cases e
          | some d' => rw [q] at e; cases e; rfl
        · rw [List.getElem?_append_right (by rw [List.length_map]; omega), List.getElem?_replicate] at e
          split at e <;> cases e
      have gv : ∀ (i : Nat) (v : V), vs[i]? = some v → (L2.start N vs)[i]? = some (some v) := fun i v e => by
        unfold L2.start
        rw [List.getElem?_append_left (by rw [List.length_map]; exact (List.getElem?_eq_some_iff.mp e).1), List.getElem?_map, e]; rfl
      have ft : Fit K (un M0 ([] ++ [(j, a)])) ([] ++ [(j, a)]) (L2.start N vs) H (startE ps.length N.length ds) := by
        refine ⟨?_, fun b mb => (u1 b mb).elim (tk b) fun e => by rw [e]; exact ta, fun p hp => .inr (As.has_of hp), by simp, fun p hp => ?_, fun i d e ni => ?_⟩
        · unfold L2.start startE
          simp [hlv, hl]
        · have hp := List.mem_singleton.mp hp
          subst hp
          refine ⟨gv _ _ e1, dj, ?_, ow.carry (c1 H) fun _ e => e⟩
          unfold startE
          rw [List.getElem?_append_left (by rw [List.length_map]; exact hjd), List.getElem?_map, e2]; rfl
        · have ne : i ≠ j := fun e => ni a (by rw [e]; exact List.mem_singleton.mpr rfl)
          obtain ⟨v, ev, rv⟩ := ot i d ne (gs i d e)
          exact ⟨v, gv _ _ ev, Rp.carry (c1 H) rv⟩
      refine ⟨M0, [], [(j, a)], _, rfl, rfl, fun p hp => by rw [List.mem_singleton.mp hp]; exact na, ft, ?_⟩
      have fin : ∀ {H'}, Fra (As.has ([] ++ [(j, a)])) H H' → Fra (fun b => b = a) H H' := fun g => g.mono fun b ⟨i, z⟩ => congrArg Prod.snd (List.mem_singleton.mp z)
      cases hm : mb (startE ps.length N.length ds) with
      | exc c => rw [hm] at q; exact q.elim
      | no => rw [hm] at q; exact q.elim
      | ok z =>
        rw [hm] at q
        obtain ⟨fl, ρ'⟩ := z
        cases fl with
        | rt d =>
          intro p H' hp g rp ow'
          have q : ((R.opt (getv ρ' j)).bind fun x => R.ok (d, x)).nox.post (fun z => ∀ p H', H p = none → Fra (fun b => b = a) H H' → OwnAt K H' ((M0.add a).add p) p z.1 → OwnAt K H' ((M0.add a).add p) a z.2 → Q (.ref p) H') (fun _ => False) := q
          obtain ⟨d2, o2, o3⟩ := ow' (j, a) (List.mem_singleton.mpr rfl)
          have eg : getv ρ' j = some d2 := by
            unfold getv
            rw [o2]
          rw [eg] at q
          have cu : Carry K H' H' (Av.add (un M0 [(j, a)]) p) ((M0.add a).add p) := Carry.weak fun b z => z.elim (fun m => .inl (u2 b m)) .inr
          exact q p H' (hp.elim (fun ⟨i, z⟩ => by cases z) id) (fin g) (rp.carry cu fun _ e => e) (o3.carry cu fun _ e => e)
        | nx => exact q.elim
        | bk => exact q.elim
        | ct => exact q.elim
    · unfold runG at q
      rw [if_neg hl] at q; exact q.elim
end
end Dt

set_option Elab.async false
set_option linter.all false
set_option maxRecDepth 100000
set_option autoImplicit false
/-! xs[::-1], lists and tuples. -/
namespace Dt
section
open PySem PySem.Spec PyProof.Rows L2 HT
variable {prog : Program} {w : World} {A : Around} {E : Value → Shared → Prop} {s : Shared}
theorem pick_rev (xs : Array Value) : ((List.range xs.size).filterMap fun (m : Nat) => xs[((xs.size : Int) - 1 + (m : Int) * -1).toNat]?).toArray = xs.toList.reverse.toArray := by
  have e1 : ((List.range xs.size).filterMap fun (m : Nat) => xs[((xs.size : Int) - 1 + (m : Int) * -1).toNat]?) = (List.range xs.size).filterMap ((fun k => xs[k]?) ∘ fun k => xs.size - 1 - k) := by
    have e : (fun (m : Nat) => xs[((xs.size : Int) - 1 + (m : Int) * -1).toNat]?) = ((fun k => xs[k]?) ∘ fun k => xs.size - 1 - k) := by
      funext m
      show xs[((xs.size : Int) - 1 + (m : Int) * -1).toNat]? = xs[xs.size - 1 - m]?
      have : ((xs.size : Int) - 1 + (m : Int) * -1).toNat = xs.size - 1 - m := by omega
      rw [this]
    rw [e]
  rw [e1, ← List.filterMap_map, PySem.W.krv_range, List.filterMap_reverse, PySem.W.krv_all]
theorem places_rev (n : Nat) : Builtin.Slice.slicePlaces ((n : Int) - 1) (-1) (-1) = n := by
  unfold Builtin.Slice.slicePlaces
  have h1 : ¬ ((-1 : Int) > 0) := by omega
  simp only [h1, if_false]
  have : (- -1 : Int) = 1 := by omega
  rw [this, Int.ediv_one]
  split <;> omega
theorem sliceApplied_rev {sl : Addr} {vl vu vs : Value} {n : Nat} {Q : Int × Int × Nat → Shared → Prop} (hs : s.heap.IsSliceOf sl vl vu vs) (pl : IsPart vl none) (pu : IsPart vu none) (ps : IsPart vs (some (-1)))
    (h : Q ((n : Int) - 1, -1, n) s) : wpAny (model prog w) A (Builtin.Slice.sliceApplied (.ref sl) (pure (n : Int))) Q E s := by
  obtain ⟨os, hos, hcs, hds⟩ := id hs
  unfold Builtin.Slice.sliceApplied Builtin.Slice.sliceFields
  refine wpAny_bind (wpAny_bind (wpAny_field hos hds (x := vl) rfl (wpAny_bind (wpAny_field hos hds (x := vu) rfl (wpAny_bind (wpAny_field hos hds (x := vs) rfl (wpAny_pure ?_)))))))
  refine wpAny_bind (slicePart_ ps ?_)
  show wpAny _ _ (if ((-1 : Int) == 0) = true then _ else _) _ _ s
  rw [if_neg (by decide)]
  refine wpAny_bind (slicePart_ pl (wpAny_bind (slicePart_ pu (wpAny_bind (wpAny_pure ?_)))))
  show wpAny _ _ (pure ((n : Int) - 1, (-1 : Int), Builtin.Slice.slicePlaces ((n : Int) - 1) (-1) (-1))) _ _ s
  rw [places_rev]
  exact wpAny_pure h
theorem getItem_tuple_rev {t sl : Addr} {items : Array Value} {vl vu vs : Value} {Q : Value → Shared → Prop} (ht : IsTup s.heap t items) (hs : s.heap.IsSliceOf sl vl vu vs) (pl : IsPart vl none) (pu : IsPart vu none) (ps : IsPart vs (some (-1)))
    (h : Q (.ref s.heap.objs.size) { s with heap := s.heap.push { cls := .type "tuple", data := .seq items.toList.reverse.toArray } })
    (hsz : items.size ≤ sizeLine) : wpAny (model prog w) A (getItem (.ref t) (.ref sl)) Q E s := by
  have htake : sizeOk (.seq items.toList.reverse.toArray) := by
    show items.toList.reverse.toArray.size ≤ sizeLine
    rw [List.size_toArray, List.length_reverse, Array.length_toList]
    exact hsz
  obtain ⟨os, hos, hcs, hds⟩ := id hs
  have hTs : s.TypeIs (.ref sl) "slice" := ⟨os, hos, hcs⟩
  unfold getItem
  try with_reducible refine wpAny_holding ?_
  first | refine wpAny_bind (wpAny_pure ?_) | skip
  refine wpAny_bind (wpAny_sequenceKey ht.typeIs (by decide) ?_)
  refine wpAny_bind (wpAny_callSpecial?_slot (name := Str.ofString "__getitem__") ht.typeIs PyProof.Rows.slot_tuple_getitem
    (wpAny_call_entry PyProof.Rows.slot_tuple_getitem ht.typeIs entry_tuple_getitem ?_ (args_tuple_getitem _ _)))
  show wpAny _ _ (Builtin.Tuple.tupleItemsOf (.ref t) >>= _) _ _ s
  refine wpAny_bind (tupleItemsOf_ ht ?_)
  refine wpAny_bind (wpAny_typeOf hTs ?_)
  rw [if_pos (by decide)]
  refine wpAny_bind (sliceApplied_rev hs pl pu ps ?_)
  have hno : ¬ (((items.size : Int) - 1 == 0 && (-1 : Int) == 1 && items.size == items.size) = true) := by
    intro q
    rw [Bool.and_eq_true, Bool.and_eq_true] at q
    exact absurd (eq_of_beq q.1.2) (by decide)
  show wpAny _ _ (if ((items.size : Int) - 1 == 0 && (-1 : Int) == 1 && items.size == items.size) = true then _ else _) _ _ s
  rw [if_neg hno, pick_rev]
  first
    | exact wpAny_bind (m := Builtin.Tuple.tupleExact _) (wpAny_newObj_type (wpAny_pure ⟨_, rfl, wpAny_pure h⟩) htake)
    | exact wpAny_bind (m := Builtin.Tuple.tupleExact _) (wpAny_newObj_type (wpAny_bind (wpAny_pure (wpAny_pure ⟨_, rfl, wpAny_pure h⟩))) htake)
    | exact wpAny_bind (wpAny_bind (m := Builtin.Tuple.tupleExact _) (wpAny_newObj_type (wpAny_pure (wpAny_pure ⟨_, rfl, wpAny_pure h⟩)) htake))
    | exact wpAny_bind (wpAny_bind (m := Builtin.Tuple.tupleExact _) (wpAny_newObj_type (wpAny_pure ⟨_, rfl, wpAny_pure h⟩) htake))
end
section
open PySem PySem.Spec PyProof.Rows L2 R
variable {X : Cx} {E : XK} {k r : Bool} {Γ : List Nat} {a : Expr} {pos : Pos}
def tRevA (K : PySem.W.Frag) (te : TE) : TE := fun σ H Q => te σ H fun x H1 => (∃ a xs, x = .ref a ∧ SqL K H1 a xs ∧ ∀ p, H1 p = none → Q (.ref p) (upd H1 p (.lst xs.reverse))) ∨
  ∃ a xs, x = .ref a ∧ SqT K H1 a xs ∧ ∀ p o, o.dict = none → H1 p = none → Q (.ref p) (upd H1 p (.frz o (.tup xs.reverse)))
theorem pe_revA {e : Expr} {te : TE} {k : Nat} {p1 p2 p3 pos : Pos} (he : PE X e te) : PE X (.Subscript e (.Slice none none (some (.UnaryOp .USub (.Constant (.int 1) k p1) p2)) p3) pos) (tRevA X.K te) := by
  refine ⟨fun pins s σ H Q I h => ?_⟩
  refine Subscript_ (thn (he.run pins s σ H _ I h) fun v s1 ⟨x, H1, I1, r1, q1⟩ => ?_)
  have hst : PO X (some (.UnaryOp .USub (.Constant (.int 1) k p1) p2)) (tPart (tUn (rU fun i => .int (-i)) (tC (.int 1)))) := po_some (pe_un un_neg pe_int)
  refine wpAny_Slice (thn (po_none.run pins s1 σ H1 (fun o H2 => o = none ∧ H2 = H1) I1 ⟨rfl, rfl⟩) fun vl s2 ⟨l, H2, I2, pl, el, e2⟩ => ?_)
  subst el e2
  refine thn (po_none.run pins s2 σ H2 (fun o H3 => o = none ∧ H3 = H2) I2 ⟨rfl, rfl⟩) fun vu s3 ⟨u, H3, I3, pu, eu, e3⟩ => ?_
  subst eu e3
  refine thn (hst.run pins s3 σ H3 (fun o H4 => o = some (-1) ∧ H4 = H3) I3 ⟨1, rfl, -1, rfl, rfl, rfl⟩) fun vs s4 ⟨o, H4, I4, ps, eo, e4⟩ => ?_
  subst eo e4
  have I5 : Inv X pins σ H4 { s4 with heap := s4.heap.push { cls := .type "slice", data := .fields #[vl, vu, vs] } } := I4.kept (t' := s4.toks) fun b ob q => Heap.get?_push_of_some _ q
  rcases q1 with ⟨a, xs, ex, hx, q⟩ | ⟨a, xs, ex, hx, q⟩
  · subst ex
    cases r1
    obtain ⟨its, r, ht, hz⟩ := I5.list hx
    have hlen := r.length
    show wpAny (model X.prog X.w) X.A (subscriptTail e (.Slice none none (some (.UnaryOp .USub (.Constant (.int 1) k p1) p2)) p3) (.ref a) (.ref s4.heap.objs.size)) (EP X pins σ Q) X.xe { s4 with heap := s4.heap.push { cls := .type "slice", data := .fields #[vl, vu, vs] } }
    refine tail_any (ops := [.ref a, .ref s4.heap.objs.size]) ht.isList.typeIs (PySem.slot_list_getitem.lookup) ?_ (by with_unfolding_all rfl)
    refine wpAny_getItem_list_slice ht.isList (Heap.IsSliceOf.new _ vl vu vs) pl pu ps (by decide) ?_ (by rw [List.size_toArray]; omega)
    rw [PySem.W.krv_pick]
    refine ⟨.ref _, _, I5.laid (t' := s4.toks) (o := .lst xs.reverse) (fun b ob q => Heap.get?_push_of_some _ q) (Nat.le_refl _) ?_, rfl, q _ (I5.hok.fresh (Nat.le_refl _))⟩
    exact ⟨by rw [List.length_reverse]; exact hz, _, 0, r.reverse, Heap.get?_push_size _ rfl⟩
  · subst ex
    cases r1
    obtain ⟨its, r, ht, hz⟩ := I5.tuple hx
    have hlen := r.length
    show wpAny (model X.prog X.w) X.A (subscriptTail e (.Slice none none (some (.UnaryOp .USub (.Constant (.int 1) k p1) p2)) p3) (.ref a) (.ref s4.heap.objs.size)) (EP X pins σ Q) X.xe { s4 with heap := s4.heap.push { cls := .type "slice", data := .fields #[vl, vu, vs] } }
    refine tail_any (ops := [.ref a, .ref s4.heap.objs.size]) ht.typeIs (PyProof.Rows.slot_tuple_getitem.lookup) ?_ (by with_unfolding_all rfl)
    refine getItem_tuple_rev ht (Heap.IsSliceOf.new _ vl vu vs) pl pu ps ?_ (by rw [List.size_toArray]; omega)
    have I6 := tupLaid (t' := s4.toks) (ys := xs.reverse) (its := its.reverse) (n := 0) (a := (s4.heap.push { cls := .type "slice", data := .fields #[vl, vu, vs] }).objs.size) I5 (fun b o e => Heap.get?_push_of_some _ e) (Nat.le_refl _) (by rw [List.length_reverse]; exact hz) r.reverse (Heap.get?_push_size _ rfl)
    exact ⟨.ref _, _, I6, rfl, q _ _ rfl (I5.hok.fresh (Nat.le_refl _))⟩
def dRevA : G1
  | .list ds => some (.list ds.reverse)
  | .tuple ds => some (.tuple ds.reverse)
  | _ => none
theorem de_revA {ma : ME} {ra : Bool} {j : Nat} {p1 p2 p3 : Pos} (ha : DE X E k ra Γ a ma) : DE X E k false Γ (.Subscript a (.Slice none none (some (.UnaryOp .USub (.Constant (.int 1) j p1) p2)) p3) pos) (mUn dRevA ma) :=
  PE.imp (pe_revA ha) fun σ H Q h => by
    obtain ⟨M, A, ρ, hΓ, f, h⟩ := dt_un (ra := ra) h
    refine ⟨M, A, ρ, hΓ, f, pimp h (fun z hz v1 H1 f1 g1 e1 r1 => ?_) (fun c hc => hc)⟩
    obtain ⟨M', d, w, tk, rd, ew, q⟩ := hz v1 H1 f1 g1 e1 r1
    cases d with
    | list ds =>
      cases ew
      obtain ⟨b, xs, e3, r3, a3⟩ := rd.list
      exact .inl ⟨b, xs, e3, .inl r3, fun p np => let ⟨s', rp⟩ := new_lst tk np a3.reverse; q _ _ s' rp⟩
    | tuple ds =>
      cases ew
      obtain ⟨b, xs, e3, r3, a3⟩ := rd.tuple
      exact .inr ⟨b, xs, e3, r3.sq, fun p o ho np => let ⟨s', rp⟩ := new_tup ho tk np a3.reverse; q _ _ s' rp⟩
    | _ => cases ew
end
end Dt

set_option maxRecDepth 100000
set_option autoImplicit false
set_option maxHeartbeats 0
namespace Lw
open PySem PySem.Spec PyProof.Rows L2 Dt Dt.R
def b_tags_of : MS := (sRet (mCall dTuple (aCons (mLc false (iSq (mOp dIxA (var 0) (cst (.int 1)))) [1, 2] (gTpl 2 (gsCons (gSet 1) (gsCons (gSet 2) gsNil))) bYes (var 1)) aNil)))
def m_tags_of : List D → R D := runF 1 3 b_tags_of
def b_without_rows : MS := (sSeq (sSet (gTpl 4 (gsCons (gSet 2) (gsCons (gSet 3) (gsCons (gSet 4) (gsCons (gSet 5) gsNil))))) (var 0)) (sSeq (sSet (gSet 6) (mCall dTuple (aCons (mLc false (iSq (var 3)) [7] (gSet 7) (mBool (mOp dNotInA (mOp dIxA (var 7) (cst (.int 0))) (var 1))) (var 7)) aNil))) (sRet (mTup (aCons (var 2) (aCons (var 6) (aCons (var 4) (aCons (mCall dTuple (aCons (mLc false (iSq (var 5)) [8] (gSet 8) (mNotB (mTru (mCall dAny (aCons (mLc false (iSq (mOp dIxA (var 8) (cst (.int 1)))) [9] (gSet 9) bYes (mOp dInA (var 9) (var 1))) aNil)))) (var 8)) aNil)) aNil))))))))
def m_without_rows : List D → R D := runF 2 10 b_without_rows
def b_without_tags : MS := (sSeq (sSet (gSet 2) (mCallF m_tags_of (aCons (var 0) aNil))) (sSeq (sIf (mNotB (mTru (mCall dAll (aCons (mLc false (iSq (var 1)) [3] (gSet 3) bYes (mOp dInA (var 3) (var 2))) aNil)))) (fun _ => .no) sNil) (sRet (mCallF m_without_rows (aCons (var 0) (aCons (var 1) aNil))))))
def m_without_tags : List D → R D := runF 2 4 b_without_tags
def b_tag_changed : MS := (sRet (mOp dIxA (mLc false (iSq (var 0)) [2, 3] (gTpl 2 (gsCons (gSet 2) (gsCons (gSet 3) gsNil))) (mBool (mOp dEq (var 2) (var 1))) (var 3)) (cst (.int 0))))
def m_tag_changed : List D → R D := runF 2 4 b_tag_changed
def b_marks_in_order : MS := (sRet (mCall dTuple (aCons (mCall dSortSet (aCons (var 0) aNil)) aNil)))
def m_marks_in_order : List D → R D := runF 1 1 b_marks_in_order
def b_is_marked : MS := (sRet (mOp dInA (mTup (aCons (var 1) (aCons (var 2) aNil))) (mOp dIxA (var 0) (cst (.int 3)))))
def m_is_marked : List D → R D := runF 3 3 b_is_marked
def b_with_marks : MS := (sSeq (sSet (gTpl 4 (gsCons (gSet 2) (gsCons (gSet 3) (gsCons (gSet 4) (gsCons (gSet 5) gsNil))))) (var 0)) (sRet (mTup (aCons (var 2) (aCons (var 3) (aCons (var 4) (aCons (mCallF m_marks_in_order (aCons (mOp dAdd (var 5) (var 1)) aNil)) aNil)))))))
def m_with_marks : List D → R D := runF 2 6 b_with_marks
def b_with_mark : MS := (sRet (mCallF m_with_marks (aCons (var 0) (aCons (mTup (aCons (mTup (aCons (var 1) (aCons (var 2) aNil))) aNil)) aNil))))
def m_with_mark : List D → R D := runF 3 3 b_with_mark
def b_cleared : MS := (sRet (mOp dAdd (mSl (var 0) oNone (oSome (cst (.int 3)))) (mTup (aCons (mTup aNil) aNil))))
def m_cleared : List D → R D := runF 1 1 b_cleared
def b_marks_with : MS := (sRet (mCall dTuple (aCons (mLc false (iSq (mOp dIxA (var 0) (cst (.int 3)))) [2] (gSet 2) (mBool (mOp dInA (var 1) (mOp dIxA (var 2) (cst (.int 1))))) (var 2)) aNil)))
def m_marks_with : List D → R D := runF 2 3 b_marks_with
def b_are_tags_in : MS := (sRet (mCall dAll (aCons (mLc false (iSq (var 0)) [2] (gSet 2) bYes (mOp dInA (var 2) (var 1))) aNil)))
def m_are_tags_in : List D → R D := runF 2 3 b_are_tags_in
def b_dead_marks : MS := (sRet (mCall dTuple (aCons (mLc false (iSq (var 0)) [2] (gSet 2) (mNotB (mTru (mCallF m_are_tags_in (aCons (mOp dIxA (var 2) (cst (.int 1))) (aCons (var 1) aNil))))) (var 2)) aNil)))
def m_dead_marks : List D → R D := runF 2 3 b_dead_marks
def b_marks_carried : MS := (sSeq (sSet (gSet 2) (mLc false (iSq (var 1)) [6, 7] (gTpl 2 (gsCons (gSet 6) (gsCons (gSet 7) gsNil))) bYes (var 6))) (sSeq (sSet (gOwn 3) (mLst aNil)) (sSeq (sForE (iSq (var 0)) (gTpl 2 (gsCons (gSet 4) (gsCons (gSet 5) gsNil))) (sIf (mTru (mCallF m_are_tags_in (aCons (var 5) (aCons (var 2) aNil)))) (sExpr (eApp 3 (mTup (aCons (var 4) (aCons (mCall dTuple (aCons (mLc false (iSq (var 5)) [8] (gSet 8) bYes (mCallF m_tag_changed (aCons (var 1) (aCons (var 8) aNil)))) aNil)) aNil))))) sNil)) (sRet (mCallF m_marks_in_order (aCons (var 3) aNil))))))
def m_marks_carried : List D → R D := runF 2 9 b_marks_carried
def b_marks_moved : MS := (sRet (mCall dTuple (aCons (mLc false (iSq (var 0)) [2, 3] (gTpl 2 (gsCons (gSet 2) (gsCons (gSet 3) gsNil))) bYes (mTup (aCons (mOp dAdd (var 2) (var 1)) (aCons (var 3) aNil)))) aNil)))
def m_marks_moved : List D → R D := runF 2 4 b_marks_moved
def b__law_draws : MS := (sSeqF (sSet (gOwn 2) (mLc false (iSq (var 0)) [8] (gSet 8) bYes (mCall dInt (aCons (var 8) aNil)))) (sSeqF (sIf (mBool (mOp dEq (mCall dLenA (aCons (var 2) aNil)) (cst (.int 0)))) (sExpr (eApp 2 (cst (.int 0)))) sNil) (sSeqF (sSet (gOwn 3) (mCall dList (aCons (var 2) aNil))) (sSeqF (sSet (gOwn 4) (mLst aNil)) (sSeqF (sForE (iRg rng1 (aCons (var 1) aNil)) (gSet 5) (sSeq (sSet (gSet 6) (mOp dMod (var 5) (mCall dLenA (aCons (var 2) aNil)))) (sIf (mAndB (mBool (mOp dGe (mOp dIxA (var 2) (var 6)) (mOp dPow (cst (.int 10)) (cst (.int 18))))) (mBool (mOp dGt (mOp dIxA (var 3) (var 6)) (cst (.int 0))))) (sSeq (sExpr (eApp 4 (mOp dMod (mCall dInt (aCons (mOp dIxA (var 3) (var 6)) aNil)) (cst (.int 1000))))) (sPutL 3 (mOp dFdiv (mOp dIxA (var 3) (var 6)) (cst (.int 1000))) (var 6))) (sSeq (sSet (gSet 7) (mOp dMod (mCall dInt (aCons (mOp dAdd (mOp dAdd (mOp dMulI (mOp dIxA (var 2) (var 6)) (cst (.int 48271))) (mOp dMulI (var 5) (cst (.int 69621)))) (cst (.int 11))) aNil)) (cst (.int 2147483647)))) (sExpr (eApp 4 (mOp dMod (mCall dInt (aCons (mOp dAdd (mOp dAdd (mOp dMulI (var 7) (var 7)) (mOp dMulI (cst (.int 3)) (var 7))) (var 5)) aNil)) (cst (.int 1000003))))))))) (sSeqF (sExpr (eRev 4)) (sRet (var 4))))))))
def m__law_draws : List D → R D := runFr 2 9 b__law_draws
def b__law_take : MS := (sSeq (sIf (mBool (mOp dEq (mCall dLenA (aCons (var 0) aNil)) (cst (.int 0)))) (sRet (cst (.int 0))) sNil) (sRet (mOp dMod (mCall dInt (aCons (ePop 0) aNil)) (var 1))))
def m__law_take : List D → R (D × D) := runI 2 2 0 b__law_take
def b__law_cell : MS := (sSeq (sIf (mBool (mOp dEq (mCall dLenA (aCons (var 0) aNil)) (cst (.int 0)))) (sRet (cst (.int 0))) sNil) (sRet (mOp dMod (mCall dAbs (aCons (mCall dInt (aCons (mOp dIxA (var 0) (mCallI 0 m__law_take (rAt 1 (rVal (mCall dLenA (aCons (var 0) aNil)) rNil)))) aNil)) aNil)) (mOp dPow (cst (.int 10)) (cst (.int 28))))))
def m__law_cell : List D → R (D × D) := runI 2 2 1 b__law_cell
def b__law_same (rec : List D → R D) : MS := (sSeq (sIf (mTru (mIsi "bool" (var 1))) (sRet (mAnd (mIsi "bool" (var 0)) (mOp dEq (var 0) (var 1)))) sNil) (sSeq (sIf (mTru (mIsi "int" (var 1))) (sRet (mAnd (mIsi "int" (var 0)) (mAnd (mUn gNot (mIsi "bool" (var 0))) (mOp dEq (var 0) (var 1))))) sNil) (sSeq (sIf (mTru (mIsi "str" (var 1))) (sRet (mAnd (mIsi "str" (var 0)) (mOp dEq (var 0) (var 1)))) sNil) (sSeq (sIf (mBool (mOp dIsN (var 1) (cst .none))) (sRet (mOp dIsN (var 0) (cst .none))) sNil) (sSeq (sIf (mOrB (mNotB (mTru (mIsi "tuple" (var 0)))) (mBool (mOp dNe (mCall dLenA (aCons (var 0) aNil)) (mCall dLenA (aCons (var 1) aNil))))) (sRet (cst (.bool false))) sNil) (sSeq (sForE (iRg rng1 (aCons (mCall dLenA (aCons (var 1) aNil)) aNil)) (gSet 2) (sIf (mNotB (mTru (mCallF rec (aCons (mOp dIxA (var 0) (var 2)) (aCons (mOp dIxA (var 1) (var 2)) aNil))))) (sRet (cst (.bool false))) sNil)) (sRet (cst (.bool true)))))))))
def m__law_same : Nat → List D → R D
  | 0 => fun _ => .no
  | n + 1 => runF 2 3 (b__law_same (m__law_same n))
def b__law_tags : MS := (sSeqF (sSet (gSet 3) (mOp dIxA (mLst (aCons (cst (.int 0)) (aCons (mCallI 0 m__law_take (rAt 0 (rVal (cst (.int 12)) rNil))) (aCons (var 1) aNil)))) (mCallI 0 m__law_take (rAt 0 (rVal (cst (.int 3)) rNil))))) (sSeqF (sSet (gOwn 4) (mLst aNil)) (sSeqF (sForE (iRg rng1 (aCons (var 2) aNil)) (gSet 5) (sSeq (sExpr (eApp 4 (var 3))) (sSet (gSet 3) (mOp dAdd (mOp dAdd (var 3) (cst (.int 1))) (mOp dIxA (mLst (aCons (cst (.int 0)) (aCons (cst (.int 0)) (aCons (mCallI 0 m__law_take (rAt 0 (rVal (cst (.int 9)) rNil))) (aCons (var 1) aNil))))) (mCallI 0 m__law_take (rAt 0 (rVal (cst (.int 4)) rNil)))))))) (sRet (var 4)))))
def m__law_tags : List D → R (D × D) := runG 3 6 0 b__law_tags
def b__law_row_of : MS := (sSeq (sSet (gOwn 2) (mCall dList (aCons (var 1) aNil))) (sSeq (sSet (gOwn 3) (mLst aNil)) (sSeq (sForE (iRg rng1 (aCons (mCall dMin (aCons (mCall dLenA (aCons (var 2) aNil)) (aCons (mCallI 0 m__law_take (rAt 0 (rVal (cst (.int 4)) rNil))) aNil))) aNil)) (gSet 4) (sExpr (eApp 3 (ePopAt 2 (mCallI 0 m__law_take (rAt 0 (rVal (mCall dLenA (aCons (var 2) aNil)) rNil))))))) (sRet (mCall dTuple (aCons (var 3) aNil))))))
def m__law_row_of : List D → R (D × D) := runI 2 5 0 b__law_row_of
def b__law_marks_of : MS := (sSeq (sSet (gOwn 3) (mLst aNil)) (sSeq (sForE (iRg rng1 (aCons (mCallI 0 m__law_take (rAt 0 (rVal (cst (.int 7)) rNil))) aNil)) (gSet 4) (sExpr (eApp 3 (mTup (aCons (mOp dIxA (mLst (aCons (cst (.int 0)) (aCons (mCallI 0 m__law_take (rAt 0 (rVal (cst (.int 4)) rNil))) (aCons (mCallI 0 m__law_take (rAt 0 (rVal (cst (.int 4)) rNil))) (aCons (var 1) aNil))))) (mCallI 0 m__law_take (rAt 0 (rVal (cst (.int 4)) rNil)))) (aCons (mCallI 0 m__law_row_of (rAt 0 (rVal (var 2) rNil))) aNil)))))) (sRet (mCall dTuple (aCons (mCall dSortSet (aCons (var 3) aNil)) aNil)))))
def m__law_marks_of : List D → R (D × D) := runI 3 5 0 b__law_marks_of
def b__law_marked_store : MS := (sSeq (sSet (gSet 3) (mCall dTuple (aCons (mLc true (iSq (var 2)) [5] (gSet 5) bYes (mTup (aCons (var 5) (aCons (mOp dIxA (mLst (aCons (mTup (aCons (cst (.str "p")) (aCons (mTup (aCons (cst (.int 0)) aNil)) aNil))) (aCons (mTup (aCons (cst (.str "q")) (aCons (mTup aNil) aNil))) (aCons (mTup (aCons (cst (.str "p")) (aCons (mTup (aCons (cst (.int 3)) aNil)) aNil))) aNil)))) (mCallI 0 m__law_take (rAt 0 (rVal (cst (.int 3)) rNil)))) aNil)))) aNil))) (sSeq (sSet (gSet 4) (mOp dIxA (mLst (aCons (mTup (aCons (mTup aNil) (aCons (mTup aNil) aNil))) (aCons (mTup (aCons (mTup (aCons (mTup (aCons (cst (.int 3)) (aCons (cst (.int 0)) aNil))) (aCons (mTup (aCons (cst (.int 0)) (aCons (cst (.int 3)) aNil))) aNil))) (aCons (mTup (aCons (mTup (aCons (cst (.str "b")) (aCons (cst (.int 0)) aNil))) (aCons (mTup (aCons (cst (.int 0)) (aCons (cst (.str "b")) aNil))) aNil))) aNil))) aNil))) (mCallI 0 m__law_take (rAt 0 (rVal (cst (.int 2)) rNil))))) (sRet (mTup (aCons (mOp dAdd (mOp dAdd (mOp dIxA (mOp dAdd (mLst (aCons (cst (.int 0)) aNil)) (var 2)) (mUn dNeg (cst (.int 1)))) (cst (.int 1))) (mCallI 0 m__law_take (rAt 0 (rVal (cst (.int 3)) rNil)))) (aCons (var 3) (aCons (var 4) (aCons (mCallI 0 m__law_marks_of (rAt 0 (rVal (var 1) (rVal (var 2) rNil)))) aNil))))))))
def m__law_marked_store : List D → R (D × D) := runI 3 6 0 b__law_marked_store
def b__law_are_marks_right : MS := (sSeq (sSet (gSet 4) (mOp dIxA (var 2) (cst (.int 3)))) (sSeq (sSet (gSet 5) (mOp dAdd (mCall dList (aCons (var 4) aNil)) (mLst (aCons (mTup (aCons (mCallI 0 m__law_take (rAt 0 (rVal (cst (.int 4)) rNil))) (aCons (mCallI 0 m__law_row_of (rAt 0 (rVal (var 3) rNil))) aNil))) (aCons (mTup (aCons (var 1) (aCons (mTup aNil) aNil))) aNil))))) (sSeq (sForE (iSq (var 4)) (gTpl 2 (gsCons (gSet 6) (gsCons (gSet 7) gsNil))) (sSet (gSet 5) (mOp dAdd (var 5) (mLst (aCons (mTup (aCons (mOp dAdd (var 6) (cst (.int 1))) (aCons (var 7) aNil))) (aCons (mTup (aCons (var 6) (aCons (mUn dRevA (var 7)) aNil))) (aCons (mTup (aCons (var 6) (aCons (mSl (var 7) (oSome (cst (.int 1))) oNone) aNil))) aNil))))))) (sSeq (sForE (iSq (var 5)) (gTpl 2 (gsCons (gSet 6) (gsCons (gSet 7) gsNil))) (sSeq (sIf (mNotB (mTru (mCallF (m__law_same 12) (aCons (mCallF m_is_marked (aCons (var 2) (aCons (var 6) (aCons (var 7) aNil)))) (aCons (mOp dInA (mTup (aCons (var 6) (aCons (var 7) aNil))) (var 4)) aNil))))) (sRet (cst (.bool false))) sNil) (sSeq (sSet (gSet 9) (mCallF m_with_mark (aCons (var 2) (aCons (var 6) (aCons (var 7) aNil))))) (sIf (mOrB (mNotB (mTru (mCallF (m__law_same 12) (aCons (var 9) (aCons (mOp dAdd (mSl (var 2) oNone (oSome (cst (.int 3)))) (mTup (aCons (mCall dTuple (aCons (mCall dSortSet (aCons (mOp dAdd (mCall dList (aCons (var 4) aNil)) (mLst (aCons (mTup (aCons (var 6) (aCons (var 7) aNil))) aNil))) aNil)) aNil)) aNil))) aNil))))) (mNotB (mTru (mCallF (m__law_same 12) (aCons (mCallF m_is_marked (aCons (var 9) (aCons (var 6) (aCons (var 7) aNil)))) (aCons (cst (.bool true)) aNil)))))) (sRet (cst (.bool false))) sNil)))) (sSeq (sForE (iSq (mOp dAdd (var 3) (mLst (aCons (mOp dIxA (var 2) (cst (.int 0))) (aCons (mOp dAdd (mOp dIxA (var 2) (cst (.int 0))) (var 1)) aNil))))) (gSet 8) (sSeq (sIf (mNotB (mTru (mCallF (m__law_same 12) (aCons (mCallF m_marks_with (aCons (var 2) (aCons (var 8) aNil))) (aCons (mCall dTuple (aCons (mLc false (iSq (var 4)) [10] (gSet 10) (mBool (mOp dInA (var 8) (mOp dIxA (var 10) (cst (.int 1))))) (var 10)) aNil)) aNil))))) (sRet (cst (.bool false))) sNil) (sIf (mNotB (mTru (mCallF (m__law_same 12) (aCons (mCallF m_marks_with (aCons (mCallF m_cleared (aCons (var 2) aNil)) (aCons (var 8) aNil))) (aCons (mTup aNil) aNil))))) (sRet (cst (.bool false))) sNil))) (sRet (mCallF (m__law_same 12) (aCons (mCallF m_cleared (aCons (var 2) aNil)) (aCons (mOp dAdd (mSl (var 2) oNone (oSome (cst (.int 3)))) (mTup (aCons (mTup aNil) aNil))) aNil)))))))))
def m__law_are_marks_right : List D → R (D × D) := runI 4 11 0 b__law_are_marks_right
def b__law_are_carried_right : MS := (sSeq (sSet (gSet 4) (mOp dIxA (var 2) (cst (.int 3)))) (sSeq (sSet (gSet 5) (mLc true (iSq (var 3)) [10] (gSet 10) (mBool (mOp dGt (mCallI 0 m__law_take (rAt 0 (rVal (cst (.int 4)) rNil))) (cst (.int 0)))) (var 10))) (sSeq (sSet (gSet 6) (mCall dTuple (aCons (mLc false (iSq (var 4)) [15] (gSet 15) (mBool (mOp dGt (mCall dLenA (aCons (mLc false (iSq (mOp dIxA (var 15) (cst (.int 1)))) [10] (gSet 10) (mBool (mOp dNotInA (var 10) (var 5))) (var 10)) aNil)) (cst (.int 0)))) (var 15)) aNil))) (sSeq (sSet (gSet 7) (mCall dTuple (aCons (mLc false (iSq (var 4)) [15] (gSet 15) (mBool (mOp dNotInA (var 15) (var 6))) (var 15)) aNil))) (sSeq (sIf (mOrB (mNotB (mTru (mCallF (m__law_same 12) (aCons (mCallF m_dead_marks (aCons (var 4) (aCons (mCall dTuple (aCons (var 5) aNil)) aNil))) (aCons (var 6) aNil))))) (mNotB (mTru (mCallF (m__law_same 12) (aCons (mCallF m_dead_marks (aCons (var 4) (aCons (mCall dTuple (aCons (var 3) aNil)) aNil))) (aCons (mTup aNil) aNil)))))) (sRet (cst (.bool false))) sNil) (sSeq (sIf (mNotB (mTru (mCallF (m__law_same 12) (aCons (mOp dIxA (mCallF m_without_tags (aCons (var 2) (aCons (mCall dTuple (aCons (mLc false (iSq (var 3)) [10] (gSet 10) (mBool (mOp dNotInA (var 10) (var 5))) (var 10)) aNil)) aNil))) (cst (.int 3))) (aCons (var 7) aNil))))) (sRet (cst (.bool false))) sNil) (sSeq (sSet (gOwn 8) (mCallI 0 m__law_tags (rAt 0 (rVal (var 1) (rVal (mCall dLenA (aCons (var 5) aNil)) rNil))))) (sSeq (sSet (gOwn 9) mDict0) (sSeq (sForE (iSq (var 5)) (gSet 10) (sPutD 9 (ePopAt 8 (mCallI 0 m__law_take (rAt 0 (rVal (mCall dLenA (aCons (var 8) aNil)) rNil)))) (var 10))) (sSeq (sSet (gSet 11) (mCall dTuple (aCons (mLc false (iSq (var 5)) [10] (gSet 10) bYes (mTup (aCons (var 10) (aCons (mOp dIxA (var 9) (var 10)) aNil)))) aNil))) (sSeq (sSet (gSet 12) (mCall dTuple (aCons (mCall dSorted (aCons (mLc false (iSq (var 7)) [16, 17] (gTpl 2 (gsCons (gSet 16) (gsCons (gSet 17) gsNil))) bYes (mTup (aCons (var 16) (aCons (mCall dTuple (aCons (mLc false (iSq (var 17)) [10] (gSet 10) bYes (mOp dIxA (var 9) (var 10))) aNil)) aNil)))) aNil)) aNil))) (sSeq (sIf (mNotB (mTru (mCallF (m__law_same 12) (aCons (mCallF m_marks_carried (aCons (var 4) (aCons (var 11) aNil))) (aCons (var 12) aNil))))) (sRet (cst (.bool false))) sNil) (sSeq (sIf (mNotB (mTru (mCallF (m__law_same 12) (aCons (mCallF m_marks_carried (aCons (var 12) (aCons (mCall dTuple (aCons (mCall dSorted (aCons (mLc false (iSq (var 11)) [10, 18] (gTpl 2 (gsCons (gSet 10) (gsCons (gSet 18) gsNil))) bYes (mTup (aCons (var 18) (aCons (var 10) aNil)))) aNil)) aNil)) aNil))) (aCons (var 7) aNil))))) (sRet (cst (.bool false))) sNil) (sSeq (sSet (gSet 13) (mOp dIxA (mLst (aCons (cst (.int 0)) (aCons (cst (.int 1)) (aCons (mCallI 0 m__law_take (rAt 0 (rVal (cst (.int 9)) rNil))) (aCons (var 1) aNil))))) (mCallI 0 m__law_take (rAt 0 (rVal (cst (.int 4)) rNil))))) (sSeq (sSet (gSet 14) (mCall dTuple (aCons (mLc false (iSq (var 4)) [16, 17] (gTpl 2 (gsCons (gSet 16) (gsCons (gSet 17) gsNil))) bYes (mTup (aCons (mOp dAdd (var 16) (var 13)) (aCons (var 17) aNil)))) aNil))) (sSeq (sIf (mOrB (mNotB (mTru (mCallF (m__law_same 12) (aCons (mCallF m_marks_moved (aCons (var 4) (aCons (var 13) aNil))) (aCons (var 14) aNil))))) (mNotB (mTru (mCallF (m__law_same 12) (aCons (mCallF m_marks_moved (aCons (var 12) (aCons (var 13) aNil))) (aCons (mCallF m_marks_carried (aCons (var 14) (aCons (var 11) aNil))) aNil)))))) (sRet (cst (.bool false))) sNil) (sRet (mCallF (m__law_same 12) (aCons (mCallF m_marks_carried (aCons (var 4) (aCons (mTup aNil) aNil))) (aCons (mCall dTuple (aCons (mLc false (iSq (var 4)) [15] (gSet 15) (mBool (mOp dEq (mOp dIxA (var 15) (cst (.int 1))) (mTup aNil))) (var 15)) aNil)) aNil))))))))))))))))))))
def m__law_are_carried_right : List D → R (D × D) := runI 4 19 0 b__law_are_carried_right
def b_law : MS := (sSeq (sSet (gOwn 1) (mCallF m__law_draws (aCons (var 0) (aCons (cst (.int 420)) aNil)))) (sSeq (sSet (gSet 2) (mCallI 1 m__law_cell (rVal (var 0) (rAt 1 rNil)))) (sSeq (sForE (iRg rng1 (aCons (cst (.int 3)) aNil)) (gSet 3) (sSeq (sSet (gSet 5) (mCallI 0 m__law_tags (rAt 1 (rVal (var 2) (rVal (mCallI 0 m__law_take (rAt 1 (rVal (cst (.int 7)) rNil))) rNil))))) (sSeq (sSet (gSet 6) (mCallI 0 m__law_marked_store (rAt 1 (rVal (var 2) (rVal (var 5) rNil))))) (sForE (iRg rng1 (aCons (cst (.int 2)) aNil)) (gSet 7) (sIf (mOrB (mNotB (mTru (mCallI 0 m__law_are_marks_right (rAt 1 (rVal (var 2) (rVal (var 6) (rVal (var 5) rNil))))))) (mNotB (mTru (mCallI 0 m__law_are_carried_right (rAt 1 (rVal (var 2) (rVal (var 6) (rVal (var 5) rNil)))))))) (sRet (cst (.bool false))) sNil))))) (sSeq (sSet (gSet 4) (mTup (aCons (cst (.int 9)) (aCons (mTup (aCons (mTup (aCons (cst (.int 2)) (aCons (mTup (aCons (cst (.str "p")) (aCons (mTup aNil) aNil))) aNil))) (aCons (mTup (aCons (cst (.int 5)) (aCons (mTup (aCons (cst (.str "q")) (aCons (mTup aNil) aNil))) aNil))) (aCons (mTup (aCons (cst (.int 7)) (aCons (mTup (aCons (cst (.str "p")) (aCons (mTup aNil) aNil))) aNil))) aNil)))) (aCons (mTup (aCons (mTup aNil) (aCons (mTup aNil) aNil))) (aCons (mTup (aCons (mTup (aCons (cst (.int 0)) (aCons (mTup (aCons (cst (.int 5)) aNil)) aNil))) (aCons (mTup (aCons (cst (.int 1)) (aCons (mTup aNil) aNil))) (aCons (mTup (aCons (cst (.int 1)) (aCons (mTup (aCons (cst (.int 2)) (aCons (cst (.int 7)) aNil))) aNil))) aNil)))) aNil)))))) (sSeq (sIf (mOrB (mNotB (mTru (mCallF (m__law_same 12) (aCons (mCallF m_with_mark (aCons (var 4) (aCons (cst (.int 0)) (aCons (mTup (aCons (cst (.int 7)) (aCons (cst (.int 2)) aNil))) aNil)))) (aCons (mOp dAdd (mSl (var 4) oNone (oSome (cst (.int 3)))) (mTup (aCons (mTup (aCons (mTup (aCons (cst (.int 0)) (aCons (mTup (aCons (cst (.int 5)) aNil)) aNil))) (aCons (mTup (aCons (cst (.int 0)) (aCons (mTup (aCons (cst (.int 7)) (aCons (cst (.int 2)) aNil))) aNil))) (aCons (mTup (aCons (cst (.int 1)) (aCons (mTup aNil) aNil))) (aCons (mTup (aCons (cst (.int 1)) (aCons (mTup (aCons (cst (.int 2)) (aCons (cst (.int 7)) aNil))) aNil))) aNil))))) aNil))) aNil))))) (mNotB (mTru (mCallF (m__law_same 12) (aCons (mCallF m_with_mark (aCons (var 4) (aCons (cst (.int 1)) (aCons (mTup aNil) aNil)))) (aCons (var 4) aNil)))))) (sRet (cst (.bool false))) sNil) (sSeq (sIf (mOrB (mBool (mOp dNotB (mCallF m_is_marked (aCons (var 4) (aCons (cst (.int 1)) (aCons (mTup (aCons (cst (.int 7)) (aCons (cst (.int 2)) aNil))) aNil)))) (cst (.bool false)))) (mOrB (mBool (mOp dNotB (mCallF m_is_marked (aCons (var 4) (aCons (cst (.int 1)) (aCons (mTup (aCons (cst (.int 2)) (aCons (cst (.int 7)) aNil))) aNil)))) (cst (.bool true)))) (mNotB (mTru (mCallF (m__law_same 12) (aCons (mCallF m_marks_with (aCons (var 4) (aCons (cst (.int 7)) aNil))) (aCons (mTup (aCons (mTup (aCons (cst (.int 1)) (aCons (mTup (aCons (cst (.int 2)) (aCons (cst (.int 7)) aNil))) aNil))) aNil)) aNil))))))) (sRet (cst (.bool false))) sNil) (sSeq (sIf (mOrB (mNotB (mTru (mCallF (m__law_same 12) (aCons (mCallF m_dead_marks (aCons (mOp dIxA (var 4) (cst (.int 3))) (aCons (mTup (aCons (cst (.int 2)) (aCons (cst (.int 5)) aNil))) aNil))) (aCons (mTup (aCons (mTup (aCons (cst (.int 1)) (aCons (mTup (aCons (cst (.int 2)) (aCons (cst (.int 7)) aNil))) aNil))) aNil)) aNil))))) (mNotB (mTru (mCallF (m__law_same 12) (aCons (mCallF m_dead_marks (aCons (mOp dIxA (var 4) (cst (.int 3))) (aCons (mTup aNil) aNil))) (aCons (mTup (aCons (mTup (aCons (cst (.int 0)) (aCons (mTup (aCons (cst (.int 5)) aNil)) aNil))) (aCons (mTup (aCons (cst (.int 1)) (aCons (mTup (aCons (cst (.int 2)) (aCons (cst (.int 7)) aNil))) aNil))) aNil))) aNil)))))) (sRet (cst (.bool false))) sNil) (sSeq (sIf (mNotB (mTru (mCallF (m__law_same 12) (aCons (mCallF m_marks_carried (aCons (mOp dIxA (var 4) (cst (.int 3))) (aCons (mTup (aCons (mTup (aCons (cst (.int 2)) (aCons (cst (.int 8)) aNil))) (aCons (mTup (aCons (cst (.int 5)) (aCons (cst (.int 1)) aNil))) (aCons (mTup (aCons (cst (.int 7)) (aCons (cst (.int 0)) aNil))) aNil)))) aNil))) (aCons (mTup (aCons (mTup (aCons (cst (.int 0)) (aCons (mTup (aCons (cst (.int 1)) aNil)) aNil))) (aCons (mTup (aCons (cst (.int 1)) (aCons (mTup aNil) aNil))) (aCons (mTup (aCons (cst (.int 1)) (aCons (mTup (aCons (cst (.int 8)) (aCons (cst (.int 0)) aNil))) aNil))) aNil)))) aNil))))) (sRet (cst (.bool false))) sNil) (sRet (mAnd (mCallF (m__law_same 12) (aCons (mCallF m_marks_carried (aCons (mTup (aCons (mTup (aCons (cst (.int 0)) (aCons (mTup (aCons (cst (.int 2)) aNil)) aNil))) (aCons (mTup (aCons (cst (.int 0)) (aCons (mTup (aCons (cst (.int 5)) aNil)) aNil))) aNil))) (aCons (mTup (aCons (mTup (aCons (cst (.int 2)) (aCons (cst (.int 9)) aNil))) (aCons (mTup (aCons (cst (.int 5)) (aCons (cst (.int 1)) aNil))) aNil))) aNil))) (aCons (mTup (aCons (mTup (aCons (cst (.int 0)) (aCons (mTup (aCons (cst (.int 1)) aNil)) aNil))) (aCons (mTup (aCons (cst (.int 0)) (aCons (mTup (aCons (cst (.int 9)) aNil)) aNil))) aNil))) aNil))) (mCallF (m__law_same 12) (aCons (mCallF m_marks_moved (aCons (mOp dIxA (var 4) (cst (.int 3))) (aCons (cst (.int 3)) aNil))) (aCons (mTup (aCons (mTup (aCons (cst (.int 3)) (aCons (mTup (aCons (cst (.int 5)) aNil)) aNil))) (aCons (mTup (aCons (cst (.int 4)) (aCons (mTup aNil) aNil))) (aCons (mTup (aCons (cst (.int 4)) (aCons (mTup (aCons (cst (.int 2)) (aCons (cst (.int 7)) aNil))) aNil))) aNil)))) aNil)))))))))))))
def m_law : List D → R D := runF 1 8 b_law
abbrev Fz := Fx fal fnl
structure Cn (K : Fg) (mg : Str → Option Value) : Prop where
  t : True
section
variable {K : Fg} {mg : Str → Option Value}
noncomputable def fd_tags_of (Z : Fz K mg) : FuncData := Classical.choose (Z.c.def_ 0 (d := dd_ 4 "tags_of") rfl)
theorem F_tags_of (Z : Fz K mg) : FunD K "tags_of" "tags_of" (defArgs (top 4)) (defBody (top 4)) (defScope (top 4)) [] [] (He.ga K "tags_of") (fd_tags_of Z) := Classical.choose_spec (Z.c.def_ 0 (d := dd_ 4 "tags_of") rfl)
theorem b_tags_of' (Z : Fz K mg) : Binds K (fd_tags_of Z) ["store"] [] := (F_tags_of Z).bindsN fun _ _ _ _ _ _ us hl => match us, hl with | [_], _ => rfl
theorem sc_tags_of : FnScope ["store", "tag", "constraint"] ["store"] (defScope (top 4)) := ⟨rfl, rfl, rfl, by decide +kernel, rfl, by decide +kernel, by decide +kernel⟩
noncomputable def fd_without_rows (Z : Fz K mg) : FuncData := Classical.choose (Z.c.def_ 1 (d := dd_ 5 "without_rows") rfl)
theorem F_without_rows (Z : Fz K mg) : FunD K "without_rows" "without_rows" (defArgs (top 5)) (defBody (top 5)) (defScope (top 5)) [] [] (He.ga K "without_rows") (fd_without_rows Z) := Classical.choose_spec (Z.c.def_ 1 (d := dd_ 5 "without_rows") rfl)
theorem b_without_rows' (Z : Fz K mg) : Binds K (fd_without_rows Z) ["store", "tags"] [] := (F_without_rows Z).bindsN fun _ _ _ _ _ _ us hl => match us, hl with | [_, _], _ => rfl
theorem sc_without_rows : FnScope ["store", "tags", "next_tag", "rows", "known", "marks", "kept", "row", "mark", "tag"] ["store", "tags"] (defScope (top 5)) := ⟨rfl, rfl, rfl, by decide +kernel, rfl, by decide +kernel, by decide +kernel⟩
noncomputable def fd_without_tags (Z : Fz K mg) : FuncData := Classical.choose (Z.c.def_ 2 (d := dd_ 6 "without_tags") rfl)
theorem F_without_tags (Z : Fz K mg) : FunD K "without_tags" "without_tags" (defArgs (top 6)) (defBody (top 6)) (defScope (top 6)) [] [] (He.ga K "without_tags") (fd_without_tags Z) := Classical.choose_spec (Z.c.def_ 2 (d := dd_ 6 "without_tags") rfl)
theorem b_without_tags' (Z : Fz K mg) : Binds K (fd_without_tags Z) ["store", "tags"] [] := (F_without_tags Z).bindsN fun _ _ _ _ _ _ us hl => match us, hl with | [_, _], _ => rfl
theorem sc_without_tags : FnScope ["store", "tags", "there", "tag"] ["store", "tags"] (defScope (top 6)) := ⟨rfl, rfl, rfl, by decide +kernel, rfl, by decide +kernel, by decide +kernel⟩
noncomputable def fd_tag_changed (Z : Fz K mg) : FuncData := Classical.choose (Z.c.def_ 3 (d := dd_ 7 "tag_changed") rfl)
theorem F_tag_changed (Z : Fz K mg) : FunD K "tag_changed" "tag_changed" (defArgs (top 7)) (defBody (top 7)) (defScope (top 7)) [] [] (He.ga K "tag_changed") (fd_tag_changed Z) := Classical.choose_spec (Z.c.def_ 3 (d := dd_ 7 "tag_changed") rfl)
theorem b_tag_changed' (Z : Fz K mg) : Binds K (fd_tag_changed Z) ["row", "tag"] [] := (F_tag_changed Z).bindsN fun _ _ _ _ _ _ us hl => match us, hl with | [_, _], _ => rfl
theorem sc_tag_changed : FnScope ["row", "tag", "own", "other"] ["row", "tag"] (defScope (top 7)) := ⟨rfl, rfl, rfl, by decide +kernel, rfl, by decide +kernel, by decide +kernel⟩
noncomputable def fd_marks_in_order (Z : Fz K mg) : FuncData := Classical.choose (Z.c.def_ 4 (d := dd_ 9 "marks_in_order") rfl)
theorem F_marks_in_order (Z : Fz K mg) : FunD K "marks_in_order" "marks_in_order" (defArgs (top 9)) (defBody (top 9)) (defScope (top 9)) [] [] (He.ga K "marks_in_order") (fd_marks_in_order Z) := Classical.choose_spec (Z.c.def_ 4 (d := dd_ 9 "marks_in_order") rfl)
theorem b_marks_in_order' (Z : Fz K mg) : Binds K (fd_marks_in_order Z) ["marks"] [] := (F_marks_in_order Z).bindsN fun _ _ _ _ _ _ us hl => match us, hl with | [_], _ => rfl
theorem sc_marks_in_order : FnScope ["marks"] ["marks"] (defScope (top 9)) := ⟨rfl, rfl, rfl, by decide +kernel, rfl, by decide +kernel, by decide +kernel⟩
noncomputable def fd_is_marked (Z : Fz K mg) : FuncData := Classical.choose (Z.c.def_ 5 (d := dd_ 10 "is_marked") rfl)
theorem F_is_marked (Z : Fz K mg) : FunD K "is_marked" "is_marked" (defArgs (top 10)) (defBody (top 10)) (defScope (top 10)) [] [] (He.ga K "is_marked") (fd_is_marked Z) := Classical.choose_spec (Z.c.def_ 5 (d := dd_ 10 "is_marked") rfl)
theorem b_is_marked' (Z : Fz K mg) : Binds K (fd_is_marked Z) ["store", "number", "row"] [] := (F_is_marked Z).bindsN fun _ _ _ _ _ _ us hl => match us, hl with | [_, _, _], _ => rfl
theorem sc_is_marked : FnScope ["store", "number", "row"] ["store", "number", "row"] (defScope (top 10)) := ⟨rfl, rfl, rfl, by decide +kernel, rfl, by decide +kernel, by decide +kernel⟩
noncomputable def fd_with_marks (Z : Fz K mg) : FuncData := Classical.choose (Z.c.def_ 6 (d := dd_ 11 "with_marks") rfl)
theorem F_with_marks (Z : Fz K mg) : FunD K "with_marks" "with_marks" (defArgs (top 11)) (defBody (top 11)) (defScope (top 11)) [] [] (He.ga K "with_marks") (fd_with_marks Z) := Classical.choose_spec (Z.c.def_ 6 (d := dd_ 11 "with_marks") rfl)
theorem b_with_marks' (Z : Fz K mg) : Binds K (fd_with_marks Z) ["store", "marks"] [] := (F_with_marks Z).bindsN fun _ _ _ _ _ _ us hl => match us, hl with | [_, _], _ => rfl
theorem sc_with_marks : FnScope ["store", "marks", "next_tag", "rows", "known", "there"] ["store", "marks"] (defScope (top 11)) := ⟨rfl, rfl, rfl, by decide +kernel, rfl, by decide +kernel, by decide +kernel⟩
noncomputable def fd_with_mark (Z : Fz K mg) : FuncData := Classical.choose (Z.c.def_ 7 (d := dd_ 12 "with_mark") rfl)
theorem F_with_mark (Z : Fz K mg) : FunD K "with_mark" "with_mark" (defArgs (top 12)) (defBody (top 12)) (defScope (top 12)) [] [] (He.ga K "with_mark") (fd_with_mark Z) := Classical.choose_spec (Z.c.def_ 7 (d := dd_ 12 "with_mark") rfl)
theorem b_with_mark' (Z : Fz K mg) : Binds K (fd_with_mark Z) ["store", "number", "row"] [] := (F_with_mark Z).bindsN fun _ _ _ _ _ _ us hl => match us, hl with | [_, _, _], _ => rfl
theorem sc_with_mark : FnScope ["store", "number", "row"] ["store", "number", "row"] (defScope (top 12)) := ⟨rfl, rfl, rfl, by decide +kernel, rfl, by decide +kernel, by decide +kernel⟩
noncomputable def fd_cleared (Z : Fz K mg) : FuncData := Classical.choose (Z.c.def_ 8 (d := dd_ 13 "cleared") rfl)
theorem F_cleared (Z : Fz K mg) : FunD K "cleared" "cleared" (defArgs (top 13)) (defBody (top 13)) (defScope (top 13)) [] [] (He.ga K "cleared") (fd_cleared Z) := Classical.choose_spec (Z.c.def_ 8 (d := dd_ 13 "cleared") rfl)
theorem b_cleared' (Z : Fz K mg) : Binds K (fd_cleared Z) ["store"] [] := (F_cleared Z).bindsN fun _ _ _ _ _ _ us hl => match us, hl with | [_], _ => rfl
theorem sc_cleared : FnScope ["store"] ["store"] (defScope (top 13)) := ⟨rfl, rfl, rfl, by decide +kernel, rfl, by decide +kernel, by decide +kernel⟩
noncomputable def fd_marks_with (Z : Fz K mg) : FuncData := Classical.choose (Z.c.def_ 9 (d := dd_ 14 "marks_with") rfl)
theorem F_marks_with (Z : Fz K mg) : FunD K "marks_with" "marks_with" (defArgs (top 14)) (defBody (top 14)) (defScope (top 14)) [] [] (He.ga K "marks_with") (fd_marks_with Z) := Classical.choose_spec (Z.c.def_ 9 (d := dd_ 14 "marks_with") rfl)
theorem b_marks_with' (Z : Fz K mg) : Binds K (fd_marks_with Z) ["store", "tag"] [] := (F_marks_with Z).bindsN fun _ _ _ _ _ _ us hl => match us, hl with | [_, _], _ => rfl
theorem sc_marks_with : FnScope ["store", "tag", "mark"] ["store", "tag"] (defScope (top 14)) := ⟨rfl, rfl, rfl, by decide +kernel, rfl, by decide +kernel, by decide +kernel⟩
noncomputable def fd_are_tags_in (Z : Fz K mg) : FuncData := Classical.choose (Z.c.def_ 10 (d := dd_ 15 "are_tags_in") rfl)
theorem F_are_tags_in (Z : Fz K mg) : FunD K "are_tags_in" "are_tags_in" (defArgs (top 15)) (defBody (top 15)) (defScope (top 15)) [] [] (He.ga K "are_tags_in") (fd_are_tags_in Z) := Classical.choose_spec (Z.c.def_ 10 (d := dd_ 15 "are_tags_in") rfl)
theorem b_are_tags_in' (Z : Fz K mg) : Binds K (fd_are_tags_in Z) ["row", "tags"] [] := (F_are_tags_in Z).bindsN fun _ _ _ _ _ _ us hl => match us, hl with | [_, _], _ => rfl
theorem sc_are_tags_in : FnScope ["row", "tags", "tag"] ["row", "tags"] (defScope (top 15)) := ⟨rfl, rfl, rfl, by decide +kernel, rfl, by decide +kernel, by decide +kernel⟩
noncomputable def fd_dead_marks (Z : Fz K mg) : FuncData := Classical.choose (Z.c.def_ 11 (d := dd_ 16 "dead_marks") rfl)
theorem F_dead_marks (Z : Fz K mg) : FunD K "dead_marks" "dead_marks" (defArgs (top 16)) (defBody (top 16)) (defScope (top 16)) [] [] (He.ga K "dead_marks") (fd_dead_marks Z) := Classical.choose_spec (Z.c.def_ 11 (d := dd_ 16 "dead_marks") rfl)
theorem b_dead_marks' (Z : Fz K mg) : Binds K (fd_dead_marks Z) ["marks", "tags"] [] := (F_dead_marks Z).bindsN fun _ _ _ _ _ _ us hl => match us, hl with | [_, _], _ => rfl
theorem sc_dead_marks : FnScope ["marks", "tags", "mark"] ["marks", "tags"] (defScope (top 16)) := ⟨rfl, rfl, rfl, by decide +kernel, rfl, by decide +kernel, by decide +kernel⟩
noncomputable def fd_marks_carried (Z : Fz K mg) : FuncData := Classical.choose (Z.c.def_ 12 (d := dd_ 17 "marks_carried") rfl)
theorem F_marks_carried (Z : Fz K mg) : FunD K "marks_carried" "marks_carried" (defArgs (top 17)) (defBody (top 17)) (defScope (top 17)) [] [] (He.ga K "marks_carried") (fd_marks_carried Z) := Classical.choose_spec (Z.c.def_ 12 (d := dd_ 17 "marks_carried") rfl)
theorem b_marks_carried' (Z : Fz K mg) : Binds K (fd_marks_carried Z) ["marks", "row"] [] := (F_marks_carried Z).bindsN fun _ _ _ _ _ _ us hl => match us, hl with | [_, _], _ => rfl
theorem sc_marks_carried : FnScope ["marks", "row", "there", "found", "number", "tags", "own", "other", "tag"] ["marks", "row"] (defScope (top 17)) := ⟨rfl, rfl, rfl, by decide +kernel, rfl, by decide +kernel, by decide +kernel⟩
noncomputable def fd_marks_moved (Z : Fz K mg) : FuncData := Classical.choose (Z.c.def_ 13 (d := dd_ 18 "marks_moved") rfl)
theorem F_marks_moved (Z : Fz K mg) : FunD K "marks_moved" "marks_moved" (defArgs (top 18)) (defBody (top 18)) (defScope (top 18)) [] [] (He.ga K "marks_moved") (fd_marks_moved Z) := Classical.choose_spec (Z.c.def_ 13 (d := dd_ 18 "marks_moved") rfl)
theorem b_marks_moved' (Z : Fz K mg) : Binds K (fd_marks_moved Z) ["marks", "by"] [] := (F_marks_moved Z).bindsN fun _ _ _ _ _ _ us hl => match us, hl with | [_, _], _ => rfl
theorem sc_marks_moved : FnScope ["marks", "by", "number", "tags"] ["marks", "by"] (defScope (top 18)) := ⟨rfl, rfl, rfl, by decide +kernel, rfl, by decide +kernel, by decide +kernel⟩
noncomputable def fd__law_draws (Z : Fz K mg) : FuncData := Classical.choose (Z.c.def_ 14 (d := dd_ 20 "_law_draws") rfl)
theorem F__law_draws (Z : Fz K mg) : FunD K "_law_draws" "_law_draws" (defArgs (top 20)) (defBody (top 20)) (defScope (top 20)) [] [] (He.ga K "_law_draws") (fd__law_draws Z) := Classical.choose_spec (Z.c.def_ 14 (d := dd_ 20 "_law_draws") rfl)
theorem b__law_draws' (Z : Fz K mg) : Binds K (fd__law_draws Z) ["script", "many"] [] := (F__law_draws Z).bindsN fun _ _ _ _ _ _ us hl => match us, hl with | [_, _], _ => rfl
theorem sc__law_draws : FnScope ["script", "many", "cells", "rest", "draws", "k", "at", "mingled", "cell"] ["script", "many"] (defScope (top 20)) := ⟨rfl, rfl, rfl, by decide +kernel, rfl, by decide +kernel, by decide +kernel⟩
noncomputable def fd__law_take (Z : Fz K mg) : FuncData := Classical.choose (Z.c.def_ 15 (d := dd_ 21 "_law_take") rfl)
theorem F__law_take (Z : Fz K mg) : FunD K "_law_take" "_law_take" (defArgs (top 21)) (defBody (top 21)) (defScope (top 21)) [] [] (He.ga K "_law_take") (fd__law_take Z) := Classical.choose_spec (Z.c.def_ 15 (d := dd_ 21 "_law_take") rfl)
theorem b__law_take' (Z : Fz K mg) : Binds K (fd__law_take Z) ["draws", "many"] [] := (F__law_take Z).bindsN fun _ _ _ _ _ _ us hl => match us, hl with | [_, _], _ => rfl
theorem sc__law_take : FnScope ["draws", "many"] ["draws", "many"] (defScope (top 21)) := ⟨rfl, rfl, rfl, by decide +kernel, rfl, by decide +kernel, by decide +kernel⟩
noncomputable def fd__law_cell (Z : Fz K mg) : FuncData := Classical.choose (Z.c.def_ 16 (d := dd_ 22 "_law_cell") rfl)
theorem F__law_cell (Z : Fz K mg) : FunD K "_law_cell" "_law_cell" (defArgs (top 22)) (defBody (top 22)) (defScope (top 22)) [] [] (He.ga K "_law_cell") (fd__law_cell Z) := Classical.choose_spec (Z.c.def_ 16 (d := dd_ 22 "_law_cell") rfl)
theorem b__law_cell' (Z : Fz K mg) : Binds K (fd__law_cell Z) ["script", "draws"] [] := (F__law_cell Z).bindsN fun _ _ _ _ _ _ us hl => match us, hl with | [_, _], _ => rfl
theorem sc__law_cell : FnScope ["script", "draws"] ["script", "draws"] (defScope (top 22)) := ⟨rfl, rfl, rfl, by decide +kernel, rfl, by decide +kernel, by decide +kernel⟩
noncomputable def fd__law_same (Z : Fz K mg) : FuncData := Classical.choose (Z.c.def_ 17 (d := dd_ 23 "_law_same") rfl)
theorem F__law_same (Z : Fz K mg) : FunD K "_law_same" "_law_same" (defArgs (top 23)) (defBody (top 23)) (defScope (top 23)) [] [] (He.ga K "_law_same") (fd__law_same Z) := Classical.choose_spec (Z.c.def_ 17 (d := dd_ 23 "_law_same") rfl)
theorem b__law_same' (Z : Fz K mg) : Binds K (fd__law_same Z) ["actual", "due"] [] := (F__law_same Z).bindsN fun _ _ _ _ _ _ us hl => match us, hl with | [_, _], _ => rfl
theorem sc__law_same : FnScope ["actual", "due", "k"] ["actual", "due"] (defScope (top 23)) := ⟨rfl, rfl, rfl, by decide +kernel, rfl, by decide +kernel, by decide +kernel⟩
noncomputable def fd__law_tags (Z : Fz K mg) : FuncData := Classical.choose (Z.c.def_ 18 (d := dd_ 24 "_law_tags") rfl)
theorem F__law_tags (Z : Fz K mg) : FunD K "_law_tags" "_law_tags" (defArgs (top 24)) (defBody (top 24)) (defScope (top 24)) [] [] (He.ga K "_law_tags") (fd__law_tags Z) := Classical.choose_spec (Z.c.def_ 18 (d := dd_ 24 "_law_tags") rfl)
theorem b__law_tags' (Z : Fz K mg) : Binds K (fd__law_tags Z) ["draws", "cell", "many"] [] := (F__law_tags Z).bindsN fun _ _ _ _ _ _ us hl => match us, hl with | [_, _, _], _ => rfl
theorem sc__law_tags : FnScope ["draws", "cell", "many", "tag", "found", "k"] ["draws", "cell", "many"] (defScope (top 24)) := ⟨rfl, rfl, rfl, by decide +kernel, rfl, by decide +kernel, by decide +kernel⟩
noncomputable def fd__law_row_of (Z : Fz K mg) : FuncData := Classical.choose (Z.c.def_ 19 (d := dd_ 25 "_law_row_of") rfl)
theorem F__law_row_of (Z : Fz K mg) : FunD K "_law_row_of" "_law_row_of" (defArgs (top 25)) (defBody (top 25)) (defScope (top 25)) [] [] (He.ga K "_law_row_of") (fd__law_row_of Z) := Classical.choose_spec (Z.c.def_ 19 (d := dd_ 25 "_law_row_of") rfl)
theorem b__law_row_of' (Z : Fz K mg) : Binds K (fd__law_row_of Z) ["draws", "tags"] [] := (F__law_row_of Z).bindsN fun _ _ _ _ _ _ us hl => match us, hl with | [_, _], _ => rfl
theorem sc__law_row_of : FnScope ["draws", "tags", "left", "found", "k"] ["draws", "tags"] (defScope (top 25)) := ⟨rfl, rfl, rfl, by decide +kernel, rfl, by decide +kernel, by decide +kernel⟩
noncomputable def fd__law_marks_of (Z : Fz K mg) : FuncData := Classical.choose (Z.c.def_ 20 (d := dd_ 26 "_law_marks_of") rfl)
theorem F__law_marks_of (Z : Fz K mg) : FunD K "_law_marks_of" "_law_marks_of" (defArgs (top 26)) (defBody (top 26)) (defScope (top 26)) [] [] (He.ga K "_law_marks_of") (fd__law_marks_of Z) := Classical.choose_spec (Z.c.def_ 20 (d := dd_ 26 "_law_marks_of") rfl)
theorem b__law_marks_of' (Z : Fz K mg) : Binds K (fd__law_marks_of Z) ["draws", "cell", "tags"] [] := (F__law_marks_of Z).bindsN fun _ _ _ _ _ _ us hl => match us, hl with | [_, _, _], _ => rfl
theorem sc__law_marks_of : FnScope ["draws", "cell", "tags", "found", "k"] ["draws", "cell", "tags"] (defScope (top 26)) := ⟨rfl, rfl, rfl, by decide +kernel, rfl, by decide +kernel, by decide +kernel⟩
noncomputable def fd__law_marked_store (Z : Fz K mg) : FuncData := Classical.choose (Z.c.def_ 21 (d := dd_ 27 "_law_marked_store") rfl)
theorem F__law_marked_store (Z : Fz K mg) : FunD K "_law_marked_store" "_law_marked_store" (defArgs (top 27)) (defBody (top 27)) (defScope (top 27)) [] [] (He.ga K "_law_marked_store") (fd__law_marked_store Z) := Classical.choose_spec (Z.c.def_ 21 (d := dd_ 27 "_law_marked_store") rfl)
theorem b__law_marked_store' (Z : Fz K mg) : Binds K (fd__law_marked_store Z) ["draws", "cell", "tags"] [] := (F__law_marked_store Z).bindsN fun _ _ _ _ _ _ us hl => match us, hl with | [_, _, _], _ => rfl
theorem sc__law_marked_store : FnScope ["draws", "cell", "tags", "rows", "known", "tag"] ["draws", "cell", "tags"] (defScope (top 27)) := ⟨rfl, rfl, rfl, by decide +kernel, rfl, by decide +kernel, by decide +kernel⟩
noncomputable def fd__law_are_marks_right (Z : Fz K mg) : FuncData := Classical.choose (Z.c.def_ 22 (d := dd_ 28 "_law_are_marks_right") rfl)
theorem F__law_are_marks_right (Z : Fz K mg) : FunD K "_law_are_marks_right" "_law_are_marks_right" (defArgs (top 28)) (defBody (top 28)) (defScope (top 28)) [] [] (He.ga K "_law_are_marks_right") (fd__law_are_marks_right Z) := Classical.choose_spec (Z.c.def_ 22 (d := dd_ 28 "_law_are_marks_right") rfl)
theorem b__law_are_marks_right' (Z : Fz K mg) : Binds K (fd__law_are_marks_right Z) ["draws", "cell", "store", "tags"] [] := (F__law_are_marks_right Z).bindsN fun _ _ _ _ _ _ us hl => match us, hl with | [_, _, _, _], _ => rfl
theorem sc__law_are_marks_right : FnScope ["draws", "cell", "store", "tags", "marks", "asked", "number", "row", "tag", "later", "mark"] ["draws", "cell", "store", "tags"] (defScope (top 28)) := ⟨rfl, rfl, rfl, by decide +kernel, rfl, by decide +kernel, by decide +kernel⟩
noncomputable def fd__law_are_carried_right (Z : Fz K mg) : FuncData := Classical.choose (Z.c.def_ 23 (d := dd_ 29 "_law_are_carried_right") rfl)
theorem F__law_are_carried_right (Z : Fz K mg) : FunD K "_law_are_carried_right" "_law_are_carried_right" (defArgs (top 29)) (defBody (top 29)) (defScope (top 29)) [] [] (He.ga K "_law_are_carried_right") (fd__law_are_carried_right Z) := Classical.choose_spec (Z.c.def_ 23 (d := dd_ 29 "_law_are_carried_right") rfl)
theorem b__law_are_carried_right' (Z : Fz K mg) : Binds K (fd__law_are_carried_right Z) ["draws", "cell", "store", "tags"] [] := (F__law_are_carried_right Z).bindsN fun _ _ _ _ _ _ us hl => match us, hl with | [_, _, _, _], _ => rfl
theorem sc__law_are_carried_right : FnScope ["draws", "cell", "store", "tags", "marks", "some", "dead", "alive", "left", "change", "tag", "row", "due", "by", "moved", "mark", "number", "own", "later"] ["draws", "cell", "store", "tags"] (defScope (top 29)) := ⟨rfl, rfl, rfl, by decide +kernel, rfl, by decide +kernel, by decide +kernel⟩
noncomputable def fd_law (Z : Fz K mg) : FuncData := Classical.choose (Z.c.def_ 24 (d := dd_ 30 "law") rfl)
theorem F_law (Z : Fz K mg) : FunD K "law" "law" (defArgs (top 30)) (defBody (top 30)) (defScope (top 30)) [] [] (He.ga K "law") (fd_law Z) := Classical.choose_spec (Z.c.def_ 24 (d := dd_ 30 "law") rfl)
theorem b_law' (Z : Fz K mg) : Binds K (fd_law Z) ["script"] [] := (F_law Z).bindsN fun _ _ _ _ _ _ us hl => match us, hl with | [_], _ => rfl
theorem sc_law : FnScope ["script", "draws", "cell", "turn", "some", "tags", "store", "again"] ["script"] (defScope (top 30)) := ⟨rfl, rfl, rfl, by decide +kernel, rfl, by decide +kernel, by decide +kernel⟩
variable {P : Program} {w : World} {base : Heap}
theorem ok_tags_of (Z : Fz K mg) (Zc : Cn K mg) : FnOk P w K mg base (L2.CX P w) 1 (He.ga K "tags_of") (fd_tags_of Z) ["store"] (spP K mg m_tags_of) := by
  refine fn_pure (P := P) (w := w) (base := base) (mg := mg) (N := ["store", "tag", "constraint"]) (ps := ["store"]) (k := 0) (mb := b_tags_of) (Γ' := []) (F_tags_of Z) sc_tags_of (by decide) ?_
  intro cdv A outer s H E cs
  have z0 := cs.toCz
  exact (ds_one (ds_ret (k := false) (de_callTy call_dTuple (gl (by kernel_rfl)) (Fx.free Z 0) (by decide +kernel) (da_cons (de_fresh (df_lc z0.calm sc_tags_of.nd (di_seq (de_subA z0.hu1 (de_var (i := 0) (pv 0)) (de_int (r := false)) (fun _ _ => rfl))) (blk_ok (own := [("tag", 1), ("constraint", 2)]) (by kernel_rfl)) (fun _ _ _ _ _ => (dg_tup (n := 2) (z0.blk _ _ _ _ _).calm (dgs_cons (dg_name (i := 1) sc_tags_of.nd rfl (by first | exact Or.inl rfl | exact Or.inr rfl)) (dgs_cons (dg_name (i := 2) sc_tags_of.nd rfl (by first | exact Or.inl rfl | exact Or.inr rfl)) dgs_nil)))) (fun _ _ _ _ _ => dbs_nil) (fun _ _ _ _ _ => (de_var (i := 1) (pv 1))))) da_nil))))
theorem ok_without_rows (Z : Fz K mg) (Zc : Cn K mg) : FnOk P w K mg base (L2.CX P w) 1 (He.ga K "without_rows") (fd_without_rows Z) ["store", "tags"] (spP K mg m_without_rows) := by
  refine fn_pure (P := P) (w := w) (base := base) (mg := mg) (N := ["store", "tags", "next_tag", "rows", "known", "marks", "kept", "row", "mark", "tag"]) (ps := ["store", "tags"]) (k := 0) (mb := b_without_rows) (Γ' := []) (F_without_rows Z) sc_without_rows (by decide) ?_
  intro cdv A outer s H E cs
  have z0 := cs.toCz
  exact (ds_cons (ds_asg (k := false) (vs := [2, 3, 4, 5]) (de_var (i := 0) (pv 0)) (dg_tup (n := 4) z0.calm (dgs_cons (dg_name (i := 2) sc_without_rows.nd rfl (by first | exact Or.inl rfl | exact Or.inr rfl)) (dgs_cons (dg_name (i := 3) sc_without_rows.nd rfl (by first | exact Or.inl rfl | exact Or.inr rfl)) (dgs_cons (dg_name (i := 4) sc_without_rows.nd rfl (by first | exact Or.inl rfl | exact Or.inr rfl)) (dgs_cons (dg_name (i := 5) sc_without_rows.nd rfl (by first | exact Or.inl rfl | exact Or.inr rfl)) dgs_nil)))))) (ds_cons (ds_set (k := false) (i := 6) sc_without_rows.nd rfl (by first | exact Or.inl rfl | exact Or.inr rfl) (de_callTy call_dTuple (gl (by kernel_rfl)) (Fx.free Z 0) (by decide +kernel) (da_cons (de_fresh (df_lc z0.calm sc_without_rows.nd (di_seq (de_var (i := 3) (pv 3))) (blk_ok (own := [("row", 7)]) (by kernel_rfl)) (fun _ _ _ _ _ => (dg_name (i := 7) sc_without_rows.nd rfl (by first | exact Or.inl rfl | exact Or.inr rfl))) (fun _ _ _ _ _ => (dbs_one (db_cmp (op_dNotInA (z0.blk _ _ _ _ _).hu) (de_subA (z0.blk _ _ _ _ _).hu1 (de_var (i := 7) (pv 7)) (de_int (r := false)) (fun _ _ => rfl)) (de_var (i := 1) (pv 1)) (by rfl)))) (fun _ _ _ _ _ => (de_var (i := 7) (pv 7))))) da_nil))) (ds_one (ds_ret (k := false) (de_tup (da_cons (de_var (i := 2) (pv 2)) (da_cons (de_var (i := 6) (pv 6)) (da_cons (de_var (i := 4) (pv 4)) (da_cons (de_callTy call_dTuple (gl (by kernel_rfl)) (Fx.free Z 0) (by decide +kernel) (da_cons (de_fresh (df_lc z0.calm sc_without_rows.nd (di_seq (de_var (i := 5) (pv 5))) (blk_ok (own := [("mark", 8)]) (by kernel_rfl)) (fun _ _ _ _ _ => (dg_name (i := 8) sc_without_rows.nd rfl (by first | exact Or.inl rfl | exact Or.inr rfl))) (fun _ _ _ _ _ => (dbs_one (db_not (db_tru (de_callB (call_dAny (z0.blk _ _ _ _ _).calm) (gl (by kernel_rfl)) (Fx.free Z 1) (by decide +kernel) (da_cons (de_fresh (df_lc (z0.blk _ _ _ _ _).calm sc_without_rows.nd (di_seq (de_subA (z0.blk _ _ _ _ _).hu1 (de_var (i := 8) (pv 8)) (de_int (r := false)) (fun _ _ => rfl))) (blk_ok (own := [("tag", 9)]) (by kernel_rfl)) (fun _ _ _ _ _ => (dg_name (i := 9) sc_without_rows.nd rfl (by first | exact Or.inl rfl | exact Or.inr rfl))) (fun _ _ _ _ _ => dbs_nil) (fun _ _ _ _ _ => (de_cmp (op_dInA ((z0.blk _ _ _ _ _).blk _ _ _ _ _).hu) (de_var (i := 9) (pv 9)) (de_var (i := 1) (pv 1)) (by rfl))))) da_nil)))))) (fun _ _ _ _ _ => (de_var (i := 8) (pv 8))))) da_nil)) da_nil)))))))))
theorem ok_without_tags (Z : Fz K mg) (Zc : Cn K mg) : FnOk P w K mg base (L2.CX P w) 2 (He.ga K "without_tags") (fd_without_tags Z) ["store", "tags"] (spP K mg m_without_tags) := by
  refine fn_pure (P := P) (w := w) (base := base) (mg := mg) (N := ["store", "tags", "there", "tag"]) (ps := ["store", "tags"]) (k := 1) (mb := b_without_tags) (Γ' := []) (F_without_tags Z) sc_without_tags (by decide) ?_
  intro cdv A outer s H E cs
  have z0 := cs.toCz
  exact (ds_cons (ds_set (k := false) (i := 2) sc_without_tags.nd rfl (by first | exact Or.inl rfl | exact Or.inr rfl) (de_callF (ok_tags_of (P := P) (w := w) (base := base) Z Zc) z0.r (gl (by kernel_rfl)) (Fx.glo Z 2) (F_tags_of Z).kp (b_tags_of' Z) z0.pass (da_cons (de_var (i := 0) (pv 0)) da_nil))) (ds_cons (ds_if (k := false) (Γ' := []) (db_not (db_tru (de_callB (call_dAll z0.calm) (gl (by kernel_rfl)) (Fx.free Z 3) (by decide +kernel) (da_cons (de_fresh (df_lc z0.calm sc_without_tags.nd (di_seq (de_var (i := 1) (pv 1))) (blk_ok (own := [("tag", 3)]) (by kernel_rfl)) (fun _ _ _ _ _ => (dg_name (i := 3) sc_without_tags.nd rfl (by first | exact Or.inl rfl | exact Or.inr rfl))) (fun _ _ _ _ _ => dbs_nil) (fun _ _ _ _ _ => (de_cmp (op_dInA (z0.blk _ _ _ _ _).hu) (de_var (i := 3) (pv 3)) (de_var (i := 2) (pv 2)) (by rfl))))) da_nil)))) (ds_one (ds_never (m := sNil))) ds_nil) (ds_one (ds_ret (k := false) (de_callF (ok_without_rows (P := P) (w := w) (base := base) Z Zc) z0.r (gl (by kernel_rfl)) (Fx.glo Z 4) (F_without_rows Z).kp (b_without_rows' Z) z0.pass (da_cons (de_var (i := 0) (pv 0)) (da_cons (de_var (i := 1) (pv 1)) da_nil)))))))
theorem ok_tag_changed (Z : Fz K mg) (Zc : Cn K mg) : FnOk P w K mg base (L2.CX P w) 1 (He.ga K "tag_changed") (fd_tag_changed Z) ["row", "tag"] (spP K mg m_tag_changed) := by
  refine fn_pure (P := P) (w := w) (base := base) (mg := mg) (N := ["row", "tag", "own", "other"]) (ps := ["row", "tag"]) (k := 0) (mb := b_tag_changed) (Γ' := []) (F_tag_changed Z) sc_tag_changed (by decide) ?_
  intro cdv A outer s H E cs
  have z0 := cs.toCz
  exact (ds_one (ds_ret (k := false) (de_subA z0.hu1 (de_fresh (df_lc z0.calm sc_tag_changed.nd (di_seq (de_var (i := 0) (pv 0))) (blk_ok (own := [("own", 2), ("other", 3)]) (by kernel_rfl)) (fun _ _ _ _ _ => (dg_tup (n := 2) (z0.blk _ _ _ _ _).calm (dgs_cons (dg_name (i := 2) sc_tag_changed.nd rfl (by first | exact Or.inl rfl | exact Or.inr rfl)) (dgs_cons (dg_name (i := 3) sc_tag_changed.nd rfl (by first | exact Or.inl rfl | exact Or.inr rfl)) dgs_nil)))) (fun _ _ _ _ _ => (dbs_one (db_cmp (op_dEq (z0.blk _ _ _ _ _).hu) (de_var (i := 2) (pv 2)) (de_var (i := 1) (pv 1)) (by rfl)))) (fun _ _ _ _ _ => (de_var (i := 3) (pv 3))))) (de_int (r := false)) (fun _ _ => rfl))))
theorem ok_marks_in_order (Z : Fz K mg) (Zc : Cn K mg) : FnOk P w K mg base (L2.CX P w) 1 (He.ga K "marks_in_order") (fd_marks_in_order Z) ["marks"] (spP K mg m_marks_in_order) := by
  refine fn_pure (P := P) (w := w) (base := base) (mg := mg) (N := ["marks"]) (ps := ["marks"]) (k := 0) (mb := b_marks_in_order) (Γ' := []) (F_marks_in_order Z) sc_marks_in_order (by decide) ?_
  intro cdv A outer s H E cs
  have z0 := cs.toCz
  exact (ds_one (ds_ret (k := false) (de_callTy call_dTuple (gl (by kernel_rfl)) (Fx.free Z 0) (by decide +kernel) (da_cons (de_sortSet z0.calm z0.hu (gl (by kernel_rfl)) (Fx.free Z 5) (gl (by kernel_rfl)) (Fx.free Z 6) (da_cons (de_var (i := 0) (pv 0)) da_nil)) da_nil))))
theorem ok_is_marked (Z : Fz K mg) (Zc : Cn K mg) : FnOk P w K mg base (L2.CX P w) 1 (He.ga K "is_marked") (fd_is_marked Z) ["store", "number", "row"] (spP K mg m_is_marked) := by
  refine fn_pure (P := P) (w := w) (base := base) (mg := mg) (N := ["store", "number", "row"]) (ps := ["store", "number", "row"]) (k := 0) (mb := b_is_marked) (Γ' := []) (F_is_marked Z) sc_is_marked (by decide) ?_
  intro cdv A outer s H E cs
  have z0 := cs.toCz
  exact (ds_one (ds_ret (k := false) (de_cmp (op_dInA z0.hu) (de_tup (da_cons (de_var (i := 1) (pv 1)) (da_cons (de_var (i := 2) (pv 2)) da_nil))) (de_subA z0.hu1 (de_var (i := 0) (pv 0)) (de_int (r := false)) (fun _ _ => rfl)) (by rfl))))
theorem ok_with_marks (Z : Fz K mg) (Zc : Cn K mg) : FnOk P w K mg base (L2.CX P w) 2 (He.ga K "with_marks") (fd_with_marks Z) ["store", "marks"] (spP K mg m_with_marks) := by
  refine fn_pure (P := P) (w := w) (base := base) (mg := mg) (N := ["store", "marks", "next_tag", "rows", "known", "there"]) (ps := ["store", "marks"]) (k := 1) (mb := b_with_marks) (Γ' := []) (F_with_marks Z) sc_with_marks (by decide) ?_
  intro cdv A outer s H E cs
  have z0 := cs.toCz
  exact (ds_cons (ds_asg (k := false) (vs := [2, 3, 4, 5]) (de_var (i := 0) (pv 0)) (dg_tup (n := 4) z0.calm (dgs_cons (dg_name (i := 2) sc_with_marks.nd rfl (by first | exact Or.inl rfl | exact Or.inr rfl)) (dgs_cons (dg_name (i := 3) sc_with_marks.nd rfl (by first | exact Or.inl rfl | exact Or.inr rfl)) (dgs_cons (dg_name (i := 4) sc_with_marks.nd rfl (by first | exact Or.inl rfl | exact Or.inr rfl)) (dgs_cons (dg_name (i := 5) sc_with_marks.nd rfl (by first | exact Or.inl rfl | exact Or.inr rfl)) dgs_nil)))))) (ds_one (ds_ret (k := false) (de_tup (da_cons (de_var (i := 2) (pv 2)) (da_cons (de_var (i := 3) (pv 3)) (da_cons (de_var (i := 4) (pv 4)) (da_cons (de_callF (ok_marks_in_order (P := P) (w := w) (base := base) Z Zc) z0.r (gl (by kernel_rfl)) (Fx.glo Z 7) (F_marks_in_order Z).kp (b_marks_in_order' Z) z0.pass (da_cons (de_op op_dAdd (de_var (i := 5) (pv 5)) (de_var (i := 1) (pv 1))) da_nil)) da_nil))))))))
theorem ok_with_mark (Z : Fz K mg) (Zc : Cn K mg) : FnOk P w K mg base (L2.CX P w) 3 (He.ga K "with_mark") (fd_with_mark Z) ["store", "number", "row"] (spP K mg m_with_mark) := by
  refine fn_pure (P := P) (w := w) (base := base) (mg := mg) (N := ["store", "number", "row"]) (ps := ["store", "number", "row"]) (k := 2) (mb := b_with_mark) (Γ' := []) (F_with_mark Z) sc_with_mark (by decide) ?_
  intro cdv A outer s H E cs
  have z0 := cs.toCz
  exact (ds_one (ds_ret (k := false) (de_callF (ok_with_marks (P := P) (w := w) (base := base) Z Zc) z0.r (gl (by kernel_rfl)) (Fx.glo Z 8) (F_with_marks Z).kp (b_with_marks' Z) z0.pass (da_cons (de_var (i := 0) (pv 0)) (da_cons (de_tup (da_cons (de_tup (da_cons (de_var (i := 1) (pv 1)) (da_cons (de_var (i := 2) (pv 2)) da_nil))) da_nil)) da_nil)))))
theorem ok_cleared (Z : Fz K mg) (Zc : Cn K mg) : FnOk P w K mg base (L2.CX P w) 1 (He.ga K "cleared") (fd_cleared Z) ["store"] (spP K mg m_cleared) := by
  refine fn_pure (P := P) (w := w) (base := base) (mg := mg) (N := ["store"]) (ps := ["store"]) (k := 0) (mb := b_cleared) (Γ' := []) (F_cleared Z) sc_cleared (by decide) ?_
  intro cdv A outer s H E cs
  have z0 := cs.toCz
  exact (ds_one (ds_ret (k := false) (de_op op_dAdd (de_sl (de_var (i := 0) (pv 0)) do_none (do_some (de_int (r := false)))) (de_tup (da_cons (de_tup da_nil) da_nil)))))
theorem ok_marks_with (Z : Fz K mg) (Zc : Cn K mg) : FnOk P w K mg base (L2.CX P w) 1 (He.ga K "marks_with") (fd_marks_with Z) ["store", "tag"] (spP K mg m_marks_with) := by
  refine fn_pure (P := P) (w := w) (base := base) (mg := mg) (N := ["store", "tag", "mark"]) (ps := ["store", "tag"]) (k := 0) (mb := b_marks_with) (Γ' := []) (F_marks_with Z) sc_marks_with (by decide) ?_
  intro cdv A outer s H E cs
  have z0 := cs.toCz
  exact (ds_one (ds_ret (k := false) (de_callTy call_dTuple (gl (by kernel_rfl)) (Fx.free Z 0) (by decide +kernel) (da_cons (de_fresh (df_lc z0.calm sc_marks_with.nd (di_seq (de_subA z0.hu1 (de_var (i := 0) (pv 0)) (de_int (r := false)) (fun _ _ => rfl))) (blk_ok (own := [("mark", 2)]) (by kernel_rfl)) (fun _ _ _ _ _ => (dg_name (i := 2) sc_marks_with.nd rfl (by first | exact Or.inl rfl | exact Or.inr rfl))) (fun _ _ _ _ _ => (dbs_one (db_cmp (op_dInA (z0.blk _ _ _ _ _).hu) (de_var (i := 1) (pv 1)) (de_subA (z0.blk _ _ _ _ _).hu1 (de_var (i := 2) (pv 2)) (de_int (r := false)) (fun _ _ => rfl)) (by rfl)))) (fun _ _ _ _ _ => (de_var (i := 2) (pv 2))))) da_nil))))
theorem ok_are_tags_in (Z : Fz K mg) (Zc : Cn K mg) : FnOk P w K mg base (L2.CX P w) 1 (He.ga K "are_tags_in") (fd_are_tags_in Z) ["row", "tags"] (spP K mg m_are_tags_in) := by
  refine fn_pure (P := P) (w := w) (base := base) (mg := mg) (N := ["row", "tags", "tag"]) (ps := ["row", "tags"]) (k := 0) (mb := b_are_tags_in) (Γ' := []) (F_are_tags_in Z) sc_are_tags_in (by decide) ?_
  intro cdv A outer s H E cs
  have z0 := cs.toCz
  exact (ds_one (ds_ret (k := false) (de_callB (call_dAll z0.calm) (gl (by kernel_rfl)) (Fx.free Z 3) (by decide +kernel) (da_cons (de_fresh (df_lc z0.calm sc_are_tags_in.nd (di_seq (de_var (i := 0) (pv 0))) (blk_ok (own := [("tag", 2)]) (by kernel_rfl)) (fun _ _ _ _ _ => (dg_name (i := 2) sc_are_tags_in.nd rfl (by first | exact Or.inl rfl | exact Or.inr rfl))) (fun _ _ _ _ _ => dbs_nil) (fun _ _ _ _ _ => (de_cmp (op_dInA (z0.blk _ _ _ _ _).hu) (de_var (i := 2) (pv 2)) (de_var (i := 1) (pv 1)) (by rfl))))) da_nil))))
theorem ok_dead_marks (Z : Fz K mg) (Zc : Cn K mg) : FnOk P w K mg base (L2.CX P w) 2 (He.ga K "dead_marks") (fd_dead_marks Z) ["marks", "tags"] (spP K mg m_dead_marks) := by
  refine fn_pure (P := P) (w := w) (base := base) (mg := mg) (N := ["marks", "tags", "mark"]) (ps := ["marks", "tags"]) (k := 1) (mb := b_dead_marks) (Γ' := []) (F_dead_marks Z) sc_dead_marks (by decide) ?_
  intro cdv A outer s H E cs
  have z0 := cs.toCz
  exact (ds_one (ds_ret (k := false) (de_callTy call_dTuple (gl (by kernel_rfl)) (Fx.free Z 0) (by decide +kernel) (da_cons (de_fresh (df_lc z0.calm sc_dead_marks.nd (di_seq (de_var (i := 0) (pv 0))) (blk_ok (own := [("mark", 2)]) (by kernel_rfl)) (fun _ _ _ _ _ => (dg_name (i := 2) sc_dead_marks.nd rfl (by first | exact Or.inl rfl | exact Or.inr rfl))) (fun _ _ _ _ _ => (dbs_one (db_not (db_tru (de_callF (ok_are_tags_in (P := P) (w := w) (base := base) Z Zc) (z0.blk _ _ _ _ _).r (gl (by kernel_rfl)) (Fx.glo Z 9) (F_are_tags_in Z).kp (b_are_tags_in' Z) (z0.blk _ _ _ _ _).pass (da_cons (de_subA (z0.blk _ _ _ _ _).hu1 (de_var (i := 2) (pv 2)) (de_int (r := false)) (fun _ _ => rfl)) (da_cons (de_var (i := 1) (pv 1)) da_nil))))))) (fun _ _ _ _ _ => (de_var (i := 2) (pv 2))))) da_nil))))
theorem ok_marks_carried (Z : Fz K mg) (Zc : Cn K mg) : FnOk P w K mg base (L2.CX P w) 2 (He.ga K "marks_carried") (fd_marks_carried Z) ["marks", "row"] (spP K mg m_marks_carried) := by
  refine fn_pure (P := P) (w := w) (base := base) (mg := mg) (N := ["marks", "row", "there", "found", "number", "tags", "own", "other", "tag"]) (ps := ["marks", "row"]) (k := 1) (mb := b_marks_carried) (Γ' := []) (F_marks_carried Z) sc_marks_carried (by decide) ?_
  intro cdv A outer s H E cs
  have z0 := cs.toCz
  exact (ds_cons (ds_setF0 (k := false) (i := 2) (ps_lcF (i := 2) z0.calm sc_marks_carried.nd rfl rfl (by rfl) (di_seq (de_var (i := 1) (pv 1))) (blk_ok (own := [("own", 6), ("other", 7)]) (by kernel_rfl)) (fun _ _ _ _ _ => (dg_tup (n := 2) (z0.blk _ _ _ _ _).calm (dgs_cons (dg_name (i := 6) sc_marks_carried.nd rfl (by first | exact Or.inl rfl | exact Or.inr rfl)) (dgs_cons (dg_name (i := 7) sc_marks_carried.nd rfl (by first | exact Or.inl rfl | exact Or.inr rfl)) dgs_nil)))) (fun _ _ _ _ _ => dbs_nil) (fun _ _ _ _ _ => (de_var (i := 6) (pv 6))))) (ds_cons (ds_own (k := false) (i := 3) sc_marks_carried.nd rfl (by first | exact Or.inl rfl | exact Or.inr rfl) (df_lst da_nil)) (ds_cons (ds_for (k := false) (vs := [4, 5]) cs.own z0.calm (di_seq (de_var (i := 0) (pv 0))) (dg_tup (n := 2) z0.calm (dgs_cons (dg_name (i := 4) sc_marks_carried.nd rfl (by first | exact Or.inl rfl | exact Or.inr rfl)) (dgs_cons (dg_name (i := 5) sc_marks_carried.nd rfl (by first | exact Or.inl rfl | exact Or.inr rfl)) dgs_nil))) (ds_one (ds_if (k := false) (Γ' := [3]) (db_tru (de_callF (ok_are_tags_in (P := P) (w := w) (base := base) Z Zc) z0.r (gl (by kernel_rfl)) (Fx.glo Z 9) (F_are_tags_in Z).kp (b_are_tags_in' Z) z0.pass (da_cons (de_var (i := 5) (pv 5)) (da_cons (de_var (i := 2) (pv 2)) da_nil)))) (ds_one (ds_expr (k := true) (de_app (i := 3) (pv 3) (de_up (de_tup (da_cons (de_var (i := 4) (pv 4)) (da_cons (de_callTy call_dTuple (gl (by kernel_rfl)) (Fx.free Z 0) (by decide +kernel) (da_cons (de_fresh (df_lc z0.calm sc_marks_carried.nd (di_seq (de_var (i := 5) (pv 5))) (blk_ok (own := [("tag", 8)]) (by kernel_rfl)) (fun _ _ _ _ _ => (dg_name (i := 8) sc_marks_carried.nd rfl (by first | exact Or.inl rfl | exact Or.inr rfl))) (fun _ _ _ _ _ => dbs_nil) (fun _ _ _ _ _ => (de_callF (ok_tag_changed (P := P) (w := w) (base := base) Z Zc) (z0.blk _ _ _ _ _).r (gl (by kernel_rfl)) (Fx.glo Z 10) (F_tag_changed Z).kp (b_tag_changed' Z) (z0.blk _ _ _ _ _).pass (da_cons (de_var (i := 1) (pv 1)) (da_cons (de_var (i := 8) (pv 8)) da_nil)))))) da_nil)) da_nil))))))) ds_nil))) (dss_free (Γ1 := []) (ds_one (ds_ret (k := false) (de_callF (ok_marks_in_order (P := P) (w := w) (base := base) Z Zc) z0.r (gl (by kernel_rfl)) (Fx.glo Z 7) (F_marks_in_order Z).kp (b_marks_in_order' Z) z0.pass (da_cons (de_var (i := 3) (pv 3)) da_nil))))))))
theorem ok_marks_moved (Z : Fz K mg) (Zc : Cn K mg) : FnOk P w K mg base (L2.CX P w) 1 (He.ga K "marks_moved") (fd_marks_moved Z) ["marks", "by"] (spP K mg m_marks_moved) := by
  refine fn_pure (P := P) (w := w) (base := base) (mg := mg) (N := ["marks", "by", "number", "tags"]) (ps := ["marks", "by"]) (k := 0) (mb := b_marks_moved) (Γ' := []) (F_marks_moved Z) sc_marks_moved (by decide) ?_
  intro cdv A outer s H E cs
  have z0 := cs.toCz
  exact (ds_one (ds_ret (k := false) (de_callTy call_dTuple (gl (by kernel_rfl)) (Fx.free Z 0) (by decide +kernel) (da_cons (de_fresh (df_lc z0.calm sc_marks_moved.nd (di_seq (de_var (i := 0) (pv 0))) (blk_ok (own := [("number", 2), ("tags", 3)]) (by kernel_rfl)) (fun _ _ _ _ _ => (dg_tup (n := 2) (z0.blk _ _ _ _ _).calm (dgs_cons (dg_name (i := 2) sc_marks_moved.nd rfl (by first | exact Or.inl rfl | exact Or.inr rfl)) (dgs_cons (dg_name (i := 3) sc_marks_moved.nd rfl (by first | exact Or.inl rfl | exact Or.inr rfl)) dgs_nil)))) (fun _ _ _ _ _ => dbs_nil) (fun _ _ _ _ _ => (de_tup (da_cons (de_op op_dAdd (de_var (i := 2) (pv 2)) (de_var (i := 1) (pv 1))) (da_cons (de_var (i := 3) (pv 3)) da_nil)))))) da_nil))))
theorem ok__law_draws (Z : Fz K mg) (Zc : Cn K mg) : FnOk P w K mg base (L2.CX P w) 1 (He.ga K "_law_draws") (fd__law_draws Z) ["script", "many"] (spFr K mg m__law_draws) := by
  refine fn_fresh (P := P) (w := w) (base := base) (mg := mg) (N := ["script", "many", "cells", "rest", "draws", "k", "at", "mingled", "cell"]) (ps := ["script", "many"]) (k := 0) (mb := b__law_draws) (F__law_draws Z) sc__law_draws (by decide) ?_
  intro cdv A outer s H E cs
  have z0 := cs.toCz
  exact (dsf_cons (ds_own0 (k := false) (i := 2) (ps_lcF (i := 2) z0.calm sc__law_draws.nd rfl rfl (by rfl) (di_seq (de_var (i := 0) (pv 0))) (blk_ok (own := [("cell", 8)]) (by kernel_rfl)) (fun _ _ _ _ _ => (dg_name (i := 8) sc__law_draws.nd rfl (by first | exact Or.inl rfl | exact Or.inr rfl))) (fun _ _ _ _ _ => dbs_nil) (fun _ _ _ _ _ => (de_callTy call_dInt (gl (by kernel_rfl)) (Fx.free Z 11) (by decide +kernel) (da_cons (de_var (i := 8) (pv 8)) da_nil)))) (by decide)) (dsf_cons (ds_if (k := false) (Γ' := [2]) (db_cmp (op_dEq z0.hu) (de_callB call_dLenA (gl (by kernel_rfl)) (Fx.free Z 12) (by decide +kernel) (da_cons (de_varT (i := 2) (pv 2)) da_nil)) (de_int (r := false)) (by rfl)) (ds_one (ds_expr (k := true) (de_app (i := 2) (pv 2) (de_up (de_int (r := false)))))) ds_nil) (dsf_cons (ds_own (k := false) (i := 3) sc__law_draws.nd rfl (by first | exact Or.inl rfl | exact Or.inr rfl) (df_list (gl (by kernel_rfl)) (Fx.free Z 13) (da_cons (de_varT (i := 2) (pv 2)) da_nil))) (dsf_cons (ds_own (k := false) (i := 4) sc__law_draws.nd rfl (by first | exact Or.inl rfl | exact Or.inr rfl) (df_lst da_nil)) (dsf_cons (ds_for (k := false) (vs := [5]) cs.own z0.calm (di_rng1 (gl (by kernel_rfl)) (Fx.free Z 14) (da_cons (de_var (i := 1) (pv 1)) da_nil)) (dg_name (i := 5) sc__law_draws.nd rfl (by first | exact Or.inl rfl | exact Or.inr rfl)) (ds_cons (ds_set (k := false) (i := 6) sc__law_draws.nd rfl (by first | exact Or.inl rfl | exact Or.inr rfl) (de_op op_dMod (de_var (i := 5) (pv 5)) (de_callB call_dLenA (gl (by kernel_rfl)) (Fx.free Z 12) (by decide +kernel) (da_cons (de_varT (i := 2) (pv 2)) da_nil)))) (ds_one (ds_if (k := false) (Γ' := [4, 3, 2]) (db_w (dw_and (db_cmp op_dGe (de_subA z0.hu1 (de_varT (i := 2) (pv 2)) (de_var (i := 6) (pv 6)) (fun _ _ => rfl)) (de_op op_dPow (de_int (r := false)) (de_int (r := false))) (by rfl)) (dw_one (db_cmp op_dGt (de_subA z0.hu1 (de_varT (i := 3) (pv 3)) (de_var (i := 6) (pv 6)) (fun _ _ => rfl)) (de_int (r := false)) (by rfl))))) (ds_cons (ds_expr (k := true) (de_app (i := 4) (pv 4) (de_up (de_op op_dMod (de_callTy call_dInt (gl (by kernel_rfl)) (Fx.free Z 11) (by decide +kernel) (da_cons (de_subA z0.hu1 (de_varT (i := 3) (pv 3)) (de_var (i := 6) (pv 6)) (fun _ _ => rfl)) da_nil)) (de_int (r := false)))))) (ds_one (ds_putL (k := false) (o := 3) (pv 3) (de_var (i := 6) (pv 6)) (de_op op_dFdiv (de_subA z0.hu1 (de_varT (i := 3) (pv 3)) (de_var (i := 6) (pv 6)) (fun _ _ => rfl)) (de_int (r := false)))))) (ds_cons (ds_set (k := false) (i := 7) sc__law_draws.nd rfl (by first | exact Or.inl rfl | exact Or.inr rfl) (de_op op_dMod (de_callTy call_dInt (gl (by kernel_rfl)) (Fx.free Z 11) (by decide +kernel) (da_cons (de_op op_dAdd (de_op op_dAdd (de_op op_dMulI (de_subA z0.hu1 (de_varT (i := 2) (pv 2)) (de_var (i := 6) (pv 6)) (fun _ _ => rfl)) (de_int (r := false))) (de_op op_dMulI (de_var (i := 5) (pv 5)) (de_int (r := false)))) (de_int (r := false))) da_nil)) (de_int (r := false)))) (ds_one (ds_expr (k := true) (de_app (i := 4) (pv 4) (de_up (de_op op_dMod (de_callTy call_dInt (gl (by kernel_rfl)) (Fx.free Z 11) (by decide +kernel) (da_cons (de_op op_dAdd (de_op op_dAdd (de_op op_dMulI (de_var (i := 7) (pv 7)) (de_var (i := 7) (pv 7))) (de_op op_dMulI (de_int (r := false)) (de_var (i := 7) (pv 7)))) (de_var (i := 5) (pv 5))) da_nil)) (de_int (r := false)))))))))))) (dsf_cons (ds_expr (k := true) (de_rev (i := 4) (pv 4))) (dsf_ret (i := 4) (pv 4))))))))
theorem ok__law_take (Z : Fz K mg) (Zc : Cn K mg) : FnOk P w K mg base (L2.CX P w) 1 (He.ga K "_law_take") (fd__law_take Z) ["draws", "many"] (spI K mg 0 m__law_take) := by
  refine fn_own (P := P) (w := w) (base := base) (mg := mg) (N := ["draws", "many"]) (ps := ["draws", "many"]) (j := 0) (k := 0) (mb := b__law_take) (Γ' := []) (F__law_take Z) sc__law_take (by decide) (by decide) ?_
  intro cdv A outer s H E cs
  have z0 := cs.toCz
  exact (ds_cons (ds_if (k := false) (Γ' := []) (db_cmp (op_dEq z0.hu) (de_callB call_dLenA (gl (by kernel_rfl)) (Fx.free Z 12) (by decide +kernel) (da_cons (de_varT (i := 0) (pv 0)) da_nil)) (de_int (r := false)) (by rfl)) (ds_one (ds_ret (k := false) (de_int (r := false)))) ds_nil) (ds_one (ds_ret (k := true) (de_op op_dMod (de_callTy call_dInt (gl (by kernel_rfl)) (Fx.free Z 11) (by decide +kernel) (da_cons (de_pop (i := 0) (pv 0)) da_nil)) (de_up (de_var (i := 1) (pv 1)))))))
theorem ok__law_cell (Z : Fz K mg) (Zc : Cn K mg) : FnOk P w K mg base (L2.CX P w) 2 (He.ga K "_law_cell") (fd__law_cell Z) ["script", "draws"] (spI K mg 1 m__law_cell) := by
  refine fn_own (P := P) (w := w) (base := base) (mg := mg) (N := ["script", "draws"]) (ps := ["script", "draws"]) (j := 1) (k := 1) (mb := b__law_cell) (Γ' := []) (F__law_cell Z) sc__law_cell (by decide) (by decide) ?_
  intro cdv A outer s H E cs
  have z0 := cs.toCz
  exact (ds_cons (ds_if (k := false) (Γ' := []) (db_cmp (op_dEq z0.hu) (de_callB call_dLenA (gl (by kernel_rfl)) (Fx.free Z 12) (by decide +kernel) (da_cons (de_var (i := 0) (pv 0)) da_nil)) (de_int (r := false)) (by rfl)) (ds_one (ds_ret (k := false) (de_int (r := false)))) ds_nil) (ds_one (ds_ret (k := true) (de_op op_dMod (de_callB call_dAbs (gl (by kernel_rfl)) (Fx.free Z 16) (by decide +kernel) (da_cons (de_callTy call_dInt (gl (by kernel_rfl)) (Fx.free Z 11) (by decide +kernel) (da_cons (de_subA z0.hu1 (de_up (de_var (i := 0) (pv 0))) (de_callI (ok__law_take (P := P) (w := w) (base := base) Z Zc) z0.r (gl (by kernel_rfl)) (Fx.glo Z 15) (F__law_take Z).kp (b__law_take' Z) z0.pass (dar_at (i := 1) (pv 1) (dar_val (de_up (de_callB call_dLenA (gl (by kernel_rfl)) (Fx.free Z 12) (by decide +kernel) (da_cons (de_var (i := 0) (pv 0)) da_nil))) dar_nil))) (fun _ _ => rfl)) da_nil)) da_nil)) (de_up (de_op op_dPow (de_int (r := false)) (de_int (r := false))))))))
theorem ok0__law_same (Z : Fz K mg) (Zc : Cn K mg) : ∀ n, FnOk P w K mg base (L2.CX P w) (0 + n) (He.ga K "_law_same") (fd__law_same Z) ["actual", "due"] (spP K mg (m__law_same n))
  | 0 => fn_none
  | n + 1 => by
    have ih := ok0__law_same Z Zc n
    refine fn_pure (P := P) (w := w) (base := base) (mg := mg) (N := ["actual", "due", "k"]) (ps := ["actual", "due"]) (k := 0 + n) (mb := b__law_same (m__law_same n)) (Γ' := []) (F__law_same Z) sc__law_same (by decide) ?_
    intro cdv A outer s H E cs
    have z0 := cs.toCz
    exact (ds_cons (ds_if (k := false) (Γ' := []) (db_tru (de_isi (T := "bool") (by decide) (gl (by kernel_rfl)) (Fx.free Z 17) (gl (by kernel_rfl)) (Fx.free Z 18) (by decide +kernel) (de_var (i := 1) (pv 1)))) (ds_one (ds_ret (k := false) (de_and (de_isi (T := "bool") (by decide) (gl (by kernel_rfl)) (Fx.free Z 17) (gl (by kernel_rfl)) (Fx.free Z 18) (by decide +kernel) (de_var (i := 0) (pv 0))) (de_one (de_cmp (op_dEq z0.hu) (de_var (i := 0) (pv 0)) (de_var (i := 1) (pv 1)) (by rfl)))))) ds_nil) (ds_cons (ds_if (k := false) (Γ' := []) (db_tru (de_isi (T := "int") (by decide) (gl (by kernel_rfl)) (Fx.free Z 17) (gl (by kernel_rfl)) (Fx.free Z 11) (by decide +kernel) (de_var (i := 1) (pv 1)))) (ds_one (ds_ret (k := false) (de_and (de_isi (T := "int") (by decide) (gl (by kernel_rfl)) (Fx.free Z 17) (gl (by kernel_rfl)) (Fx.free Z 11) (by decide +kernel) (de_var (i := 0) (pv 0))) (de_and (de_not (de_isi (T := "bool") (by decide) (gl (by kernel_rfl)) (Fx.free Z 17) (gl (by kernel_rfl)) (Fx.free Z 18) (by decide +kernel) (de_var (i := 0) (pv 0)))) (de_one (de_cmp (op_dEq z0.hu) (de_var (i := 0) (pv 0)) (de_var (i := 1) (pv 1)) (by rfl))))))) ds_nil) (ds_cons (ds_if (k := false) (Γ' := []) (db_tru (de_isi (T := "str") (by decide) (gl (by kernel_rfl)) (Fx.free Z 17) (gl (by kernel_rfl)) (Fx.free Z 19) (by decide +kernel) (de_var (i := 1) (pv 1)))) (ds_one (ds_ret (k := false) (de_and (de_isi (T := "str") (by decide) (gl (by kernel_rfl)) (Fx.free Z 17) (gl (by kernel_rfl)) (Fx.free Z 19) (by decide +kernel) (de_var (i := 0) (pv 0))) (de_one (de_cmp (op_dEq z0.hu) (de_var (i := 0) (pv 0)) (de_var (i := 1) (pv 1)) (by rfl)))))) ds_nil) (ds_cons (ds_if (k := false) (Γ' := []) (db_cmp op_dIsN (de_var (i := 1) (pv 1)) (de_non (r := false)) (by rfl)) (ds_one (ds_ret (k := false) (de_cmp op_dIsN (de_var (i := 0) (pv 0)) (de_non (r := false)) (by rfl)))) ds_nil) (ds_cons (ds_if (k := false) (Γ' := []) (db_w (dw_or (db_not (db_tru (de_isi (T := "tuple") (by decide) (gl (by kernel_rfl)) (Fx.free Z 17) (gl (by kernel_rfl)) (Fx.free Z 0) (by decide +kernel) (de_var (i := 0) (pv 0))))) (dw_one (db_cmp (op_dNe z0.hu) (de_callB call_dLenA (gl (by kernel_rfl)) (Fx.free Z 12) (by decide +kernel) (da_cons (de_var (i := 0) (pv 0)) da_nil)) (de_callB call_dLenA (gl (by kernel_rfl)) (Fx.free Z 12) (by decide +kernel) (da_cons (de_var (i := 1) (pv 1)) da_nil)) (by rfl))))) (ds_one (ds_ret (k := false) (de_bl (r := false)))) ds_nil) (ds_cons (ds_for (k := false) (vs := [2]) cs.own z0.calm (di_rng1 (gl (by kernel_rfl)) (Fx.free Z 14) (da_cons (de_callB call_dLenA (gl (by kernel_rfl)) (Fx.free Z 12) (by decide +kernel) (da_cons (de_var (i := 1) (pv 1)) da_nil)) da_nil)) (dg_name (i := 2) sc__law_same.nd rfl (by first | exact Or.inl rfl | exact Or.inr rfl)) (ds_one (ds_if (k := false) (Γ' := []) (db_not (db_tru (de_callF (ih) z0.rm (gl (by kernel_rfl)) (Fx.glo Z 20) (F__law_same Z).kp (b__law_same' Z) z0.pass (da_cons (de_subA z0.hu1 (de_var (i := 0) (pv 0)) (de_var (i := 2) (pv 2)) (fun _ _ => rfl)) (da_cons (de_subA z0.hu1 (de_var (i := 1) (pv 1)) (de_var (i := 2) (pv 2)) (fun _ _ => rfl)) da_nil))))) (ds_one (ds_ret (k := false) (de_bl (r := false)))) ds_nil))) (ds_one (ds_ret (k := false) (de_bl (r := false))))))))))
theorem ok__law_same (Z : Fz K mg) (Zc : Cn K mg) : FnOk P w K mg base (L2.CX P w) 12 (He.ga K "_law_same") (fd__law_same Z) ["actual", "due"] (spP K mg (m__law_same 12)) := ok0__law_same Z Zc 12
theorem ok__law_tags (Z : Fz K mg) (Zc : Cn K mg) : FnOk P w K mg base (L2.CX P w) 2 (He.ga K "_law_tags") (fd__law_tags Z) ["draws", "cell", "many"] (spG K mg 0 m__law_tags) := by
  refine fn_ownF (P := P) (w := w) (base := base) (mg := mg) (N := ["draws", "cell", "many", "tag", "found", "k"]) (ps := ["draws", "cell", "many"]) (j := 0) (k := 1) (mb := b__law_tags) (F__law_tags Z) sc__law_tags (by decide) (by decide) ?_
  intro cdv A outer s H E cs
  have z0 := cs.toCz
  exact (dsg_cons (ds_set (k := true) (i := 3) sc__law_tags.nd rfl (by first | exact Or.inl rfl | exact Or.inr rfl) (de_subA z0.hu1 (de_lst (da_cons (de_up (de_int (r := false))) (da_cons (de_callI (ok__law_take (P := P) (w := w) (base := base) Z Zc) z0.r (gl (by kernel_rfl)) (Fx.glo Z 15) (F__law_take Z).kp (b__law_take' Z) z0.pass (dar_at (i := 0) (pv 0) (dar_val (de_up (de_int (r := false))) dar_nil))) (da_cons (de_up (de_var (i := 1) (pv 1))) da_nil)))) (de_callI (ok__law_take (P := P) (w := w) (base := base) Z Zc) z0.r (gl (by kernel_rfl)) (Fx.glo Z 15) (F__law_take Z).kp (b__law_take' Z) z0.pass (dar_at (i := 0) (pv 0) (dar_val (de_up (de_int (r := false))) dar_nil))) (fun _ _ => rfl))) (dsg_cons (ds_own (k := false) (i := 4) sc__law_tags.nd rfl (by first | exact Or.inl rfl | exact Or.inr rfl) (df_lst da_nil)) (dsg_cons (ds_for (k := false) (vs := [5]) cs.own z0.calm (di_rng1 (gl (by kernel_rfl)) (Fx.free Z 14) (da_cons (de_var (i := 2) (pv 2)) da_nil)) (dg_name (i := 5) sc__law_tags.nd rfl (by first | exact Or.inl rfl | exact Or.inr rfl)) (ds_cons (ds_expr (k := true) (de_app (i := 4) (pv 4) (de_up (de_var (i := 3) (pv 3))))) (ds_one (ds_set (k := true) (i := 3) sc__law_tags.nd rfl (by first | exact Or.inl rfl | exact Or.inr rfl) (de_op op_dAdd (de_up (de_op op_dAdd (de_var (i := 3) (pv 3)) (de_int (r := false)))) (de_subA z0.hu1 (de_lst (da_cons (de_up (de_int (r := false))) (da_cons (de_up (de_int (r := false))) (da_cons (de_callI (ok__law_take (P := P) (w := w) (base := base) Z Zc) z0.r (gl (by kernel_rfl)) (Fx.glo Z 15) (F__law_take Z).kp (b__law_take' Z) z0.pass (dar_at (i := 0) (pv 0) (dar_val (de_up (de_int (r := false))) dar_nil))) (da_cons (de_up (de_var (i := 1) (pv 1))) da_nil))))) (de_callI (ok__law_take (P := P) (w := w) (base := base) Z Zc) z0.r (gl (by kernel_rfl)) (Fx.glo Z 15) (F__law_take Z).kp (b__law_take' Z) z0.pass (dar_at (i := 0) (pv 0) (dar_val (de_up (de_int (r := false))) dar_nil))) (fun _ _ => rfl))))))) (dsg_ret (i := 4) (pv 4)))))
theorem ok__law_row_of (Z : Fz K mg) (Zc : Cn K mg) : FnOk P w K mg base (L2.CX P w) 2 (He.ga K "_law_row_of") (fd__law_row_of Z) ["draws", "tags"] (spI K mg 0 m__law_row_of) := by
  refine fn_own (P := P) (w := w) (base := base) (mg := mg) (N := ["draws", "tags", "left", "found", "k"]) (ps := ["draws", "tags"]) (j := 0) (k := 1) (mb := b__law_row_of) (Γ' := []) (F__law_row_of Z) sc__law_row_of (by decide) (by decide) ?_
  intro cdv A outer s H E cs
  have z0 := cs.toCz
  exact (ds_cons (ds_own (k := false) (i := 2) sc__law_row_of.nd rfl (by first | exact Or.inl rfl | exact Or.inr rfl) (df_list (gl (by kernel_rfl)) (Fx.free Z 13) (da_cons (de_var (i := 1) (pv 1)) da_nil))) (ds_cons (ds_own (k := false) (i := 3) sc__law_row_of.nd rfl (by first | exact Or.inl rfl | exact Or.inr rfl) (df_lst da_nil)) (ds_cons (ds_for (k := true) (vs := [4]) cs.own z0.calm (di_rng1 (gl (by kernel_rfl)) (Fx.free Z 14) (da_cons (de_callB (call_dMin z0.calm) (gl (by kernel_rfl)) (Fx.free Z 21) (by decide +kernel) (da_cons (de_up (de_callB call_dLenA (gl (by kernel_rfl)) (Fx.free Z 12) (by decide +kernel) (da_cons (de_varT (i := 2) (pv 2)) da_nil))) (da_cons (de_callI (ok__law_take (P := P) (w := w) (base := base) Z Zc) z0.r (gl (by kernel_rfl)) (Fx.glo Z 15) (F__law_take Z).kp (b__law_take' Z) z0.pass (dar_at (i := 0) (pv 0) (dar_val (de_up (de_int (r := false))) dar_nil))) da_nil))) da_nil)) (dg_name (i := 4) sc__law_row_of.nd rfl (by first | exact Or.inl rfl | exact Or.inr rfl)) (ds_one (ds_expr (k := true) (de_app (i := 3) (pv 3) (de_popAt (i := 2) (pv 2) (de_callI (ok__law_take (P := P) (w := w) (base := base) Z Zc) z0.r (gl (by kernel_rfl)) (Fx.glo Z 15) (F__law_take Z).kp (b__law_take' Z) z0.pass (dar_at (i := 0) (pv 0) (dar_val (de_up (de_callB call_dLenA (gl (by kernel_rfl)) (Fx.free Z 12) (by decide +kernel) (da_cons (de_varT (i := 2) (pv 2)) da_nil))) dar_nil)))))))) (ds_one (ds_ret (k := false) (de_callTy call_dTuple (gl (by kernel_rfl)) (Fx.free Z 0) (by decide +kernel) (da_cons (de_varT (i := 3) (pv 3)) da_nil)))))))
theorem ok__law_marks_of (Z : Fz K mg) (Zc : Cn K mg) : FnOk P w K mg base (L2.CX P w) 3 (He.ga K "_law_marks_of") (fd__law_marks_of Z) ["draws", "cell", "tags"] (spI K mg 0 m__law_marks_of) := by
  refine fn_own (P := P) (w := w) (base := base) (mg := mg) (N := ["draws", "cell", "tags", "found", "k"]) (ps := ["draws", "cell", "tags"]) (j := 0) (k := 2) (mb := b__law_marks_of) (Γ' := []) (F__law_marks_of Z) sc__law_marks_of (by decide) (by decide) ?_
  intro cdv A outer s H E cs
  have z0 := cs.toCz
  exact (ds_cons (ds_own (k := false) (i := 3) sc__law_marks_of.nd rfl (by first | exact Or.inl rfl | exact Or.inr rfl) (df_lst da_nil)) (ds_cons (ds_for (k := true) (vs := [4]) cs.own z0.calm (di_rng1 (gl (by kernel_rfl)) (Fx.free Z 14) (da_cons (de_callI (ok__law_take (P := P) (w := w) (base := base) Z Zc) z0.r (gl (by kernel_rfl)) (Fx.glo Z 15) (F__law_take Z).kp (b__law_take' Z) z0.pass (dar_at (i := 0) (pv 0) (dar_val (de_up (de_int (r := false))) dar_nil))) da_nil)) (dg_name (i := 4) sc__law_marks_of.nd rfl (by first | exact Or.inl rfl | exact Or.inr rfl)) (ds_one (ds_expr (k := true) (de_app (i := 3) (pv 3) (de_tup (da_cons (de_subA z0.hu1 (de_lst (da_cons (de_up (de_int (r := false))) (da_cons (de_callI (ok__law_take (P := P) (w := w) (base := base) Z Zc) z0.r (gl (by kernel_rfl)) (Fx.glo Z 15) (F__law_take Z).kp (b__law_take' Z) z0.pass (dar_at (i := 0) (pv 0) (dar_val (de_up (de_int (r := false))) dar_nil))) (da_cons (de_callI (ok__law_take (P := P) (w := w) (base := base) Z Zc) z0.r (gl (by kernel_rfl)) (Fx.glo Z 15) (F__law_take Z).kp (b__law_take' Z) z0.pass (dar_at (i := 0) (pv 0) (dar_val (de_up (de_int (r := false))) dar_nil))) (da_cons (de_up (de_var (i := 1) (pv 1))) da_nil))))) (de_callI (ok__law_take (P := P) (w := w) (base := base) Z Zc) z0.r (gl (by kernel_rfl)) (Fx.glo Z 15) (F__law_take Z).kp (b__law_take' Z) z0.pass (dar_at (i := 0) (pv 0) (dar_val (de_up (de_int (r := false))) dar_nil))) (fun _ _ => rfl)) (da_cons (de_callI (ok__law_row_of (P := P) (w := w) (base := base) Z Zc) z0.r (gl (by kernel_rfl)) (Fx.glo Z 22) (F__law_row_of Z).kp (b__law_row_of' Z) z0.pass (dar_at (i := 0) (pv 0) (dar_val (de_up (de_var (i := 2) (pv 2))) dar_nil))) da_nil))))))) (ds_one (ds_ret (k := false) (de_callTy call_dTuple (gl (by kernel_rfl)) (Fx.free Z 0) (by decide +kernel) (da_cons (de_sortSet z0.calm z0.hu (gl (by kernel_rfl)) (Fx.free Z 5) (gl (by kernel_rfl)) (Fx.free Z 6) (da_cons (de_varT (i := 3) (pv 3)) da_nil)) da_nil))))))
theorem ok__law_marked_store (Z : Fz K mg) (Zc : Cn K mg) : FnOk P w K mg base (L2.CX P w) 4 (He.ga K "_law_marked_store") (fd__law_marked_store Z) ["draws", "cell", "tags"] (spI K mg 0 m__law_marked_store) := by
  refine fn_own (P := P) (w := w) (base := base) (mg := mg) (N := ["draws", "cell", "tags", "rows", "known", "tag"]) (ps := ["draws", "cell", "tags"]) (j := 0) (k := 3) (mb := b__law_marked_store) (Γ' := []) (F__law_marked_store Z) sc__law_marked_store (by decide) (by decide) ?_
  intro cdv A outer s H E cs
  have z0 := cs.toCz
  exact (ds_cons (ds_set (k := true) (i := 3) sc__law_marked_store.nd rfl (by first | exact Or.inl rfl | exact Or.inr rfl) (de_callTy call_dTuple (gl (by kernel_rfl)) (Fx.free Z 0) (by decide +kernel) (da_cons (de_fresh (df_lc z0.calm sc__law_marked_store.nd (di_seq (de_up (de_var (i := 2) (pv 2)))) (blk_ok (own := [("tag", 5)]) (by kernel_rfl)) (fun _ _ _ _ _ => (dg_name (i := 5) sc__law_marked_store.nd rfl (by first | exact Or.inl rfl | exact Or.inr rfl))) (fun _ _ _ _ _ => dbs_nil) (fun _ _ _ _ _ => (de_tup (da_cons (de_up (de_var (i := 5) (pv 5))) (da_cons (de_subA (z0.blk _ _ _ _ _).hu1 (de_up (de_lst (da_cons (de_tup (da_cons (de_str (r := false)) (da_cons (de_tup (da_cons (de_int (r := false)) da_nil)) da_nil))) (da_cons (de_tup (da_cons (de_str (r := false)) (da_cons (de_tup da_nil) da_nil))) (da_cons (de_tup (da_cons (de_str (r := false)) (da_cons (de_tup (da_cons (de_int (r := false)) da_nil)) da_nil))) da_nil))))) (de_callI (ok__law_take (P := P) (w := w) (base := base) Z Zc) (z0.blk _ _ _ _ _).r (gl (by kernel_rfl)) (Fx.glo Z 15) (F__law_take Z).kp (b__law_take' Z) (z0.blk _ _ _ _ _).pass (dar_at (i := 0) (pv 0) (dar_val (de_up (de_int (r := false))) dar_nil))) (fun _ _ => rfl)) da_nil)))))) da_nil))) (ds_cons (ds_set (k := true) (i := 4) sc__law_marked_store.nd rfl (by first | exact Or.inl rfl | exact Or.inr rfl) (de_subA z0.hu1 (de_up (de_lst (da_cons (de_tup (da_cons (de_tup da_nil) (da_cons (de_tup da_nil) da_nil))) (da_cons (de_tup (da_cons (de_tup (da_cons (de_tup (da_cons (de_int (r := false)) (da_cons (de_int (r := false)) da_nil))) (da_cons (de_tup (da_cons (de_int (r := false)) (da_cons (de_int (r := false)) da_nil))) da_nil))) (da_cons (de_tup (da_cons (de_tup (da_cons (de_str (r := false)) (da_cons (de_int (r := false)) da_nil))) (da_cons (de_tup (da_cons (de_int (r := false)) (da_cons (de_str (r := false)) da_nil))) da_nil))) da_nil))) da_nil)))) (de_callI (ok__law_take (P := P) (w := w) (base := base) Z Zc) z0.r (gl (by kernel_rfl)) (Fx.glo Z 15) (F__law_take Z).kp (b__law_take' Z) z0.pass (dar_at (i := 0) (pv 0) (dar_val (de_up (de_int (r := false))) dar_nil))) (fun _ _ => rfl))) (ds_one (ds_ret (k := true) (de_tup (da_cons (de_op op_dAdd (de_up (de_op op_dAdd (de_subA z0.hu1 (de_op op_dAdd (de_lst (da_cons (de_int (r := false)) da_nil)) (de_var (i := 2) (pv 2))) (de_un un_dNeg (de_int (r := false))) (fun _ _ => rfl)) (de_int (r := false)))) (de_callI (ok__law_take (P := P) (w := w) (base := base) Z Zc) z0.r (gl (by kernel_rfl)) (Fx.glo Z 15) (F__law_take Z).kp (b__law_take' Z) z0.pass (dar_at (i := 0) (pv 0) (dar_val (de_up (de_int (r := false))) dar_nil)))) (da_cons (de_up (de_var (i := 3) (pv 3))) (da_cons (de_up (de_var (i := 4) (pv 4))) (da_cons (de_callI (ok__law_marks_of (P := P) (w := w) (base := base) Z Zc) z0.r (gl (by kernel_rfl)) (Fx.glo Z 23) (F__law_marks_of Z).kp (b__law_marks_of' Z) z0.pass (dar_at (i := 0) (pv 0) (dar_val (de_up (de_var (i := 1) (pv 1))) (dar_val (de_up (de_var (i := 2) (pv 2))) dar_nil)))) da_nil)))))))))
theorem ok__law_are_marks_right (Z : Fz K mg) (Zc : Cn K mg) : FnOk P w K mg base (L2.CX P w) 13 (He.ga K "_law_are_marks_right") (fd__law_are_marks_right Z) ["draws", "cell", "store", "tags"] (spI K mg 0 m__law_are_marks_right) := by
  refine fn_own (P := P) (w := w) (base := base) (mg := mg) (N := ["draws", "cell", "store", "tags", "marks", "asked", "number", "row", "tag", "later", "mark"]) (ps := ["draws", "cell", "store", "tags"]) (j := 0) (k := 12) (mb := b__law_are_marks_right) (Γ' := []) (F__law_are_marks_right Z) sc__law_are_marks_right (by decide) (by decide) ?_
  intro cdv A outer s H E cs
  have z0 := cs.toCz
  exact (ds_cons (ds_set (k := false) (i := 4) sc__law_are_marks_right.nd rfl (by first | exact Or.inl rfl | exact Or.inr rfl) (de_subA z0.hu1 (de_var (i := 2) (pv 2)) (de_int (r := false)) (fun _ _ => rfl))) (ds_cons (ds_set (k := true) (i := 5) sc__law_are_marks_right.nd rfl (by first | exact Or.inl rfl | exact Or.inr rfl) (de_op op_dAdd (de_up (de_callTy call_dList (gl (by kernel_rfl)) (Fx.free Z 13) (by decide +kernel) (da_cons (de_var (i := 4) (pv 4)) da_nil))) (de_lst (da_cons (de_tup (da_cons (de_callI (ok__law_take (P := P) (w := w) (base := base) Z Zc) z0.r (gl (by kernel_rfl)) (Fx.glo Z 15) (F__law_take Z).kp (b__law_take' Z) z0.pass (dar_at (i := 0) (pv 0) (dar_val (de_up (de_int (r := false))) dar_nil))) (da_cons (de_callI (ok__law_row_of (P := P) (w := w) (base := base) Z Zc) z0.r (gl (by kernel_rfl)) (Fx.glo Z 22) (F__law_row_of Z).kp (b__law_row_of' Z) z0.pass (dar_at (i := 0) (pv 0) (dar_val (de_up (de_var (i := 3) (pv 3))) dar_nil))) da_nil))) (da_cons (de_up (de_tup (da_cons (de_var (i := 1) (pv 1)) (da_cons (de_tup da_nil) da_nil)))) da_nil))))) (ds_cons (ds_for (k := false) (vs := [6, 7]) cs.own z0.calm (di_seq (de_var (i := 4) (pv 4))) (dg_tup (n := 2) z0.calm (dgs_cons (dg_name (i := 6) sc__law_are_marks_right.nd rfl (by first | exact Or.inl rfl | exact Or.inr rfl)) (dgs_cons (dg_name (i := 7) sc__law_are_marks_right.nd rfl (by first | exact Or.inl rfl | exact Or.inr rfl)) dgs_nil))) (ds_one (ds_set (k := false) (i := 5) sc__law_are_marks_right.nd rfl (by first | exact Or.inl rfl | exact Or.inr rfl) (de_op op_dAdd (de_var (i := 5) (pv 5)) (de_lst (da_cons (de_tup (da_cons (de_op op_dAdd (de_var (i := 6) (pv 6)) (de_int (r := false))) (da_cons (de_var (i := 7) (pv 7)) da_nil))) (da_cons (de_tup (da_cons (de_var (i := 6) (pv 6)) (da_cons (de_revA (de_var (i := 7) (pv 7))) da_nil))) (da_cons (de_tup (da_cons (de_var (i := 6) (pv 6)) (da_cons (de_sl (de_var (i := 7) (pv 7)) (do_some (de_int (r := false))) do_none) da_nil))) da_nil)))))))) (ds_cons (ds_for (k := false) (vs := [6, 7]) cs.own z0.calm (di_seq (de_var (i := 5) (pv 5))) (dg_tup (n := 2) z0.calm (dgs_cons (dg_name (i := 6) sc__law_are_marks_right.nd rfl (by first | exact Or.inl rfl | exact Or.inr rfl)) (dgs_cons (dg_name (i := 7) sc__law_are_marks_right.nd rfl (by first | exact Or.inl rfl | exact Or.inr rfl)) dgs_nil))) (ds_cons (ds_if (k := false) (Γ' := []) (db_not (db_tru (de_callF (ok__law_same (P := P) (w := w) (base := base) Z Zc) z0.r (gl (by kernel_rfl)) (Fx.glo Z 20) (F__law_same Z).kp (b__law_same' Z) z0.pass (da_cons (de_callF (ok_is_marked (P := P) (w := w) (base := base) Z Zc) z0.r (gl (by kernel_rfl)) (Fx.glo Z 24) (F_is_marked Z).kp (b_is_marked' Z) z0.pass (da_cons (de_var (i := 2) (pv 2)) (da_cons (de_var (i := 6) (pv 6)) (da_cons (de_var (i := 7) (pv 7)) da_nil)))) (da_cons (de_cmp (op_dInA z0.hu) (de_tup (da_cons (de_var (i := 6) (pv 6)) (da_cons (de_var (i := 7) (pv 7)) da_nil))) (de_var (i := 4) (pv 4)) (by rfl)) da_nil))))) (ds_one (ds_ret (k := false) (de_bl (r := false)))) ds_nil) (ds_cons (ds_set (k := false) (i := 9) sc__law_are_marks_right.nd rfl (by first | exact Or.inl rfl | exact Or.inr rfl) (de_callF (ok_with_mark (P := P) (w := w) (base := base) Z Zc) z0.r (gl (by kernel_rfl)) (Fx.glo Z 25) (F_with_mark Z).kp (b_with_mark' Z) z0.pass (da_cons (de_var (i := 2) (pv 2)) (da_cons (de_var (i := 6) (pv 6)) (da_cons (de_var (i := 7) (pv 7)) da_nil))))) (ds_one (ds_if (k := false) (Γ' := []) (db_w (dw_or (db_not (db_tru (de_callF (ok__law_same (P := P) (w := w) (base := base) Z Zc) z0.r (gl (by kernel_rfl)) (Fx.glo Z 20) (F__law_same Z).kp (b__law_same' Z) z0.pass (da_cons (de_var (i := 9) (pv 9)) (da_cons (de_op op_dAdd (de_sl (de_var (i := 2) (pv 2)) do_none (do_some (de_int (r := false)))) (de_tup (da_cons (de_callTy call_dTuple (gl (by kernel_rfl)) (Fx.free Z 0) (by decide +kernel) (da_cons (de_sortSet z0.calm z0.hu (gl (by kernel_rfl)) (Fx.free Z 5) (gl (by kernel_rfl)) (Fx.free Z 6) (da_cons (de_op op_dAdd (de_callTy call_dList (gl (by kernel_rfl)) (Fx.free Z 13) (by decide +kernel) (da_cons (de_var (i := 4) (pv 4)) da_nil)) (de_lst (da_cons (de_tup (da_cons (de_var (i := 6) (pv 6)) (da_cons (de_var (i := 7) (pv 7)) da_nil))) da_nil))) da_nil)) da_nil)) da_nil))) da_nil))))) (dw_one (db_not (db_tru (de_callF (ok__law_same (P := P) (w := w) (base := base) Z Zc) z0.r (gl (by kernel_rfl)) (Fx.glo Z 20) (F__law_same Z).kp (b__law_same' Z) z0.pass (da_cons (de_callF (ok_is_marked (P := P) (w := w) (base := base) Z Zc) z0.r (gl (by kernel_rfl)) (Fx.glo Z 24) (F_is_marked Z).kp (b_is_marked' Z) z0.pass (da_cons (de_var (i := 9) (pv 9)) (da_cons (de_var (i := 6) (pv 6)) (da_cons (de_var (i := 7) (pv 7)) da_nil)))) (da_cons (de_bl (r := false)) da_nil)))))))) (ds_one (ds_ret (k := false) (de_bl (r := false)))) ds_nil))))) (ds_cons (ds_for (k := false) (vs := [8]) cs.own z0.calm (di_seq (de_op op_dAdd (de_var (i := 3) (pv 3)) (de_lst (da_cons (de_subA z0.hu1 (de_var (i := 2) (pv 2)) (de_int (r := false)) (fun _ _ => rfl)) (da_cons (de_op op_dAdd (de_subA z0.hu1 (de_var (i := 2) (pv 2)) (de_int (r := false)) (fun _ _ => rfl)) (de_var (i := 1) (pv 1))) da_nil))))) (dg_name (i := 8) sc__law_are_marks_right.nd rfl (by first | exact Or.inl rfl | exact Or.inr rfl)) (ds_cons (ds_if (k := false) (Γ' := []) (db_not (db_tru (de_callF (ok__law_same (P := P) (w := w) (base := base) Z Zc) z0.r (gl (by kernel_rfl)) (Fx.glo Z 20) (F__law_same Z).kp (b__law_same' Z) z0.pass (da_cons (de_callF (ok_marks_with (P := P) (w := w) (base := base) Z Zc) z0.r (gl (by kernel_rfl)) (Fx.glo Z 26) (F_marks_with Z).kp (b_marks_with' Z) z0.pass (da_cons (de_var (i := 2) (pv 2)) (da_cons (de_var (i := 8) (pv 8)) da_nil))) (da_cons (de_callTy call_dTuple (gl (by kernel_rfl)) (Fx.free Z 0) (by decide +kernel) (da_cons (de_fresh (df_lc z0.calm sc__law_are_marks_right.nd (di_seq (de_var (i := 4) (pv 4))) (blk_ok (own := [("mark", 10)]) (by kernel_rfl)) (fun _ _ _ _ _ => (dg_name (i := 10) sc__law_are_marks_right.nd rfl (by first | exact Or.inl rfl | exact Or.inr rfl))) (fun _ _ _ _ _ => (dbs_one (db_cmp (op_dInA (z0.blk _ _ _ _ _).hu) (de_var (i := 8) (pv 8)) (de_subA (z0.blk _ _ _ _ _).hu1 (de_var (i := 10) (pv 10)) (de_int (r := false)) (fun _ _ => rfl)) (by rfl)))) (fun _ _ _ _ _ => (de_var (i := 10) (pv 10))))) da_nil)) da_nil))))) (ds_one (ds_ret (k := false) (de_bl (r := false)))) ds_nil) (ds_one (ds_if (k := false) (Γ' := []) (db_not (db_tru (de_callF (ok__law_same (P := P) (w := w) (base := base) Z Zc) z0.r (gl (by kernel_rfl)) (Fx.glo Z 20) (F__law_same Z).kp (b__law_same' Z) z0.pass (da_cons (de_callF (ok_marks_with (P := P) (w := w) (base := base) Z Zc) z0.r (gl (by kernel_rfl)) (Fx.glo Z 26) (F_marks_with Z).kp (b_marks_with' Z) z0.pass (da_cons (de_callF (ok_cleared (P := P) (w := w) (base := base) Z Zc) z0.r (gl (by kernel_rfl)) (Fx.glo Z 27) (F_cleared Z).kp (b_cleared' Z) z0.pass (da_cons (de_var (i := 2) (pv 2)) da_nil)) (da_cons (de_var (i := 8) (pv 8)) da_nil))) (da_cons (de_tup da_nil) da_nil))))) (ds_one (ds_ret (k := false) (de_bl (r := false)))) ds_nil)))) (ds_one (ds_ret (k := false) (de_callF (ok__law_same (P := P) (w := w) (base := base) Z Zc) z0.r (gl (by kernel_rfl)) (Fx.glo Z 20) (F__law_same Z).kp (b__law_same' Z) z0.pass (da_cons (de_callF (ok_cleared (P := P) (w := w) (base := base) Z Zc) z0.r (gl (by kernel_rfl)) (Fx.glo Z 27) (F_cleared Z).kp (b_cleared' Z) z0.pass (da_cons (de_var (i := 2) (pv 2)) da_nil)) (da_cons (de_op op_dAdd (de_sl (de_var (i := 2) (pv 2)) do_none (do_some (de_int (r := false)))) (de_tup (da_cons (de_tup da_nil) da_nil))) da_nil))))))))))
theorem ok__law_are_carried_right (Z : Fz K mg) (Zc : Cn K mg) : FnOk P w K mg base (L2.CX P w) 13 (He.ga K "_law_are_carried_right") (fd__law_are_carried_right Z) ["draws", "cell", "store", "tags"] (spI K mg 0 m__law_are_carried_right) := by
  refine fn_own (P := P) (w := w) (base := base) (mg := mg) (N := ["draws", "cell", "store", "tags", "marks", "some", "dead", "alive", "left", "change", "tag", "row", "due", "by", "moved", "mark", "number", "own", "later"]) (ps := ["draws", "cell", "store", "tags"]) (j := 0) (k := 12) (mb := b__law_are_carried_right) (Γ' := []) (F__law_are_carried_right Z) sc__law_are_carried_right (by decide) (by decide) ?_
  intro cdv A outer s H E cs
  have z0 := cs.toCz
  exact (ds_cons (ds_set (k := false) (i := 4) sc__law_are_carried_right.nd rfl (by first | exact Or.inl rfl | exact Or.inr rfl) (de_subA z0.hu1 (de_var (i := 2) (pv 2)) (de_int (r := false)) (fun _ _ => rfl))) (ds_cons (ds_set (k := true) (i := 5) sc__law_are_carried_right.nd rfl (by first | exact Or.inl rfl | exact Or.inr rfl) (de_fresh (df_lc z0.calm sc__law_are_carried_right.nd (di_seq (de_up (de_var (i := 3) (pv 3)))) (blk_ok (own := [("tag", 10)]) (by kernel_rfl)) (fun _ _ _ _ _ => (dg_name (i := 10) sc__law_are_carried_right.nd rfl (by first | exact Or.inl rfl | exact Or.inr rfl))) (fun _ _ _ _ _ => (dbs_one (db_cmp op_dGt (de_callI (ok__law_take (P := P) (w := w) (base := base) Z Zc) (z0.blk _ _ _ _ _).r (gl (by kernel_rfl)) (Fx.glo Z 15) (F__law_take Z).kp (b__law_take' Z) (z0.blk _ _ _ _ _).pass (dar_at (i := 0) (pv 0) (dar_val (de_up (de_int (r := false))) dar_nil))) (de_up (de_int (r := false))) (by rfl)))) (fun _ _ _ _ _ => (de_up (de_var (i := 10) (pv 10))))))) (ds_cons (ds_set (k := false) (i := 6) sc__law_are_carried_right.nd rfl (by first | exact Or.inl rfl | exact Or.inr rfl) (de_callTy call_dTuple (gl (by kernel_rfl)) (Fx.free Z 0) (by decide +kernel) (da_cons (de_fresh (df_lc z0.calm sc__law_are_carried_right.nd (di_seq (de_var (i := 4) (pv 4))) (blk_ok (own := [("mark", 15)]) (by kernel_rfl)) (fun _ _ _ _ _ => (dg_name (i := 15) sc__law_are_carried_right.nd rfl (by first | exact Or.inl rfl | exact Or.inr rfl))) (fun _ _ _ _ _ => (dbs_one (db_cmp op_dGt (de_callB call_dLenA (gl (by kernel_rfl)) (Fx.free Z 12) (by decide +kernel) (da_cons (de_fresh (df_lc (z0.blk _ _ _ _ _).calm sc__law_are_carried_right.nd (di_seq (de_subA (z0.blk _ _ _ _ _).hu1 (de_var (i := 15) (pv 15)) (de_int (r := false)) (fun _ _ => rfl))) (blk_ok (own := [("tag", 10)]) (by kernel_rfl)) (fun _ _ _ _ _ => (dg_name (i := 10) sc__law_are_carried_right.nd rfl (by first | exact Or.inl rfl | exact Or.inr rfl))) (fun _ _ _ _ _ => (dbs_one (db_cmp (op_dNotInA ((z0.blk _ _ _ _ _).blk _ _ _ _ _).hu) (de_var (i := 10) (pv 10)) (de_var (i := 5) (pv 5)) (by rfl)))) (fun _ _ _ _ _ => (de_var (i := 10) (pv 10))))) da_nil)) (de_int (r := false)) (by rfl)))) (fun _ _ _ _ _ => (de_var (i := 15) (pv 15))))) da_nil))) (ds_cons (ds_set (k := false) (i := 7) sc__law_are_carried_right.nd rfl (by first | exact Or.inl rfl | exact Or.inr rfl) (de_callTy call_dTuple (gl (by kernel_rfl)) (Fx.free Z 0) (by decide +kernel) (da_cons (de_fresh (df_lc z0.calm sc__law_are_carried_right.nd (di_seq (de_var (i := 4) (pv 4))) (blk_ok (own := [("mark", 15)]) (by kernel_rfl)) (fun _ _ _ _ _ => (dg_name (i := 15) sc__law_are_carried_right.nd rfl (by first | exact Or.inl rfl | exact Or.inr rfl))) (fun _ _ _ _ _ => (dbs_one (db_cmp (op_dNotInA (z0.blk _ _ _ _ _).hu) (de_var (i := 15) (pv 15)) (de_var (i := 6) (pv 6)) (by rfl)))) (fun _ _ _ _ _ => (de_var (i := 15) (pv 15))))) da_nil))) (ds_cons (ds_if (k := false) (Γ' := []) (db_w (dw_or (db_not (db_tru (de_callF (ok__law_same (P := P) (w := w) (base := base) Z Zc) z0.r (gl (by kernel_rfl)) (Fx.glo Z 20) (F__law_same Z).kp (b__law_same' Z) z0.pass (da_cons (de_callF (ok_dead_marks (P := P) (w := w) (base := base) Z Zc) z0.r (gl (by kernel_rfl)) (Fx.glo Z 28) (F_dead_marks Z).kp (b_dead_marks' Z) z0.pass (da_cons (de_var (i := 4) (pv 4)) (da_cons (de_callTy call_dTuple (gl (by kernel_rfl)) (Fx.free Z 0) (by decide +kernel) (da_cons (de_var (i := 5) (pv 5)) da_nil)) da_nil))) (da_cons (de_var (i := 6) (pv 6)) da_nil))))) (dw_one (db_not (db_tru (de_callF (ok__law_same (P := P) (w := w) (base := base) Z Zc) z0.r (gl (by kernel_rfl)) (Fx.glo Z 20) (F__law_same Z).kp (b__law_same' Z) z0.pass (da_cons (de_callF (ok_dead_marks (P := P) (w := w) (base := base) Z Zc) z0.r (gl (by kernel_rfl)) (Fx.glo Z 28) (F_dead_marks Z).kp (b_dead_marks' Z) z0.pass (da_cons (de_var (i := 4) (pv 4)) (da_cons (de_callTy call_dTuple (gl (by kernel_rfl)) (Fx.free Z 0) (by decide +kernel) (da_cons (de_var (i := 3) (pv 3)) da_nil)) da_nil))) (da_cons (de_tup da_nil) da_nil)))))))) (ds_one (ds_ret (k := false) (de_bl (r := false)))) ds_nil) (ds_cons (ds_if (k := false) (Γ' := []) (db_not (db_tru (de_callF (ok__law_same (P := P) (w := w) (base := base) Z Zc) z0.r (gl (by kernel_rfl)) (Fx.glo Z 20) (F__law_same Z).kp (b__law_same' Z) z0.pass (da_cons (de_subA z0.hu1 (de_callF (ok_without_tags (P := P) (w := w) (base := base) Z Zc) z0.r (gl (by kernel_rfl)) (Fx.glo Z 29) (F_without_tags Z).kp (b_without_tags' Z) z0.pass (da_cons (de_var (i := 2) (pv 2)) (da_cons (de_callTy call_dTuple (gl (by kernel_rfl)) (Fx.free Z 0) (by decide +kernel) (da_cons (de_fresh (df_lc z0.calm sc__law_are_carried_right.nd (di_seq (de_var (i := 3) (pv 3))) (blk_ok (own := [("tag", 10)]) (by kernel_rfl)) (fun _ _ _ _ _ => (dg_name (i := 10) sc__law_are_carried_right.nd rfl (by first | exact Or.inl rfl | exact Or.inr rfl))) (fun _ _ _ _ _ => (dbs_one (db_cmp (op_dNotInA (z0.blk _ _ _ _ _).hu) (de_var (i := 10) (pv 10)) (de_var (i := 5) (pv 5)) (by rfl)))) (fun _ _ _ _ _ => (de_var (i := 10) (pv 10))))) da_nil)) da_nil))) (de_int (r := false)) (fun _ _ => rfl)) (da_cons (de_var (i := 7) (pv 7)) da_nil))))) (ds_one (ds_ret (k := false) (de_bl (r := false)))) ds_nil) (ds_cons (ds_own (k := true) (i := 8) sc__law_are_carried_right.nd rfl (by first | exact Or.inl rfl | exact Or.inr rfl) (df_callG (ok__law_tags (P := P) (w := w) (base := base) Z Zc) z0.r (gl (by kernel_rfl)) (Fx.glo Z 30) (F__law_tags Z).kp (b__law_tags' Z) z0.pass (dar_at (i := 0) (pv 0) (dar_val (de_up (de_var (i := 1) (pv 1))) (dar_val (de_up (de_callB call_dLenA (gl (by kernel_rfl)) (Fx.free Z 12) (by decide +kernel) (da_cons (de_var (i := 5) (pv 5)) da_nil))) dar_nil))))) (ds_cons (ds_own (k := false) (i := 9) sc__law_are_carried_right.nd rfl (by first | exact Or.inl rfl | exact Or.inr rfl) df_dict) (ds_cons (ds_for (k := false) (vs := [10]) cs.own z0.calm (di_seq (de_var (i := 5) (pv 5))) (dg_name (i := 10) sc__law_are_carried_right.nd rfl (by first | exact Or.inl rfl | exact Or.inr rfl)) (ds_one (ds_putD (k := true) (o := 9) z0.hu1 (pv 9) (de_var (i := 10) (pv 10)) (de_popAt (i := 8) (pv 8) (de_callI (ok__law_take (P := P) (w := w) (base := base) Z Zc) z0.r (gl (by kernel_rfl)) (Fx.glo Z 15) (F__law_take Z).kp (b__law_take' Z) z0.pass (dar_at (i := 0) (pv 0) (dar_val (de_up (de_callB call_dLenA (gl (by kernel_rfl)) (Fx.free Z 12) (by decide +kernel) (da_cons (de_varT (i := 8) (pv 8)) da_nil))) dar_nil))))))) (ds_cons (ds_set (k := false) (i := 11) sc__law_are_carried_right.nd rfl (by first | exact Or.inl rfl | exact Or.inr rfl) (de_callTy call_dTuple (gl (by kernel_rfl)) (Fx.free Z 0) (by decide +kernel) (da_cons (de_fresh (df_lc z0.calm sc__law_are_carried_right.nd (di_seq (de_var (i := 5) (pv 5))) (blk_ok (own := [("tag", 10)]) (by kernel_rfl)) (fun _ _ _ _ _ => (dg_name (i := 10) sc__law_are_carried_right.nd rfl (by first | exact Or.inl rfl | exact Or.inr rfl))) (fun _ _ _ _ _ => dbs_nil) (fun _ _ _ _ _ => (de_tup (da_cons (de_var (i := 10) (pv 10)) (da_cons (de_subA (z0.blk _ _ _ _ _).hu1 (de_varT (i := 9) (pv 9)) (de_var (i := 10) (pv 10)) (fun _ _ => rfl)) da_nil)))))) da_nil))) (ds_cons (ds_set (k := false) (i := 12) sc__law_are_carried_right.nd rfl (by first | exact Or.inl rfl | exact Or.inr rfl) (de_callTy call_dTuple (gl (by kernel_rfl)) (Fx.free Z 0) (by decide +kernel) (da_cons (de_sorted z0.hu (gl (by kernel_rfl)) (Fx.free Z 5) (da_cons (de_fresh (df_lc z0.calm sc__law_are_carried_right.nd (di_seq (de_var (i := 7) (pv 7))) (blk_ok (own := [("number", 16), ("own", 17)]) (by kernel_rfl)) (fun _ _ _ _ _ => (dg_tup (n := 2) (z0.blk _ _ _ _ _).calm (dgs_cons (dg_name (i := 16) sc__law_are_carried_right.nd rfl (by first | exact Or.inl rfl | exact Or.inr rfl)) (dgs_cons (dg_name (i := 17) sc__law_are_carried_right.nd rfl (by first | exact Or.inl rfl | exact Or.inr rfl)) dgs_nil)))) (fun _ _ _ _ _ => dbs_nil) (fun _ _ _ _ _ => (de_tup (da_cons (de_var (i := 16) (pv 16)) (da_cons (de_callTy call_dTuple (gl (by kernel_rfl)) (Fx.free Z 0) (by decide +kernel) (da_cons (de_fresh (df_lc (z0.blk _ _ _ _ _).calm sc__law_are_carried_right.nd (di_seq (de_var (i := 17) (pv 17))) (blk_ok (own := [("tag", 10)]) (by kernel_rfl)) (fun _ _ _ _ _ => (dg_name (i := 10) sc__law_are_carried_right.nd rfl (by first | exact Or.inl rfl | exact Or.inr rfl))) (fun _ _ _ _ _ => dbs_nil) (fun _ _ _ _ _ => (de_subA ((z0.blk _ _ _ _ _).blk _ _ _ _ _).hu1 (de_varT (i := 9) (pv 9)) (de_var (i := 10) (pv 10)) (fun _ _ => rfl))))) da_nil)) da_nil)))))) da_nil)) da_nil))) (ds_cons (ds_if (k := false) (Γ' := [9, 8]) (db_not (db_tru (de_callF (ok__law_same (P := P) (w := w) (base := base) Z Zc) z0.r (gl (by kernel_rfl)) (Fx.glo Z 20) (F__law_same Z).kp (b__law_same' Z) z0.pass (da_cons (de_callF (ok_marks_carried (P := P) (w := w) (base := base) Z Zc) z0.r (gl (by kernel_rfl)) (Fx.glo Z 31) (F_marks_carried Z).kp (b_marks_carried' Z) z0.pass (da_cons (de_var (i := 4) (pv 4)) (da_cons (de_var (i := 11) (pv 11)) da_nil))) (da_cons (de_var (i := 12) (pv 12)) da_nil))))) (ds_one (ds_ret (k := false) (de_bl (r := false)))) ds_nil) (ds_cons (ds_if (k := false) (Γ' := [9, 8]) (db_not (db_tru (de_callF (ok__law_same (P := P) (w := w) (base := base) Z Zc) z0.r (gl (by kernel_rfl)) (Fx.glo Z 20) (F__law_same Z).kp (b__law_same' Z) z0.pass (da_cons (de_callF (ok_marks_carried (P := P) (w := w) (base := base) Z Zc) z0.r (gl (by kernel_rfl)) (Fx.glo Z 31) (F_marks_carried Z).kp (b_marks_carried' Z) z0.pass (da_cons (de_var (i := 12) (pv 12)) (da_cons (de_callTy call_dTuple (gl (by kernel_rfl)) (Fx.free Z 0) (by decide +kernel) (da_cons (de_sorted z0.hu (gl (by kernel_rfl)) (Fx.free Z 5) (da_cons (de_fresh (df_lc z0.calm sc__law_are_carried_right.nd (di_seq (de_var (i := 11) (pv 11))) (blk_ok (own := [("tag", 10), ("later", 18)]) (by kernel_rfl)) (fun _ _ _ _ _ => (dg_tup (n := 2) (z0.blk _ _ _ _ _).calm (dgs_cons (dg_name (i := 10) sc__law_are_carried_right.nd rfl (by first | exact Or.inl rfl | exact Or.inr rfl)) (dgs_cons (dg_name (i := 18) sc__law_are_carried_right.nd rfl (by first | exact Or.inl rfl | exact Or.inr rfl)) dgs_nil)))) (fun _ _ _ _ _ => dbs_nil) (fun _ _ _ _ _ => (de_tup (da_cons (de_var (i := 18) (pv 18)) (da_cons (de_var (i := 10) (pv 10)) da_nil)))))) da_nil)) da_nil)) da_nil))) (da_cons (de_var (i := 7) (pv 7)) da_nil))))) (ds_one (ds_ret (k := false) (de_bl (r := false)))) ds_nil) (ds_cons (ds_set (k := true) (i := 13) sc__law_are_carried_right.nd rfl (by first | exact Or.inl rfl | exact Or.inr rfl) (de_subA z0.hu1 (de_lst (da_cons (de_up (de_int (r := false))) (da_cons (de_up (de_int (r := false))) (da_cons (de_callI (ok__law_take (P := P) (w := w) (base := base) Z Zc) z0.r (gl (by kernel_rfl)) (Fx.glo Z 15) (F__law_take Z).kp (b__law_take' Z) z0.pass (dar_at (i := 0) (pv 0) (dar_val (de_up (de_int (r := false))) dar_nil))) (da_cons (de_up (de_var (i := 1) (pv 1))) da_nil))))) (de_callI (ok__law_take (P := P) (w := w) (base := base) Z Zc) z0.r (gl (by kernel_rfl)) (Fx.glo Z 15) (F__law_take Z).kp (b__law_take' Z) z0.pass (dar_at (i := 0) (pv 0) (dar_val (de_up (de_int (r := false))) dar_nil))) (fun _ _ => rfl))) (ds_cons (ds_set (k := false) (i := 14) sc__law_are_carried_right.nd rfl (by first | exact Or.inl rfl | exact Or.inr rfl) (de_callTy call_dTuple (gl (by kernel_rfl)) (Fx.free Z 0) (by decide +kernel) (da_cons (de_fresh (df_lc z0.calm sc__law_are_carried_right.nd (di_seq (de_var (i := 4) (pv 4))) (blk_ok (own := [("number", 16), ("own", 17)]) (by kernel_rfl)) (fun _ _ _ _ _ => (dg_tup (n := 2) (z0.blk _ _ _ _ _).calm (dgs_cons (dg_name (i := 16) sc__law_are_carried_right.nd rfl (by first | exact Or.inl rfl | exact Or.inr rfl)) (dgs_cons (dg_name (i := 17) sc__law_are_carried_right.nd rfl (by first | exact Or.inl rfl | exact Or.inr rfl)) dgs_nil)))) (fun _ _ _ _ _ => dbs_nil) (fun _ _ _ _ _ => (de_tup (da_cons (de_op op_dAdd (de_var (i := 16) (pv 16)) (de_var (i := 13) (pv 13))) (da_cons (de_var (i := 17) (pv 17)) da_nil)))))) da_nil))) (ds_cons (ds_if (k := false) (Γ' := [9, 8]) (db_w (dw_or (db_not (db_tru (de_callF (ok__law_same (P := P) (w := w) (base := base) Z Zc) z0.r (gl (by kernel_rfl)) (Fx.glo Z 20) (F__law_same Z).kp (b__law_same' Z) z0.pass (da_cons (de_callF (ok_marks_moved (P := P) (w := w) (base := base) Z Zc) z0.r (gl (by kernel_rfl)) (Fx.glo Z 32) (F_marks_moved Z).kp (b_marks_moved' Z) z0.pass (da_cons (de_var (i := 4) (pv 4)) (da_cons (de_var (i := 13) (pv 13)) da_nil))) (da_cons (de_var (i := 14) (pv 14)) da_nil))))) (dw_one (db_not (db_tru (de_callF (ok__law_same (P := P) (w := w) (base := base) Z Zc) z0.r (gl (by kernel_rfl)) (Fx.glo Z 20) (F__law_same Z).kp (b__law_same' Z) z0.pass (da_cons (de_callF (ok_marks_moved (P := P) (w := w) (base := base) Z Zc) z0.r (gl (by kernel_rfl)) (Fx.glo Z 32) (F_marks_moved Z).kp (b_marks_moved' Z) z0.pass (da_cons (de_var (i := 12) (pv 12)) (da_cons (de_var (i := 13) (pv 13)) da_nil))) (da_cons (de_callF (ok_marks_carried (P := P) (w := w) (base := base) Z Zc) z0.r (gl (by kernel_rfl)) (Fx.glo Z 31) (F_marks_carried Z).kp (b_marks_carried' Z) z0.pass (da_cons (de_var (i := 14) (pv 14)) (da_cons (de_var (i := 11) (pv 11)) da_nil))) da_nil)))))))) (ds_one (ds_ret (k := false) (de_bl (r := false)))) ds_nil) (ds_one (ds_ret (k := false) (de_callF (ok__law_same (P := P) (w := w) (base := base) Z Zc) z0.r (gl (by kernel_rfl)) (Fx.glo Z 20) (F__law_same Z).kp (b__law_same' Z) z0.pass (da_cons (de_callF (ok_marks_carried (P := P) (w := w) (base := base) Z Zc) z0.r (gl (by kernel_rfl)) (Fx.glo Z 31) (F_marks_carried Z).kp (b_marks_carried' Z) z0.pass (da_cons (de_var (i := 4) (pv 4)) (da_cons (de_tup da_nil) da_nil))) (da_cons (de_callTy call_dTuple (gl (by kernel_rfl)) (Fx.free Z 0) (by decide +kernel) (da_cons (de_fresh (df_lc z0.calm sc__law_are_carried_right.nd (di_seq (de_var (i := 4) (pv 4))) (blk_ok (own := [("mark", 15)]) (by kernel_rfl)) (fun _ _ _ _ _ => (dg_name (i := 15) sc__law_are_carried_right.nd rfl (by first | exact Or.inl rfl | exact Or.inr rfl))) (fun _ _ _ _ _ => (dbs_one (db_cmp (op_dEq (z0.blk _ _ _ _ _).hu) (de_subA (z0.blk _ _ _ _ _).hu1 (de_var (i := 15) (pv 15)) (de_int (r := false)) (fun _ _ => rfl)) (de_tup da_nil) (by rfl)))) (fun _ _ _ _ _ => (de_var (i := 15) (pv 15))))) da_nil)) da_nil)))))))))))))))))))))
theorem ok_law (Z : Fz K mg) (Zc : Cn K mg) : FnOk P w K mg base (L2.CX P w) 14 (He.ga K "law") (fd_law Z) ["script"] (spP K mg m_law) := by
  refine fn_pure (P := P) (w := w) (base := base) (mg := mg) (N := ["script", "draws", "cell", "turn", "some", "tags", "store", "again"]) (ps := ["script"]) (k := 13) (mb := b_law) (Γ' := []) (F_law Z) sc_law (by decide) ?_
  intro cdv A outer s H E cs
  have z0 := cs.toCz
  exact (ds_cons (ds_own (k := false) (i := 1) sc_law.nd rfl (by first | exact Or.inl rfl | exact Or.inr rfl) (df_callF (ok__law_draws (P := P) (w := w) (base := base) Z Zc) z0.r (gl (by kernel_rfl)) (Fx.glo Z 33) (F__law_draws Z).kp (b__law_draws' Z) z0.pass (da_cons (de_var (i := 0) (pv 0)) (da_cons (de_int (r := false)) da_nil)))) (ds_cons (ds_set (k := true) (i := 2) sc_law.nd rfl (by first | exact Or.inl rfl | exact Or.inr rfl) (de_callI (ok__law_cell (P := P) (w := w) (base := base) Z Zc) z0.r (gl (by kernel_rfl)) (Fx.glo Z 34) (F__law_cell Z).kp (b__law_cell' Z) z0.pass (dar_val (de_up (de_var (i := 0) (pv 0))) (dar_at (i := 1) (pv 1) dar_nil)))) (ds_cons (ds_for (k := false) (vs := [3]) cs.own z0.calm (di_rng1 (gl (by kernel_rfl)) (Fx.free Z 14) (da_cons (de_int (r := false)) da_nil)) (dg_name (i := 3) sc_law.nd rfl (by first | exact Or.inl rfl | exact Or.inr rfl)) (ds_cons (ds_set (k := true) (i := 5) sc_law.nd rfl (by first | exact Or.inl rfl | exact Or.inr rfl) (de_fresh (df_callG (ok__law_tags (P := P) (w := w) (base := base) Z Zc) z0.r (gl (by kernel_rfl)) (Fx.glo Z 30) (F__law_tags Z).kp (b__law_tags' Z) z0.pass (dar_at (i := 1) (pv 1) (dar_val (de_up (de_var (i := 2) (pv 2))) (dar_val (de_callI (ok__law_take (P := P) (w := w) (base := base) Z Zc) z0.r (gl (by kernel_rfl)) (Fx.glo Z 15) (F__law_take Z).kp (b__law_take' Z) z0.pass (dar_at (i := 1) (pv 1) (dar_val (de_up (de_int (r := false))) dar_nil))) dar_nil)))))) (ds_cons (ds_set (k := true) (i := 6) sc_law.nd rfl (by first | exact Or.inl rfl | exact Or.inr rfl) (de_callI (ok__law_marked_store (P := P) (w := w) (base := base) Z Zc) z0.r (gl (by kernel_rfl)) (Fx.glo Z 35) (F__law_marked_store Z).kp (b__law_marked_store' Z) z0.pass (dar_at (i := 1) (pv 1) (dar_val (de_up (de_var (i := 2) (pv 2))) (dar_val (de_up (de_var (i := 5) (pv 5))) dar_nil))))) (ds_one (ds_for (k := false) (vs := [7]) cs.own z0.calm (di_rng1 (gl (by kernel_rfl)) (Fx.free Z 14) (da_cons (de_int (r := false)) da_nil)) (dg_name (i := 7) sc_law.nd rfl (by first | exact Or.inl rfl | exact Or.inr rfl)) (ds_one (ds_if (k := true) (Γ' := [1]) (db_w (dw_or (db_not (db_tru (de_callI (ok__law_are_marks_right (P := P) (w := w) (base := base) Z Zc) z0.r (gl (by kernel_rfl)) (Fx.glo Z 36) (F__law_are_marks_right Z).kp (b__law_are_marks_right' Z) z0.pass (dar_at (i := 1) (pv 1) (dar_val (de_up (de_var (i := 2) (pv 2))) (dar_val (de_up (de_var (i := 6) (pv 6))) (dar_val (de_up (de_var (i := 5) (pv 5))) dar_nil))))))) (dw_one (db_not (db_tru (de_callI (ok__law_are_carried_right (P := P) (w := w) (base := base) Z Zc) z0.r (gl (by kernel_rfl)) (Fx.glo Z 37) (F__law_are_carried_right Z).kp (b__law_are_carried_right' Z) z0.pass (dar_at (i := 1) (pv 1) (dar_val (de_up (de_var (i := 2) (pv 2))) (dar_val (de_up (de_var (i := 6) (pv 6))) (dar_val (de_up (de_var (i := 5) (pv 5))) dar_nil)))))))))) (ds_one (ds_ret (k := false) (de_bl (r := false)))) ds_nil))))))) (ds_cons (ds_set (k := false) (i := 4) sc_law.nd rfl (by first | exact Or.inl rfl | exact Or.inr rfl) (de_tup (da_cons (de_int (r := false)) (da_cons (de_tup (da_cons (de_tup (da_cons (de_int (r := false)) (da_cons (de_tup (da_cons (de_str (r := false)) (da_cons (de_tup da_nil) da_nil))) da_nil))) (da_cons (de_tup (da_cons (de_int (r := false)) (da_cons (de_tup (da_cons (de_str (r := false)) (da_cons (de_tup da_nil) da_nil))) da_nil))) (da_cons (de_tup (da_cons (de_int (r := false)) (da_cons (de_tup (da_cons (de_str (r := false)) (da_cons (de_tup da_nil) da_nil))) da_nil))) da_nil)))) (da_cons (de_tup (da_cons (de_tup da_nil) (da_cons (de_tup da_nil) da_nil))) (da_cons (de_tup (da_cons (de_tup (da_cons (de_int (r := false)) (da_cons (de_tup (da_cons (de_int (r := false)) da_nil)) da_nil))) (da_cons (de_tup (da_cons (de_int (r := false)) (da_cons (de_tup da_nil) da_nil))) (da_cons (de_tup (da_cons (de_int (r := false)) (da_cons (de_tup (da_cons (de_int (r := false)) (da_cons (de_int (r := false)) da_nil))) da_nil))) da_nil)))) da_nil)))))) (ds_cons (ds_if (k := false) (Γ' := [1]) (db_w (dw_or (db_not (db_tru (de_callF (ok__law_same (P := P) (w := w) (base := base) Z Zc) z0.r (gl (by kernel_rfl)) (Fx.glo Z 20) (F__law_same Z).kp (b__law_same' Z) z0.pass (da_cons (de_callF (ok_with_mark (P := P) (w := w) (base := base) Z Zc) z0.r (gl (by kernel_rfl)) (Fx.glo Z 25) (F_with_mark Z).kp (b_with_mark' Z) z0.pass (da_cons (de_var (i := 4) (pv 4)) (da_cons (de_int (r := false)) (da_cons (de_tup (da_cons (de_int (r := false)) (da_cons (de_int (r := false)) da_nil))) da_nil)))) (da_cons (de_op op_dAdd (de_sl (de_var (i := 4) (pv 4)) do_none (do_some (de_int (r := false)))) (de_tup (da_cons (de_tup (da_cons (de_tup (da_cons (de_int (r := false)) (da_cons (de_tup (da_cons (de_int (r := false)) da_nil)) da_nil))) (da_cons (de_tup (da_cons (de_int (r := false)) (da_cons (de_tup (da_cons (de_int (r := false)) (da_cons (de_int (r := false)) da_nil))) da_nil))) (da_cons (de_tup (da_cons (de_int (r := false)) (da_cons (de_tup da_nil) da_nil))) (da_cons (de_tup (da_cons (de_int (r := false)) (da_cons (de_tup (da_cons (de_int (r := false)) (da_cons (de_int (r := false)) da_nil))) da_nil))) da_nil))))) da_nil))) da_nil))))) (dw_one (db_not (db_tru (de_callF (ok__law_same (P := P) (w := w) (base := base) Z Zc) z0.r (gl (by kernel_rfl)) (Fx.glo Z 20) (F__law_same Z).kp (b__law_same' Z) z0.pass (da_cons (de_callF (ok_with_mark (P := P) (w := w) (base := base) Z Zc) z0.r (gl (by kernel_rfl)) (Fx.glo Z 25) (F_with_mark Z).kp (b_with_mark' Z) z0.pass (da_cons (de_var (i := 4) (pv 4)) (da_cons (de_int (r := false)) (da_cons (de_tup da_nil) da_nil)))) (da_cons (de_var (i := 4) (pv 4)) da_nil)))))))) (ds_one (ds_ret (k := false) (de_bl (r := false)))) ds_nil) (ds_cons (ds_if (k := false) (Γ' := [1]) (db_w (dw_or (db_cmp op_dNotB (de_callF (ok_is_marked (P := P) (w := w) (base := base) Z Zc) z0.r (gl (by kernel_rfl)) (Fx.glo Z 24) (F_is_marked Z).kp (b_is_marked' Z) z0.pass (da_cons (de_var (i := 4) (pv 4)) (da_cons (de_int (r := false)) (da_cons (de_tup (da_cons (de_int (r := false)) (da_cons (de_int (r := false)) da_nil))) da_nil)))) (de_bl (r := false)) (by rfl)) (dw_or (db_cmp op_dNotB (de_callF (ok_is_marked (P := P) (w := w) (base := base) Z Zc) z0.r (gl (by kernel_rfl)) (Fx.glo Z 24) (F_is_marked Z).kp (b_is_marked' Z) z0.pass (da_cons (de_var (i := 4) (pv 4)) (da_cons (de_int (r := false)) (da_cons (de_tup (da_cons (de_int (r := false)) (da_cons (de_int (r := false)) da_nil))) da_nil)))) (de_bl (r := false)) (by rfl)) (dw_one (db_not (db_tru (de_callF (ok__law_same (P := P) (w := w) (base := base) Z Zc) z0.r (gl (by kernel_rfl)) (Fx.glo Z 20) (F__law_same Z).kp (b__law_same' Z) z0.pass (da_cons (de_callF (ok_marks_with (P := P) (w := w) (base := base) Z Zc) z0.r (gl (by kernel_rfl)) (Fx.glo Z 26) (F_marks_with Z).kp (b_marks_with' Z) z0.pass (da_cons (de_var (i := 4) (pv 4)) (da_cons (de_int (r := false)) da_nil))) (da_cons (de_tup (da_cons (de_tup (da_cons (de_int (r := false)) (da_cons (de_tup (da_cons (de_int (r := false)) (da_cons (de_int (r := false)) da_nil))) da_nil))) da_nil)) da_nil))))))))) (ds_one (ds_ret (k := false) (de_bl (r := false)))) ds_nil) (ds_cons (ds_if (k := false) (Γ' := [1]) (db_w (dw_or (db_not (db_tru (de_callF (ok__law_same (P := P) (w := w) (base := base) Z Zc) z0.r (gl (by kernel_rfl)) (Fx.glo Z 20) (F__law_same Z).kp (b__law_same' Z) z0.pass (da_cons (de_callF (ok_dead_marks (P := P) (w := w) (base := base) Z Zc) z0.r (gl (by kernel_rfl)) (Fx.glo Z 28) (F_dead_marks Z).kp (b_dead_marks' Z) z0.pass (da_cons (de_subA z0.hu1 (de_var (i := 4) (pv 4)) (de_int (r := false)) (fun _ _ => rfl)) (da_cons (de_tup (da_cons (de_int (r := false)) (da_cons (de_int (r := false)) da_nil))) da_nil))) (da_cons (de_tup (da_cons (de_tup (da_cons (de_int (r := false)) (da_cons (de_tup (da_cons (de_int (r := false)) (da_cons (de_int (r := false)) da_nil))) da_nil))) da_nil)) da_nil))))) (dw_one (db_not (db_tru (de_callF (ok__law_same (P := P) (w := w) (base := base) Z Zc) z0.r (gl (by kernel_rfl)) (Fx.glo Z 20) (F__law_same Z).kp (b__law_same' Z) z0.pass (da_cons (de_callF (ok_dead_marks (P := P) (w := w) (base := base) Z Zc) z0.r (gl (by kernel_rfl)) (Fx.glo Z 28) (F_dead_marks Z).kp (b_dead_marks' Z) z0.pass (da_cons (de_subA z0.hu1 (de_var (i := 4) (pv 4)) (de_int (r := false)) (fun _ _ => rfl)) (da_cons (de_tup da_nil) da_nil))) (da_cons (de_tup (da_cons (de_tup (da_cons (de_int (r := false)) (da_cons (de_tup (da_cons (de_int (r := false)) da_nil)) da_nil))) (da_cons (de_tup (da_cons (de_int (r := false)) (da_cons (de_tup (da_cons (de_int (r := false)) (da_cons (de_int (r := false)) da_nil))) da_nil))) da_nil))) da_nil)))))))) (ds_one (ds_ret (k := false) (de_bl (r := false)))) ds_nil) (ds_cons (ds_if (k := false) (Γ' := [1]) (db_not (db_tru (de_callF (ok__law_same (P := P) (w := w) (base := base) Z Zc) z0.r (gl (by kernel_rfl)) (Fx.glo Z 20) (F__law_same Z).kp (b__law_same' Z) z0.pass (da_cons (de_callF (ok_marks_carried (P := P) (w := w) (base := base) Z Zc) z0.r (gl (by kernel_rfl)) (Fx.glo Z 31) (F_marks_carried Z).kp (b_marks_carried' Z) z0.pass (da_cons (de_subA z0.hu1 (de_var (i := 4) (pv 4)) (de_int (r := false)) (fun _ _ => rfl)) (da_cons (de_tup (da_cons (de_tup (da_cons (de_int (r := false)) (da_cons (de_int (r := false)) da_nil))) (da_cons (de_tup (da_cons (de_int (r := false)) (da_cons (de_int (r := false)) da_nil))) (da_cons (de_tup (da_cons (de_int (r := false)) (da_cons (de_int (r := false)) da_nil))) da_nil)))) da_nil))) (da_cons (de_tup (da_cons (de_tup (da_cons (de_int (r := false)) (da_cons (de_tup (da_cons (de_int (r := false)) da_nil)) da_nil))) (da_cons (de_tup (da_cons (de_int (r := false)) (da_cons (de_tup da_nil) da_nil))) (da_cons (de_tup (da_cons (de_int (r := false)) (da_cons (de_tup (da_cons (de_int (r := false)) (da_cons (de_int (r := false)) da_nil))) da_nil))) da_nil)))) da_nil))))) (ds_one (ds_ret (k := false) (de_bl (r := false)))) ds_nil) (ds_one (ds_ret (k := false) (de_and (de_callF (ok__law_same (P := P) (w := w) (base := base) Z Zc) z0.r (gl (by kernel_rfl)) (Fx.glo Z 20) (F__law_same Z).kp (b__law_same' Z) z0.pass (da_cons (de_callF (ok_marks_carried (P := P) (w := w) (base := base) Z Zc) z0.r (gl (by kernel_rfl)) (Fx.glo Z 31) (F_marks_carried Z).kp (b_marks_carried' Z) z0.pass (da_cons (de_tup (da_cons (de_tup (da_cons (de_int (r := false)) (da_cons (de_tup (da_cons (de_int (r := false)) da_nil)) da_nil))) (da_cons (de_tup (da_cons (de_int (r := false)) (da_cons (de_tup (da_cons (de_int (r := false)) da_nil)) da_nil))) da_nil))) (da_cons (de_tup (da_cons (de_tup (da_cons (de_int (r := false)) (da_cons (de_int (r := false)) da_nil))) (da_cons (de_tup (da_cons (de_int (r := false)) (da_cons (de_int (r := false)) da_nil))) da_nil))) da_nil))) (da_cons (de_tup (da_cons (de_tup (da_cons (de_int (r := false)) (da_cons (de_tup (da_cons (de_int (r := false)) da_nil)) da_nil))) (da_cons (de_tup (da_cons (de_int (r := false)) (da_cons (de_tup (da_cons (de_int (r := false)) da_nil)) da_nil))) da_nil))) da_nil))) (de_one (de_callF (ok__law_same (P := P) (w := w) (base := base) Z Zc) z0.r (gl (by kernel_rfl)) (Fx.glo Z 20) (F__law_same Z).kp (b__law_same' Z) z0.pass (da_cons (de_callF (ok_marks_moved (P := P) (w := w) (base := base) Z Zc) z0.r (gl (by kernel_rfl)) (Fx.glo Z 32) (F_marks_moved Z).kp (b_marks_moved' Z) z0.pass (da_cons (de_subA z0.hu1 (de_var (i := 4) (pv 4)) (de_int (r := false)) (fun _ _ => rfl)) (da_cons (de_int (r := false)) da_nil))) (da_cons (de_tup (da_cons (de_tup (da_cons (de_int (r := false)) (da_cons (de_tup (da_cons (de_int (r := false)) da_nil)) da_nil))) (da_cons (de_tup (da_cons (de_int (r := false)) (da_cons (de_tup da_nil) da_nil))) (da_cons (de_tup (da_cons (de_int (r := false)) (da_cons (de_tup (da_cons (de_int (r := false)) (da_cons (de_int (r := false)) da_nil))) da_nil))) da_nil)))) da_nil)))))))))))))))
end

end Lw

set_option Elab.async false
set_option linter.all false
set_option maxRecDepth 100000
set_option autoImplicit false
/-! How mirrors are evaluated: comprehensions and loops over encoded lists. -/
namespace Dt
open PySem L2 R
section
variable {α β : Type} {k : Bool} {vs vs1 : List Nat} {g g1 : MG} {tt tt1 : MB} {me : ME} {mi1 : MA} {ρ : Ev}
theorem lc_eval {enc : α → D} {c : α → Bool} {f : α → D} : ∀ {xs : List α}, (∀ x ∈ xs, ∃ ρ1 ρ2, g (enc x) (wipeE ρ vs) = .ok ρ1 ∧ tt ρ1 = .ok (c x, ρ2) ∧ (c x = true → ∃ ρ3, me ρ2 = .ok (f x, ρ3))) →
    lcG false vs g tt me (xs.map enc) ρ = .ok ((xs.filter c).map f, ρ)
  | [], _ => rfl
  | x :: xs, h => by
    obtain ⟨ρ1, ρ2, h1, h2, h3⟩ := h x List.mem_cons_self
    have ih := lc_eval (xs := xs) fun y hy => h y (List.mem_cons_of_mem _ hy)
    rw [List.map_cons]
    unfold lcG
    rw [h1]
    show ((tt ρ1).nox.bind _) = _
    rw [h2]
    show (if c x = true then _ else _) = _
    by_cases e : c x = true
    · rw [if_pos e, List.filter_cons_of_pos e]
      obtain ⟨ρ3, h4⟩ := h3 e
      rw [h4]
      show (lcG false vs g tt me (xs.map enc) ρ).bind _ = _
      rw [ih]
      rfl
    · rw [if_neg e, List.filter_cons_of_neg e]
      exact ih
/-- without a test -/
theorem lc_map {enc : α → D} {f : α → D} {xs : List α} (h : ∀ x ∈ xs, ∃ ρ1 ρ2, g (enc x) (wipeE ρ vs) = .ok ρ1 ∧ me ρ1 = .ok (f x, ρ2)) : lcG false vs g bYes me (xs.map enc) ρ = .ok (xs.map f, ρ) := by
  have := lc_eval (g := g) (tt := bYes) (me := me) (vs := vs) (ρ := ρ) (enc := enc) (c := fun _ => true) (f := f) (xs := xs) fun x hx => by
    obtain ⟨ρ1, ρ2, h1, h2⟩ := h x hx
    exact ⟨ρ1, ρ1, h1, rfl, fun _ => ⟨ρ2, h2⟩⟩
  rw [List.filter_eq_self.mpr fun _ _ => rfl] at this
  exact this
/-- two clauses -/
theorem lc2_eval {enc : α → D} {enc1 : β → D} {ys : α → List β} {f : α → β → D} : ∀ {xs : List α} {c : Nat}, (∀ x ∈ xs, ∃ ρ1 ρ2, g (enc x) (wipeE ρ vs) = .ok ρ1 ∧ mi1 ρ1 = .ok ((ys x).map enc1, ρ2) ∧
      ∀ y ∈ ys x, ∃ ρ3 ρ4, g1 (enc1 y) (wipeE ρ2 vs1) = .ok ρ3 ∧ me ρ3 = .ok (f x y, ρ4)) → c + (xs.map fun x => (ys x).length).sum ≤ sizeLine →
    lcG2 false vs vs1 g bYes mi1 g1 bYes me c (xs.map enc) ρ = .ok (xs.flatMap fun x => (ys x).map (f x), ρ)
  | [], _, _, _ => rfl
  | x :: xs, c, h, hz => by
    obtain ⟨ρ1, ρ2, h1, h2, h3⟩ := h x List.mem_cons_self
    rw [List.map_cons, List.sum_cons] at hz
    have ih := lc2_eval (xs := xs) (c := c + (ys x).length) (fun y hy => h y (List.mem_cons_of_mem _ hy)) (by omega)
    rw [List.map_cons]
    unfold lcG2
    rw [h1]
    show ((mi1 ρ1).nox.bind _) = _
    rw [h2]
    show (if c + ((ys x).map enc1).length ≤ sizeLine then _ else _) = _
    rw [List.length_map, if_pos (by omega)]
    show ((lcG false vs1 g1 bYes me ((ys x).map enc1) ρ2).nox.bind _) = _
    rw [lc_map h3]
    show (lcG2 false vs vs1 g bYes mi1 g1 bYes me (c + (ys x).length) (xs.map enc) ρ).bind _ = _
    rw [ih]
    rfl
variable {b : MS}
/-- a loop that runs to its end; I speaks of what is left -/
theorem for_all {enc : α → D} {I : List α → Ev → Prop} (step : ∀ x xs ρ, I (x :: xs) ρ → ∃ ρ1 ρ2, g (enc x) ρ = .ok ρ1 ∧ (b ρ1 = .ok (.nx, ρ2) ∨ b ρ1 = .ok (.ct, ρ2)) ∧ I xs ρ2) :
    ∀ {xs : List α} {ρ : Ev}, I xs ρ → ∃ ρ', sFor g b (xs.map enc) ρ = .ok (.nx, ρ') ∧ I [] ρ'
  | [], ρ, h => ⟨ρ, rfl, h⟩
  | x :: xs, ρ, h => by
    obtain ⟨ρ1, ρ2, h1, h2, h3⟩ := step x xs ρ h
    obtain ⟨ρ', h4, h5⟩ := for_all step h3
    refine ⟨ρ', ?_, h5⟩
    rw [List.map_cons]
    unfold sFor
    rw [h1]
    show (b ρ1).bind _ = _
    rcases h2 with h2 | h2 <;> rw [h2] <;> exact h4
/-- a loop that may return r at the first x with p x = false -/
theorem for_ret {enc : α → D} {p : α → Bool} {r : D} {I : List α → Ev → Prop} (step : ∀ x xs ρ, I (x :: xs) ρ → ∃ ρ1 ρ2, g (enc x) ρ = .ok ρ1 ∧ (p x = true → (b ρ1 = .ok (.nx, ρ2) ∧ I xs ρ2)) ∧ (p x = false → b ρ1 = .ok (.rt r, ρ2))) :
    ∀ {xs : List α} {ρ : Ev}, I xs ρ → ∃ ρ', (xs.all p = true → sFor g b (xs.map enc) ρ = .ok (.nx, ρ') ∧ I [] ρ') ∧ (xs.all p = false → sFor g b (xs.map enc) ρ = .ok (.rt r, ρ'))
  | [], ρ, h => ⟨ρ, fun _ => ⟨rfl, h⟩, fun z => by cases z⟩
  | x :: xs, ρ, h => by
    obtain ⟨ρ1, ρ2, h1, h2, h3⟩ := step x xs ρ h
    have e0 : sFor g b ((x :: xs).map enc) ρ = ((b ρ1).bind fun z => match z.1 with
      | .nx => sFor g b (xs.map enc) z.2
      | .ct => sFor g b (xs.map enc) z.2
      | .bk => .ok (.nx, z.2)
      | .rt d => .ok (.rt d, z.2)) := by
      rw [List.map_cons]
      show ((g (enc x) ρ).nox.bind _) = _
      rw [h1]
      rfl
    rw [List.all_cons, e0]
    cases e : p x with
    | false =>
      refine ⟨ρ2, fun z => by simp at z, fun _ => ?_⟩
      rw [h3 e]
      rfl
    | true =>
      obtain ⟨h4, h5⟩ := h2 e
      obtain ⟨ρ', h6, h7⟩ := for_ret step h5
      refine ⟨ρ', fun z => ?_, fun z => ?_⟩
      · rw [h4]
        exact h6 (by simpa using z)
      · rw [h4]
        exact h7 (by simpa using z)
theorem mCall1 {g : GA} {m : ME} {d : D} {ρ' : Ev} (h : m ρ = .ok (d, ρ')) : mCall g (aCons m aNil) ρ = (R.opt (g [d])).bind fun r => .ok (r, ρ') := by
  unfold mCall aCons
  rw [h]; rfl
theorem mCallF1 {g : List D → R D} {m : ME} {d : D} {ρ' : Ev} (h : m ρ = .ok (d, ρ')) : mCallF g (aCons m aNil) ρ = (g [d]).bind fun r => .ok (r, ρ') := by
  unfold mCallF aCons
  rw [h]; rfl
end
end Dt

set_option Elab.async false
set_option linter.all false
set_option maxRecDepth 100000
set_option autoImplicit false
/-! The classes of pairs, in plain Lean. -/
namespace Kn
open PySem L2
abbrev T := Key
abbrev Ps := List (T × T)
/-- connected by pairs -/
inductive Conn (ps : Ps) : T → T → Prop
  | refl (a : T) : Conn ps a a
  | step {a b c : T} : Conn ps a b → ((b, c) ∈ ps ∨ (c, b) ∈ ps) → Conn ps a c
section
variable {ps qs : Ps} {a b c x y : T}
theorem Conn.trans (h : Conn ps a b) (g : Conn ps b c) : Conn ps a c := by
  induction g with
  | refl => exact h
  | step _ e ih => exact .step ih e
theorem Conn.one (h : (a, b) ∈ ps ∨ (b, a) ∈ ps) : Conn ps a b := .step (.refl a) h
theorem Conn.symm (h : Conn ps a b) : Conn ps b a := by
  induction h with
  | refl => exact .refl _
  | step _ e ih => exact (Conn.one e.symm).trans ih
theorem Conn.mono (h : Conn ps a b) (s : ∀ p ∈ ps, p ∈ qs) : Conn qs a b := by
  induction h with
  | refl => exact .refl _
  | step _ e ih => exact .step ih (e.imp (s _) (s _))
/-- pairs that tell no more -/
theorem Conn.le (h : Conn ps a b) (s : ∀ x y, (x, y) ∈ ps → Conn qs x y) : Conn qs a b := by
  induction h with
  | refl => exact .refl _
  | step _ e ih => exact ih.trans (e.elim (s _ _) fun z => (s _ _ z).symm)
theorem conn_nil : Conn [] a b ↔ a = b := ⟨fun h => by
  induction h with
  | refl => rfl
  | step _ e _ => simp at e, fun e => by subst e; exact .refl _⟩
theorem conn_snoc : Conn (ps ++ [(x, y)]) a b ↔ Conn ps a b ∨ (Conn ps a x ∧ Conn ps y b) ∨ (Conn ps a y ∧ Conn ps x b) := by
  constructor
  · intro h
    induction h with
    | refl => exact .inl (.refl _)
    | @step b c _ e ih =>
      have e' : ((b, c) ∈ ps ∨ (c, b) ∈ ps) ∨ (b = x ∧ c = y) ∨ (c = x ∧ b = y) := by
        rcases e with e | e <;> rcases List.mem_append.mp e with e | e
        · exact .inl (.inl e)
        · have := List.mem_singleton.mp e; injection this with h1 h2; exact .inr (.inl ⟨h1, h2⟩)
        · exact .inl (.inr e)
        · have := List.mem_singleton.mp e; injection this with h1 h2; exact .inr (.inr ⟨h1, h2⟩)
      rcases e' with e | ⟨rfl, rfl⟩ | ⟨rfl, rfl⟩
      · rcases ih with ih | ⟨i1, i2⟩ | ⟨i1, i2⟩
        · exact .inl (.step ih e)
        · exact .inr (.inl ⟨i1, .step i2 e⟩)
        · exact .inr (.inr ⟨i1, .step i2 e⟩)
      · rcases ih with ih | ⟨i1, i2⟩ | ⟨i1, i2⟩
        · exact .inr (.inl ⟨ih, .refl _⟩)
        · exact .inr (.inl ⟨i1, .refl _⟩)
        · exact .inl i1
      · rcases ih with ih | ⟨i1, i2⟩ | ⟨i1, i2⟩
        · exact .inr (.inr ⟨ih, .refl _⟩)
        · exact .inl i1
        · exact .inr (.inr ⟨i1, .refl _⟩)
  · have up : ∀ {u v : T}, Conn ps u v → Conn (ps ++ [(x, y)]) u v := fun h => h.mono fun p hp => List.mem_append_left _ hp
    have e : Conn (ps ++ [(x, y)]) x y := .one (.inl (List.mem_append_right _ (List.mem_singleton.mpr rfl)))
    rintro (h | ⟨h1, h2⟩ | ⟨h1, h2⟩)
    · exact up h
    · exact (up h1).trans (e.trans (up h2))
    · exact (up h1).trans (e.symm.trans (up h2))
theorem conn_stays (h : Conn ps x y) : Conn (ps ++ [(x, y)]) a b ↔ Conn ps a b := by
  rw [conn_snoc]
  constructor
  · rintro (g | ⟨g1, g2⟩ | ⟨g1, g2⟩)
    · exact g
    · exact g1.trans (h.trans g2)
    · exact g1.trans (h.symm.trans g2)
  · exact .inl
end
/-- stands in a pair -/
def In (ps : Ps) (a : T) : Prop := ∃ p ∈ ps, p.1 = a ∨ p.2 = a
theorem conn_in {ps : Ps} {a b : T} (h : Conn ps a b) : a = b ∨ In ps b := by
  cases h with
  | refl => exact .inl rfl
  | step _ e => exact .inr (e.elim (fun z => ⟨_, z, .inr rfl⟩) fun z => ⟨_, z, .inl rfl⟩)

/-! ### numbers of classes -/
abbrev Nm := List (T × Nat)
def lk (n : Nm) (k : T) : Option Nat := (n.find? fun e => decide (e.1 = k)).map (·.2)
def setd (n : Nm) (k : T) : Nm × Nat := match lk n k with
  | some v => (n, v)
  | none => (n ++ [(k, n.length)], n.length)
def mergeN (n : Nm) (f s : Nat) : Nm := n.map fun e => if e.2 = s then (e.1, f) else e
def stepN (n : Nm) (p : T × T) : Nm :=
  let a := setd n p.1
  let b := setd a.1 p.2
  if a.2 = b.2 then b.1 else mergeN b.1 a.2 b.2
def cn (ps : Ps) : Nm := ps.foldl stepN []
theorem lk_nil {k : T} : lk [] k = none := rfl
theorem lk_cons {e : T × Nat} {n : Nm} {k : T} : lk (e :: n) k = if e.1 = k then some e.2 else lk n k := by
  unfold lk
  rw [List.find?_cons]
  by_cases h : e.1 = k
  · rw [decide_eq_true h, if_pos h]; rfl
  · rw [decide_eq_false h, if_neg h]
theorem lk_append {m n : Nm} {k : T} : lk (m ++ n) k = match lk m k with | some v => some v | none => lk n k := by
  induction m with
  | nil => rfl
  | cons e m ih =>
    rw [List.cons_append, lk_cons, lk_cons, ih]
    by_cases h : e.1 = k
    · rw [if_pos h, if_pos h]
    · rw [if_neg h, if_neg h]
theorem lk_merge {n : Nm} {f s : Nat} {k : T} : lk (mergeN n f s) k = (lk n k).map fun v => if v = s then f else v := by
  induction n with
  | nil => rfl
  | cons e n ih =>
    have e1 : (mergeN (e :: n) f s) = (if e.2 = s then (e.1, f) else e) :: mergeN n f s := rfl
    rw [e1, lk_cons, lk_cons, ih]
    by_cases h2 : e.2 = s
    · rw [if_pos h2]
      by_cases h : e.1 = k
      · rw [if_pos h, if_pos h, Option.map_some, if_pos h2]
      · rw [if_neg h, if_neg h]
    · rw [if_neg h2]
      by_cases h : e.1 = k
      · rw [if_pos h, if_pos h, Option.map_some, if_neg h2]
      · rw [if_neg h, if_neg h]
theorem lk_some {n : Nm} {k : T} {v : Nat} (h : lk n k = some v) : (k, v) ∈ n := by
  induction n with
  | nil => cases h
  | cons e n ih =>
    rw [lk_cons] at h
    by_cases g : e.1 = k
    · rw [if_pos g] at h
      cases h
      rw [← g]
      exact List.mem_cons_self
    · rw [if_neg g] at h
      exact List.mem_cons_of_mem _ (ih h)
theorem lk_mem {n : Nm} {k : T} : (lk n k).isSome = true ↔ k ∈ n.map (·.1) := by
  induction n with
  | nil => simp [lk_nil]
  | cons e n ih =>
    rw [lk_cons, List.map_cons, List.mem_cons]
    by_cases g : e.1 = k
    · rw [if_pos g]; simp [g]
    · rw [if_neg g, ih]
      exact ⟨.inr, fun h => h.elim (fun z => absurd z.symm g) id⟩
theorem lk_none {n : Nm} {k : T} : lk n k = none ↔ k ∉ n.map (·.1) := by
  rw [← lk_mem]
  cases lk n k <;> simp
/-- what the numbers tell -/
structure Says (n : Nm) (ps : Ps) : Prop where
  nd : (n.map (·.1)).Nodup
  keys : ∀ k, k ∈ n.map (·.1) ↔ In ps k
  same : ∀ a b u v, lk n a = some u → lk n b = some v → (u = v ↔ Conn ps a b)
  low : ∀ e ∈ n, e.2 < n.length
theorem in_snoc {ps : Ps} {x y k : T} : In (ps ++ [(x, y)]) k ↔ In ps k ∨ k = x ∨ k = y := by
  unfold In
  constructor
  · rintro ⟨p, hp, e⟩
    rcases List.mem_append.mp hp with hp | hp
    · exact .inl ⟨p, hp, e⟩
    · have := List.mem_singleton.mp hp
      subst this
      exact .inr (e.imp (fun z => z.symm) fun z => z.symm)
  · rintro (⟨p, hp, e⟩ | e | e)
    · exact ⟨p, List.mem_append_left _ hp, e⟩
    · exact ⟨(x, y), List.mem_append_right _ (List.mem_singleton.mpr rfl), .inl e.symm⟩
    · exact ⟨(x, y), List.mem_append_right _ (List.mem_singleton.mpr rfl), .inr e.symm⟩
/-- a step of the first half: what holds with a term that stands alone -/
structure Half (n : Nm) (ps : Ps) : Prop where
  nd : (n.map (·.1)).Nodup
  same : ∀ a b u v, lk n a = some u → lk n b = some v → (u = v ↔ Conn ps a b)
  low : ∀ e ∈ n, e.2 < n.length
  out : ∀ k, k ∉ n.map (·.1) → ¬ In ps k
theorem Says.half {n : Nm} {ps : Ps} (h : Says n ps) : Half n ps := ⟨h.nd, h.same, h.low, fun k hk z => hk ((h.keys k).mpr z)⟩
theorem half_setd {n : Nm} {ps : Ps} {k : T} (h : Half n ps) : Half (setd n k).1 ps ∧ lk (setd n k).1 k = some (setd n k).2 ∧ (∀ a v, lk n a = some v → lk (setd n k).1 a = some v) ∧ ∀ a, a ∈ (setd n k).1.map (·.1) ↔ a ∈ n.map (·.1) ∨ a = k := by
  unfold setd
  cases e : lk n k with
  | some v =>
    have hm : k ∈ n.map (·.1) := lk_mem.mp (by rw [e]; rfl)
    exact ⟨h, e, fun a v h => h, fun a => ⟨.inl, fun z => z.elim id fun z => z ▸ hm⟩⟩
  | none =>
    have hm : k ∉ n.map (·.1) := lk_none.mp e
    have l : ∀ a, lk (n ++ [(k, n.length)]) a = if a = k then some n.length else lk n a := fun a => by
      rw [lk_append, lk_cons, lk_nil]
      by_cases g : a = k
      · subst g
        rw [e, if_pos rfl]
      · rw [if_neg g, if_neg (fun z => g z.symm)]
        cases lk n a <;> rfl
    have fresh : ∀ a u, lk n a = some u → u ≠ n.length := fun a u q => by have := h.low _ (lk_some q); omega
    have alone : ∀ a, Conn ps a k → a = k := fun a c => (conn_in c).elim id fun z => absurd z (h.out k hm)
    have keys : ∀ a, a ∈ (n ++ [(k, n.length)]).map (·.1) ↔ a ∈ n.map (·.1) ∨ a = k := fun a => by simp
    refine ⟨⟨?_, fun a b u v q1 q2 => ?_, fun x hx => ?_, fun a ha => h.out a fun z => ha ((keys a).mpr (.inl z))⟩, by rw [l, if_pos rfl], fun a v q => ?_, keys⟩
    · rw [List.map_append]
      exact List.nodup_append.mpr ⟨h.nd, by simp, fun x hx y hy => by
        have : y = k := by simpa using hy
        subst this
        exact fun z => hm (z ▸ hx)⟩
    · rw [l] at q1 q2
      by_cases g1 : a = k
      · rw [if_pos g1] at q1
        cases q1
        by_cases g2 : b = k
        · rw [if_pos g2] at q2
          cases q2
          exact ⟨fun _ => by rw [g1, g2]; exact .refl _, fun _ => rfl⟩
        · rw [if_neg g2] at q2
          refine ⟨fun z => absurd z.symm (fresh b v q2), fun c => absurd (alone b (g1 ▸ c.symm)) g2⟩
      · rw [if_neg g1] at q1
        by_cases g2 : b = k
        · rw [if_pos g2] at q2
          cases q2
          exact ⟨fun z => absurd z (fresh a u q1), fun c => absurd (alone a (g2 ▸ c)) g1⟩
        · rw [if_neg g2] at q2
          exact h.same a b u v q1 q2
    · rw [List.length_append, List.length_singleton]
      rcases List.mem_append.mp hx with hx | hx
      · have := h.low x hx; omega
      · have : x = (k, n.length) := List.mem_singleton.mp hx
        subst this
        show n.length < n.length + 1
        omega
    · rw [l]
      by_cases g : a = k
      · subst g; rw [e] at q; cases q
      · rw [if_neg g]; exact q
theorem merge_keys {n : Nm} {f s : Nat} : (mergeN n f s).map (·.1) = n.map (·.1) := by
  unfold mergeN
  rw [List.map_map]
  refine List.map_congr_left fun e _ => ?_
  show (if e.2 = s then (e.1, f) else e).1 = e.1
  by_cases h : e.2 = s
  · rw [if_pos h]
  · rw [if_neg h]
theorem says_step {n : Nm} {ps : Ps} {p : T × T} (h : Says n ps) : Says (stepN n p) (ps ++ [p]) := by
  obtain ⟨x, y⟩ := p
  obtain ⟨h1, e1, o1, k1⟩ := half_setd (k := x) h.half
  obtain ⟨h2, e2, o2, k2⟩ := half_setd (k := y) h1
  have e1' := o2 _ _ e1
  have ky : ∀ a, a ∈ (setd (setd n x).1 y).1.map (·.1) ↔ In (ps ++ [(x, y)]) a := fun a => by
    rw [k2, k1, in_snoc, h.keys]
    exact or_assoc
  have sm := h2.same x y _ _ e1' e2
  unfold stepN
  by_cases g : (setd n x).2 = (setd (setd n x).1 y).2
  · show Says (if (setd n x).2 = (setd (setd n x).1 y).2 then _ else _) _
    rw [if_pos g]
    refine ⟨h2.nd, ky, fun a b u v q1 q2 => ?_, h2.low⟩
    rw [conn_stays (sm.mp g)]
    exact h2.same a b u v q1 q2
  · show Says (if (setd n x).2 = (setd (setd n x).1 y).2 then _ else _) _
    rw [if_neg g]
    refine ⟨by rw [merge_keys]; exact h2.nd, fun a => by rw [merge_keys]; exact ky a, fun a b u v q1 q2 => ?_, fun e he => ?_⟩
    · rw [lk_merge] at q1 q2
      obtain ⟨u0, l1, rfl⟩ := Option.map_eq_some_iff.mp q1
      obtain ⟨v0, l2, rfl⟩ := Option.map_eq_some_iff.mp q2
      have ab := h2.same a b _ _ l1 l2
      have ax := h2.same a x _ _ l1 e1'
      have ay := h2.same a y _ _ l1 e2
      have bx := h2.same b x _ _ l2 e1'
      have bY := h2.same b y _ _ l2 e2
      rw [conn_snoc]
      have yb : Conn ps y b ↔ v0 = (setd (setd n x).1 y).2 := by rw [bY]; exact ⟨Conn.symm, Conn.symm⟩
      have xb : Conn ps x b ↔ v0 = (setd n x).2 := by rw [bx]; exact ⟨Conn.symm, Conn.symm⟩
      rw [yb, xb, ← ab, ← ax, ← ay]
      by_cases c1 : u0 = (setd (setd n x).1 y).2
      · rw [if_pos c1]
        by_cases c2 : v0 = (setd (setd n x).1 y).2
        · rw [if_pos c2]
          exact ⟨fun _ => .inl (c1.trans c2.symm), fun _ => rfl⟩
        · rw [if_neg c2]
          refine ⟨fun z => .inr (.inr ⟨c1, z.symm⟩), fun z => ?_⟩
          rcases z with z | ⟨_, z⟩ | ⟨_, z⟩
          · exact absurd (z ▸ c1) c2
          · exact absurd z c2
          · exact z.symm
      · rw [if_neg c1]
        by_cases c2 : v0 = (setd (setd n x).1 y).2
        · rw [if_pos c2]
          refine ⟨fun z => .inr (.inl ⟨z, c2⟩), fun z => ?_⟩
          rcases z with z | ⟨z, _⟩ | ⟨z, _⟩
          · exact absurd (z.trans c2) c1
          · exact z
          · exact absurd z c1
        · rw [if_neg c2]
          refine ⟨.inl, fun z => ?_⟩
          rcases z with z | ⟨_, z⟩ | ⟨z, _⟩
          · exact z
          · exact absurd z c2
          · exact absurd z c1
    · have hlen : (mergeN (setd (setd n x).1 y).1 (setd n x).2 (setd (setd n x).1 y).2).length = (setd (setd n x).1 y).1.length := by unfold mergeN; rw [List.length_map]
      rw [hlen]
      obtain ⟨e0, he0, rfl⟩ := List.mem_map.mp he
      by_cases c : e0.2 = (setd (setd n x).1 y).2
      · rw [if_pos c]
        have := h2.low _ (lk_some e1')
        exact this
      · rw [if_neg c]
        exact h2.low e0 he0
theorem says_from : ∀ (qs : Ps) {n : Nm} {ps : Ps}, Says n ps → Says (qs.foldl stepN n) (ps ++ qs)
  | [], _, ps, h => by rw [List.append_nil]; exact h
  | q :: qs, n, ps, h => by
    have := says_from qs (says_step (p := q) h)
    rw [List.append_assoc] at this
    exact this
theorem says_cn (ps : Ps) : Says (cn ps) ps := by
  have h0 : Says [] [] := ⟨List.nodup_nil, fun k => ⟨fun h => (by simp at h), fun ⟨p, hp, _⟩ => (by simp at hp)⟩, fun a b u v q => (by cases q), fun e he => (by simp at he)⟩
  exact says_from ps h0
end Kn

set_option Elab.async false
set_option linter.all false
set_option maxRecDepth 100000
set_option autoImplicit false
/-! Knowns as data. -/
namespace Kn
open PySem Dt Dt.R
open L2 (Key kV)
open L2 hiding keyOf
instance memT (k : T) (ks : List T) : Decidable (k ∈ ks) := @List.instDecidableMemOfLawfulBEq T (@instBEqOfDecidableEq T inferInstance) (@instLawfulBEq T inferInstance) k ks
def pairD (p : T × T) : D := .tuple [kD p.1, kD p.2]
def psD (ps : Ps) : D := .tuple (ps.map pairD)
abbrev Kw := Ps × Ps
def knD (k : Kw) : D := .tuple [psD k.1, psD k.2]
def nmD (n : Nm) : List (D × D) := n.map fun e => (kD e.1, .int (e.2 : Nat))
theorem kD_inj {a b : T} (h : kD a = kD b) : a = b := by
  have := congrArg keyOf h
  rw [keyOf_kD, keyOf_kD] at this
  exact Option.some.inj this
theorem eqv_kD (a b : T) : PyData.eqv (kD a) (kD b) = decide (a = b) := by
  cases a with
  | inl i => cases b with
    | inl j =>
      show decide (i = j) = _
      by_cases h : i = j
      · simp [h]
      · rw [decide_eq_false h, decide_eq_false fun z => h (Sum.inl.inj z)]
    | inr y => rw [decide_eq_false (by simp)]; rfl
  | inr x => cases b with
    | inl j => rw [decide_eq_false (by simp)]; rfl
    | inr y =>
      show decide (x = y) = _
      by_cases h : x = y
      · simp [h]
      · rw [decide_eq_false h, decide_eq_false fun z => h (Sum.inr.inj z)]
@[simp] theorem plain_kD (a : T) : (kD a).plain = true := by cases a <;> rfl
@[simp] theorem depth_kD (a : T) : (kD a).depth = 0 := by cases a <;> rfl
theorem dEq_kD (a b : T) : dEq (kD a) (kD b) = some (.bool (decide (a = b))) := by simp [dEq, eqOk, eqv_kD]
theorem dNe_kD (a b : T) : dNe (kD a) (kD b) = some (.bool (!decide (a = b))) := by simp [dNe, eqOk, eqv_kD]
theorem flat_nm (n : Nm) : flatK (nmD n) = true := by
  unfold flatK nmD
  rw [List.all_map]
  exact List.all_eq_true.mpr fun e _ => by show (keyOf (kD e.1)).isSome = true; rw [keyOf_kD]; rfl
theorem dlook_nm (n : Nm) (k : T) : dlook (nmD n) k = (lk n k).map fun v => .int (v : Nat) := by
  induction n with
  | nil => rfl
  | cons e n ih =>
    rw [lk_cons]
    show dlook ((kD e.1, _) :: nmD n) k = _
    unfold dlook at ih ⊢
    rw [List.find?_cons, keyOf_kD]
    by_cases h : e.1 = k
    · simp [h]
    · rw [decide_eq_false fun z => h (Option.some.inj z), if_neg h]; exact ih
theorem any_nm (n : Nm) (k : T) : ((nmD n).any fun e => decide (keyOf e.1 = some k)) = (lk n k).isSome := by
  induction n with
  | nil => rfl
  | cons e n ih =>
    show (((kD e.1, _) :: nmD n).any _) = _
    rw [List.any_cons, ih, lk_cons, keyOf_kD]
    by_cases h : e.1 = k
    · simp [h]
    · rw [decide_eq_false fun z => h (Option.some.inj z), if_neg h]; rfl
theorem dput_nm_new {n : Nm} {k : T} {v : Nat} (h : lk n k = none) : dput (nmD n) k (.int v) = nmD (n ++ [(k, v)]) := by
  unfold dput
  rw [any_nm, h, if_neg (by simp)]
  unfold nmD
  rw [List.map_append]; rfl
def putN (n : Nm) (k : T) (v : Nat) : Nm := if (lk n k).isSome then n.map (fun e => if e.1 = k then (e.1, v) else e) else n ++ [(k, v)]
theorem dput_nm (n : Nm) (k : T) (v : Nat) : dput (nmD n) k (.int v) = nmD (putN n k v) := by
  unfold putN
  by_cases h : (lk n k).isSome = true
  · rw [if_pos h]
    unfold dput
    rw [any_nm, if_pos h]
    unfold nmD
    rw [List.map_map, List.map_map]
    refine List.map_congr_left fun e _ => ?_
    show (if keyOf (kD e.1) = some k then (kD e.1, PyData.int v) else (kD e.1, PyData.int (e.2 : Nat))) = _
    rw [keyOf_kD]
    by_cases g : e.1 = k
    · rw [if_pos (congrArg some g)]
      show _ = (kD (if e.1 = k then (e.1, v) else e).1, PyData.int ((if e.1 = k then (e.1, v) else e).2 : Nat))
      rw [if_pos g]
    · rw [if_neg fun z => g (Option.some.inj z)]
      show _ = (kD (if e.1 = k then (e.1, v) else e).1, PyData.int ((if e.1 = k then (e.1, v) else e).2 : Nat))
      rw [if_neg g]
  · rw [if_neg h]
    exact dput_nm_new (by cases e : lk n k with | none => rfl | some v => rw [e] at h; exact absurd rfl h)
theorem dmerge_nm (m : List (T × Nat)) : ∀ n : Nm, dmerge (nmD n) (nmD m) = nmD (m.foldl (fun n e => putN n e.1 e.2) n) := by
  induction m with
  | nil => intro n; rfl
  | cons e m ih =>
    intro n
    have e1 : dmerge (nmD n) (nmD (e :: m)) = dmerge (dput (nmD n) e.1 (.int (e.2 : Nat))) (nmD m) := by
      show dmerge (nmD n) ((kD e.1, PyData.int (e.2 : Nat)) :: nmD m) = _
      unfold dmerge
      rw [List.foldl_cons, keyOf_kD]
    rw [e1, dput_nm, ih]; rfl
/-- changing all of a class -/
theorem put_all {n : Nm} (nd : (n.map (·.1)).Nodup) (f s : Nat) : ((n.filter fun e => decide (e.2 = s)).map fun e => (e.1, f)).foldl (fun n e => putN n e.1 e.2) n = mergeN n f s := by
  -- each key of the class gets f, one after the other
  have gen : ∀ (ks : List T) (m : Nm), (∀ k ∈ ks, (lk m k).isSome = true) → (ks.map fun k => (k, f)).foldl (fun n e => putN n e.1 e.2) m = m.map fun e => if e.1 ∈ ks then (e.1, f) else e := by
    intro ks
    induction ks with
    | nil => intro m _; simp
    | cons k ks ih =>
      intro m h
      rw [List.map_cons, List.foldl_cons]
      have hk : putN m k f = m.map fun e => if e.1 = k then (e.1, f) else e := by unfold putN; rw [if_pos (h k List.mem_cons_self)]
      have keys : (putN m k f).map (·.1) = m.map (·.1) := by
        rw [hk, List.map_map]
        refine List.map_congr_left fun e _ => ?_
        show (if e.1 = k then (e.1, f) else e).1 = e.1
        by_cases g : e.1 = k
        · rw [if_pos g]
        · rw [if_neg g]
      rw [ih (putN m k f) fun k' hk' => by rw [lk_mem, keys, ← lk_mem]; exact h k' (List.mem_cons_of_mem _ hk'), hk, List.map_map]
      refine List.map_congr_left fun e _ => ?_
      show (if (if e.1 = k then (e.1, f) else e).1 ∈ ks then ((if e.1 = k then (e.1, f) else e).1, f) else (if e.1 = k then (e.1, f) else e)) = _
      by_cases g : e.1 = k
      · have r : (if e.1 ∈ k :: ks then (e.1, f) else e) = (e.1, f) := if_pos (by rw [g]; exact List.mem_cons_self)
        rw [if_pos g, r]
        show (if e.1 ∈ ks then (e.1, f) else (e.1, f)) = (e.1, f)
        split <;> rfl
      · rw [if_neg g]
        by_cases g2 : e.1 ∈ ks
        · rw [if_pos g2, if_pos (List.mem_cons_of_mem _ g2)]
        · rw [if_neg g2, if_neg fun z => (List.mem_cons.mp z).elim g g2]
  have e1 : ((n.filter fun e => decide (e.2 = s)).map fun e => (e.1, f)) = (((n.filter fun e => decide (e.2 = s)).map (·.1)).map fun k => (k, f)) := by rw [List.map_map]; rfl
  rw [e1, gen]
  · refine List.map_congr_left fun e he => ?_
    by_cases g : e.2 = s
    · rw [if_pos g, if_pos (List.mem_map.mpr ⟨e, List.mem_filter.mpr ⟨he, by simpa using g⟩, rfl⟩)]
    · rw [if_neg g, if_neg fun z => ?_]
      obtain ⟨e2, h2, h3⟩ := List.mem_map.mp z
      obtain ⟨h4, h5⟩ := List.mem_filter.mp h2
      have h5 := of_decide_eq_true h5
      have : e2 = e := by
        obtain ⟨i, hi, rfl⟩ := List.mem_iff_getElem.mp h4
        obtain ⟨j, hj, rfl⟩ := List.mem_iff_getElem.mp he
        have hi' : i < (n.map (·.1)).length := by rw [List.length_map]; exact hi
        have hj' : j < (n.map (·.1)).length := by rw [List.length_map]; exact hj
        have ee : (n.map (·.1))[i] = (n.map (·.1))[j] := by rw [List.getElem_map, List.getElem_map]; exact h3
        have := (List.getElem_inj nd).mp ee
        subst this; rfl
      rw [this] at h5
      exact g h5
  · intro k hk
    obtain ⟨e, he, rfl⟩ := List.mem_map.mp hk
    exact lk_mem.mpr (List.mem_map.mpr ⟨e, (List.mem_filter.mp he).1, rfl⟩)

theorem lk_of_mem {n : Nm} (nd : (n.map (·.1)).Nodup) {e : T × Nat} (h : e ∈ n) : lk n e.1 = some e.2 := by
  induction n with
  | nil => cases h
  | cons x n ih =>
    rw [List.map_cons] at nd
    obtain ⟨h1, h2⟩ := List.nodup_cons.mp nd
    rw [lk_cons]
    rcases List.mem_cons.mp h with h | h
    · subst h; rw [if_pos rfl]
    · rw [if_neg (fun z : x.1 = e.1 => h1 (by rw [z]; exact List.mem_map.mpr ⟨e, h, rfl⟩))]
      exact ih h2 h
theorem put_fresh : ∀ (m n : Nm), ((n ++ m).map (·.1)).Nodup → m.foldl (fun n e => putN n e.1 e.2) n = n ++ m
  | [], n, _ => (List.append_nil n).symm
  | e :: m, n, nd => by
    have hn : lk n e.1 = none := by
      rw [lk_none]
      intro z
      rw [List.map_append, List.map_cons] at nd
      exact (List.nodup_append.mp nd).2.2 _ z _ List.mem_cons_self rfl
    rw [List.foldl_cons]
    have e1 : putN n e.1 e.2 = n ++ [e] := by unfold putN; rw [hn, if_neg (by simp)]
    rw [e1, put_fresh m (n ++ [e]) (by rw [List.append_assoc]; exact nd), List.append_assoc]; rfl
theorem keys_nm (n : Nm) : keysD (nmD n) = n.map fun e => kD e.1 := by
  unfold keysD nmD
  rw [List.map_map]; rfl
theorem plain_kDs {α : Type} (f : α → T) (xs : List α) : PyData.plainAll (xs.map fun x => kD (f x)) = true := by
  induction xs with
  | nil => rfl
  | cons x xs ih => rw [List.map_cons, PyData.plainAll, plain_kD, ih]; rfl
theorem pairsOf_nm (m : Nm) : pairsOf (m.map fun e => .tuple [kD e.1, .int (e.2 : Nat)]) = some (nmD m) := by
  induction m with
  | nil => rfl
  | cons e m ih =>
    rw [List.map_cons]
    unfold pairsOf
    rw [keyOf_kD, ih]; rfl
theorem dIxA_nm {n : Nm} {k : T} {v : Nat} (h : lk n k = some v) : dIxA (.dict (nmD n)) (kD k) = some (.int v) := by
  show (if flatK (nmD n) then (Dt.keyOf (kD k)).bind (dlook (nmD n)) else _) = _
  rw [if_pos (flat_nm n), keyOf_kD]
  show dlook (nmD n) k = _
  rw [dlook_nm, h]; rfl
end Kn

set_option Elab.async false
set_option linter.all false
set_option maxRecDepth 100000
set_option autoImplicit false
namespace Kn
open PySem Dt Dt.R
open L2 (Key)
def joined (ps : Ps) (a b : T) : Bool := decide (a = b) || match lk (cn ps) a, lk (cn ps) b with
  | some u, some v => decide (u = v)
  | _, _ => false
theorem joined_iff {ps : Ps} {a b : T} : joined ps a b = true ↔ Conn ps a b := by
  have S := says_cn ps
  have some_of : ∀ x, In ps x → ∃ v, lk (cn ps) x = some v := fun x hx => by
    have := lk_mem.mpr ((S.keys x).mpr hx)
    cases e : lk (cn ps) x with
    | none => rw [e] at this; cases this
    | some v => exact ⟨v, rfl⟩
  unfold joined
  by_cases h : a = b
  · rw [decide_eq_true h]
    exact ⟨fun _ => by rw [h]; exact .refl _, fun _ => rfl⟩
  · rw [decide_eq_false h, Bool.false_or]
    constructor
    · intro z
      cases ea : lk (cn ps) a with
      | none => rw [ea] at z; cases z
      | some u =>
        cases eb : lk (cn ps) b with
        | none => rw [ea, eb] at z; cases z
        | some v =>
          rw [ea, eb] at z
          exact (S.same a b u v ea eb).mp (of_decide_eq_true z)
    · intro c
      obtain ⟨v, ev⟩ := some_of b ((conn_in c).elim (fun z => absurd z h) id)
      obtain ⟨u, eu⟩ := some_of a ((conn_in c.symm).elim (fun z => absurd z.symm h) id)
      rw [eu, ev]
      exact decide_eq_true ((S.same a b u v eu ev).mpr c)
theorem joined_refl (ps : Ps) (a : T) : joined ps a a = true := joined_iff.mpr (.refl a)
theorem joined_symm {ps : Ps} {a b : T} : joined ps a b = joined ps b a := Bool.eq_iff_iff.mpr ⟨fun h => joined_iff.mpr (joined_iff.mp h).symm, fun h => joined_iff.mpr (joined_iff.mp h).symm⟩
theorem inDict_nm (n : Nm) (k : T) : dInA (kD k) (.dict (nmD n)) = some (.bool (lk n k).isSome) := by
  show (inDict (kD k) (nmD n)).map _ = _
  unfold inDict
  rw [if_pos (flat_nm n), keyOf_kD]
  show some (PyData.bool (dlook (nmD n) k).isSome) = _
  rw [dlook_nm, Option.isSome_map]
end Kn

set_option Elab.async false
set_option linter.all false
set_option maxRecDepth 100000
set_option autoImplicit false
/-! Sorting encoded lists by a key. -/
namespace Kn
open PySem Dt Dt.R
open PySem.W (dataLe keyToks sortLe)
open PySem.SeqAt PyProof.Rows
section
variable {α : Type} {enc key : α → D} {fn : List D → R D} {xs ys : List α}
def srt (key : α → D) (xs : List α) : List α := xs.mergeSort (dataLe false key)
theorem mapR_map : ∀ {xs : List α}, (∀ x ∈ xs, fn [enc x] = .ok (key x)) → mapR fn (xs.map enc) = .ok (xs.map key)
  | [], _ => rfl
  | x :: xs, h => by
    rw [List.map_cons, List.map_cons]
    unfold mapR
    rw [h x List.mem_cons_self, mapR_map fun y hy => h y (List.mem_cons_of_mem _ hy)]
    rfl
theorem sortK_map : sortK (xs.map enc) (xs.map key) = (srt key xs).map enc := by
  have e1 : (xs.map enc).zip (xs.map key) = xs.map fun x => (enc x, key x) := by rw [List.zip_map']
  unfold sortK srt
  rw [e1, ← PySem.W.sort_maps (r := dataLe false key) (s := dataLe false fun q : D × D => q.2) (fun x : α => (enc x, key x)) fun a _ b _ => rfl, List.map_map]
  rfl
theorem dSortK_map (hf : ∀ x ∈ xs, fn [enc x] = .ok (key x)) (ko : keysOk (xs.map key) = true) : dSortK fn [.list (xs.map enc)] = .ok (.list ((srt key xs).map enc)) := by
  show ((mapR fn (xs.map enc)).nox.bind _) = _
  rw [mapR_map hf]
  show (if keysOk (xs.map key) = true then _ else _) = _
  rw [if_pos ko, sortK_map]
theorem dSortK_mapT (hf : ∀ x ∈ xs, fn [enc x] = .ok (key x)) (ko : keysOk (xs.map key) = true) : dSortK fn [.tuple (xs.map enc)] = .ok (.list ((srt key xs).map enc)) := by
  show ((mapR fn (xs.map enc)).nox.bind _) = _
  rw [mapR_map hf]
  show (if keysOk (xs.map key) = true then _ else _) = _
  rw [if_pos ko, sortK_map]
theorem srt_perm : (srt key xs).Perm xs := List.mergeSort_perm xs _
theorem srt_mem {x : α} : x ∈ srt key xs ↔ x ∈ xs := srt_perm.mem_iff
theorem srt_nodup : (srt key xs).Nodup ↔ xs.Nodup := srt_perm.nodup_iff
theorem srt_len : (srt key xs).length = xs.length := srt_perm.length_eq
theorem le_total (key : α → D) : PySem.W.TotalLe (dataLe false key) := PySem.W.sortLe_total _ _ _
theorem srt_sorted : (srt key xs).Pairwise fun a b => dataLe false key a b = true := PySem.W.sort_pairwise (le_total key) xs
/-- the key tells items apart -/
def Apart (key : α → D) (P : α → Prop) : Prop := ∀ a b, P a → P b → keyToks (key a) = keyToks (key b) → a = b
theorem le_anti {P : α → Prop} (h : Apart key P) {a b : α} (pa : P a) (pb : P b) (h1 : dataLe false key a b = true) (h2 : dataLe false key b a = true) : a = b := by
  have g1 : (!(listOrd itemOrd).blt (keyToks (key b)) (keyToks (key a))) = true := h1
  have g2 : (!(listOrd itemOrd).blt (keyToks (key a)) (keyToks (key b))) = true := h2
  rw [Bool.not_eq_true'] at g1 g2
  exact h a b pa pb ((listOrd itemOrd).total _ _ g2 g1)
theorem srt_congr {P : α → Prop} (h : Apart key P) (px : ∀ x ∈ xs, P x) (nx : xs.Nodup) (ny : ys.Nodup) (e : ∀ x, x ∈ xs ↔ x ∈ ys) : srt key xs = srt key ys := by
  have p : xs.Perm ys := (List.perm_ext_iff_of_nodup nx ny).mpr e
  refine List.Perm.eq_of_pairwise ?_ srt_sorted srt_sorted (srt_perm.trans (p.trans srt_perm.symm))
  intro a b ha hb h1 h2
  exact le_anti h (px a (srt_mem.mp ha)) (px b ((e b).mpr (srt_mem.mp hb))) h1 h2
/-- the first is the least -/
theorem srt_head {x : α} (h : (srt key xs).head? = some x) : x ∈ xs ∧ ∀ y ∈ xs, dataLe false key x y = true := by
  cases e : srt key xs with
  | nil => rw [e] at h; cases h
  | cons z zs =>
    rw [e] at h
    cases h
    have s := srt_sorted (key := key) (xs := xs)
    rw [e] at s
    refine ⟨srt_mem.mp (e ▸ List.mem_cons_self), fun y hy => ?_⟩
    have := srt_mem (key := key).mpr hy
    rw [e] at this
    rcases List.mem_cons.mp this with rfl | m
    · exact ((le_total key).total y y).elim id id
    · exact (List.pairwise_cons.mp s).1 y m
end
end Kn

set_option Elab.async false
set_option linter.all false
set_option maxRecDepth 100000
set_option autoImplicit false
/-! The order of terms. -/
namespace Kn
open PySem Dt Dt.R
open L2 (Key)
open PySem.W (dataLe keyToks keyToksAll sortLe alike alikeAll)
open PySem.SeqAt PyProof.Rows
/-- the key of a term -/
def tkD : T → D
  | .inl i => .tuple [.int 0, .int i, .str ""]
  | .inr s => .tuple [.int 1, .int 0, kD (.inr s)]
def tksD (ts : List T) : D := .tuple (ts.map tkD)
theorem alike_tk (a b : T) : alike (tkD a) (tkD b) = true := by
  cases a <;> cases b <;> rfl
theorem plain_tk (a : T) : (tkD a).plain = true := by cases a <;> rfl
theorem depth_tk (a : T) : (tkD a).depth = 1 := by cases a <;> rfl
theorem tup1_tk (a : T) : isTup1 (tkD a) = true := by cases a <;> rfl
theorem keysOk_tk (xs : List T) : keysOk (xs.map tkD) = true := by
  unfold keysOk
  simp [alike_tk, plain_tk, depth_tk, tup1_tk, Function.comp_def]
theorem toks_tk {a b : T} (h : keyToks (tkD a) = keyToks (tkD b)) : a = b := by
  cases a with
  | inl i => cases b with
    | inl j =>
      simp only [tkD, keyToks, keyToksAll] at h
      simp at h
      rw [h]
    | inr y =>
      simp only [tkD, keyToks, keyToksAll] at h
      simp at h
  | inr x => cases b with
    | inl j =>
      simp only [tkD, keyToks, keyToksAll] at h
      simp at h
    | inr y =>
      have e : keyToks (tkD (.inr x)) = [.inl 1, .inl 1, .inl 1, .inl 0, .inl 1, .inr x.cps.toList, .inl 0] := rfl
      have e2 : keyToks (tkD (.inr y)) = [.inl 1, .inl 1, .inl 1, .inl 0, .inl 1, .inr y.cps.toList, .inl 0] := rfl
      rw [e, e2] at h
      injection h with _ h; injection h with _ h; injection h with _ h; injection h with _ h; injection h with _ h; injection h with h _
      injection h with h
      rw [PySem.W.str_of_cps h]
theorem apart_tk (P : T → Prop) : Apart tkD P := fun _ _ _ _ h => toks_tk h
/-- terms in order -/
def inOrd (ts : List T) : List T := srt tkD ts
/-- the key of a row of terms -/
theorem alike_tks : ∀ (a b : List T), alikeAll (a.map tkD) (b.map tkD) = true
  | [], b => by cases b <;> rfl
  | x :: a, [] => rfl
  | x :: a, y :: b => by
    show (alike (tkD x) (tkD y) && alikeAll (a.map tkD) (b.map tkD)) = true
    rw [alike_tk, alike_tks a b]; rfl
theorem plain_tks (a : List T) : (tksD a).plain = true := by
  show PyData.plain (.tuple (a.map tkD)) = true
  rw [PyData.plain]
  induction a with
  | nil => rfl
  | cons x a ih => rw [List.map_cons, PyData.plainAll, plain_tk, ih]; rfl
theorem depth_tks (a : List T) : (tksD a).depth ≤ 2 := by
  show PyData.depth (.tuple (a.map tkD)) ≤ 2
  rw [PyData.depth]
  have : PyData.depthAll (a.map tkD) ≤ 1 := by
    induction a with
    | nil => exact Nat.zero_le _
    | cons x a ih => rw [List.map_cons, PyData.depthAll, depth_tk]; omega
  omega
theorem tup1_tks {a : List T} (h : a ≠ []) : isTup1 (tksD a) = true := by
  cases a with
  | nil => exact absurd rfl h
  | cons x a => rfl
theorem keysOk_tks {α : Type} {f : α → List T} {xs : List α} (h : ∀ x ∈ xs, f x ≠ []) : keysOk (xs.map fun x => tksD (f x)) = true := by
  unfold keysOk
  refine Bool.and_eq_true_iff.mpr ⟨Bool.and_eq_true_iff.mpr ⟨?_, Bool.or_eq_true_iff.mpr (.inl ?_)⟩, ?_⟩
  · refine List.all_eq_true.mpr fun d hd => List.all_eq_true.mpr fun e he => ?_
    obtain ⟨x, _, rfl⟩ := List.mem_map.mp hd
    obtain ⟨y, _, rfl⟩ := List.mem_map.mp he
    exact alike_tks _ _
  · refine List.all_eq_true.mpr fun d hd => ?_
    obtain ⟨x, hx, rfl⟩ := List.mem_map.mp hd
    exact tup1_tks (h x hx)
  · refine List.all_eq_true.mpr fun d hd => ?_
    obtain ⟨x, hx, rfl⟩ := List.mem_map.mp hd
    have := depth_tks (f x)
    rw [plain_tks, decide_eq_true (by omega)]; rfl
theorem toks_cut {a b : T} {l m : List (Int ⊕ List Nat)} (h : keyToks (tkD a) ++ l = keyToks (tkD b) ++ m) : a = b ∧ l = m := by
  have len : ∀ t : T, (keyToks (tkD t)).length = 7 := fun t => by cases t <;> rfl
  obtain ⟨h1, h2⟩ := List.append_inj h (by rw [len, len])
  exact ⟨toks_tk h1, h2⟩
theorem toks_tks : ∀ {a b : List T}, keyToksAll (a.map tkD) = keyToksAll (b.map tkD) → a = b
  | [], [], _ => rfl
  | [], y :: b, h => by simp [keyToksAll] at h
  | x :: a, [], h => by simp [keyToksAll] at h
  | x :: a, y :: b, h => by
    rw [List.map_cons, List.map_cons, PySem.W.toks_all_cons, PySem.W.toks_all_cons] at h
    injection h with _ h
    obtain ⟨h1, h2⟩ := toks_cut h
    rw [h1, toks_tks h2]
/-- the key of a pair -/
def pkD (p : T × T) : D := tksD [p.1, p.2]
theorem apart_pk (P : T × T → Prop) : Apart pkD P := fun a b _ _ h => by
  have h' : keyToksAll ([a.1, a.2].map tkD) = keyToksAll ([b.1, b.2].map tkD) := h
  have := toks_tks h'
  injection this with h1 h2
  injection h2 with h2 _
  exact Prod.ext h1 h2
theorem keysOk_pk (xs : Ps) : keysOk (xs.map pkD) = true := keysOk_tks (f := fun p : T × T => [p.1, p.2]) fun _ _ => by simp
def psOrd (ps : Ps) : Ps := srt pkD ps
end Kn

set_option Elab.async false
set_option linter.all false
set_option maxRecDepth 100000
set_option autoImplicit false
/-! Codes: data that tell their items apart. -/
namespace Kn
open PySem Dt Dt.R
structure IsCode {α : Type} [DecidableEq α] (enc : α → D) (n : Nat) : Prop where
  plain : ∀ a, (enc a).plain = true
  depth : ∀ a, (enc a).depth ≤ n
  eqv : ∀ a b, PyData.eqv (enc a) (enc b) = decide (a = b)
  scal : ∀ a es, enc a ≠ .dict es
def tpD {α : Type} (enc : α → D) (xs : List α) : D := .tuple (xs.map enc)
section
variable {α : Type} [DecidableEq α] {enc : α → D} {n : Nat} (C : IsCode enc n)
include C
theorem IsCode.inj {a b : α} (h : enc a = enc b) : a = b := by
  have := C.eqv a b
  rw [h, C.eqv b b, decide_eq_true rfl] at this
  exact of_decide_eq_true this.symm
theorem IsCode.plainAll (xs : List α) : PyData.plainAll (xs.map enc) = true := by
  induction xs with
  | nil => rfl
  | cons x xs ih => rw [List.map_cons, PyData.plainAll, C.plain, ih]; rfl
theorem IsCode.depthAll (xs : List α) : PyData.depthAll (xs.map enc) ≤ n := by
  induction xs with
  | nil => exact Nat.zero_le _
  | cons x xs ih => rw [List.map_cons, PyData.depthAll]; have := C.depth x; omega
theorem IsCode.eqvAll (xs : List α) : ∀ ys : List α, PyData.eqvAll (xs.map enc) (ys.map enc) = decide (xs = ys) := by
  induction xs with
  | nil =>
    intro ys
    cases ys with
    | nil => rfl
    | cons y ys => rw [decide_eq_false (by simp)]; rfl
  | cons x xs ih =>
    intro ys
    cases ys with
    | nil => rw [decide_eq_false (by simp)]; rfl
    | cons y ys =>
      rw [List.map_cons, List.map_cons, PySem.W.eqv_all_cons, C.eqv, ih ys]
      by_cases h : x = y
      · by_cases g : xs = ys
        · simp [h, g]
        · simp [h, g]
      · simp [h]
theorem IsCode.tup : IsCode (tpD enc) (n + 1) where
  plain xs := by show PyData.plain (.tuple (xs.map enc)) = true; rw [PyData.plain]; exact C.plainAll xs
  depth xs := by show PyData.depth (.tuple (xs.map enc)) ≤ _; rw [PyData.depth]; have := C.depthAll xs; omega
  eqv a b := by show PyData.eqv (.tuple (a.map enc)) (.tuple (b.map enc)) = _; rw [PyData.eqv]; exact C.eqvAll a b
  scal a es := by unfold tpD; simp
theorem IsCode.elem (xs : List α) (x : α) : elemD (xs.map enc) (enc x) = decide (x ∈ xs) := by
  unfold elemD
  induction xs with
  | nil => simp
  | cons y xs ih =>
    rw [List.map_cons, List.any_cons, ih, C.eqv]
    by_cases h : y = x
    · simp [h]
    · by_cases g : x ∈ xs
      · simp [g]
      · have h' : ¬ x = y := fun z => h z.symm
        simp [h, g, h']
theorem IsCode.inOk (hn : n ≤ 100) (xs : List α) (x : α) : inOk (enc x) (xs.map enc) = true := by
  unfold Dt.inOk
  have := C.depth x
  rw [C.plainAll, C.plain, decide_eq_true (by omega)]; rfl
theorem IsCode.inL (hn : n ≤ 100) (xs : List α) (x : α) : dInA (enc x) (.list (xs.map enc)) = some (.bool (decide (x ∈ xs))) := by
  show (if Dt.inOk (enc x) (xs.map enc) = true then some (PyData.bool (elemD (xs.map enc) (enc x))) else none) = _
  rw [if_pos (C.inOk hn xs x), C.elem]
theorem IsCode.inT (hn : n ≤ 100) (xs : List α) (x : α) : dInA (enc x) (.tuple (xs.map enc)) = some (.bool (decide (x ∈ xs))) := by
  show (if Dt.inOk (enc x) (xs.map enc) = true then some (PyData.bool (elemD (xs.map enc) (enc x))) else none) = _
  rw [if_pos (C.inOk hn xs x), C.elem]
theorem IsCode.ninL (hn : n ≤ 100) (xs : List α) (x : α) : dNotInA (enc x) (.list (xs.map enc)) = some (.bool !(decide (x ∈ xs))) := by
  show (if Dt.inOk (enc x) (xs.map enc) = true then some (PyData.bool !(elemD (xs.map enc) (enc x))) else none) = _
  rw [if_pos (C.inOk hn xs x), C.elem]
theorem IsCode.ninT (hn : n ≤ 100) (xs : List α) (x : α) : dNotInA (enc x) (.tuple (xs.map enc)) = some (.bool !(decide (x ∈ xs))) := by
  show (if Dt.inOk (enc x) (xs.map enc) = true then some (PyData.bool !(elemD (xs.map enc) (enc x))) else none) = _
  rw [if_pos (C.inOk hn xs x), C.elem]
theorem IsCode.eqOk (hn : n ≤ 100) (a b : α) : Dt.eqOk (enc a) (enc b) = true := by
  unfold Dt.eqOk
  have := C.depth a
  rw [C.plain, C.plain, decide_eq_true (by omega)]; rfl
theorem IsCode.dEq (hn : n ≤ 100) (a b : α) : Dt.dEq (enc a) (enc b) = some (.bool (decide (a = b))) := by
  unfold Dt.dEq
  rw [if_pos (C.eqOk hn a b), C.eqv]
theorem IsCode.dNe (hn : n ≤ 100) (a b : α) : Dt.dNe (enc a) (enc b) = some (.bool !(decide (a = b))) := by
  unfold Dt.dNe
  rw [if_pos (C.eqOk hn a b), C.eqv]
end
theorem code_kD : IsCode kD 0 := ⟨plain_kD, fun a => by rw [depth_kD]; exact Nat.le_refl _, eqv_kD, fun a es => by cases a <;> simp [kD]⟩
theorem code_pair : IsCode pairD 1 where
  plain p := (code_kD.tup.plain [p.1, p.2])
  depth p := (code_kD.tup.depth [p.1, p.2])
  eqv p q := by
    have := code_kD.tup.eqv [p.1, p.2] [q.1, q.2]
    show PyData.eqv (tpD kD [p.1, p.2]) (tpD kD [q.1, q.2]) = _
    rw [this]
    refine decide_eq_decide.mpr ⟨fun h => ?_, fun h => by rw [h]⟩
    injection h with h1 h2
    injection h2 with h2 _
    exact Prod.ext h1 h2
  scal p es := by unfold pairD; simp
theorem code_ps : IsCode psD 2 := code_pair.tup
theorem code_kn : IsCode knD 3 where
  plain p := (code_ps.tup.plain [p.1, p.2])
  depth p := (code_ps.tup.depth [p.1, p.2])
  eqv p q := by
    have := code_ps.tup.eqv [p.1, p.2] [q.1, q.2]
    show PyData.eqv (tpD psD [p.1, p.2]) (tpD psD [q.1, q.2]) = _
    rw [this]
    refine decide_eq_decide.mpr ⟨fun h => ?_, fun h => by rw [h]⟩
    injection h with h1 h2
    injection h2 with h2 _
    exact Prod.ext h1 h2
  scal p es := by unfold knD; simp
/-- each once, in the order of coming -/
def dbl {α : Type} [DecidableEq α] (xs : List α) : List α := xs.foldl (fun o x => if x ∈ o then o else o ++ [x]) []
section
variable {α : Type} [DecidableEq α]
theorem dbl_from : ∀ (xs o : List α), o.Nodup → (xs.foldl (fun o x => if x ∈ o then o else o ++ [x]) o).Nodup ∧ ∀ y, y ∈ xs.foldl (fun o x => if x ∈ o then o else o ++ [x]) o ↔ y ∈ o ∨ y ∈ xs
  | [], o, h => ⟨h, fun y => by simp⟩
  | x :: xs, o, h => by
    rw [List.foldl_cons]
    by_cases hx : x ∈ o
    · rw [if_pos hx]
      obtain ⟨h1, h2⟩ := dbl_from xs o h
      refine ⟨h1, fun y => (h2 y).trans ?_⟩
      rw [List.mem_cons]
      exact ⟨fun z => z.imp id .inr, fun z => z.elim .inl fun z => z.elim (fun e => .inl (e ▸ hx)) .inr⟩
    · rw [if_neg hx]
      obtain ⟨h1, h2⟩ := dbl_from xs (o ++ [x]) (List.nodup_append.mpr ⟨h, by simp, fun a ha b hb => by
        have : b = x := by simpa using hb
        subst this
        exact fun z => hx (z ▸ ha)⟩)
      refine ⟨h1, fun y => (h2 y).trans ?_⟩
      rw [List.mem_append, List.mem_singleton, List.mem_cons, or_assoc]
theorem dbl_nodup (xs : List α) : (dbl xs).Nodup := (dbl_from xs [] List.nodup_nil).1
theorem dbl_mem {xs : List α} {y : α} : y ∈ dbl xs ↔ y ∈ xs := ((dbl_from xs [] List.nodup_nil).2 y).trans (by simp)
theorem dbl_len (xs : List α) : ∀ o : List α, (xs.foldl (fun o x => if x ∈ o then o else o ++ [x]) o).length ≤ o.length + xs.length := by
  induction xs with
  | nil => intro o; simp
  | cons x xs ih =>
    intro o
    rw [List.foldl_cons, List.length_cons]
    have := ih (if x ∈ o then o else o ++ [x])
    by_cases h : x ∈ o
    · rw [if_pos h] at this ⊢; omega
    · rw [if_neg h] at this ⊢
      rw [List.length_append, List.length_singleton] at this
      omega
end
end Kn

set_option Elab.async false
set_option linter.all false
set_option maxRecDepth 100000
set_option autoImplicit false
/-! Dicts with terms as keys. -/
namespace Kn
open PySem Dt Dt.R
section
variable {β : Type} {f : β → D}
def dmD (f : β → D) (m : List (T × β)) : List (D × D) := m.map fun e => (kD e.1, f e.2)
def lkG (m : List (T × β)) (k : T) : Option β := (m.find? fun e => decide (e.1 = k)).map (·.2)
def putG (m : List (T × β)) (k : T) (v : β) : List (T × β) := if (lkG m k).isSome then m.map (fun e => if e.1 = k then (e.1, v) else e) else m ++ [(k, v)]
theorem lkG_nil {k : T} : lkG ([] : List (T × β)) k = none := rfl
theorem lkG_cons {e : T × β} {m : List (T × β)} {k : T} : lkG (e :: m) k = if e.1 = k then some e.2 else lkG m k := by
  unfold lkG
  rw [List.find?_cons]
  by_cases h : e.1 = k
  · rw [decide_eq_true h, if_pos h]; rfl
  · rw [decide_eq_false h, if_neg h]
theorem flat_dm (m : List (T × β)) : flatK (dmD f m) = true := by
  unfold flatK dmD
  rw [List.all_map]
  exact List.all_eq_true.mpr fun e _ => by show (keyOf (kD e.1)).isSome = true; rw [keyOf_kD]; rfl
theorem dlook_dm (m : List (T × β)) (k : T) : dlook (dmD f m) k = (lkG m k).map f := by
  induction m with
  | nil => rfl
  | cons e n ih =>
    rw [lkG_cons]
    show dlook ((kD e.1, _) :: dmD f n) k = _
    unfold dlook at ih ⊢
    rw [List.find?_cons, keyOf_kD]
    by_cases h : e.1 = k
    · simp [h]
    · rw [decide_eq_false fun z => h (Option.some.inj z), if_neg h]; exact ih
theorem any_dm (m : List (T × β)) (k : T) : ((dmD f m).any fun e => decide (keyOf e.1 = some k)) = (lkG m k).isSome := by
  induction m with
  | nil => rfl
  | cons e n ih =>
    show (((kD e.1, _) :: dmD f n).any _) = _
    rw [List.any_cons, ih, lkG_cons, keyOf_kD]
    by_cases h : e.1 = k
    · simp [h]
    · rw [decide_eq_false fun z => h (Option.some.inj z), if_neg h]; rfl
theorem dput_dm (m : List (T × β)) (k : T) (v : β) : dput (dmD f m) k (f v) = dmD f (putG m k v) := by
  unfold putG
  by_cases h : (lkG m k).isSome = true
  · rw [if_pos h]
    unfold dput
    rw [any_dm, if_pos h]
    unfold dmD
    rw [List.map_map, List.map_map]
    refine List.map_congr_left fun e _ => ?_
    show (if keyOf (kD e.1) = some k then (kD e.1, f v) else (kD e.1, f e.2)) = _
    rw [keyOf_kD]
    by_cases g : e.1 = k
    · rw [if_pos (congrArg some g)]
      show _ = (kD (if e.1 = k then (e.1, v) else e).1, f (if e.1 = k then (e.1, v) else e).2)
      rw [if_pos g]
    · rw [if_neg fun z => g (Option.some.inj z)]
      show _ = (kD (if e.1 = k then (e.1, v) else e).1, f (if e.1 = k then (e.1, v) else e).2)
      rw [if_neg g]
  · rw [if_neg h]
    unfold dput
    rw [any_dm, if_neg h]
    unfold dmD
    rw [List.map_append]; rfl
theorem dmerge_dm (m : List (T × β)) : ∀ n : List (T × β), dmerge (dmD f n) (dmD f m) = dmD f (m.foldl (fun n e => putG n e.1 e.2) n) := by
  induction m with
  | nil => intro n; rfl
  | cons e m ih =>
    intro n
    have e1 : dmerge (dmD f n) (dmD f (e :: m)) = dmerge (dput (dmD f n) e.1 (f e.2)) (dmD f m) := by
      show dmerge (dmD f n) ((kD e.1, f e.2) :: dmD f m) = _
      unfold dmerge
      rw [List.foldl_cons, keyOf_kD]
    rw [e1, dput_dm, ih]; rfl
theorem keys_dm (m : List (T × β)) : keysD (dmD f m) = m.map fun e => kD e.1 := by
  unfold keysD dmD
  rw [List.map_map]; rfl
theorem pairsOf_dm (m : List (T × β)) : pairsOf (m.map fun e => .tuple [kD e.1, f e.2]) = some (dmD f m) := by
  induction m with
  | nil => rfl
  | cons e m ih =>
    rw [List.map_cons]
    unfold pairsOf
    rw [keyOf_kD, ih]; rfl
theorem dIxA_dm {m : List (T × β)} {k : T} {v : β} (h : lkG m k = some v) : dIxA (.dict (dmD f m)) (kD k) = some (f v) := by
  show (if flatK (dmD f m) then (keyOf (kD k)).bind (dlook (dmD f m)) else _) = _
  rw [if_pos (flat_dm m), keyOf_kD]
  show dlook (dmD f m) k = _
  rw [dlook_dm, h]; rfl
theorem dGet2_dm (m : List (T × β)) (k : T) (x : D) : dGet2 (dmD f m) (kD k) x = some (((lkG m k).map f).getD x) := by
  unfold dGet2
  rw [if_pos (flat_dm m), keyOf_kD]
  show some ((dlook (dmD f m) k).getD x) = _
  rw [dlook_dm]
theorem lkG_put (m : List (T × β)) (k x : T) (v : β) : lkG (putG m k v) x = if x = k then some v else lkG m x := by
  unfold putG
  by_cases h : (lkG m k).isSome = true
  · rw [if_pos h]
    induction m with
    | nil => cases h
    | cons e m ih =>
      rw [List.map_cons, lkG_cons, lkG_cons]
      rw [lkG_cons] at h
      by_cases g : e.1 = k
      · rw [if_pos g]
        show (if e.1 = x then some v else _) = _
        by_cases q : e.1 = x
        · rw [if_pos q, if_pos (q ▸ g)]
        · have q' : ¬ x = k := fun z => q (g.trans z.symm)
          rw [if_neg q, if_neg q', if_neg q]
          -- the rest does not change x
          clear ih h
          induction m with
          | nil => rfl
          | cons e2 m ih2 =>
            rw [List.map_cons, lkG_cons, lkG_cons, ih2]
            by_cases g2 : e2.1 = k
            · rw [if_pos g2]
              have q2 : ¬ e2.1 = x := fun z => q' (z.symm.trans g2)
              show (if e2.1 = x then _ else _) = _
              rw [if_neg q2, if_neg q2]
            · rw [if_neg g2]
      · rw [if_neg g] at h ⊢
        rw [ih h]
        by_cases q : e.1 = x
        · have : ¬ x = k := fun z => g (q.trans z)
          rw [if_pos q, if_neg this, if_pos q]
        · rw [if_neg q, if_neg q]
  · rw [if_neg h]
    have hn : lkG m k = none := by cases e : lkG m k with | none => rfl | some v => rw [e] at h; exact absurd rfl h
    clear h
    induction m with
    | nil =>
      rw [List.nil_append, lkG_cons]
      by_cases q : k = x
      · rw [if_pos q, if_pos q.symm]
      · rw [if_neg q, if_neg fun z => q z.symm]
    | cons e m ih =>
      rw [lkG_cons] at hn
      by_cases g : e.1 = k
      · rw [if_pos g] at hn; cases hn
      · rw [if_neg g] at hn
        rw [List.cons_append, lkG_cons, lkG_cons, ih hn]
        by_cases q : e.1 = x
        · have : ¬ x = k := fun z => g (q.trans z)
          rw [if_pos q, if_neg this, if_pos q]
        · rw [if_neg q, if_neg q]
end
end Kn

set_option Elab.async false
set_option linter.all false
set_option maxRecDepth 100000
set_option autoImplicit false
/-! Mirrors, step by step: each combinator by one lemma. -/
namespace Dt.St
open PySem L2 Dt R
section
variable {ρ ρ1 ρ2 ρ3 : Ev} {d x y r : D} {ds : List D}
theorem vr {i : Nat} (h : getv ρ i = some d) : var i ρ = .ok (d, ρ) := by
  unfold var; rw [h]; rfl
theorem cs : cst d ρ = .ok (d, ρ) := rfl
theorem a0 : aNil ρ = .ok ([], ρ) := rfl
theorem ac {m : ME} {ms : MA} (h : m ρ = .ok (d, ρ1)) (hs : ms ρ1 = .ok (ds, ρ2)) : aCons m ms ρ = .ok (d :: ds, ρ2) := by
  unfold aCons; rw [h]; show (ms ρ1).bind _ = _; rw [hs]; rfl
theorem a1 {m : ME} (h : m ρ = .ok (d, ρ1)) : aCons m aNil ρ = .ok ([d], ρ1) := ac h a0
theorem call {g : GA} {ms : MA} (h : ms ρ = .ok (ds, ρ1)) (hg : g ds = some r) : mCall g ms ρ = .ok (r, ρ1) := by
  unfold mCall; rw [h]; show (R.opt (g ds)).bind _ = _; rw [hg]; rfl
theorem callF {fn : List D → R D} {ms : MA} (h : ms ρ = .ok (ds, ρ1)) (hg : fn ds = .ok r) : mCallF fn ms ρ = .ok (r, ρ1) := by
  unfold mCallF; rw [h]; show (fn ds).bind _ = _; rw [hg]; rfl
theorem op {g : G2} {a b : ME} (h1 : a ρ = .ok (x, ρ1)) (h2 : b ρ1 = .ok (y, ρ2)) (h3 : g x y = some r) : mOp g a b ρ = .ok (r, ρ2) := by
  unfold mOp; rw [h1]; show (b ρ1).bind _ = _; rw [h2]; show (R.opt (g x y)).bind _ = _; rw [h3]; rfl
theorem tup {ms : MA} (h : ms ρ = .ok (ds, ρ1)) (hz : ds.length ≤ 1000) : mTup ms ρ = .ok (.tuple ds, ρ1) := by
  unfold mTup; rw [h]; show (if ds.length ≤ 1000 then _ else _) = _; rw [if_pos hz]
theorem set {g : MG} {m : ME} (h : m ρ = .ok (d, ρ1)) (hg : g d ρ1 = .ok ρ2) : sSet g m ρ = .ok (.nx, ρ2) := by
  unfold sSet; rw [h]; show (g d ρ1).nox.bind _ = _; rw [hg]; rfl
theorem ret {m : ME} (h : m ρ = .ok (d, ρ1)) : sRet m ρ = .ok (.rt d, ρ1) := by
  unfold sRet; rw [h]; rfl
theorem seq {m m' : MS} (h : m ρ = .ok (.nx, ρ1)) : sSeq m m' ρ = m' ρ1 := by
  unfold sSeq; rw [h]; rfl
theorem ift {t : MB} {a b : MS} (h : t ρ = .ok (true, ρ1)) : sIf t a b ρ = a ρ1 := by
  unfold sIf; rw [h]; rfl
theorem iff {t : MB} {a b : MS} (h : t ρ = .ok (false, ρ1)) : sIf t a b ρ = b ρ1 := by
  unfold sIf; rw [h]; rfl
/-- an if that is passed by -/
theorem pass {t : MB} {a : MS} (h : t ρ = .ok (false, ρ1)) : sIf t a sNil ρ = .ok (.nx, ρ1) := by
  rw [iff h]; rfl
theorem tr {m : ME} {b : Bool} (h : m ρ = .ok (d, ρ1)) (hd : truD d = some b) : mTru m ρ = .ok (b, ρ1) := by
  unfold mTru; rw [h]; show (R.opt (truD d)).bind _ = _; rw [hd]; rfl
theorem trB {m : ME} {b : Bool} (h : m ρ = .ok (.bool b, ρ1)) : mTru m ρ = .ok (b, ρ1) := tr h rfl
theorem bl {m : ME} {b : Bool} (h : m ρ = .ok (.bool b, ρ1)) : mBool m ρ = .ok (b, ρ1) := by
  unfold mBool; rw [h]; rfl
theorem nt {t : MB} {b : Bool} (h : t ρ = .ok (b, ρ1)) : mNotB t ρ = .ok (!b, ρ1) := by
  unfold mNotB; rw [h]; rfl
theorem orf {t s : MB} {b : Bool} (h : t ρ = .ok (false, ρ1)) (g : s ρ1 = .ok (b, ρ2)) : mOrB t s ρ = .ok (b, ρ2) := by
  unfold mOrB; rw [h]; exact g
theorem ort {t s : MB} (h : t ρ = .ok (true, ρ1)) : mOrB t s ρ = .ok (true, ρ1) := by
  unfold mOrB; rw [h]; rfl
theorem it {m : ME} (h : m ρ = .ok (d, ρ1)) (hi : items d = some ds) : iSq m ρ = .ok (ds, ρ1) := by
  unfold iSq; rw [h]; show (R.opt (items d)).bind _ = _; rw [hi]; rfl
theorem rg {g : List D → Option (List D)} {ms : MA} {rs : List D} (h : ms ρ = .ok (ds, ρ1)) (hg : g ds = some rs) : iRg g ms ρ = .ok (rs, ρ1) := by
  unfold iRg; rw [h]; show (R.opt (g ds)).bind _ = _; rw [hg]; rfl
theorem lc {k : Bool} {mi : MA} {vs : List Nat} {g : MG} {tt : MB} {me : ME} {rs : List D} (h : mi ρ = .ok (ds, ρ1)) (hg : lcG k vs g tt me ds ρ1 = .ok (rs, ρ2)) : mLc k mi vs g tt me ρ = .ok (.list rs, ρ2) := by
  unfold mLc; rw [h]; show (lcG k vs g tt me ds ρ1).nox.bind _ = _; rw [hg]; rfl
theorem fr {i : MA} {g : MG} {b : MS} {z : Fl × Ev} (h : i ρ = .ok (ds, ρ1)) (hf : sFor g b ds ρ1 = .ok z) : sForE i g b ρ = .ok z := by
  unfold sForE; rw [h]; exact hf
theorem mif_t {t : MB} {a b : ME} (h : t ρ = .ok (true, ρ1)) (g : a ρ1 = .ok (d, ρ2)) : mIf t a b ρ = .ok (d, ρ2) := by
  unfold mIf; rw [h]; exact g
theorem mif_f {t : MB} {a b : ME} (h : t ρ = .ok (false, ρ1)) (g : b ρ1 = .ok (d, ρ2)) : mIf t a b ρ = .ok (d, ρ2) := by
  unfold mIf; rw [h]; exact g
theorem sl {ma : ME} {ml mh : MO} {lo hi : Option Int} (h : ma ρ = .ok (d, ρ1)) (hl : ml ρ1 = .ok (lo, ρ2)) (hh : mh ρ2 = .ok (hi, ρ3)) (hg : dSl d lo hi = some r) : mSl ma ml mh ρ = .ok (r, ρ3) := by
  unfold mSl; rw [h]; show (ml ρ1).bind _ = _; rw [hl]; show (mh ρ2).bind _ = _; rw [hh]; show (R.opt (dSl d lo hi)).bind _ = _; rw [hg]; rfl
theorem orT {ma mb : ME} (h : ma ρ = .ok (.bool true, ρ1)) : mOr ma mb ρ = .ok (.bool true, ρ1) := by
  unfold mOr; rw [h]; rfl
theorem orF {ma mb : ME} (h : ma ρ = .ok (.bool false, ρ1)) (g : mb ρ1 = .ok (d, ρ2)) : mOr ma mb ρ = .ok (d, ρ2) := by
  unfold mOr; rw [h]; exact g
theorem andT {ma mb : ME} (h : ma ρ = .ok (.bool true, ρ1)) (g : mb ρ1 = .ok (d, ρ2)) : mAnd ma mb ρ = .ok (d, ρ2) := by
  unfold mAnd; rw [h]; exact g
theorem runF_rt {n N : Nat} {b : MS} (hl : ds.length = n) (h : b (startE n N ds) = .ok (.rt d, ρ1)) : runF n N b ds = .ok d := by
  unfold runF; rw [if_pos hl, h]; rfl
theorem runI_rt {n N j : Nat} {b : MS} (hl : ds.length = n) (h : b (startE n N ds) = .ok (.rt d, ρ1)) (hj : getv ρ1 j = some x) : runI n N j b ds = .ok (d, x) := by
  unfold runI; rw [if_pos hl, h]; show (R.opt (getv ρ1 j)).bind _ = _; rw [hj]; rfl
end
end Dt.St

set_option Elab.async false
set_option linter.all false
set_option maxRecDepth 100000
set_option autoImplicit false
namespace Kn
open PySem Dt Dt.R
theorem getD_range {α : Type} (d : α) : ∀ xs : List α, (List.range xs.length).map (fun j => xs.getD j d) = xs
  | [] => rfl
  | x :: xs => by
    rw [List.length_cons, List.range_succ_eq_map, List.map_cons, List.map_map]
    have : ((fun j => (x :: xs).getD j d) ∘ Nat.succ) = fun j => xs.getD j d := rfl
    rw [this, getD_range d xs]
    rfl
end Kn
namespace Lw
open PySem Kn Dt Dt.R
open L2 (Key)
theorem ix_at {α : Type} (enc : α → D) (d : α) (xs : List α) {i : Nat} (h : i < xs.length) : dIxA (.tuple (xs.map enc)) (.int (i : Int)) = some (enc (xs.getD i d)) := by
  show L2.atI (xs.map enc) (i : Int) = _
  unfold L2.atI L2.ixN
  rw [List.length_map, if_pos (by omega), if_pos (by omega)]
  show (xs.map enc)[((i : Int)).toNat]? = _
  rw [Int.toNat_natCast, List.getElem?_map, List.getElem?_eq_getElem h, List.getD_eq_getElem?_getD, List.getElem?_eq_getElem h]
  rfl
theorem rng_at (n : Nat) (h : n ≤ 1000000) : rng1 [.int (n : Int)] = some ((List.range n).map fun i => .int ((i : Nat) : Int)) := by
  have h1 : decide ((n : Int) ≤ 16777216) = true := decide_eq_true (by omega)
  have h2 : decide (-16777216 ≤ (n : Int)) = true := decide_eq_true (by omega)
  show (if (decide ((n : Int) ≤ 16777216) && decide (-16777216 ≤ (n : Int))) = true then some (rng 0 (n : Int).toNat) else none) = _
  rw [h1, h2, if_pos (by rfl), Int.toNat_natCast]
  unfold rng
  simp [runF, runI, runFr, startE, sSeq, sSet, sExpr, sRet, sRetN, sIf, sForE, mIf, mTru, mBool, mNotB, mAndB, mOrB, mCallF, mCall, aCons, aNil, var, getv, cst, mOp, mUn, mTup, mLst, mAnd, mOr, gSet, gOwn, gTpl, gsCons, gsNil, iSq, mDict0, R.bind, R.opt, R.nox, truD, tru, asB]
theorem rng_from (i n : Nat) (h : n ≤ 1000000) (hi : i ≤ n) : rng2 [.int (i : Int), .int (n : Int)] = some (((List.range (n - i)).map fun j => i + j).map fun i => .int ((i : Nat) : Int)) := by
  have h1 : small62 (i : Int) = true := by unfold small62; rw [Bool.and_eq_true, decide_eq_true_iff, decide_eq_true_iff]; omega
  have h2 : small62 (n : Int) = true := by unfold small62; rw [Bool.and_eq_true, decide_eq_true_iff, decide_eq_true_iff]; omega
  have h3 : decide ((n : Int) - (i : Int) ≤ 16777216) = true := decide_eq_true (by omega)
  show (if (small62 (i : Int) && (small62 (n : Int) && decide ((n : Int) - (i : Int) ≤ 16777216))) = true then some (rng i ((n : Int) - (i : Int)).toNat) else none) = _
  rw [h1, h2, h3, if_pos (by rfl), show ((n : Int) - (i : Int)).toNat = n - i by omega, List.map_map]
  unfold rng
  rfl
theorem seq_nx {m m' : MS} {ρ ρ1 : Ev} (h : m ρ = .ok (.nx, ρ1)) : sSeq m m' ρ = m' ρ1 := by
  simp [runF, runI, runFr, startE, sSeq, sSet, sExpr, sRet, sRetN, sIf, sForE, mIf, mTru, mBool, mNotB, mAndB, mOrB, mCallF, mCall, aCons, aNil, var, getv, cst, mOp, mUn, mTup, mLst, mAnd, mOr, gSet, gOwn, gTpl, gsCons, gsNil, iSq, mDict0, R.bind, R.opt, R.nox, truD, tru, asB, h]
theorem forE_eq {i : MA} {g : MG} {b : MS} {ρ ρ1 : Ev} {ds : List D} (h : i ρ = .ok (ds, ρ1)) : sForE i g b ρ = sFor g b ds ρ1 := by
  simp [runF, runI, runFr, startE, sSeq, sSet, sExpr, sRet, sRetN, sIf, sForE, mIf, mTru, mBool, mNotB, mAndB, mOrB, mCallF, mCall, aCons, aNil, var, getv, cst, mOp, mUn, mTup, mLst, mAnd, mOr, gSet, gOwn, gTpl, gsCons, gsNil, iSq, mDict0, R.bind, R.opt, R.nox, truD, tru, asB, h]
end Lw

namespace Kn
open PySem Dt Dt.R
end Kn
namespace Lw
open PySem Kn Dt Dt.R
open L2 (Key)
theorem it_list (ds : List D) : items (.list ds) = some ds := rfl
end Lw

namespace Kn
open PySem Dt Dt.R
end Kn
namespace Lw
open PySem Kn Dt Dt.R
open L2 (Key)
theorem dLen_list (ds : List D) : dLenA [.list ds] = some (.int ds.length) := rfl
theorem dLen_tup (ds : List D) : dLenA [.tuple ds] = some (.int ds.length) := rfl
end Lw

namespace Kn
open PySem Dt Dt.R
end Kn
namespace Lw
open PySem Kn Dt Dt.R
open L2 (Key)
theorem asBs_map {α : Type} (f : α → Bool) : ∀ xs : List α, asBs (xs.map fun x => .bool (f x)) = some (xs.map f)
  | [] => rfl
  | x :: xs => by
    rw [List.map_cons, List.map_cons]
    unfold asBs
    rw [asBs_map f xs]; rfl
theorem dAny_map {α : Type} (f : α → Bool) (xs : List α) : dAny [.list (xs.map fun x => .bool (f x))] = some (.bool (xs.any f)) := by
  show (asBs (xs.map fun x => .bool (f x))).map _ = _
  rw [asBs_map, Option.map_some, List.any_map]; rfl
theorem dAll_map {α : Type} (f : α → Bool) (xs : List α) : dAll [.list (xs.map fun x => .bool (f x))] = some (.bool (xs.all f)) := by
  show (asBs (xs.map fun x => .bool (f x))).map _ = _
  rw [asBs_map, Option.map_some, List.all_map]; rfl
end Lw

namespace Lw
open PySem Kn Dt Dt.R
open L2 (Key)
def intsD (xs : List Int) : D := .list (xs.map PyData.int)
theorem asInts_map : ∀ xs : List Int, asInts (xs.map PyData.int) = some xs
  | [] => rfl
  | x :: xs => by
    show (asInts (xs.map PyData.int)).map (x :: ·) = _
    rw [asInts_map xs]; rfl
theorem it_scr (ns : List Int) : items (scrD ns) = some (ns.map PyData.int) := by
  show (asInts (ns.map PyData.int)).map _ = _
  rw [asInts_map]; rfl
theorem ix_int (xs : List Int) {a : Nat} (h : a < xs.length) : dIxA (intsD xs) (.int (a : Int)) = some (.int (xs.getD a 0)) := by
  show L2.atI (xs.map PyData.int) (a : Int) = _
  unfold L2.atI L2.ixN
  rw [List.length_map, if_pos (by omega), if_pos (by omega)]
  show (xs.map PyData.int)[((a : Int)).toNat]? = _
  rw [Int.toNat_natCast, List.getElem?_map, List.getElem?_eq_getElem h, List.getD_eq_getElem?_getD, List.getElem?_eq_getElem h]
  rfl
theorem ixN_nat {n a : Nat} (h : a < n) : L2.ixN n (a : Int) = some a := by
  unfold L2.ixN
  rw [if_pos (by omega), if_pos (by omega), Int.toNat_natCast]
theorem mod_pos (i j : Int) (h : 0 < j) : dMod (.int i) (.int j) = some (.int (i % j)) := by
  show (if 0 < j then some (PyData.int (i % j)) else none) = _
  rw [if_pos h]
theorem mulI_r (i j : Int) (h : small64 j = true) : dMulI (.int i) (.int j) = some (.int (i * j)) := by
  show (if (small64 i || small64 j) = true then some (PyData.int (i * j)) else none) = _
  rw [h, Bool.or_true, if_pos rfl]
theorem mulI_l (i j : Int) (h : small64 i = true) : dMulI (.int i) (.int j) = some (.int (i * j)) := by
  show (if (small64 i || small64 j) = true then some (PyData.int (i * j)) else none) = _
  rw [h, Bool.true_or, if_pos rfl]
theorem seqF_nx {m m' : MS} {ρ ρ1 : Ev} (h : m ρ = .ok (.nx, ρ1)) : sSeqF m m' ρ = m' ρ1 := by
  unfold sSeqF
  rw [h]; rfl
def bDraw : MS := (sSeq (sSet (gSet 6) (mOp dMod (var 5) (mCall dLenA (aCons (var 2) aNil)))) (sIf (mAndB (mBool (mOp dGe (mOp dIxA (var 2) (var 6)) (mOp dPow (cst (.int 10)) (cst (.int 18))))) (mBool (mOp dGt (mOp dIxA (var 3) (var 6)) (cst (.int 0))))) (sSeq (sExpr (eApp 4 (mOp dMod (mCall dInt (aCons (mOp dIxA (var 3) (var 6)) aNil)) (cst (.int 1000))))) (sPutL 3 (mOp dFdiv (mOp dIxA (var 3) (var 6)) (cst (.int 1000))) (var 6))) (sSeq (sSet (gSet 7) (mOp dMod (mCall dInt (aCons (mOp dAdd (mOp dAdd (mOp dMulI (mOp dIxA (var 2) (var 6)) (cst (.int 48271))) (mOp dMulI (var 5) (cst (.int 69621)))) (cst (.int 11))) aNil)) (cst (.int 2147483647)))) (sExpr (eApp 4 (mOp dMod (mCall dInt (aCons (mOp dAdd (mOp dAdd (mOp dMulI (var 7) (var 7)) (mOp dMulI (cst (.int 3)) (var 7))) (var 5)) aNil)) (cst (.int 1000003))))))))
theorem lnI (xs : List Int) : dLenA [intsD xs] = some (.int (xs.length : Int)) := by
  show some (PyData.int ((xs.map PyData.int).length : Int)) = _
  rw [List.length_map]
theorem asl_ints (xs : List Int) : asL (some (intsD xs)) = some (xs.map PyData.int) := rfl
theorem draw_step (s m : D) (cs rs ds : List Int) (i : Nat) (v6 v7 v8 : Option D) (h0 : 0 < cs.length) (h1 : rs.length = cs.length) (hd : ds.length < 1000000) :
    ∃ rs' ds' w6 w7, bDraw [some s, some m, some (intsD cs), some (intsD rs), some (intsD ds), some (.int (i : Int)), v6, v7, v8] = .ok (.nx, [some s, some m, some (intsD cs), some (intsD rs'), some (intsD ds'), some (.int (i : Int)), w6, w7, v8]) ∧ rs'.length = cs.length ∧ ds'.length = ds.length + 1 := by
  have ha : i % cs.length < cs.length := Nat.mod_lt _ h0
  have m1 : dMod (.int (i : Int)) (.int (cs.length : Int)) = some (.int ((i % cs.length : Nat) : Int)) := by
    rw [mod_pos _ _ (by omega)]; rfl
  have c1 := ix_int cs ha
  have r1 := ix_int rs (a := i % cs.length) (by rw [h1]; exact ha)
  generalize cs.getD (i % cs.length) 0 = c at c1
  generalize rs.getD (i % cs.length) 0 = r at r1
  have pw : dPow (.int 10) (.int 18) = some (.int 1000000000000000000) := rfl
  have ge : dGe (.int c) (.int 1000000000000000000) = some (.bool (decide (1000000000000000000 ≤ c))) := rfl
  have gt : dGt (.int r) (.int 0) = some (.bool (decide (0 < r))) := rfl
  have hs : ds.length < sizeLine := by rw [sizeN]; omega
  have ln := lnI cs
  have s1 : sSet (gSet 6) (mOp dMod (var 5) (mCall dLenA (aCons (var 2) aNil))) [some s, some m, some (intsD cs), some (intsD rs), some (intsD ds), some (.int (i : Int)), v6, v7, v8] = .ok (.nx, [some s, some m, some (intsD cs), some (intsD rs), some (intsD ds), some (.int (i : Int)), some (.int ((i % cs.length : Nat) : Int)), v7, v8]) := by
    simp only [sSet, mOp, var, getv, mCall, aCons, aNil, R.bind, R.opt, R.nox, List.getElem?_cons_succ, List.getElem?_cons_zero, ln, m1]
    rfl
  have t1 : (mAndB (mBool (mOp dGe (mOp dIxA (var 2) (var 6)) (mOp dPow (cst (.int 10)) (cst (.int 18))))) (mBool (mOp dGt (mOp dIxA (var 3) (var 6)) (cst (.int 0))))) [some s, some m, some (intsD cs), some (intsD rs), some (intsD ds), some (.int (i : Int)), some (.int ((i % cs.length : Nat) : Int)), v7, v8] = .ok (decide (1000000000000000000 ≤ c) && decide (0 < r), [some s, some m, some (intsD cs), some (intsD rs), some (intsD ds), some (.int (i : Int)), some (.int ((i % cs.length : Nat) : Int)), v7, v8]) := by
    cases q : decide (1000000000000000000 ≤ c) <;> rw [q] at ge <;> simp only [mAndB, mBool, mOp, var, getv, cst, R.bind, R.opt, R.nox, List.getElem?_cons_succ, List.getElem?_cons_zero, c1, r1, pw, ge, gt, asB] <;> rfl
  cases t : (decide (1000000000000000000 ≤ c) && decide (0 < r)) <;> rw [t] at t1
  · have m2 := mulI_r c 48271 rfl
    have hz : small64 ((c * 48271 + i * 69621 + 11) % 2147483647) = true := by
      have h1 := Int.emod_nonneg (c * 48271 + i * 69621 + 11) (show (2147483647 : Int) ≠ 0 by decide)
      have h2 := Int.emod_lt_of_pos (c * 48271 + i * 69621 + 11) (show (0 : Int) < 2147483647 by decide)
      unfold small64
      rw [Bool.and_eq_true, decide_eq_true_iff, decide_eq_true_iff]
      omega
    have ad : ∀ x y : Int, dAdd (.int x) (.int y) = some (.int (x + y)) := fun _ _ => rfl
    have it : ∀ x : Int, dInt [.int x] = some (.int x) := fun _ => rfl
    have s2 : ∀ z : Int, sSet (gSet 7) (mOp dMod (mCall dInt (aCons (mOp dAdd (mOp dAdd (mOp dMulI (mOp dIxA (var 2) (var 6)) (cst (.int 48271))) (mOp dMulI (var 5) (cst (.int 69621)))) (cst (.int 11))) aNil)) (cst (.int 2147483647))) [some s, some m, some (intsD cs), some (intsD rs), some (intsD ds), some (.int z), some (.int ((i % cs.length : Nat) : Int)), v7, v8] = .ok (.nx, [some s, some m, some (intsD cs), some (intsD rs), some (intsD ds), some (.int z), some (.int ((i % cs.length : Nat) : Int)), some (.int ((c * 48271 + z * 69621 + 11) % 2147483647)), v8]) := fun z => by
      have m3 := mulI_r z 69621 rfl
      have m4 := mod_pos (c * 48271 + z * 69621 + 11) 2147483647 (by decide)
      simp only [sSet, mOp, var, getv, cst, mCall, aCons, aNil, R.bind, R.opt, R.nox, List.getElem?_cons_succ, List.getElem?_cons_zero, c1, m2, m3, m4, ad, it]
      rfl
    have s2 := s2 (i : Int)
    generalize (c * 48271 + i * 69621 + 11) % 2147483647 = g at s2 hz
    have m5 := mulI_l g g hz
    have m6 := mulI_r 3 g hz
    have m7 := mod_pos (g * g + 3 * g + i) 1000003 (by decide)
    have s3 : sExpr (eApp 4 (mOp dMod (mCall dInt (aCons (mOp dAdd (mOp dAdd (mOp dMulI (var 7) (var 7)) (mOp dMulI (cst (.int 3)) (var 7))) (var 5)) aNil)) (cst (.int 1000003)))) [some s, some m, some (intsD cs), some (intsD rs), some (intsD ds), some (.int (i : Int)), some (.int ((i % cs.length : Nat) : Int)), some (.int g), v8] = .ok (.nx, [some s, some m, some (intsD cs), some (intsD rs), some (intsD (ds ++ [(g * g + 3 * g + i) % 1000003])), some (.int (i : Int)), some (.int ((i % cs.length : Nat) : Int)), some (.int g), v8]) := by
      simp only [sExpr, eApp, mOp, var, getv, cst, mCall, aCons, aNil, R.bind, R.opt, R.nox, List.getElem?_cons_succ, List.getElem?_cons_zero, asl_ints, m5, m6, m7, ad, it, List.length_map, hs, if_true]
      simp [runF, runI, runFr, startE, sSeq, sSet, sExpr, sRet, sRetN, sIf, sForE, mIf, mTru, mBool, mNotB, mAndB, mOrB, mCallF, mCall, aCons, aNil, var, getv, cst, mOp, mUn, mTup, mLst, mAnd, mOr, gSet, gOwn, gTpl, gsCons, gsNil, iSq, mDict0, R.bind, R.opt, R.nox, truD, tru, asB, intsD]
    refine ⟨rs, ds ++ [(g * g + 3 * g + i) % 1000003], some (.int ((i % cs.length : Nat) : Int)), some (.int g), ?_, h1, by rw [List.length_append]; rfl⟩
    unfold bDraw
    rw [seq_nx s1]
    unfold sIf
    rw [t1]
    show (sSeq _ _) _ = _
    rw [seq_nx s2, s3]
  · have m2 := mod_pos r 1000 (by decide)
    have fd : dFdiv (.int r) (.int 1000) = some (.int (r / 1000)) := rfl
    have it : ∀ x : Int, dInt [.int x] = some (.int x) := fun _ => rfl
    have s2 : sExpr (eApp 4 (mOp dMod (mCall dInt (aCons (mOp dIxA (var 3) (var 6)) aNil)) (cst (.int 1000)))) [some s, some m, some (intsD cs), some (intsD rs), some (intsD ds), some (.int (i : Int)), some (.int ((i % cs.length : Nat) : Int)), v7, v8] = .ok (.nx, [some s, some m, some (intsD cs), some (intsD rs), some (intsD (ds ++ [r % 1000])), some (.int (i : Int)), some (.int ((i % cs.length : Nat) : Int)), v7, v8]) := by
      simp only [sExpr, eApp, mOp, var, getv, cst, mCall, aCons, aNil, R.bind, R.opt, R.nox, List.getElem?_cons_succ, List.getElem?_cons_zero, asl_ints, r1, m2, it, List.length_map, hs, if_true]
      simp [runF, runI, runFr, startE, sSeq, sSet, sExpr, sRet, sRetN, sIf, sForE, mIf, mTru, mBool, mNotB, mAndB, mOrB, mCallF, mCall, aCons, aNil, var, getv, cst, mOp, mUn, mTup, mLst, mAnd, mOr, gSet, gOwn, gTpl, gsCons, gsNil, iSq, mDict0, R.bind, R.opt, R.nox, truD, tru, asB, intsD]
    have ixn : L2.ixN rs.length ((i % cs.length : Nat) : Int) = some (i % cs.length) := ixN_nat (by rw [h1]; exact ha)
    have asi : ∀ x : Int, asI (.int x) = some x := fun _ => rfl
    have s3 : sPutL 3 (mOp dFdiv (mOp dIxA (var 3) (var 6)) (cst (.int 1000))) (var 6) [some s, some m, some (intsD cs), some (intsD rs), some (intsD (ds ++ [r % 1000])), some (.int (i : Int)), some (.int ((i % cs.length : Nat) : Int)), v7, v8] = .ok (.nx, [some s, some m, some (intsD cs), some (intsD (rs.set (i % cs.length) (r / 1000))), some (intsD (ds ++ [r % 1000])), some (.int (i : Int)), some (.int ((i % cs.length : Nat) : Int)), v7, v8]) := by
      simp only [sPutL, mOp, var, getv, cst, R.bind, R.opt, R.nox, List.getElem?_cons_succ, List.getElem?_cons_zero, asl_ints, r1, fd, asi, List.length_map, ixn]
      simp [runF, runI, runFr, startE, sSeq, sSet, sExpr, sRet, sRetN, sIf, sForE, mIf, mTru, mBool, mNotB, mAndB, mOrB, mCallF, mCall, aCons, aNil, var, getv, cst, mOp, mUn, mTup, mLst, mAnd, mOr, gSet, gOwn, gTpl, gsCons, gsNil, iSq, mDict0, R.bind, R.opt, R.nox, truD, tru, asB, intsD]
    refine ⟨rs.set (i % cs.length) (r / 1000), ds ++ [r % 1000], some (.int ((i % cs.length : Nat) : Int)), v7, ?_, by rw [List.length_set, h1], by rw [List.length_append]; rfl⟩
    unfold bDraw
    rw [seq_nx s1]
    unfold sIf
    rw [t1]
    show (sSeq _ _) _ = _
    rw [seq_nx s2, s3]
theorem m_draws (ns : List Int) (hn : ns.length ≤ 63) (n : Nat) (hz : n ≤ 100000) : ∃ ds : List Int, m__law_draws [scrD ns, .int (n : Int)] = .ok (intsD ds) := by
  have e1 := lc_map (g := gSet 8) (vs := [8]) (me := mCall dInt (aCons (var 8) aNil)) (ρ := [some (scrD ns), some (.int (n : Int)), none, none, none, none, none, none, none]) (enc := PyData.int) (f := PyData.int) (xs := ns)
    fun c _ => ⟨[some (scrD ns), some (.int (n : Int)), none, none, none, none, none, none, some (.int c)], [some (scrD ns), some (.int (n : Int)), none, none, none, none, none, none, some (.int c)], rfl, by simp [runF, runI, runFr, startE, sSeq, sSet, sExpr, sRet, sRetN, sIf, sForE, mIf, mTru, mBool, mNotB, mAndB, mOrB, mCallF, mCall, aCons, aNil, var, getv, cst, mOp, mUn, mTup, mLst, mAnd, mOr, gSet, gOwn, gTpl, gsCons, gsNil, iSq, mDict0, R.bind, R.opt, R.nox, truD, tru, asB, dInt]⟩
  have s1 : sSet (gOwn 2) (mLc false (iSq (var 0)) [8] (gSet 8) bYes (mCall dInt (aCons (var 8) aNil))) [some (scrD ns), some (.int (n : Int)), none, none, none, none, none, none, none] = .ok (.nx, [some (scrD ns), some (.int (n : Int)), some (intsD ns), none, none, none, none, none, none]) := by
    simp only [sSet, mLc, iSq, var, getv, R.bind, R.opt, R.nox, List.getElem?_cons_zero, it_scr, e1]
    rfl
  have s2 : ∃ cs : List Int, 0 < cs.length ∧ sIf (mBool (mOp dEq (mCall dLenA (aCons (var 2) aNil)) (cst (.int 0)))) (sExpr (eApp 2 (cst (.int 0)))) sNil [some (scrD ns), some (.int (n : Int)), some (intsD ns), none, none, none, none, none, none] = .ok (.nx, [some (scrD ns), some (.int (n : Int)), some (intsD cs), none, none, none, none, none, none]) := by
    have ln := lnI ns
    cases ns with
    | nil =>
      refine ⟨[0], by decide, ?_⟩
      have q : dEq (.int 0) (.int 0) = some (.bool true) := rfl
      have ln : dLenA [intsD []] = some (.int 0) := ln
      have al : asL (some (intsD [])) = some [] := rfl
      have hs : ([] : List D).length < sizeLine := by rw [sizeN]; decide
      simp only [sIf, mBool, mOp, mCall, aCons, aNil, var, getv, cst, R.bind, R.opt, R.nox, List.getElem?_cons_succ, List.getElem?_cons_zero, ln, q, asB, sExpr, eApp, al, hs, if_true]
      rfl
    | cons c cs =>
      refine ⟨c :: cs, by simp [runF, runI, runFr, startE, sSeq, sSet, sExpr, sRet, sRetN, sIf, sForE, mIf, mTru, mBool, mNotB, mAndB, mOrB, mCallF, mCall, aCons, aNil, var, getv, cst, mOp, mUn, mTup, mLst, mAnd, mOr, gSet, gOwn, gTpl, gsCons, gsNil, iSq, mDict0, R.bind, R.opt, R.nox, truD, tru, asB], ?_⟩
      have q : dEq (.int ((c :: cs).length : Int)) (.int 0) = some (.bool false) := by
        have := dEq_kD (.inl ((c :: cs).length : Int)) (.inl 0)
        rw [decide_eq_false (by intro h; injection h with h; rw [List.length_cons] at h; omega)] at this
        exact this
      simp only [sIf, mBool, mOp, mCall, aCons, aNil, var, getv, cst, R.bind, R.opt, R.nox, List.getElem?_cons_succ, List.getElem?_cons_zero, ln, q, asB]
      rfl
  obtain ⟨cs, h0, s2⟩ := s2
  have s3 : sSet (gOwn 3) (mCall dList (aCons (var 2) aNil)) [some (scrD ns), some (.int (n : Int)), some (intsD cs), none, none, none, none, none, none] = .ok (.nx, [some (scrD ns), some (.int (n : Int)), some (intsD cs), some (intsD cs), none, none, none, none, none]) := rfl
  have s4 : sSet (gOwn 4) (mLst aNil) [some (scrD ns), some (.int (n : Int)), some (intsD cs), some (intsD cs), none, none, none, none, none] = .ok (.nx, [some (scrD ns), some (.int (n : Int)), some (intsD cs), some (intsD cs), some (intsD []), none, none, none, none]) := rfl
  obtain ⟨ρ', h1, rs, ds, v5, v6, v7, v8, rfl, _, _⟩ := for_all (g := gSet 5) (b := bDraw) (enc := fun i : Nat => PyData.int (i : Int))
    (I := fun l ρ => ∃ rs ds v5 v6 v7 v8, ρ = [some (scrD ns), some (.int (n : Int)), some (intsD cs), some (intsD rs), some (intsD ds), v5, v6, v7, v8] ∧ rs.length = cs.length ∧ ds.length + l.length ≤ 100000)
    (fun i l ρ h => by
      obtain ⟨rs, ds, v5, v6, v7, v8, rfl, hr, hl⟩ := h
      rw [List.length_cons] at hl
      obtain ⟨rs', ds', w6, w7, e, h2, h3⟩ := draw_step (scrD ns) (.int (n : Int)) cs rs ds i v6 v7 v8 h0 hr (by omega)
      exact ⟨_, _, rfl, .inl e, _, _, _, _, _, _, rfl, h2, by omega⟩)
    (xs := List.range n) (ρ := [some (scrD ns), some (.int (n : Int)), some (intsD cs), some (intsD cs), some (intsD []), none, none, none, none]) ⟨cs, [], none, none, none, none, rfl, rfl, by rw [List.length_range]; simpa using hz⟩
  have r1 := rng_at n (by omega)
  have i1 : iRg rng1 (aCons (var 1) aNil) [some (scrD ns), some (.int (n : Int)), some (intsD cs), some (intsD cs), some (intsD []), none, none, none, none] = .ok ((List.range n).map fun i => .int ((i : Nat) : Int), [some (scrD ns), some (.int (n : Int)), some (intsD cs), some (intsD cs), some (intsD []), none, none, none, none]) := by
    simp only [iRg, aCons, aNil, var, getv, R.bind, R.opt, List.getElem?_cons_succ, List.getElem?_cons_zero, r1]
  have f1 := (forE_eq (g := gSet 5) (b := bDraw) i1).trans h1
  have s5 : sExpr (eRev 4) [some (scrD ns), some (.int (n : Int)), some (intsD cs), some (intsD rs), some (intsD ds), v5, v6, v7, v8] = .ok (.nx, [some (scrD ns), some (.int (n : Int)), some (intsD cs), some (intsD rs), some (intsD ds.reverse), v5, v6, v7, v8]) := by
    simp only [sExpr, eRev, getv, R.bind, R.opt, List.getElem?_cons_succ, List.getElem?_cons_zero, asl_ints]
    simp [runF, runI, runFr, startE, sSeq, sSet, sExpr, sRet, sRetN, sIf, sForE, mIf, mTru, mBool, mNotB, mAndB, mOrB, mCallF, mCall, aCons, aNil, var, getv, cst, mOp, mUn, mTup, mLst, mAnd, mOr, gSet, gOwn, gTpl, gsCons, gsNil, iSq, mDict0, R.bind, R.opt, R.nox, truD, tru, asB, intsD]
  have s6 : sRet (var 4) [some (scrD ns), some (.int (n : Int)), some (intsD cs), some (intsD rs), some (intsD ds.reverse), v5, v6, v7, v8] = .ok (.rt (intsD ds.reverse), [some (scrD ns), some (.int (n : Int)), some (intsD cs), some (intsD rs), some (intsD ds.reverse), v5, v6, v7, v8]) := rfl
  refine ⟨ds.reverse, ?_⟩
  have t : b__law_draws [some (scrD ns), some (.int (n : Int)), none, none, none, none, none, none, none] = _ := (seqF_nx s1).trans ((seqF_nx s2).trans ((seqF_nx s3).trans ((seqF_nx s4).trans ((seqF_nx f1).trans ((seqF_nx s5).trans s6)))))
  have st : startE 2 9 [scrD ns, .int (n : Int)] = [some (scrD ns), some (.int (n : Int)), none, none, none, none, none, none, none] := rfl
  unfold m__law_draws runFr
  rw [st, t]
  rfl
end Lw

namespace Lw
open PySem Kn Dt Dt.R
open L2 (Key)
theorem m_take (xs : List Int) (n : Int) (h0 : 0 < n) : ∃ (r : Int) (ys : List Int), 0 ≤ r ∧ r < n ∧ m__law_take [intsD xs, .int n] = .ok (.int r, intsD ys) := by
  have ln := lnI xs
  rcases List.eq_nil_or_concat xs with rfl | ⟨ys, x, rfl⟩
  · refine ⟨0, [], Int.le_refl _, h0, ?_⟩
    have ln : dLenA [intsD []] = some (.int 0) := ln
    have q : dEq (.int 0) (.int 0) = some (.bool true) := rfl
    simp [runF, runI, runFr, startE, sSeq, sSet, sExpr, sRet, sRetN, sIf, sForE, mIf, mTru, mBool, mNotB, mAndB, mOrB, mCallF, mCall, aCons, aNil, var, getv, cst, mOp, mUn, mTup, mLst, mAnd, mOr, gSet, gOwn, gTpl, gsCons, gsNil, iSq, mDict0, R.bind, R.opt, R.nox, truD, tru, asB, m__law_take, b__law_take, ln, q]
  · refine ⟨x % n, ys, Int.emod_nonneg _ (by omega), Int.emod_lt_of_pos _ h0, ?_⟩
    have q : dEq (.int ((ys.concat x).length : Int)) (.int 0) = some (.bool false) := by
      have := dEq_kD (.inl ((ys.concat x).length : Int)) (.inl 0)
      rw [decide_eq_false (by intro h; injection h with h; rw [List.length_concat] at h; omega)] at this
      exact this
    have m1 := mod_pos x n h0
    have it : dInt [.int x] = some (.int x) := rfl
    have al : asL (some (intsD (ys.concat x))) = some ((ys.concat x).map PyData.int) := rfl
    have gl : ((ys.concat x).map PyData.int).getLast? = some (PyData.int x) := by simp [runF, runI, runFr, startE, sSeq, sSet, sExpr, sRet, sRetN, sIf, sForE, mIf, mTru, mBool, mNotB, mAndB, mOrB, mCallF, mCall, aCons, aNil, var, getv, cst, mOp, mUn, mTup, mLst, mAnd, mOr, gSet, gOwn, gTpl, gsCons, gsNil, iSq, mDict0, R.bind, R.opt, R.nox, truD, tru, asB]
    have dl : ((ys.concat x).map PyData.int).dropLast = ys.map PyData.int := by simp [runF, runI, runFr, startE, sSeq, sSet, sExpr, sRet, sRetN, sIf, sForE, mIf, mTru, mBool, mNotB, mAndB, mOrB, mCallF, mCall, aCons, aNil, var, getv, cst, mOp, mUn, mTup, mLst, mAnd, mOr, gSet, gOwn, gTpl, gsCons, gsNil, iSq, mDict0, R.bind, R.opt, R.nox, truD, tru, asB]
    have s1 : sIf (mBool (mOp dEq (mCall dLenA (aCons (var 0) aNil)) (cst (.int 0)))) (sRet (cst (.int 0))) sNil [some (intsD (ys.concat x)), some (.int n)] = .ok (.nx, [some (intsD (ys.concat x)), some (.int n)]) := by
      simp only [sIf, mBool, mOp, mCall, aCons, aNil, var, getv, cst, R.bind, R.opt, R.nox, List.getElem?_cons_succ, List.getElem?_cons_zero, ln, q, asB]
      rfl
    have s2 : sRet (mOp dMod (mCall dInt (aCons (ePop 0) aNil)) (var 1)) [some (intsD (ys.concat x)), some (.int n)] = .ok (.rt (.int (x % n)), [some (intsD ys), some (.int n)]) := by
      simp only [sRet, mOp, mCall, aCons, aNil, ePop, var, getv, R.bind, R.opt, R.nox, List.getElem?_cons_succ, List.getElem?_cons_zero, al, gl, dl, it, m1, List.set_cons_zero]
      rfl
    have t : b__law_take [some (intsD (ys.concat x)), some (.int n)] = _ := (seq_nx s1).trans s2
    have st : startE 2 2 [intsD (ys.concat x), .int n] = [some (intsD (ys.concat x)), some (.int n)] := rfl
    unfold m__law_take runI
    rw [st, t]
    rfl
theorem callI2 {fn : List D → R (D × D)} {m : ME} {ρ : Ev} {i : Nat} {a d b c : D} (h1 : getv ρ i = some a) (h2 : m ρ = .ok (d, ρ)) (h3 : fn [a, d] = .ok (b, c)) : mCallI 0 fn (rAt i (rVal m rNil)) ρ = .ok (b, ρ.set i (some c)) := by
  simp [runF, runI, runFr, startE, sSeq, sSet, sExpr, sRet, sRetN, sIf, sForE, mIf, mTru, mBool, mNotB, mAndB, mOrB, mCallF, mCall, aCons, aNil, var, cst, mOp, mUn, mTup, mLst, mAnd, mOr, gSet, gOwn, gTpl, gsCons, gsNil, iSq, mDict0, R.bind, R.opt, R.nox, truD, tru, asB, mCallI, rAt, rVal, rNil, h1, h2, arD, isVal, h3]
theorem callI1 {fn : List D → R (D × D)} {ρ : Ev} {i : Nat} {a b c : D} (h1 : getv ρ i = some a) (h3 : fn [a] = .ok (b, c)) : mCallI 0 fn (rAt i rNil) ρ = .ok (b, ρ.set i (some c)) := by
  simp [runF, runI, runFr, startE, sSeq, sSet, sExpr, sRet, sRetN, sIf, sForE, mIf, mTru, mBool, mNotB, mAndB, mOrB, mCallF, mCall, aCons, aNil, var, cst, mOp, mUn, mTup, mLst, mAnd, mOr, gSet, gOwn, gTpl, gsCons, gsNil, iSq, mDict0, R.bind, R.opt, R.nox, truD, tru, asB, mCallI, rAt, rNil, h1, arD, isVal, h3]
theorem op_eq {g : G2} {a b : ME} {ρ ρ1 ρ2 : Ev} {x y r : D} (h1 : a ρ = .ok (x, ρ1)) (h2 : b ρ1 = .ok (y, ρ2)) (h3 : g x y = some r) : mOp g a b ρ = .ok (r, ρ2) := by
  simp [runF, runI, runFr, startE, sSeq, sSet, sExpr, sRet, sRetN, sIf, sForE, mIf, mTru, mBool, mNotB, mAndB, mOrB, mCallF, mCall, aCons, aNil, var, getv, cst, mOp, mUn, mTup, mLst, mAnd, mOr, gSet, gOwn, gTpl, gsCons, gsNil, iSq, mDict0, R.bind, R.opt, R.nox, truD, tru, asB, h1, h2, h3]
theorem ret_eq {m : ME} {ρ ρ1 : Ev} {d : D} (h : m ρ = .ok (d, ρ1)) : sRet m ρ = .ok (.rt d, ρ1) := by
  simp [runF, runI, runFr, startE, sSeq, sSet, sExpr, sRet, sRetN, sIf, sForE, mIf, mTru, mBool, mNotB, mAndB, mOrB, mCallF, mCall, aCons, aNil, var, getv, cst, mOp, mUn, mTup, mLst, mAnd, mOr, gSet, gOwn, gTpl, gsCons, gsNil, iSq, mDict0, R.bind, R.opt, R.nox, truD, tru, asB, h]
theorem tup2_eq {a b : ME} {ρ ρ1 ρ2 : Ev} {x y : D} (h1 : a ρ = .ok (x, ρ1)) (h2 : b ρ1 = .ok (y, ρ2)) : mTup (aCons a (aCons b aNil)) ρ = .ok (.tuple [x, y], ρ2) := by
  simp [runF, runI, runFr, startE, sSeq, sSet, sExpr, sRet, sRetN, sIf, sForE, mIf, mTru, mBool, mNotB, mAndB, mOrB, mCallF, mCall, aCons, aNil, var, getv, cst, mOp, mUn, mTup, mLst, mAnd, mOr, gSet, gOwn, gTpl, gsCons, gsNil, iSq, mDict0, R.bind, R.opt, R.nox, truD, tru, asB, h1, h2]
end Lw

namespace Lw
open PySem Kn Dt Dt.R
open L2 (Key)
def okD : Nat → D → Bool
  | 0, _ => false
  | _ + 1, .bool _ => true
  | _ + 1, .int _ => true
  | _ + 1, .str _ => true
  | n + 1, .tuple ds => decide (ds.length ≤ 100000) && ds.all (okD n)
  | _ + 1, _ => false
theorem ix_tup (ds : List D) {i : Nat} (h : i < ds.length) : ∃ d ∈ ds, dIxA (.tuple ds) (.int (i : Int)) = some d := by
  refine ⟨ds[i], List.getElem_mem h, ?_⟩
  show L2.atI ds (i : Int) = _
  unfold L2.atI L2.ixN
  rw [if_pos (by omega), if_pos (by omega)]
  show ds[((i : Int)).toNat]? = _
  rw [Int.toNat_natCast, List.getElem?_eq_getElem h]
theorem eq_int (i : Int) : dEq (.int i) (.int i) = some (.bool true) := by
  have := dEq_kD (.inl i) (.inl i)
  rw [decide_eq_true rfl] at this
  exact this
theorem ne_int (i : Int) : dNe (.int i) (.int i) = some (.bool false) := by
  have := dNe_kD (.inl i) (.inl i)
  rw [decide_eq_true rfl] at this
  exact this
theorem eq_str (s : Str) : dEq (.str s) (.str s) = some (.bool true) := by
  have := dEq_kD (.inr s) (.inr s)
  rw [decide_eq_true rfl] at this
  exact this
section
theorem same_ok : ∀ (n : Nat) (d : D), okD n d = true → m__law_same n [d, d] = .ok (.bool true)
  | 0, _, h => by cases h
  | n + 1, d, h => by
    cases d with
    | none => cases h
    | list _ => cases h
    | dict _ => cases h
    | bool b => cases b <;> rfl
    | int i =>
      unfold m__law_same b__law_same
      simp [runF, runI, runFr, startE, sSeq, sSet, sExpr, sRet, sRetN, sIf, sForE, mIf, mTru, mBool, mNotB, mAndB, mOrB, mCallF, mCall, aCons, aNil, var, getv, cst, mOp, mUn, mTup, mLst, mAnd, mOr, gSet, gOwn, gTpl, gsCons, gsNil, iSq, mDict0, R.bind, R.opt, R.nox, truD, tru, asB, mIsi, dIsi, eq_int, sNil, gNot]
    | str s =>
      unfold m__law_same b__law_same
      simp [runF, runI, runFr, startE, sSeq, sSet, sExpr, sRet, sRetN, sIf, sForE, mIf, mTru, mBool, mNotB, mAndB, mOrB, mCallF, mCall, aCons, aNil, var, getv, cst, mOp, mUn, mTup, mLst, mAnd, mOr, gSet, gOwn, gTpl, gsCons, gsNil, iSq, mDict0, R.bind, R.opt, R.nox, truD, tru, asB, mIsi, dIsi, eq_str, sNil, gNot]
    | tuple ds =>
      unfold okD at h
      obtain ⟨hz, ha⟩ := Bool.and_eq_true_iff.mp h
      have hz := of_decide_eq_true hz
      have i1 : (PyData.tuple ds : D).plain = (PyData.tuple ds : D).plain := rfl
      obtain ⟨ρ', h1, _, v, rfl⟩ := for_all (g := gSet 2) (b := sIf (mNotB (mTru (mCallF (m__law_same n) (aCons (mOp dIxA (var 0) (var 2)) (aCons (mOp dIxA (var 1) (var 2)) aNil))))) (sRet (cst (.bool false))) sNil) (enc := fun i : Nat => PyData.int (i : Int))
        (I := fun l ρ => (∀ i ∈ l, i < ds.length) ∧ ∃ v, ρ = [some (.tuple ds), some (.tuple ds), v])
        (fun i l ρ h => by
          obtain ⟨hl, v, rfl⟩ := h
          obtain ⟨e, me, ix⟩ := ix_tup ds (hl i List.mem_cons_self)
          have ih := same_ok n e (List.all_eq_true.mp ha e me)
          refine ⟨[some (.tuple ds), some (.tuple ds), some (.int (i : Int))], [some (.tuple ds), some (.tuple ds), some (.int (i : Int))], rfl, .inl ?_, fun j hj => hl j (List.mem_cons_of_mem _ hj), _, rfl⟩
          exact St.pass (St.nt (St.trB (St.callF (St.ac (St.op (St.vr rfl) (St.vr rfl) ix) (St.a1 (St.op (St.vr rfl) (St.vr rfl) ix))) ih))))
        (xs := List.range ds.length) (ρ := [some (.tuple ds), some (.tuple ds), none]) ⟨fun i hi => List.mem_range.mp hi, none, rfl⟩
      have r1 := rng_at ds.length (by omega)
      have s6 : sForE (iRg rng1 (aCons (mCall dLenA (aCons (var 1) aNil)) aNil)) (gSet 2) (sIf (mNotB (mTru (mCallF (m__law_same n) (aCons (mOp dIxA (var 0) (var 2)) (aCons (mOp dIxA (var 1) (var 2)) aNil))))) (sRet (cst (.bool false))) sNil) [some (.tuple ds), some (.tuple ds), none] = .ok (.nx, _) :=
        St.fr (St.rg (St.a1 (St.call (St.a1 (St.vr rfl)) (dLen_tup ds))) r1) h1
      unfold m__law_same b__law_same
      have n1 := ne_int (ds.length : Int)
      refine St.runF_rt (ρ1 := [some (.tuple ds), some (.tuple ds), v]) rfl ?_
      have is : ∀ T : String, mIsi T (var 1) [some (.tuple ds), some (.tuple ds), none] = .ok (.bool (T == "tuple"), [some (.tuple ds), some (.tuple ds), none]) := fun T => by simp [runF, runI, runFr, startE, sSeq, sSet, sExpr, sRet, sRetN, sIf, sForE, mIf, mTru, mBool, mNotB, mAndB, mOrB, mCallF, mCall, aCons, aNil, var, getv, cst, mOp, mUn, mTup, mLst, mAnd, mOr, gSet, gOwn, gTpl, gsCons, gsNil, iSq, mDict0, R.bind, R.opt, R.nox, truD, tru, asB, mIsi, dIsi]
      have is0 : mIsi "tuple" (var 0) [some (.tuple ds), some (.tuple ds), none] = .ok (.bool true, [some (.tuple ds), some (.tuple ds), none]) := by simp [runF, runI, runFr, startE, sSeq, sSet, sExpr, sRet, sRetN, sIf, sForE, mIf, mTru, mBool, mNotB, mAndB, mOrB, mCallF, mCall, aCons, aNil, var, getv, cst, mOp, mUn, mTup, mLst, mAnd, mOr, gSet, gOwn, gTpl, gsCons, gsNil, iSq, mDict0, R.bind, R.opt, R.nox, truD, tru, asB, mIsi, dIsi]
      have s1 : ∀ (a : MS) (T : String), (T == "tuple") = false → sIf (mTru (mIsi T (var 1))) a sNil [some (.tuple ds), some (.tuple ds), none] = .ok (.nx, [some (.tuple ds), some (.tuple ds), none]) := fun a T hT => St.pass (St.trB (hT ▸ is T))
      have nn : mOp dIsN (var 1) (cst .none) [some (.tuple ds), some (.tuple ds), none] = .ok (.bool false, [some (.tuple ds), some (.tuple ds), none]) := rfl
      have s5 : sIf (mOrB (mNotB (mTru (mIsi "tuple" (var 0)))) (mBool (mOp dNe (mCall dLenA (aCons (var 0) aNil)) (mCall dLenA (aCons (var 1) aNil))))) (sRet (cst (.bool false))) sNil [some (.tuple ds), some (.tuple ds), none] = .ok (.nx, [some (.tuple ds), some (.tuple ds), none]) :=
        St.pass (St.orf (St.nt (St.trB is0)) (St.bl (St.op (St.call (St.a1 (St.vr rfl)) (dLen_tup ds)) (St.call (St.a1 (St.vr rfl)) (dLen_tup ds)) n1)))
      have st : startE 2 3 [PyData.tuple ds, PyData.tuple ds] = [some (.tuple ds), some (.tuple ds), none] := rfl
      rw [st, St.seq (s1 _ "bool" rfl), St.seq (s1 _ "int" rfl), St.seq (s1 _ "str" rfl), St.seq (St.pass (St.bl nn)), St.seq s5, St.seq s6]
      exact St.ret St.cs
end
theorem same_bool (b : Bool) : m__law_same 12 [.bool b, .bool b] = .ok (.bool true) := same_ok 12 _ rfl
end Lw

namespace Kn
open PySem Dt Dt.R
section
variable {α : Type} {le : α → α → Bool}
def insT (le : α → α → Bool) (a : α) : List α → List α
  | [] => [a]
  | b :: l => if le a b = true then a :: b :: l else b :: insT le a l
def isrt (le : α → α → Bool) : List α → List α
  | [] => []
  | a :: l => insT le a (isrt le l)
theorem insT_split {a : α} : ∀ {l1 l2 : List α}, (∀ b ∈ l1, le a b = false) → (∀ b ∈ l2.head?, le a b = true) → insT le a (l1 ++ l2) = l1 ++ a :: l2
  | [], [], _, _ => rfl
  | [], b :: l2, _, h => by
    show (if le a b = true then a :: b :: l2 else b :: insT le a l2) = a :: b :: l2
    rw [if_pos (h b rfl)]
  | b :: l1, l2, h1, h2 => by
    show (if le a b = true then a :: b :: (l1 ++ l2) else b :: insT le a (l1 ++ l2)) = b :: (l1 ++ a :: l2)
    rw [if_neg (by rw [h1 b List.mem_cons_self]; decide), insT_split (fun c hc => h1 c (List.mem_cons_of_mem _ hc)) h2]
theorem sort_isrt (T : PySem.W.TotalLe le) : ∀ l : List α, l.mergeSort le = isrt le l
  | [] => by simp [isrt]
  | a :: l => by
    obtain ⟨l1, l2, e1, e2, h⟩ := List.mergeSort_cons T.trans (fun a b => by rw [Bool.or_eq_true]; exact T.total a b) a l
    have pw := PySem.W.sort_pairwise T (a :: l)
    rw [e1] at pw ⊢
    show _ = insT le a (isrt le l)
    rw [← sort_isrt T l, e2, insT_split (fun b hb => by have := h b hb; simpa using this)]
    intro b hb
    have pw2 := (List.pairwise_append.mp pw).2.1
    cases l2 with
    | nil => cases hb
    | cons c l2 =>
      have : c = b := Option.some.inj hb
      subst this
      exact (List.pairwise_cons.mp pw2).1 c List.mem_cons_self
theorem srt_isrt (key : α → D) (xs : List α) : srt key xs = isrt (PySem.W.dataLe false key) xs := sort_isrt (le_total key) xs
end
end Kn

namespace Kn
open PySem Dt Dt.R
open L2 (Key)
def rwD (r : List Int) : D := .tuple (r.map PyData.int)
def markD (m : Int × List Int) : D := .tuple [.int m.1, rwD m.2]
theorem code_int : IsCode PyData.int 0 where
  plain := fun a => plain_kD (.inl a)
  depth := fun a => Nat.le_of_eq (depth_kD (.inl a))
  eqv := fun a b => by
    have := eqv_kD (.inl a) (.inl b)
    have q : (decide ((Sum.inl a : T) = Sum.inl b)) = decide (a = b) := decide_eq_decide.mpr ⟨fun h => by injection h, fun h => by rw [h]⟩
    rw [q] at this
    exact this
  scal := fun a es => by simp
theorem code_rw : IsCode rwD 1 := code_int.tup
end Kn
namespace Lw
open PySem Kn Dt Dt.R
open L2 (Key)
theorem eq_i (a b : Int) : dEq (.int a) (.int b) = some (.bool (decide (a = b))) := code_int.dEq (by decide) a b
theorem add_tup {α : Type} (enc : α → D) (xs ys : List α) (h : xs.length + ys.length ≤ 100000) : dAdd (.tuple (xs.map enc)) (.tuple (ys.map enc)) = some (.tuple ((xs ++ ys).map enc)) := by
  have hw : (xs.map enc).length + (ys.map enc).length ≤ sizeLine := by rw [List.length_map, List.length_map, sizeN]; omega
  show (if (xs.map enc).length + (ys.map enc).length ≤ sizeLine then some (PyData.tuple (xs.map enc ++ ys.map enc)) else none) = _
  rw [if_pos hw, List.map_append]
theorem it_rw (r : List Int) : items (rwD r) = some (r.map PyData.int) := rfl
theorem ixL_at {α : Type} (enc : α → D) (d : α) (xs : List α) {i : Nat} (h : i < xs.length) : dIxA (.list (xs.map enc)) (.int (i : Int)) = some (enc (xs.getD i d)) := ix_at enc d xs h
end Lw

namespace Dt.St
open PySem L2 Dt R
theorem ext {ρ ρ1 : Ev} {i : Nat} {m : ME} {ds es zs : List D} (h0 : asL (getv ρ i) = some ds) (h : m ρ = .ok (.list zs, ρ1)) (h1 : asL (getv ρ1 i) = some es) (hz : es.length + zs.length ≤ 1000000) : sExt i m ρ = .ok (.nx, ρ1.set i (some (.list (es ++ zs)))) := by
  unfold sExt
  rw [h0]
  show (m ρ).bind _ = _
  rw [h]
  show (R.opt (asL (getv ρ1 i))).bind _ = _
  rw [h1]
  show (if es.length + zs.length ≤ sizeLine then _ else _) = _
  rw [if_pos (by rw [sizeN]; omega)]
end Dt.St
namespace Kn
open PySem Dt Dt.R
open L2 (Key)
end Kn
namespace Lw
open PySem Kn Dt Dt.R
open L2 (Key)
end Lw

namespace Dt.St
open PySem L2 Dt R
section
variable {ρ ρ1 ρ2 ρ3 : Ev} {d x y r : D} {ds es : List D}
theorem anT {t s : MB} {b : Bool} (h : t ρ = .ok (true, ρ1)) (g : s ρ1 = .ok (b, ρ2)) : mAndB t s ρ = .ok (b, ρ2) := by
  unfold mAndB; rw [h]; exact g
theorem anF {t s : MB} (h : t ρ = .ok (false, ρ1)) : mAndB t s ρ = .ok (false, ρ1) := by
  unfold mAndB; rw [h]; rfl
theorem app {i : Nat} {m : ME} (h0 : asL (getv ρ i) = some ds) (h : m ρ = .ok (d, ρ1)) (h1 : asL (getv ρ1 i) = some es) (hz : es.length < 1000000) : eApp i m ρ = .ok (.none, ρ1.set i (some (.list (es ++ [d])))) := by
  unfold eApp
  rw [h0]
  show (m ρ).bind _ = _
  rw [h]
  show (R.opt (asL (getv ρ1 i))).bind _ = _
  rw [h1]
  show (if es.length < sizeLine then _ else _) = _
  rw [if_pos (by rw [sizeN]; omega)]
theorem ex {m : ME} (h : m ρ = .ok (d, ρ1)) : sExpr m ρ = .ok (.nx, ρ1) := by
  unfold sExpr; rw [h]; rfl
theorem mand {t s : MB} {a b : Bool} (h : t ρ = .ok (a, ρ)) (g : s ρ = .ok (b, ρ)) : mAndB t s ρ = .ok (a && b, ρ) := by
  cases a
  · exact anF h
  · exact anT h g
theorem mor {t s : MB} {a b : Bool} (h : t ρ = .ok (a, ρ)) (g : s ρ = .ok (b, ρ)) : mOrB t s ρ = .ok (a || b, ρ) := by
  cases a
  · exact orf h g
  · exact ort h
end
end Dt.St
namespace Kn
open PySem Dt Dt.R
open L2 (Key)
end Kn
namespace Lw
open PySem Kn Dt Dt.R
open L2 (Key)
theorem add_list {α : Type} (enc : α → D) (xs ys : List α) (h : xs.length + ys.length ≤ 1000000) : dAdd (.list (xs.map enc)) (.list (ys.map enc)) = some (.list ((xs ++ ys).map enc)) := by
  have hw : (xs.map enc).length + (ys.map enc).length ≤ sizeLine := by rw [List.length_map, List.length_map, sizeN]; omega
  show (if (xs.map enc).length + (ys.map enc).length ≤ sizeLine then some (PyData.list (xs.map enc ++ ys.map enc)) else none) = _
  rw [if_pos hw, List.map_append]
end Lw

namespace Dt.St
open PySem L2 Dt R Kn
section
variable {ρ ρ1 ρ2 ρ3 : Ev} {d x y r : D} {ds es : List D}
end
end Dt.St
namespace Kn
open PySem Dt Dt.R
open L2 (Key)
theorem getD_mem {α : Type} (d : α) {xs : List α} {i : Nat} (h : i < xs.length) : xs.getD i d ∈ xs := by
  rw [List.getD_eq_getElem?_getD, List.getElem?_eq_getElem h]
  exact List.getElem_mem h
end Kn
namespace Lw
open PySem Kn Dt Dt.R
open L2 (Key)
end Lw

namespace Dt.St
open PySem L2 Dt R
theorem seq_rt {ρ ρ1 : Ev} {d : D} {m m' : MS} (h : m ρ = .ok (.rt d, ρ1)) : sSeq m m' ρ = .ok (.rt d, ρ1) := by
  unfold sSeq; rw [h]; rfl
end Dt.St
namespace Lw
open PySem Kn Dt Dt.R
open L2 (Key)
end Lw

namespace Kn
open PySem Dt Dt.R
open L2 (Key)
theorem code_mark : IsCode markD 2 where
  plain m := by
    show PyData.plain (.tuple [.int m.1, rwD m.2]) = true
    rw [PyData.plain, PyData.plainAll, PyData.plainAll, PyData.plainAll, code_int.plain, code_rw.plain]
    rfl
  depth m := by
    show PyData.depth (.tuple [.int m.1, rwD m.2]) ≤ 2
    have := code_rw.depth m.2
    have h0 := code_int.depth m.1
    rw [PyData.depth, PyData.depthAll, PyData.depthAll, PyData.depthAll]
    omega
  eqv a b := by
    show PyData.eqv (.tuple [.int a.1, rwD a.2]) (.tuple [.int b.1, rwD b.2]) = _
    rw [PyData.eqv, PyData.eqvAll, PyData.eqvAll, PyData.eqvAll, code_int.eqv, code_rw.eqv, Bool.and_true]
    rw [Bool.eq_iff_iff, Bool.and_eq_true, decide_eq_true_iff, decide_eq_true_iff, decide_eq_true_iff]
    exact ⟨fun h => Prod.ext h.1 h.2, fun h => by rw [h]; exact ⟨rfl, rfl⟩⟩
  scal m es := by unfold markD; simp
end Kn
namespace Lw
open PySem Kn Dt Dt.R
open L2 (Key)
theorem it_rwt (rows : List (List Int)) : items (.tuple (rows.map rwD)) = some (rows.map rwD) := rfl
end Lw

namespace Kn
open PySem Dt Dt.R
open L2 (Key)
end Kn
namespace Dt
open PySem L2 R
theorem lc_ex {α β : Type} {vs : List Nat} {g : MG} {tt : MB} {me : ME} {enc : α → D} {encB : β → D} {J : List Int → Ev} {P : α → β → Prop} : ∀ {xs : List α}, (∀ x ∈ xs, ∀ ds, ∃ ρ1 t ρ2, g (enc x) (wipeE (J ds) vs) = .ok ρ1 ∧ tt ρ1 = .ok (t, ρ2) ∧ (t = true → ∃ y ρ3 es, me ρ2 = .ok (encB y, ρ3) ∧ P x y ∧ mrg true (J ds) ρ3 vs = J es) ∧ (t = false → ∃ es, mrg true (J ds) ρ2 vs = J es)) →
    ∀ ds, ∃ (ys : List β) (es : List Int), lcG true vs g tt me (xs.map enc) (J ds) = .ok (ys.map encB, J es) ∧ ys.length ≤ xs.length ∧ ∀ y ∈ ys, ∃ x ∈ xs, P x y
  | [], _, ds => ⟨[], ds, rfl, Nat.le_refl _, fun _ h => by cases h⟩
  | x :: xs, h, ds => by
    obtain ⟨ρ1, t, ρ2, h1, h2, h3, h4⟩ := h x List.mem_cons_self ds
    have u : ∀ z, lcG true vs g tt me ((x :: xs).map enc) (J ds) = z ↔ ((if t = true then (me ρ2).nox.bind fun y => (lcG true vs g tt me (xs.map enc) (mrg true (J ds) y.2 vs)).bind fun r => .ok (y.1 :: r.1, r.2) else lcG true vs g tt me (xs.map enc) (mrg true (J ds) ρ2 vs)) = z) := fun z => by
      rw [List.map_cons]
      have : lcG true vs g tt me (enc x :: xs.map enc) (J ds) = ((g (enc x) (wipeE (J ds) vs)).nox.bind fun ρ1 => (tt ρ1).nox.bind fun t =>
        if t.1 = true then (me t.2).nox.bind fun y => (lcG true vs g tt me (xs.map enc) (mrg true (J ds) y.2 vs)).bind fun r => .ok (y.1 :: r.1, r.2)
        else lcG true vs g tt me (xs.map enc) (mrg true (J ds) t.2 vs)) := rfl
      rw [this, h1]
      show ((tt ρ1).nox.bind _) = z ↔ _
      rw [h2]
      exact Iff.rfl
    cases t with
    | true =>
      obtain ⟨y, ρ3, es, h5, h6, h7⟩ := h3 rfl
      obtain ⟨ys, fs, e, l, m⟩ := lc_ex (xs := xs) (fun x hx => h x (List.mem_cons_of_mem _ hx)) es
      refine ⟨y :: ys, fs, (u _).mpr ?_, by rw [List.length_cons, List.length_cons]; omega, fun z hz => ?_⟩
      · rw [if_pos rfl, h5]
        show ((lcG true vs g tt me (xs.map enc) (mrg true (J ds) ρ3 vs)).bind _) = _
        rw [h7, e]
        rfl
      · rcases List.mem_cons.mp hz with rfl | hz
        · exact ⟨x, List.mem_cons_self, h6⟩
        · obtain ⟨w, hw, p⟩ := m z hz
          exact ⟨w, List.mem_cons_of_mem _ hw, p⟩
    | false =>
      obtain ⟨es, h7⟩ := h4 rfl
      obtain ⟨ys, fs, e, l, m⟩ := lc_ex (xs := xs) (fun x hx => h x (List.mem_cons_of_mem _ hx)) es
      refine ⟨ys, fs, (u _).mpr ?_, by rw [List.length_cons]; omega, fun z hz => ?_⟩
      · rw [if_neg (by decide), h7, e]
      · obtain ⟨w, hw, p⟩ := m z hz
        exact ⟨w, List.mem_cons_of_mem _ hw, p⟩
theorem lc_exY {α β : Type} {vs : List Nat} {g : MG} {me : ME} {enc : α → D} {encB : β → D} {J : List Int → Ev} {P : α → β → Prop} : ∀ {xs : List α}, (∀ x ∈ xs, ∀ ds, ∃ ρ1 y ρ3 es, g (enc x) (wipeE (J ds) vs) = .ok ρ1 ∧ me ρ1 = .ok (encB y, ρ3) ∧ P x y ∧ mrg true (J ds) ρ3 vs = J es) →
    ∀ ds, ∃ (ys : List β) (es : List Int), lcG true vs g bYes me (xs.map enc) (J ds) = .ok (ys.map encB, J es) ∧ ys.length = xs.length ∧ ∀ y ∈ ys, ∃ x ∈ xs, P x y
  | [], _, ds => ⟨[], ds, rfl, rfl, fun _ h => by cases h⟩
  | x :: xs, h, ds => by
    obtain ⟨ρ1, y, ρ3, es, h1, h5, h6, h7⟩ := h x List.mem_cons_self ds
    obtain ⟨ys, fs, e, l, m⟩ := lc_exY (xs := xs) (fun x hx => h x (List.mem_cons_of_mem _ hx)) es
    refine ⟨y :: ys, fs, ?_, by rw [List.length_cons, List.length_cons, l], fun z hz => ?_⟩
    · rw [List.map_cons]
      have : lcG true vs g bYes me (enc x :: xs.map enc) (J ds) = ((g (enc x) (wipeE (J ds) vs)).nox.bind fun ρ1 => (me ρ1).nox.bind fun y => (lcG true vs g bYes me (xs.map enc) (mrg true (J ds) y.2 vs)).bind fun r => .ok (y.1 :: r.1, r.2)) := rfl
      rw [this, h1]
      show ((me ρ1).nox.bind _) = _
      rw [h5]
      show ((lcG true vs g bYes me (xs.map enc) (mrg true (J ds) ρ3 vs)).bind _) = _
      rw [h7, e]
      rfl
    · rcases List.mem_cons.mp hz with rfl | hz
      · exact ⟨x, List.mem_cons_self, h6⟩
      · obtain ⟨w, hw, p⟩ := m z hz
        exact ⟨w, List.mem_cons_of_mem _ hw, p⟩
end Dt
namespace Lw
open PySem Kn Dt Dt.R
open L2 (Key)
end Lw

namespace Kn
open PySem Dt Dt.R
open L2 (Key)
end Kn
namespace Lw
open PySem Kn Dt Dt.R
open L2 (Key)
theorem sl_to {α : Type} (enc : α → D) (xs : List α) (n : Nat) : dSl (.tuple (xs.map enc)) none (some (n : Int)) = some (.tuple ((xs.take n).map enc)) := by
  show some (PyData.tuple (cut (xs.map enc) none (some (n : Int)))) = _
  congr 2
  unfold cut
  rw [HT.sIx_none, HT.sIx_nat, List.drop_zero, Nat.sub_zero, ← List.take_eq_take_min, List.map_take]
theorem sl_toL {α : Type} (enc : α → D) (xs : List α) (n : Nat) : dSl (.list (xs.map enc)) none (some (n : Int)) = some (.list ((xs.take n).map enc)) := by
  show some (PyData.list (cut (xs.map enc) none (some (n : Int)))) = _
  congr 2
  unfold cut
  rw [HT.sIx_none, HT.sIx_nat, List.drop_zero, Nat.sub_zero, ← List.take_eq_take_min, List.map_take]
end Lw

namespace Lw
open PySem Kn Dt Dt.R
open L2 (Key)
theorem sl_fromL {α : Type} (enc : α → D) (xs : List α) (n : Nat) : dSl (.list (xs.map enc)) (some (n : Int)) none = some (.list ((xs.drop n).map enc)) := by
  show some (PyData.list (cut (xs.map enc) (some (n : Int)) none)) = _
  congr 2
  unfold cut
  rw [HT.sIx_none, HT.sIx_nat, ← List.map_drop, ← List.map_take, List.length_map]
  congr 1
  rw [List.take_of_length_le (by rw [List.length_drop]; exact Nat.le_refl _)]
  by_cases h : n ≤ xs.length
  · rw [Nat.min_eq_left h]
  · rw [Nat.min_eq_right (by omega), List.drop_of_length_le (show xs.length ≤ n by omega), List.drop_of_length_le (Nat.le_refl xs.length)]
end Lw

namespace Lw
open PySem Kn Dt Dt.R
open L2 (Key)
theorem callIv1 {fn : List D → R (D × D)} {m : ME} {ρ ρ1 : Ev} {i : Nat} {z a d b c : D} (h0 : getv ρ i = some z) (hm : m ρ = .ok (d, ρ1)) (h1 : getv ρ1 i = some a) (h3 : fn [a, d] = .ok (b, c)) : mCallI 0 fn (rAt i (rVal m rNil)) ρ = .ok (b, ρ1.set i (some c)) := by
  simp [mCallI, rAt, rVal, rNil, h0, h1, hm, arD, isVal, h3, -getv, R.opt, R.bind, R.nox]
theorem callIv2 {fn : List D → R (D × D)} {m n : ME} {ρ ρ1 ρ2 : Ev} {i : Nat} {z a d e b c : D} (h0 : getv ρ i = some z) (hm : m ρ = .ok (d, ρ1)) (hn : n ρ1 = .ok (e, ρ2)) (h1 : getv ρ2 i = some a) (h3 : fn [a, d, e] = .ok (b, c)) : mCallI 0 fn (rAt i (rVal m (rVal n rNil))) ρ = .ok (b, ρ2.set i (some c)) := by
  simp [mCallI, rAt, rVal, rNil, h0, h1, hm, hn, arD, isVal, h3, -getv, R.opt, R.bind, R.nox]
theorem callIv3 {fn : List D → R (D × D)} {m n o : ME} {ρ ρ1 ρ2 ρ3 : Ev} {i : Nat} {z a d e f b c : D} (h0 : getv ρ i = some z) (hm : m ρ = .ok (d, ρ1)) (hn : n ρ1 = .ok (e, ρ2)) (ho : o ρ2 = .ok (f, ρ3)) (h1 : getv ρ3 i = some a) (h3 : fn [a, d, e, f] = .ok (b, c)) : mCallI 0 fn (rAt i (rVal m (rVal n (rVal o rNil)))) ρ = .ok (b, ρ3.set i (some c)) := by
  simp [mCallI, rAt, rVal, rNil, h0, h1, hm, hn, ho, arD, isVal, h3, -getv, R.opt, R.bind, R.nox]
theorem m_takeN (xs : List Int) (n : Nat) (h0 : 0 < n) : ∃ (r : Nat) (ys : List Int), r < n ∧ m__law_take [intsD xs, .int (n : Int)] = .ok (.int (r : Int), intsD ys) := by
  obtain ⟨r, ys, h1, h2, e⟩ := m_take xs (n : Int) (by omega)
  obtain ⟨k, rfl⟩ : ∃ k : Nat, r = k := ⟨r.toNat, by omega⟩
  exact ⟨k, ys, by omega, e⟩
end Lw

namespace Kn
open PySem Dt Dt.R
open L2 (Key)
end Kn
namespace Lw
open PySem Kn Dt Dt.R
open L2 (Key)
theorem erase_map {α β : Type} (f : α → β) : ∀ (l : List α) (i : Nat), (l.map f).eraseIdx i = (l.eraseIdx i).map f
  | [], _ => rfl
  | _ :: _, 0 => rfl
  | a :: l, i + 1 => congrArg (List.cons (f a)) (erase_map f l i)
theorem popAt_ok {m : ME} {ρ ρ1 : Ev} {i : Nat} {xs : List Int} {r : Nat} (h0 : getv ρ i = some (intsD xs)) (hm : m ρ = .ok (.int (r : Int), ρ1)) (h1 : getv ρ1 i = some (intsD xs)) (hr : r < xs.length) (hs : xs.length ≤ 1000) : ePopAt i m ρ = .ok (.int (xs.getD r 0), ρ1.set i (some (intsD (xs.eraseIdx r)))) := by
  have sm : small62 (r : Int) = true := by
    unfold small62
    rw [Bool.and_eq_true, decide_eq_true_iff, decide_eq_true_iff]
    constructor <;> omega
  have lg : (xs.map PyData.int)[r]? = some (.int (xs.getD r 0)) := by
    rw [List.getElem?_map, List.getElem?_eq_getElem hr, List.getD_eq_getElem?_getD, List.getElem?_eq_getElem hr]
    rfl
  have er : (xs.map PyData.int).eraseIdx r = (xs.eraseIdx r).map PyData.int := erase_map _ _ _
  unfold ePopAt
  simp only [h0, h1, hm, asl_ints, R.opt, R.bind, asI, sm, List.length_map, ixN_nat hr, lg, er, if_true]
  rfl
theorem perm_pop : ∀ (l : List Int) {i : Nat}, i < l.length → (l.eraseIdx i ++ [l.getD i 0]).Perm l
  | [], _, h => by cases h
  | a :: l, 0, _ => List.perm_append_singleton a l
  | a :: l, i + 1, h => (perm_pop l (by simpa using h)).cons a
end Lw


set_option Elab.async false
set_option linter.all false
set_option maxRecDepth 100000
set_option autoImplicit false
/-! sorted(set(xs)) over encoded lists. -/
namespace Kn
open PySem Dt Dt.R
open L2 (Key)
open PySem.W (dataLe alike alikeAll keyToks keyToksAll AllAlike)
section
variable {α : Type} [DecidableEq α]
/-- each once -/
def dd : List α → List α
  | [] => []
  | x :: xs => if x ∈ xs then dd xs else x :: dd xs
theorem dd_mem {x : α} : ∀ {xs : List α}, x ∈ dd xs ↔ x ∈ xs
  | [] => Iff.rfl
  | y :: xs => by
    unfold dd
    by_cases h : y ∈ xs
    · rw [if_pos h, dd_mem, List.mem_cons]
      exact ⟨.inr, fun z => z.elim (fun e => by rw [e]; exact h) id⟩
    · rw [if_neg h, List.mem_cons, List.mem_cons, dd_mem]
theorem dd_nodup : ∀ (xs : List α), (dd xs).Nodup
  | [] => List.nodup_nil
  | y :: xs => by
    unfold dd
    by_cases h : y ∈ xs
    · rw [if_pos h]; exact dd_nodup xs
    · rw [if_neg h]; exact List.nodup_cons.mpr ⟨fun z => h (dd_mem.mp z), dd_nodup xs⟩
theorem dd_len : ∀ (xs : List α), (dd xs).length ≤ xs.length
  | [] => Nat.le_refl _
  | y :: xs => by
    unfold dd
    have := dd_len xs
    by_cases h : y ∈ xs
    · rw [if_pos h, List.length_cons]; omega
    · rw [if_neg h, List.length_cons, List.length_cons]; omega
theorem dd_self : ∀ {xs : List α}, xs.Nodup → dd xs = xs
  | [], _ => rfl
  | y :: xs, h => by
    obtain ⟨h1, h2⟩ := List.nodup_cons.mp h
    unfold dd
    rw [if_neg h1, dd_self h2]
theorem ndup_map {enc : α → D} {n : Nat} (c : IsCode enc n) : ∀ xs : List α, ndup (xs.map enc) = (dd xs).map enc
  | [] => rfl
  | x :: xs => by
    have e : (xs.map enc).any (PyData.eqv (enc x)) = decide (x ∈ xs) := by
      rw [List.any_map, Bool.eq_iff_iff, List.any_eq_true, decide_eq_true_iff]
      constructor
      · rintro ⟨y, hy, h⟩
        have h : PyData.eqv (enc x) (enc y) = true := h
        rw [c.eqv, decide_eq_true_iff] at h
        rw [h]; exact hy
      · intro h
        exact ⟨x, h, by show PyData.eqv (enc x) (enc x) = true; rw [c.eqv, decide_eq_true_iff]⟩
    rw [List.map_cons]
    unfold ndup dd
    rw [e]
    by_cases h : x ∈ xs
    · rw [if_pos h, if_pos (decide_eq_true h), ndup_map c]
    · rw [if_neg h, if_neg (by simp [h]), ndup_map c, List.map_cons]
/-- sorted(set(..)) -/
def ord (key : α → D) (xs : List α) : List α := srt key (dd xs)
theorem ord_mem {key : α → D} {xs : List α} {x : α} : x ∈ ord key xs ↔ x ∈ xs := srt_mem.trans dd_mem
theorem ord_nodup {key : α → D} {xs : List α} : (ord key xs).Nodup := srt_nodup.mpr (dd_nodup xs)
theorem ord_len {key : α → D} {xs : List α} : (ord key xs).length ≤ xs.length := by unfold ord; rw [srt_len]; exact dd_len xs
theorem sortP_map {α : Type} (key : α → D) (xs : List α) : sortP (xs.map key) = (srt key xs).map key := by
  unfold sortP srt
  rw [← PySem.W.sort_maps (r := dataLe false key) (s := dataLe false fun d : D => d) key fun a _ b _ => rfl]
theorem ord_congr {key : α → D} (h : Apart key fun _ => True) {xs ys : List α} (e : ∀ x, x ∈ xs ↔ x ∈ ys) : ord key xs = ord key ys :=
  srt_congr (P := fun _ => True) h (fun _ _ => trivial) (dd_nodup xs) (dd_nodup ys) fun x => dd_mem.trans ((e x).trans dd_mem.symm)
/-- sorted, each once -/
def Asc (key : α → D) (xs : List α) : Prop := xs.Nodup ∧ xs.Pairwise fun a b => dataLe false key a b = true
theorem asc_ord {key : α → D} {xs : List α} : Asc key (ord key xs) := ⟨ord_nodup, srt_sorted⟩
theorem asc_eq {key : α → D} (h : Apart key fun _ => True) {xs ys : List α} (hx : Asc key xs) (hy : Asc key ys) (e : ∀ x, x ∈ xs ↔ x ∈ ys) : xs = ys :=
  List.Perm.eq_of_pairwise (fun a b _ _ h1 h2 => le_anti (P := fun _ => True) h trivial trivial h1 h2) hx.2 hy.2 ((List.perm_ext_iff_of_nodup hx.1 hy.1).mpr e)
theorem ord_asc {key : α → D} (h : Apart key fun _ => True) {xs : List α} (hx : Asc key xs) : ord key xs = xs := asc_eq h asc_ord hx fun _ => ord_mem
theorem ord_is {key : α → D} (h : Apart key fun _ => True) {xs ys : List α} (hx : Asc key xs) (e : ∀ x, x ∈ ys ↔ x ∈ xs) : ord key ys = xs := asc_eq h asc_ord hx fun x => ord_mem.trans (e x)
theorem asc_filter {key : α → D} {xs : List α} (p : α → Bool) (h : Asc key xs) : Asc key (xs.filter p) := ⟨h.1.filter p, h.2.filter p⟩
theorem asc_srt {key : α → D} {xs : List α} (h : xs.Nodup) : Asc key (srt key xs) := ⟨srt_nodup.mpr h, srt_sorted⟩
theorem setB_map {enc : α → D} {n : Nat} (c : IsCode enc n) {xs : List α} (hk : ∀ x ∈ xs, keyB (enc x) = true) (hl : xs.length < 64) : setB (xs.map enc) = true := by
  unfold setB
  rw [Bool.or_eq_true]
  refine .inl (Bool.and_eq_true_iff.mpr ⟨List.all_eq_true.mpr fun d hd => ?_, decide_eq_true ?_⟩)
  · obtain ⟨x, hx, rfl⟩ := List.mem_map.mp hd
    exact hk x hx
  · rw [ndup_map c, List.length_map]
    exact Nat.lt_of_le_of_lt (dd_len xs) hl
theorem sortSet_map {enc : α → D} {n : Nat} (c : IsCode enc n) {xs : List α} (hk : ∀ x ∈ xs, keyB (enc x) = true) (hl : xs.length < 64) (ko : keysOk ((dd xs).map enc) = true) :
    dSortSet [.list (xs.map enc)] = some (.list ((ord enc xs).map enc)) ∧ dSortSet [.tuple (xs.map enc)] = some (.list ((ord enc xs).map enc)) := by
  have e : (if (setB (xs.map enc) && keysOk (ndup (xs.map enc))) = true then some (PyData.list (sortP (ndup (xs.map enc)))) else none) = some (.list ((ord enc xs).map enc)) := by
    rw [setB_map c hk hl, ndup_map c, ko, sortP_map]
    rfl
  exact ⟨e, e⟩
end
/-! marks -/
theorem alike_ints : ∀ (a b : List Int), alikeAll (a.map PyData.int) (b.map PyData.int) = true
  | [], _ => by rw [List.map_nil]; unfold alikeAll; rfl
  | _ :: _, [] => rfl
  | a :: as, b :: bs => by
    rw [List.map_cons, List.map_cons, alikeAll, alike_ints as bs]
    rfl
theorem plain_ints : ∀ (a : List Int), PyData.plainAll (a.map PyData.int) = true
  | [] => by rw [List.map_nil, PyData.plainAll]
  | a :: as => by rw [List.map_cons, PyData.plainAll, plain_ints as]; rfl
theorem depth_ints : ∀ (a : List Int), PyData.depthAll (a.map PyData.int) = 0
  | [] => rfl
  | a :: as => by
    have := depth_ints as
    rw [List.map_cons, PyData.depthAll, this]; rfl
theorem toks_ints : ∀ {a b : List Int}, keyToksAll (a.map PyData.int) = keyToksAll (b.map PyData.int) → a = b
  | [], [], _ => rfl
  | [], _ :: _, h => by rw [List.map_nil, List.map_cons, keyToksAll, keyToksAll] at h; cases h
  | _ :: _, [], h => by rw [List.map_nil, List.map_cons, keyToksAll, keyToksAll] at h; cases h
  | a :: as, b :: bs, h => by
    rw [List.map_cons, List.map_cons, keyToksAll, keyToksAll] at h
    injection h with _ h
    have ka : keyToks (PyData.int a) = [.inl a] := rfl
    have kb : keyToks (PyData.int b) = [.inl b] := rfl
    rw [ka, kb] at h
    simp only [List.cons_append, List.nil_append, List.cons.injEq, Sum.inl.injEq] at h
    rw [h.1, toks_ints h.2]
abbrev Mk := Int × List Int
theorem apart_rw : Apart rwD fun _ => True := fun a b _ _ h => toks_ints (by
  have h : keyToks (.tuple (a.map PyData.int)) = keyToks (.tuple (b.map PyData.int)) := h
  rw [keyToks, keyToks] at h
  exact h)
theorem apart_mark : Apart markD fun _ => True := fun a b _ _ h => by
  have h : keyToks (.tuple [.int a.1, .tuple (a.2.map PyData.int)]) = keyToks (.tuple [.int b.1, .tuple (b.2.map PyData.int)]) := h
  have ka : ∀ i : Int, keyToks (PyData.int i) = [.inl i] := fun _ => rfl
  simp only [keyToks, keyToksAll, ka, List.cons_append, List.nil_append, List.cons.injEq, Sum.inl.injEq, true_and] at h
  obtain ⟨h1, h2⟩ := h
  have h3 : keyToksAll (a.2.map PyData.int) = keyToksAll (b.2.map PyData.int) := List.append_cancel_right h2
  obtain ⟨a1, a2⟩ := a
  obtain ⟨b1, b2⟩ := b
  have := toks_ints h3
  simp only at h1 this
  rw [h1, this]
theorem hk_ints (n : Nat) : ∀ a : List Int, (a.map PyData.int).all (hkB n) = true := fun a => List.all_eq_true.mpr fun d hd => by
  obtain ⟨i, _, rfl⟩ := List.mem_map.mp hd
  cases n <;> rfl
theorem keyB_mark (m : Mk) : keyB (markD m) = true := by
  show (true && ((m.2.map PyData.int).all (hkB 6) && true)) = true
  rw [hk_ints]; rfl
theorem keysOk_mark (ms : List Mk) : keysOk (ms.map markD) = true := by
  unfold keysOk
  have hm : ∀ d ∈ ms.map markD, ∃ m : Mk, d = markD m := fun d hd => by
    obtain ⟨m, _, rfl⟩ := List.mem_map.mp hd
    exact ⟨m, rfl⟩
  refine Bool.and_eq_true_iff.mpr ⟨Bool.and_eq_true_iff.mpr ⟨?_, ?_⟩, ?_⟩
  · refine List.all_eq_true.mpr fun d hd => List.all_eq_true.mpr fun e he => ?_
    obtain ⟨m, rfl⟩ := hm d hd
    obtain ⟨m', rfl⟩ := hm e he
    show (true && (alikeAll (m.2.map PyData.int) (m'.2.map PyData.int) && alikeAll [] [])) = true
    rw [alike_ints, alikeAll]; rfl
  · refine Bool.or_eq_true_iff.mpr (.inl (List.all_eq_true.mpr fun d hd => ?_))
    obtain ⟨m, rfl⟩ := hm d hd
    rfl
  · refine List.all_eq_true.mpr fun d hd => ?_
    obtain ⟨m, rfl⟩ := hm d hd
    rw [code_mark.plain, Bool.true_and, decide_eq_true_iff]
    have := code_mark.depth m
    omega
theorem sortSet_mark {ms : List Mk} (hl : ms.length < 64) : dSortSet [.list (ms.map markD)] = some (.list ((ord markD ms).map markD)) ∧ dSortSet [.tuple (ms.map markD)] = some (.list ((ord markD ms).map markD)) :=
  sortSet_map code_mark (fun x _ => keyB_mark x) hl (keysOk_mark _)
end Kn

set_option Elab.async false
set_option linter.all false
set_option maxRecDepth 100000
set_option autoImplicit false
/-! Marks: the program's defs. -/
namespace Kn
open PySem Dt Dt.R
open L2 (Key)
structure Mst where
  next : Int
  rows : List (Int × D)
  kn : D
  marks : List Mk
def enD (e : Int × D) : D := .tuple [.int e.1, e.2]
def mstD (s : Mst) : D := .tuple [.int s.next, .tuple (s.rows.map enD), s.kn, .tuple (s.marks.map markD)]
def prD (p : Int × Int) : D := .tuple [.int p.1, .int p.2]
def tgs (s : Mst) : List Int := s.rows.map (·.1)
/-- what a row of pairs makes of a tag -/
def chg (row : List (Int × Int)) (t : Int) : Int := (((row.filter fun p => decide (p.1 = t)).map (·.2)).getD 0 0)
def allIn (ts row : List Int) : Bool := row.all fun t => decide (t ∈ ts)
def carry (row : List (Int × Int)) (m : Mk) : Mk := (m.1, m.2.map (chg row))
def carried (row : List (Int × Int)) (ms : List Mk) : List Mk := (ms.filter fun m => allIn (row.map (·.1)) m.2).map (carry row)
end Kn
namespace Lw
open PySem Kn Dt Dt.R
open L2 (Key)
theorem it_marks (ms : List Mk) : items (.tuple (ms.map markD)) = some (ms.map markD) := rfl
theorem it_int (ts : List Int) : items (intsD ts) = some (ts.map PyData.int) := rfl
theorem ix_st3 (s : Mst) : dIxA (mstD s) (.int 3) = some (.tuple (s.marks.map markD)) := rfl
theorem ix_m1 (m : Mk) : dIxA (markD m) (.int 1) = some (rwD m.2) := rfl
theorem in_iT (t : Int) (ts : List Int) : dInA (.int t) (rwD ts) = some (.bool (decide (t ∈ ts))) := code_int.inT (by decide) ts t
theorem in_iL (t : Int) (ts : List Int) : dInA (.int t) (intsD ts) = some (.bool (decide (t ∈ ts))) := code_int.inL (by decide) ts t
theorem nin_iT (t : Int) (ts : List Int) : dNotInA (.int t) (rwD ts) = some (.bool (!decide (t ∈ ts))) := code_int.ninT (by decide) ts t
theorem nin_iL (t : Int) (ts : List Int) : dNotInA (.int t) (intsD ts) = some (.bool (!decide (t ∈ ts))) := code_int.ninL (by decide) ts t
theorem in_mT (m : Mk) (ms : List Mk) : dInA (markD m) (.tuple (ms.map markD)) = some (.bool (decide (m ∈ ms))) := (code_mark.inT (by decide) ms m).trans (congrArg (fun b => some (PyData.bool b)) (decide_eq_decide.mpr Iff.rfl))
theorem nin_mT (m : Mk) (ms : List Mk) : dNotInA (markD m) (.tuple (ms.map markD)) = some (.bool (!decide (m ∈ ms))) := (code_mark.ninT (by decide) ms m).trans (congrArg (fun b => some (PyData.bool (!b))) (decide_eq_decide.mpr Iff.rfl))
theorem m_inorder {ms : List Mk} (h : ms.length < 64) : m_marks_in_order [.tuple (ms.map markD)] = .ok (.tuple ((ord markD ms).map markD)) ∧ m_marks_in_order [.list (ms.map markD)] = .ok (.tuple ((ord markD ms).map markD)) := by
  obtain ⟨a, b⟩ := sortSet_mark h
  exact ⟨St.runF_rt (ρ1 := [some (.tuple (ms.map markD))]) rfl (St.ret (St.call (St.a1 (St.call (St.a1 (St.vr rfl)) b)) rfl)), St.runF_rt (ρ1 := [some (.list (ms.map markD))]) rfl (St.ret (St.call (St.a1 (St.call (St.a1 (St.vr rfl)) a)) rfl))⟩
theorem m_marked (s : Mst) (n : Int) (row : List Int) : m_is_marked [mstD s, .int n, rwD row] = .ok (.bool (decide ((n, row) ∈ s.marks))) :=
  St.runF_rt (ρ1 := [some (mstD s), some (.int n), some (rwD row)]) rfl (St.ret (St.op (show mTup _ _ = .ok (markD (n, row), _) from rfl) (St.op (St.vr rfl) St.cs (ix_st3 s)) (in_mT (n, row) s.marks)))
theorem m_withmarks (s : Mst) {ms : List Mk} (h : s.marks.length + ms.length < 64) : m_with_marks [mstD s, .tuple (ms.map markD)] = .ok (mstD { s with marks := ord markD (s.marks ++ ms) }) := by
  have ad := add_tup markD s.marks ms (by omega)
  have io := (m_inorder (ms := s.marks ++ ms) (by rw [List.length_append]; exact h)).1
  refine St.runF_rt (ρ1 := [some (mstD s), some (.tuple (ms.map markD)), some (.int s.next), some (.tuple (s.rows.map enD)), some s.kn, some (.tuple (s.marks.map markD))]) rfl ?_
  show b_with_marks [some (mstD s), some (.tuple (ms.map markD)), none, none, none, none] = _
  unfold b_with_marks
  refine Eq.trans (St.seq (ρ1 := [some (mstD s), some (.tuple (ms.map markD)), some (.int s.next), some (.tuple (s.rows.map enD)), some s.kn, some (.tuple (s.marks.map markD))]) rfl) ?_
  exact St.ret (St.tup (St.ac (St.vr rfl) (St.ac (St.vr rfl) (St.ac (St.vr rfl) (St.a1 (St.callF (St.a1 (St.op (St.vr rfl) (St.vr rfl) ad)) io))))) (show 4 ≤ 1000 from by decide))
theorem m_withmark (s : Mst) (n : Int) (row : List Int) (h : s.marks.length < 63) : m_with_mark [mstD s, .int n, rwD row] = .ok (mstD { s with marks := ord markD (s.marks ++ [(n, row)]) }) :=
  St.runF_rt (ρ1 := [some (mstD s), some (.int n), some (rwD row)]) rfl (St.ret (St.callF (St.ac (St.vr rfl) (St.a1 (show mTup _ _ = .ok (.tuple ([((n, row) : Mk)].map markD), _) from rfl))) (m_withmarks s (by simp; omega))))
theorem sl3 (s : Mst) : dSl (mstD s) none (some 3) = some (.tuple [.int s.next, .tuple (s.rows.map enD), s.kn]) := rfl
theorem add3 (s : Mst) (ms : List Mk) : dAdd (.tuple [.int s.next, .tuple (s.rows.map enD), s.kn]) (.tuple [.tuple (ms.map markD)]) = some (mstD { s with marks := ms }) := rfl
theorem m_cleared' (s : Mst) : m_cleared [mstD s] = .ok (mstD { s with marks := [] }) := rfl
theorem m_markswith (s : Mst) (t : Int) : m_marks_with [mstD s, .int t] = .ok (.tuple ((s.marks.filter fun m => decide (t ∈ m.2)).map markD)) := by
  have e := lc_eval (g := gSet 2) (vs := [2]) (tt := mBool (mOp dInA (var 1) (mOp dIxA (var 2) (cst (.int 1))))) (me := var 2) (ρ := [some (mstD s), some (.int t), none]) (enc := markD) (c := fun m => decide (t ∈ m.2)) (f := markD) (xs := s.marks)
    fun m _ => ⟨[some (mstD s), some (.int t), some (markD m)], _, rfl, St.bl (St.op (St.vr rfl) (St.op (St.vr rfl) St.cs (ix_m1 m)) (in_iT t m.2)), fun _ => ⟨_, St.vr rfl⟩⟩
  exact St.runF_rt (ρ1 := [some (mstD s), some (.int t), none]) rfl (St.ret (St.call (St.a1 (St.lc (St.it (St.op (St.vr rfl) St.cs (ix_st3 s)) (it_marks s.marks)) e)) rfl))
theorem m_tagsin (row ts : List Int) : m_are_tags_in [rwD row, rwD ts] = .ok (.bool (allIn ts row)) ∧ m_are_tags_in [rwD row, intsD ts] = .ok (.bool (allIn ts row)) := by
  have go : ∀ x : D, (∀ t : Int, dInA (.int t) x = some (.bool (decide (t ∈ ts)))) → m_are_tags_in [rwD row, x] = .ok (.bool (allIn ts row)) := fun x hx => by
    have e := lc_map (g := gSet 2) (vs := [2]) (me := mOp dInA (var 2) (var 1)) (ρ := [some (rwD row), some x, none]) (enc := PyData.int) (f := fun t => .bool (decide (t ∈ ts))) (xs := row)
      fun t _ => ⟨[some (rwD row), some x, some (.int t)], _, rfl, St.op (St.vr rfl) (St.vr rfl) (hx t)⟩
    exact St.runF_rt (ρ1 := [some (rwD row), some x, none]) rfl (St.ret (St.call (St.a1 (St.lc (St.it (St.vr rfl) (it_rw row)) e)) (dAll_map (fun t => decide (t ∈ ts)) row)))
  exact ⟨go _ fun t => in_iT t ts, go _ fun t => in_iL t ts⟩
theorem m_dead (ms : List Mk) (ts : List Int) : m_dead_marks [.tuple (ms.map markD), rwD ts] = .ok (.tuple ((ms.filter fun m => !allIn ts m.2).map markD)) := by
  have e := lc_eval (g := gSet 2) (vs := [2]) (tt := mNotB (mTru (mCallF m_are_tags_in (aCons (mOp dIxA (var 2) (cst (.int 1))) (aCons (var 1) aNil))))) (me := var 2) (ρ := [some (.tuple (ms.map markD)), some (rwD ts), none]) (enc := markD) (c := fun m => !allIn ts m.2) (f := markD) (xs := ms)
    fun m _ => ⟨[some (.tuple (ms.map markD)), some (rwD ts), some (markD m)], _, rfl, St.nt (St.trB (St.callF (St.ac (St.op (St.vr rfl) St.cs (ix_m1 m)) (St.a1 (St.vr rfl))) (m_tagsin m.2 ts).1)), fun _ => ⟨_, St.vr rfl⟩⟩
  exact St.runF_rt (ρ1 := [some (.tuple (ms.map markD)), some (rwD ts), none]) rfl (St.ret (St.call (St.a1 (St.lc (St.it (St.vr rfl) (it_marks ms)) e)) rfl))
theorem it_prs (row : List (Int × Int)) : items (.tuple (row.map prD)) = some (row.map prD) := rfl
theorem m_changed (row : List (Int × Int)) {t : Int} (h : t ∈ row.map (·.1)) : m_tag_changed [.tuple (row.map prD), .int t] = .ok (.int (chg row t)) := by
  have e := lc_eval (g := gTpl 2 (gsCons (gSet 2) (gsCons (gSet 3) gsNil))) (vs := [2, 3]) (tt := mBool (mOp dEq (var 2) (var 1))) (me := var 3) (ρ := [some (.tuple (row.map prD)), some (.int t), none, none]) (enc := prD) (c := fun p => decide (p.1 = t)) (f := fun p => PyData.int p.2) (xs := row)
    fun p _ => ⟨[some (.tuple (row.map prD)), some (.int t), some (.int p.1), some (.int p.2)], _, rfl, St.bl (St.op (St.vr rfl) (St.vr rfl) (eq_i p.1 t)), fun _ => ⟨_, St.vr rfl⟩⟩
  have q : ((row.filter fun p => decide (p.1 = t)).map fun p => PyData.int p.2) = ((row.filter fun p => decide (p.1 = t)).map (·.2)).map PyData.int := by rw [List.map_map]; rfl
  rw [q] at e
  have l0 : 0 < ((row.filter fun p => decide (p.1 = t)).map (·.2)).length := by
    obtain ⟨p, hp, e⟩ := List.mem_map.mp h
    rw [List.length_map]
    exact List.length_pos_of_mem (List.mem_filter.mpr ⟨hp, decide_eq_true e⟩)
  exact St.runF_rt (ρ1 := [some (.tuple (row.map prD)), some (.int t), none, none]) rfl (St.ret (St.op (St.lc (St.it (St.vr rfl) (it_prs row)) e) St.cs (ixL_at PyData.int 0 _ l0)))
def eMC (ms : List Mk) (row : List (Int × Int)) (acc : List Mk) (o4 o5 : Option D) : Ev := [some (.tuple (ms.map markD)), some (.tuple (row.map prD)), some (intsD (row.map (·.1))), some (.list (acc.map markD)), o4, o5, none, none, none]
theorem m_carried (ms : List Mk) (row : List (Int × Int)) (h : ms.length < 64) : m_marks_carried [.tuple (ms.map markD), .tuple (row.map prD)] = .ok (.tuple ((ord markD (carried row ms)).map markD)) := by
  have e := lc_map (g := gTpl 2 (gsCons (gSet 6) (gsCons (gSet 7) gsNil))) (vs := [6, 7]) (me := var 6) (ρ := [some (.tuple (ms.map markD)), some (.tuple (row.map prD)), none, none, none, none, none, none, none]) (enc := prD) (f := fun p => PyData.int p.1) (xs := row)
    fun p _ => ⟨[some (.tuple (ms.map markD)), some (.tuple (row.map prD)), none, none, none, none, some (.int p.1), some (.int p.2), none], _, rfl, St.vr rfl⟩
  have q : (row.map fun p => PyData.int p.1) = (row.map (·.1)).map PyData.int := by rw [List.map_map]; rfl
  rw [q] at e
  obtain ⟨ρ', h1, acc, o4, o5, rfl, _, ha⟩ := for_all (g := gTpl 2 (gsCons (gSet 4) (gsCons (gSet 5) gsNil))) (enc := markD)
    (b := sIf (mTru (mCallF m_are_tags_in (aCons (var 5) (aCons (var 2) aNil)))) (sExpr (eApp 3 (mTup (aCons (var 4) (aCons (mCall dTuple (aCons (mLc false (iSq (var 5)) [8] (gSet 8) bYes (mCallF m_tag_changed (aCons (var 1) (aCons (var 8) aNil)))) aNil)) aNil))))) sNil)
    (I := fun l ρ => ∃ acc o4 o5, ρ = eMC ms row acc o4 o5 ∧ acc.length + l.length < 64 ∧ acc ++ carried row l = carried row ms)
    (fun m l ρ hh => by
      obtain ⟨acc, o4, o5, rfl, hl, ha⟩ := hh
      rw [List.length_cons] at hl
      have ti := (m_tagsin m.2 (row.map (·.1))).2
      refine ⟨eMC ms row acc (some (.int m.1)) (some (rwD m.2)), ?_⟩
      cases c : allIn (row.map (·.1)) m.2 with
      | false =>
        rw [c] at ti
        refine ⟨_, rfl, .inl (St.pass (St.trB (St.callF (St.ac (St.vr rfl) (St.a1 (St.vr rfl))) ti))), acc, _, _, rfl, by omega, ?_⟩
        rw [← ha]
        unfold carried
        rw [List.filter_cons_of_neg (by simp [c])]
      | true =>
        rw [c] at ti
        have e2 := lc_map (g := gSet 8) (vs := [8]) (me := mCallF m_tag_changed (aCons (var 1) (aCons (var 8) aNil))) (ρ := eMC ms row acc (some (.int m.1)) (some (rwD m.2))) (enc := PyData.int) (f := fun t => PyData.int (chg row t)) (xs := m.2)
          fun t ht => ⟨(eMC ms row acc (some (.int m.1)) (some (rwD m.2))).set 8 (some (.int t)), _, rfl, St.callF (St.ac (St.vr rfl) (St.a1 (St.vr rfl))) (m_changed row (of_decide_eq_true (List.all_eq_true.mp c t ht)))⟩
        have q2 : (m.2.map fun t => PyData.int (chg row t)) = (m.2.map (chg row)).map PyData.int := by rw [List.map_map]; rfl
        rw [q2] at e2
        have a := St.app (i := 3) (m := mTup (aCons (var 4) (aCons (mCall dTuple (aCons (mLc false (iSq (var 5)) [8] (gSet 8) bYes (mCallF m_tag_changed (aCons (var 1) (aCons (var 8) aNil)))) aNil)) aNil))) (ρ := eMC ms row acc (some (.int m.1)) (some (rwD m.2))) (ds := acc.map markD) (es := acc.map markD) rfl (St.tup (St.ac (St.vr rfl) (St.a1 (St.call (St.a1 (St.lc (St.it (St.vr rfl) (it_rw m.2)) e2)) rfl))) (show 2 ≤ 1000 from by decide)) rfl (by rw [List.length_map]; omega)
        have q3 : acc.map markD ++ [.tuple [.int m.1, .tuple ((m.2.map (chg row)).map PyData.int)]] = (acc ++ [carry row m]).map markD := by rw [List.map_append]; rfl
        rw [q3] at a
        refine ⟨_, rfl, .inl ((St.ift (St.trB (St.callF (St.ac (St.vr rfl) (St.a1 (St.vr rfl))) ti))).trans (St.ex a)), acc ++ [carry row m], _, _, rfl, by rw [List.length_append, List.length_singleton]; omega, ?_⟩
        rw [← ha]
        unfold carried
        rw [List.filter_cons_of_pos (by simp [c]), List.map_cons, List.append_assoc]
        rfl)
    (xs := ms) (ρ := eMC ms row [] none none) ⟨[], none, none, rfl, by simpa using h, rfl⟩
  have ha : acc = carried row ms := by
    have : acc ++ [] = carried row ms := ha
    simpa using this
  subst ha
  have cl : (carried row ms).length < 64 := by
    unfold carried
    rw [List.length_map]
    exact Nat.lt_of_le_of_lt (List.length_filter_le _ _) h
  have io := (m_inorder cl).2
  refine St.runF_rt (ρ1 := eMC ms row (carried row ms) o4 o5) rfl ?_
  show b_marks_carried [some (.tuple (ms.map markD)), some (.tuple (row.map prD)), none, none, none, none, none, none, none] = _
  unfold b_marks_carried
  refine Eq.trans (St.seq (ρ1 := [some (.tuple (ms.map markD)), some (.tuple (row.map prD)), some (intsD (row.map (·.1))), none, none, none, none, none, none]) (St.set (St.lc (St.it (St.vr rfl) (it_prs row)) e) rfl)) ?_
  refine Eq.trans (St.seq (ρ1 := eMC ms row [] none none) rfl) ?_
  refine Eq.trans (St.seq (St.fr (St.it (St.vr rfl) (it_marks ms)) h1)) ?_
  exact St.ret (St.callF (St.a1 (St.vr rfl)) io)
theorem m_moved (ms : List Mk) (by' : Int) : m_marks_moved [.tuple (ms.map markD), .int by'] = .ok (.tuple ((ms.map fun m => (m.1 + by', m.2)).map markD)) := by
  have e := lc_map (g := gTpl 2 (gsCons (gSet 2) (gsCons (gSet 3) gsNil))) (vs := [2, 3]) (me := mTup (aCons (mOp dAdd (var 2) (var 1)) (aCons (var 3) aNil))) (ρ := [some (.tuple (ms.map markD)), some (.int by'), none, none]) (enc := markD) (f := fun m => markD (m.1 + by', m.2)) (xs := ms)
    fun m _ => ⟨[some (.tuple (ms.map markD)), some (.int by'), some (.int m.1), some (rwD m.2)], _, rfl, St.tup (St.ac (St.op (St.vr rfl) (St.vr rfl) rfl) (St.a1 (St.vr rfl))) (show 2 ≤ 1000 from by decide)⟩
  have q : (ms.map fun m => markD (m.1 + by', m.2)) = (ms.map fun m => (m.1 + by', m.2)).map markD := by rw [List.map_map]; rfl
  rw [q] at e
  exact St.runF_rt (ρ1 := [some (.tuple (ms.map markD)), some (.int by'), none, none]) rfl (St.ret (St.call (St.a1 (St.lc (St.it (St.vr rfl) (it_marks ms)) e)) rfl))
theorem it_ents (s : Mst) : items (.tuple (s.rows.map enD)) = some (s.rows.map enD) := rfl
theorem m_tagsof (s : Mst) : m_tags_of [mstD s] = .ok (rwD (tgs s)) := by
  have e := lc_map (g := gTpl 2 (gsCons (gSet 1) (gsCons (gSet 2) gsNil))) (vs := [1, 2]) (me := var 1) (ρ := [some (mstD s), none, none]) (enc := enD) (f := fun e => PyData.int e.1) (xs := s.rows)
    fun e _ => ⟨[some (mstD s), some (.int e.1), some e.2], _, rfl, St.vr rfl⟩
  have q : (s.rows.map fun e => PyData.int e.1) = (tgs s).map PyData.int := by unfold tgs; rw [List.map_map]; rfl
  rw [q] at e
  exact St.runF_rt (ρ1 := [some (mstD s), none, none]) rfl (St.ret (St.call (St.a1 (St.lc (St.it (St.op (St.vr rfl) St.cs rfl) (it_ents s)) e)) rfl))
theorem ix_e0 (e : Int × D) : dIxA (enD e) (.int 0) = some (.int e.1) := rfl
theorem m_outrows (s : Mst) (ts : List Int) : m_without_rows [mstD s, rwD ts] = .ok (mstD ⟨s.next, s.rows.filter fun e => !decide (e.1 ∈ ts), s.kn, s.marks.filter fun m => !m.2.any fun t => decide (t ∈ ts)⟩) := by
  have e1 := lc_eval (g := gSet 7) (vs := [7]) (tt := mBool (mOp dNotInA (mOp dIxA (var 7) (cst (.int 0))) (var 1))) (me := var 7) (ρ := [some (mstD s), some (rwD ts), some (.int s.next), some (.tuple (s.rows.map enD)), some s.kn, some (.tuple (s.marks.map markD)), none, none, none, none]) (enc := enD) (c := fun e => !decide (e.1 ∈ ts)) (f := enD) (xs := s.rows)
    fun e _ => ⟨[some (mstD s), some (rwD ts), some (.int s.next), some (.tuple (s.rows.map enD)), some s.kn, some (.tuple (s.marks.map markD)), none, some (enD e), none, none], _, rfl, St.bl (St.op (St.op (St.vr rfl) St.cs (ix_e0 e)) (St.vr rfl) (nin_iT e.1 ts)), fun _ => ⟨_, St.vr rfl⟩⟩
  have e2 := lc_eval (g := gSet 8) (vs := [8]) (tt := mNotB (mTru (mCall dAny (aCons (mLc false (iSq (mOp dIxA (var 8) (cst (.int 1)))) [9] (gSet 9) bYes (mOp dInA (var 9) (var 1))) aNil)))) (me := var 8) (ρ := [some (mstD s), some (rwD ts), some (.int s.next), some (.tuple (s.rows.map enD)), some s.kn, some (.tuple (s.marks.map markD)), some (.tuple ((s.rows.filter fun e => !decide (e.1 ∈ ts)).map enD)), none, none, none]) (enc := markD) (c := fun m => !m.2.any fun t => decide (t ∈ ts)) (f := markD) (xs := s.marks)
    fun m _ => by
      have e3 := lc_map (g := gSet 9) (vs := [9]) (me := mOp dInA (var 9) (var 1)) (ρ := [some (mstD s), some (rwD ts), some (.int s.next), some (.tuple (s.rows.map enD)), some s.kn, some (.tuple (s.marks.map markD)), some (.tuple ((s.rows.filter fun e => !decide (e.1 ∈ ts)).map enD)), none, some (markD m), none]) (enc := PyData.int) (f := fun t => .bool (decide (t ∈ ts))) (xs := m.2)
        fun t _ => ⟨[some (mstD s), some (rwD ts), some (.int s.next), some (.tuple (s.rows.map enD)), some s.kn, some (.tuple (s.marks.map markD)), some (.tuple ((s.rows.filter fun e => !decide (e.1 ∈ ts)).map enD)), none, some (markD m), some (.int t)], _, rfl, St.op (St.vr rfl) (St.vr rfl) (in_iT t ts)⟩
      exact ⟨_, _, rfl, St.nt (St.trB (St.call (St.a1 (St.lc (St.it (St.op (St.vr rfl) St.cs (ix_m1 m)) (it_rw m.2)) e3)) (dAny_map (fun t => decide (t ∈ ts)) m.2))), fun _ => ⟨_, St.vr rfl⟩⟩
  refine St.runF_rt (ρ1 := [some (mstD s), some (rwD ts), some (.int s.next), some (.tuple (s.rows.map enD)), some s.kn, some (.tuple (s.marks.map markD)), some (.tuple ((s.rows.filter fun e => !decide (e.1 ∈ ts)).map enD)), none, none, none]) rfl ?_
  · show b_without_rows [some (mstD s), some (rwD ts), none, none, none, none, none, none, none, none] = _
    unfold b_without_rows
    refine Eq.trans (St.seq (ρ1 := [some (mstD s), some (rwD ts), some (.int s.next), some (.tuple (s.rows.map enD)), some s.kn, some (.tuple (s.marks.map markD)), none, none, none, none]) rfl) ?_
    refine Eq.trans (St.seq (ρ1 := [some (mstD s), some (rwD ts), some (.int s.next), some (.tuple (s.rows.map enD)), some s.kn, some (.tuple (s.marks.map markD)), some (.tuple ((s.rows.filter fun e => !decide (e.1 ∈ ts)).map enD)), none, none, none]) (St.set (St.call (St.a1 (St.lc (St.it (St.vr rfl) (it_ents s)) e1)) rfl) rfl)) ?_
    exact St.ret (St.tup (St.ac (St.vr rfl) (St.ac (St.vr rfl) (St.ac (St.vr rfl) (St.a1 (St.call (St.a1 (St.lc (St.it (St.vr rfl) (it_marks s.marks)) e2)) rfl))))) (show 4 ≤ 1000 from by decide))
theorem m_outtags {s : Mst} {ts : List Int} (h : ∀ t ∈ ts, t ∈ tgs s) : m_without_tags [mstD s, rwD ts] = .ok (mstD ⟨s.next, s.rows.filter fun e => !decide (e.1 ∈ ts), s.kn, s.marks.filter fun m => !m.2.any fun t => decide (t ∈ ts)⟩) := by
  have e1 := lc_map (g := gSet 3) (vs := [3]) (me := mOp dInA (var 3) (var 2)) (ρ := [some (mstD s), some (rwD ts), some (rwD (tgs s)), none]) (enc := PyData.int) (f := fun t => .bool (decide (t ∈ tgs s))) (xs := ts)
    fun t _ => ⟨[some (mstD s), some (rwD ts), some (rwD (tgs s)), some (.int t)], _, rfl, St.op (St.vr rfl) (St.vr rfl) (in_iT t (tgs s))⟩
  have al : (ts.all fun t => decide (t ∈ tgs s)) = true := List.all_eq_true.mpr fun t ht => decide_eq_true (h t ht)
  have da := dAll_map (fun t => decide (t ∈ tgs s)) ts
  rw [al] at da
  refine St.runF_rt (ρ1 := [some (mstD s), some (rwD ts), some (rwD (tgs s)), none]) rfl ?_
  show b_without_tags [some (mstD s), some (rwD ts), none, none] = _
  unfold b_without_tags
  refine Eq.trans (St.seq (ρ1 := [some (mstD s), some (rwD ts), some (rwD (tgs s)), none]) (St.set (St.callF (St.a1 (St.vr rfl)) (m_tagsof s)) rfl)) ?_
  refine Eq.trans (St.seq (St.pass (St.nt (St.trB (St.call (St.a1 (St.lc (St.it (St.vr rfl) (it_rw ts)) e1)) da))))) ?_
  exact St.ret (St.callF (St.ac (St.vr rfl) (St.a1 (St.vr rfl))) (m_outrows s ts))
end Lw

set_option Elab.async false
set_option linter.all false
set_option maxRecDepth 100000
set_option autoImplicit false
/-! Marks: the plain law. -/
namespace Kn
open PySem Dt Dt.R
open L2 (Key)
open PySem.W (dataLe)
theorem not_all (ts row : List Int) : decide (0 < (row.filter fun t => !decide (t ∈ ts)).length) = !allIn ts row := by
  unfold allIn
  rw [Bool.eq_iff_iff, decide_eq_true_iff, Bool.not_eq_true', ← Bool.not_eq_true, List.all_eq_true]
  constructor
  · intro h z
    obtain ⟨t, ht⟩ := List.exists_mem_of_length_pos h
    obtain ⟨h1, h2⟩ := List.mem_filter.mp ht
    have := z t h1
    rw [this] at h2; cases h2
  · intro h
    by_cases c : 0 < (row.filter fun t => !decide (t ∈ ts)).length
    · exact c
    · exfalso
      refine h fun t ht => ?_
      cases d : decide (t ∈ ts) with
      | true => rfl
      | false => exact absurd (List.length_pos_of_mem (List.mem_filter.mpr ⟨ht, by rw [d]; rfl⟩)) c
theorem alive_eq (ts : List Int) (ms : List Mk) : (ms.filter fun m => !decide (m ∈ ms.filter fun m => !allIn ts m.2)) = ms.filter fun m => allIn ts m.2 := by
  refine List.filter_congr fun m hm => ?_
  cases c : allIn ts m.2 with
  | true =>
    have : m ∉ ms.filter fun m => !allIn ts m.2 := fun z => by
      have := (List.mem_filter.mp z).2
      rw [c] at this; cases this
    rw [decide_eq_false this]; rfl
  | false =>
    have : m ∈ ms.filter fun m => !allIn ts m.2 := List.mem_filter.mpr ⟨hm, by rw [c]; rfl⟩
    rw [decide_eq_true this]; rfl
theorem dead_none {ts : List Int} {ms : List Mk} (h : ∀ m ∈ ms, ∀ t ∈ m.2, t ∈ ts) : (ms.filter fun m => !allIn ts m.2) = [] := by
  refine List.filter_eq_nil_iff.mpr fun m hm => ?_
  have : allIn ts m.2 = true := List.all_eq_true.mpr fun t ht => decide_eq_true (h m hm t ht)
  rw [this]; decide
theorem out_eq {ts some' : List Int} {ms : List Mk} (h : ∀ m ∈ ms, ∀ t ∈ m.2, t ∈ ts) : (ms.filter fun m => !m.2.any fun t => decide (t ∈ ts.filter fun t => !decide (t ∈ some'))) = ms.filter fun m => allIn some' m.2 := by
  refine List.filter_congr fun m hm => ?_
  unfold allIn
  rw [Bool.eq_iff_iff, Bool.not_eq_true', ← Bool.not_eq_true, List.any_eq_true, List.all_eq_true]
  constructor
  · intro z t ht
    cases c : decide (t ∈ some') with
    | true => rfl
    | false => exact absurd ⟨t, ht, decide_eq_true (List.mem_filter.mpr ⟨h m hm t ht, by rw [c]; rfl⟩)⟩ z
  · rintro z ⟨t, ht, e⟩
    have := (List.mem_filter.mp (of_decide_eq_true e)).2
    rw [z t ht] at this; cases this
theorem filter_key : ∀ {row : List (Int × Int)} {t v : Int}, (row.map (·.1)).Nodup → (t, v) ∈ row → (row.filter fun p => decide (p.1 = t)) = [(t, v)]
  | p :: row, t, v, nd, h => by
    rw [List.map_cons] at nd
    obtain ⟨n1, n2⟩ := List.nodup_cons.mp nd
    rcases List.mem_cons.mp h with e | h
    · subst e
      have : (row.filter fun p => decide (p.1 = t)) = [] := List.filter_eq_nil_iff.mpr fun q hq z => n1 (by
        have := of_decide_eq_true z
        rw [← this]; exact List.mem_map.mpr ⟨q, hq, rfl⟩)
      rw [List.filter_cons_of_pos (by simp), this]
    · have ne : p.1 ≠ t := fun e => n1 (by rw [e]; exact List.mem_map.mpr ⟨_, h, rfl⟩)
      rw [List.filter_cons_of_neg (by simp [ne]), filter_key n2 h]
theorem chg_of {row : List (Int × Int)} {t v : Int} (nd : (row.map (·.1)).Nodup) (h : (t, v) ∈ row) : chg row t = v := by
  unfold chg
  rw [filter_key nd h]; rfl
theorem chg_mem {row : List (Int × Int)} {t : Int} (nd : (row.map (·.1)).Nodup) (h : t ∈ row.map (·.1)) : (t, chg row t) ∈ row := by
  obtain ⟨p, hp, e⟩ := List.mem_map.mp h
  obtain ⟨a, b⟩ := p
  have e : a = t := e
  subst e
  rw [chg_of nd hp]; exact hp
def swp (row : List (Int × Int)) : List (Int × Int) := srt prD (row.map fun p => (p.2, p.1))
theorem mem_swp {row : List (Int × Int)} {a b : Int} : (a, b) ∈ swp row ↔ (b, a) ∈ row := by
  unfold swp
  rw [srt_mem, List.mem_map]
  constructor
  · rintro ⟨p, hp, e⟩
    cases e; exact hp
  · intro h; exact ⟨_, h, rfl⟩
theorem keys_swp {row : List (Int × Int)} (nd : (row.map (·.2)).Nodup) : ((swp row).map (·.1)).Nodup := by
  have p : ((swp row).map (·.1)).Perm (row.map (·.2)) := by
    have q := (srt_perm (key := prD) (xs := row.map fun p => (p.2, p.1))).map (·.1)
    rw [List.map_map] at q
    exact q
  exact p.nodup_iff.mpr nd
theorem key_swp {row : List (Int × Int)} {v : Int} : v ∈ (swp row).map (·.1) ↔ v ∈ row.map (·.2) := by
  rw [List.mem_map, List.mem_map]
  constructor
  · rintro ⟨⟨a, b⟩, h, e⟩
    exact ⟨(b, a), mem_swp.mp h, e⟩
  · rintro ⟨⟨a, b⟩, h, e⟩
    exact ⟨(b, a), mem_swp.mpr h, e⟩
section
variable {row : List (Int × Int)} (n1 : (row.map (·.1)).Nodup) (n2 : (row.map (·.2)).Nodup)
include n1 n2
theorem chg_back {t : Int} (h : t ∈ row.map (·.1)) : chg (swp row) (chg row t) = t := chg_of (keys_swp n2) (mem_swp.mpr (chg_mem n1 h))
theorem carry_back {m : Mk} (h : allIn (row.map (·.1)) m.2 = true) : carry (swp row) (carry row m) = m := by
  unfold carry
  have : (m.2.map (chg row)).map (chg (swp row)) = m.2 := by
    rw [List.map_map]
    have e : m.2.map (chg (swp row) ∘ chg row) = m.2.map id := List.map_congr_left fun t ht => chg_back n1 n2 (of_decide_eq_true (List.all_eq_true.mp h t ht))
    rw [e, List.map_id]
  show (m.1, (m.2.map (chg row)).map (chg (swp row))) = m
  rw [this]
theorem carry_in {m : Mk} (h : allIn (row.map (·.1)) m.2 = true) : allIn ((swp row).map (·.1)) (carry row m).2 = true := by
  refine List.all_eq_true.mpr fun v hv => decide_eq_true ?_
  obtain ⟨t, ht, e⟩ := List.mem_map.mp (show v ∈ m.2.map (chg row) from hv)
  rw [key_swp, ← e]
  exact List.mem_map.mpr ⟨_, chg_mem n1 (of_decide_eq_true (List.all_eq_true.mp h t ht)), rfl⟩
theorem carried_nodup {ms : List Mk} (nd : ms.Nodup) : (carried row ms).Nodup := by
  unfold carried
  refine nodup_of_map (carry row) (fun x hx y hy e => ?_) (nd.filter _)
  have h1 := (List.mem_filter.mp hx).2
  have h2 := (List.mem_filter.mp hy).2
  rw [← carry_back n1 n2 h1, ← carry_back n1 n2 h2, e]
/-- there -/
theorem due_eq {ms : List Mk} (nd : ms.Nodup) : ord markD (carried row ms) = srt markD (carried row ms) := by
  unfold ord
  rw [dd_self (carried_nodup n1 n2 nd)]
/-- and back -/
theorem back_eq {ms : List Mk} (a : Asc markD ms) : ord markD (carried (swp row) (srt markD (carried row ms))) = ms.filter fun m => allIn (row.map (·.1)) m.2 := by
  refine ord_is apart_mark (asc_filter _ a) fun x => ?_
  unfold carried
  rw [List.mem_map, List.mem_filter]
  constructor
  · rintro ⟨y, hy, e⟩
    obtain ⟨h1, h2⟩ := List.mem_filter.mp hy
    obtain ⟨z, hz, e2⟩ := List.mem_map.mp (srt_mem.mp h1)
    obtain ⟨z1, z2⟩ := List.mem_filter.mp hz
    rw [← e, ← e2, carry_back n1 n2 z2]
    exact ⟨z1, z2⟩
  · rintro ⟨h1, h2⟩
    exact ⟨carry row x, List.mem_filter.mpr ⟨srt_mem.mpr (List.mem_map.mpr ⟨x, List.mem_filter.mpr ⟨h1, h2⟩, rfl⟩), carry_in n1 n2 h2⟩, carry_back n1 n2 h2⟩
end
def mvM (by' : Int) (m : Mk) : Mk := (m.1 + by', m.2)
theorem le_mv (by' : Int) (a b : Mk) : dataLe false markD (mvM by' a) (mvM by' b) = dataLe false markD a b := by
  have e : ∀ a b : Mk, dataLe false markD a b = !(if a.1 = b.1 then (if PyData.eqv (rwD b.2) (rwD a.2) = true then false else PySem.W.dataLt (rwD b.2) (rwD a.2)) else decide (b.1 < a.1)) := fun a b => by
    show (!PySem.W.dataLt (markD b) (markD a)) = _
    have h1 : PySem.W.alike (.int b.1) (.int a.1) = true := rfl
    have h2 : PySem.W.alike (rwD b.2) (rwD a.2) = true := alike_ints b.2 a.2
    have := PySem.W.dataLt_pair h1 h2
    unfold markD
    rw [this, PySem.W.dataLt_int]
    have e2 : PyData.eqv (.int b.1) (.int a.1) = decide (b.1 = a.1) := code_int.eqv b.1 a.1
    rw [e2]
    by_cases h : a.1 = b.1
    · rw [if_pos h, if_pos (decide_eq_true h.symm)]
    · rw [if_neg h, if_neg (by simpa using fun z => h z.symm)]
  rw [e, e]
  show (!(if a.1 + by' = b.1 + by' then _ else decide (b.1 + by' < a.1 + by'))) = _
  by_cases h : a.1 = b.1
  · rw [if_pos h, if_pos (by rw [h])]; rfl
  · rw [if_neg h, if_neg (by omega)]
    have : decide (b.1 + by' < a.1 + by') = decide (b.1 < a.1) := decide_eq_decide.mpr (by omega)
    rw [this]
theorem mv_inj {by' : Int} {a b : Mk} (h : mvM by' a = mvM by' b) : a = b := by
  unfold mvM at h
  injection h with h1 h2
  obtain ⟨a1, a2⟩ := a
  obtain ⟨b1, b2⟩ := b
  simp only at h1 h2
  have : a1 = b1 := by omega
  rw [this, h2]
theorem asc_mv {by' : Int} {ms : List Mk} (a : Asc markD ms) : Asc markD (ms.map (mvM by')) := by
  refine ⟨nodup_of_map _ (fun x _ y _ e => mv_inj e) a.1, ?_⟩
  rw [List.pairwise_map]
  exact a.2.imp fun {x y} h => by rw [le_mv]; exact h
theorem carried_mv (row : List (Int × Int)) (by' : Int) (ms : List Mk) : carried row (ms.map (mvM by')) = (carried row ms).map (mvM by') := by
  unfold carried
  rw [List.filter_map, List.map_map, List.map_map]
  rfl
/-- moved and carried -/
theorem moved_eq {row : List (Int × Int)} (n1 : (row.map (·.1)).Nodup) (n2 : (row.map (·.2)).Nodup) {by' : Int} {ms : List Mk} (nd : ms.Nodup) : ord markD (carried row (ms.map (mvM by'))) = (srt markD (carried row ms)).map (mvM by') := by
  rw [carried_mv]
  refine ord_is apart_mark (asc_mv (asc_srt (carried_nodup n1 n2 nd))) fun x => ?_
  rw [List.mem_map, List.mem_map]
  constructor
  · rintro ⟨y, hy, e⟩; exact ⟨y, srt_mem.mpr hy, e⟩
  · rintro ⟨y, hy, e⟩; exact ⟨y, srt_mem.mp hy, e⟩
theorem bare_eq {ms : List Mk} (a : Asc markD ms) : ord markD (carried [] ms) = ms.filter fun m => decide (m.2 = []) := by
  have e : carried [] ms = ms.filter fun m => decide (m.2 = []) := by
    unfold carried
    have e1 : (ms.filter fun m => allIn (([] : List (Int × Int)).map (·.1)) m.2) = ms.filter fun m => decide (m.2 = []) := List.filter_congr fun m _ => by
      obtain ⟨n, r⟩ := m
      cases r with
      | nil => rfl
      | cons t r => rfl
    rw [e1]
    have e2 : (ms.filter fun m => decide (m.2 = [])).map (carry []) = (ms.filter fun m => decide (m.2 = [])).map id := List.map_congr_left fun m hm => by
      have := of_decide_eq_true (List.mem_filter.mp hm).2
      obtain ⟨n, r⟩ := m
      have : r = [] := this
      subst this
      rfl
    rw [e2, List.map_id]
  rw [e]
  exact ord_asc apart_mark (asc_filter _ a)
theorem carried_all {row : List (Int × Int)} {ms : List Mk} : carried row ms = (ms.filter fun m => allIn (row.map (·.1)) m.2).map (carry row) := rfl
end Kn

set_option Elab.async false
set_option linter.all false
set_option maxRecDepth 100000
set_option autoImplicit false
/-! Marks: what is drawn. -/
namespace Dt.St
open PySem L2 Dt R
theorem seqF {ρ ρ1 : Ev} {m m' : MS} (h : m ρ = .ok (.nx, ρ1)) : sSeqF m m' ρ = m' ρ1 := by
  unfold sSeqF; rw [h]; rfl
theorem runG_rt {n N j : Nat} {b : MS} {ds : List D} {d x : D} {ρ1 : Ev} (hl : ds.length = n) (h : b (startE n N ds) = .ok (.rt d, ρ1)) (hj : getv ρ1 j = some x) : runG n N j b ds = .ok (d, x) := by
  unfold runG; rw [if_pos hl, h]; show (R.opt (getv ρ1 j)).bind _ = _; rw [hj]; rfl
theorem lst {ms : MA} {ρ ρ1 : Ev} {ds : List D} (h : ms ρ = .ok (ds, ρ1)) (hz : ds.length ≤ 1000) : mLst ms ρ = .ok (.list ds, ρ1) := by
  unfold mLst; rw [h]; show (if ds.length ≤ 1000 then _ else _) = _; rw [if_pos hz]
theorem un {g : G1} {m : ME} {ρ ρ1 : Ev} {d r : D} (h : m ρ = .ok (d, ρ1)) (hg : g d = some r) : mUn g m ρ = .ok (r, ρ1) := by
  unfold mUn; rw [h]; show (R.opt (g d)).bind _ = _; rw [hg]; rfl
end Dt.St
namespace Lw
open PySem Kn Dt Dt.R
open L2 (Key)
theorem asInts_i (ns : List Int) : asInts (ns.map PyData.int) = some ns := asInts_map ns
theorem ln_scr (ns : List Int) : dLenA [scrD ns] = some (.int (ns.length : Int)) := by
  show (asInts (ns.map PyData.int)).map _ = _
  rw [asInts_map]; rfl
theorem ix_scr (ns : List Int) {a : Nat} (h : a < ns.length) : dIxA (scrD ns) (.int (a : Int)) = some (.int (ns.getD a 0)) := by
  show scrIx (ns.map PyData.int) (a : Int) = _
  have ix := ix_int ns h
  have ix : L2.atI (ns.map PyData.int) (a : Int) = some (.int (ns.getD a 0)) := ix
  unfold scrIx
  rw [asInts_map]
  have at' : L2.atI ns (a : Int) = some (ns.getD a 0) := by
    unfold L2.atI at ix ⊢
    rw [ixN_nat h]
    show ns[a]? = _
    rw [List.getD_eq_getElem?_getD, List.getElem?_eq_getElem h]; rfl
  first
    | (show (L2.atI ns (a : Int)).map _ = _; rw [at']; rfl)
    | (simp [at'])
/-- [x, ..][draw] -/
theorem pickI (xs : List Int) {r : Nat} (h : r < xs.length) : dIxA (.list (xs.map PyData.int)) (.int (r : Int)) = some (.int (xs.getD r 0)) := ixL_at PyData.int 0 xs h
theorem m_cell (ns ds : List Int) : ∃ (c : Int) (es : List Int), 0 ≤ c ∧ m__law_cell [scrD ns, intsD ds] = .ok (.int c, intsD es) := by
  have ln := ln_scr ns
  by_cases h : ns.length = 0
  · refine ⟨0, ds, Int.le_refl _, St.runI_rt (ρ1 := [some (scrD ns), some (intsD ds)]) rfl ?_ rfl⟩
    have q : dEq (.int (ns.length : Int)) (.int 0) = some (.bool true) := by rw [h]; rfl
    show b__law_cell [some (scrD ns), some (intsD ds)] = _
    unfold b__law_cell
    have t := St.ift (ρ := [some (scrD ns), some (intsD ds)]) (t := mBool (mOp dEq (mCall dLenA (aCons (var 0) aNil)) (cst (.int 0)))) (a := sRet (cst (.int 0))) (b := sNil) (St.bl (St.op (St.call (St.a1 (St.vr rfl)) ln) St.cs q))
    exact St.seq_rt (t.trans (St.ret St.cs))
  · obtain ⟨r, es, hr, e⟩ := m_takeN ds ns.length (by omega)
    have q : dEq (.int (ns.length : Int)) (.int 0) = some (.bool false) := by
      rw [eq_i, decide_eq_false (by omega)]
    have ab : ∀ x : Int, dAbs [.int x] = some (.int (if x < 0 then -x else x)) := fun _ => rfl
    have pw : dPow (.int 10) (.int 28) = some (.int (10 ^ 28)) := rfl
    have it : ∀ x : Int, dInt [.int x] = some (.int x) := fun _ => rfl
    refine ⟨(if ns.getD r 0 < 0 then -ns.getD r 0 else ns.getD r 0) % 10 ^ 28, es, Int.emod_nonneg _ (by decide), St.runI_rt (ρ1 := [some (scrD ns), some (intsD es)]) rfl ?_ rfl⟩
    show b__law_cell [some (scrD ns), some (intsD ds)] = _
    unfold b__law_cell
    refine Eq.trans (St.seq (St.pass (St.bl (St.op (St.call (St.a1 (St.vr rfl)) ln) St.cs q)))) ?_
    have c1 := callI2 (fn := m__law_take) (m := mCall dLenA (aCons (var 0) aNil)) (ρ := [some (scrD ns), some (intsD ds)]) (i := 1) rfl (St.call (St.a1 (St.vr rfl)) ln) e
    exact St.ret (St.op (St.call (St.a1 (St.call (St.a1 (St.op (St.vr rfl) c1 (ix_scr ns hr))) (it _))) (ab _)) (St.op St.cs St.cs pw) (mod_pos _ _ (by decide)))
def eT (ds : List Int) (cell : Int) (n : Int) (tag : Int) (acc : List Int) (o5 : Option D) : Ev := [some (intsD ds), some (.int cell), some (.int n), some (.int tag), some (intsD acc), o5]
theorem getD_nn {xs : List Int} {r : Nat} (h : ∀ x ∈ xs, 0 ≤ x) : 0 ≤ xs.getD r 0 := by
  by_cases c : r < xs.length
  · exact h _ (getD_mem 0 c)
  · rw [List.getD_eq_getElem?_getD, List.getElem?_eq_none (by omega)]; exact Int.le_refl _
theorem m_tags (ds : List Int) {cell : Int} (h0 : 0 ≤ cell) {n : Nat} (hn : n ≤ 1000) : ∃ (ts es : List Int), ts.length = n ∧ ts.Pairwise (· < ·) ∧ m__law_tags [intsD ds, .int cell, .int (n : Int)] = .ok (intsD ts, intsD es) := by
  obtain ⟨r1, d1, h1, e1⟩ := m_takeN ds 12 (by decide)
  obtain ⟨r2, d2, h2, e2⟩ := m_takeN d1 3 (by decide)
  have c1 := callI2 (fn := m__law_take) (m := cst (.int 12)) (ρ := [some (intsD ds), some (.int cell), some (.int (n : Int)), none, none, none]) (i := 0) rfl rfl e1
  have c2 := callI2 (fn := m__law_take) (m := cst (.int 3)) (ρ := [some (intsD d1), some (.int cell), some (.int (n : Int)), none, none, none]) (i := 0) rfl rfl e2
  have p1 := pickI [0, (r1 : Int), cell] (r := r2) h2
  have s1 : sSet (gSet 3) (mOp dIxA (mLst (aCons (cst (.int 0)) (aCons (mCallI 0 m__law_take (rAt 0 (rVal (cst (.int 12)) rNil))) (aCons (var 1) aNil)))) (mCallI 0 m__law_take (rAt 0 (rVal (cst (.int 3)) rNil)))) [some (intsD ds), some (.int cell), some (.int (n : Int)), none, none, none] = .ok (.nx, [some (intsD d2), some (.int cell), some (.int (n : Int)), some (.int ([0, (r1 : Int), cell].getD r2 0)), none, none]) :=
    St.set (St.op (St.lst (St.ac St.cs (St.ac c1 (St.a1 (St.vr rfl)))) (show 3 ≤ 1000 from by decide)) c2 p1) rfl
  have rg := rng_at n (by omega)
  obtain ⟨ρ', f1, d3, tag, acc, o5, rfl, hl, hp, hb⟩ := for_all (g := gSet 5) (enc := fun i : Nat => PyData.int (i : Int))
    (b := sSeq (sExpr (eApp 4 (var 3))) (sSet (gSet 3) (mOp dAdd (mOp dAdd (var 3) (cst (.int 1))) (mOp dIxA (mLst (aCons (cst (.int 0)) (aCons (cst (.int 0)) (aCons (mCallI 0 m__law_take (rAt 0 (rVal (cst (.int 9)) rNil))) (aCons (var 1) aNil))))) (mCallI 0 m__law_take (rAt 0 (rVal (cst (.int 4)) rNil)))))))
    (I := fun l ρ => ∃ d3 tag acc o5, ρ = eT d3 cell (n : Int) tag acc o5 ∧ acc.length + l.length = n ∧ acc.Pairwise (· < ·) ∧ ∀ t ∈ acc, t < tag)
    (fun i l ρ hh => by
      obtain ⟨d3, tag, acc, o5, rfl, hl, hp, hb⟩ := hh
      rw [List.length_cons] at hl
      obtain ⟨r3, d4, h3, e3⟩ := m_takeN d3 9 (by decide)
      obtain ⟨r4, d5, h4, e4⟩ := m_takeN d4 4 (by decide)
      have a := St.app (i := 4) (m := var 3) (ρ := eT d3 cell (n : Int) tag acc (some (.int (i : Int)))) (ds := acc.map PyData.int) (es := acc.map PyData.int) rfl (St.vr rfl) rfl (by rw [List.length_map]; omega)
      have q : acc.map PyData.int ++ [.int tag] = (acc ++ [tag]).map PyData.int := by rw [List.map_append]; rfl
      rw [q] at a
      have c3 := callI2 (fn := m__law_take) (m := cst (.int 9)) (ρ := eT d3 cell (n : Int) tag (acc ++ [tag]) (some (.int (i : Int)))) (i := 0) rfl rfl e3
      have c4 := callI2 (fn := m__law_take) (m := cst (.int 4)) (ρ := eT d4 cell (n : Int) tag (acc ++ [tag]) (some (.int (i : Int)))) (i := 0) rfl rfl e4
      have p2 := pickI [0, 0, (r3 : Int), cell] (r := r4) h4
      have nn : 0 ≤ [0, 0, (r3 : Int), cell].getD r4 0 := getD_nn fun x hx => by
        simp only [List.mem_cons, List.not_mem_nil, or_false] at hx
        rcases hx with rfl | rfl | rfl | rfl <;> omega
      generalize [0, 0, (r3 : Int), cell].getD r4 0 = z at p2 nn
      refine ⟨eT d3 cell (n : Int) tag acc (some (.int (i : Int))), eT d5 cell (n : Int) (tag + 1 + z) (acc ++ [tag]) (some (.int (i : Int))), rfl, .inl ?_, d5, tag + 1 + z, acc ++ [tag], _, rfl, by rw [List.length_append, List.length_singleton]; omega, ?_, fun t ht => ?_⟩
      · refine Eq.trans (St.seq (ρ1 := eT d3 cell (n : Int) tag (acc ++ [tag]) (some (.int (i : Int)))) (St.ex a)) ?_
        exact St.set (St.op (St.op (St.vr rfl) St.cs rfl) (St.op (St.lst (St.ac St.cs (St.ac St.cs (St.ac c3 (St.a1 (St.vr rfl))))) (show 4 ≤ 1000 from by decide)) c4 p2) rfl) rfl
      · rw [List.pairwise_append]
        exact ⟨hp, List.pairwise_singleton _ _, fun x hx y hy => by rw [List.mem_singleton.mp hy]; exact hb x hx⟩
      · rcases List.mem_append.mp ht with ht | ht
        · have := hb t ht; omega
        · rw [List.mem_singleton.mp ht]; omega)
    (xs := List.range n) (ρ := eT d2 cell (n : Int) ([0, (r1 : Int), cell].getD r2 0) [] none) ⟨d2, _, [], none, rfl, by rw [List.length_range]; simp, List.Pairwise.nil, fun _ h => by cases h⟩
  have hl : acc.length = n := by simpa using hl
  refine ⟨acc, d3, hl, hp, St.runG_rt (ρ1 := eT d3 cell (n : Int) tag acc o5) rfl ?_ rfl⟩
  show b__law_tags [some (intsD ds), some (.int cell), some (.int (n : Int)), none, none, none] = _
  unfold b__law_tags
  refine Eq.trans (St.seqF s1) ?_
  refine Eq.trans (St.seqF (ρ1 := eT d2 cell (n : Int) ([0, (r1 : Int), cell].getD r2 0) [] none) rfl) ?_
  refine Eq.trans (St.seqF (St.fr (St.rg (St.a1 (St.vr rfl)) rg) f1)) ?_
  exact St.ret (St.vr rfl)
def eR (ds : List Int) (ts left : List Int) (acc : List Int) (o4 : Option D) : Ev := [some (intsD ds), some (intsD ts), some (intsD left), some (intsD acc), o4]
theorem mem_erase {l : List Int} {i : Nat} {x : Int} (h : x ∈ l.eraseIdx i) : x ∈ l := List.mem_of_mem_eraseIdx h
theorem len_erase {l : List Int} {i : Nat} (h : i < l.length) : (l.eraseIdx i).length + 1 = l.length := by
  rw [List.length_eraseIdx, if_pos h]; omega
theorem m_rowof (ds ts : List Int) (hz : ts.length ≤ 1000) : ∃ (row es : List Int), row.length ≤ 3 ∧ (∀ t ∈ row, t ∈ ts) ∧ m__law_row_of [intsD ds, intsD ts] = .ok (rwD row, intsD es) := by
  obtain ⟨r, d1, hr, e1⟩ := m_takeN ds 4 (by decide)
  have c1 := callI2 (fn := m__law_take) (m := cst (.int 4)) (ρ := eR ds ts ts [] none) (i := 0) rfl rfl e1
  obtain ⟨k, k1, k2, km⟩ : ∃ k : Nat, k ≤ 3 ∧ k ≤ ts.length ∧ dMin [.int (ts.length : Int), .int (r : Int)] = some (.int (k : Int)) := by
    by_cases h : (r : Int) < (ts.length : Int)
    · exact ⟨r, by omega, by omega, by show some (PyData.int (if (r : Int) < (ts.length : Int) then _ else _)) = _; rw [if_pos h]⟩
    · exact ⟨ts.length, by omega, by omega, by show some (PyData.int (if (r : Int) < (ts.length : Int) then _ else _)) = _; rw [if_neg h]⟩
  have rg := rng_at k (by omega)
  have ln := lnI ts
  obtain ⟨ρ', f1, d2, left, acc, o4, rfl, hl, hs, ha, hm⟩ := for_all (g := gSet 4) (enc := fun i : Nat => PyData.int (i : Int))
    (b := sExpr (eApp 3 (ePopAt 2 (mCallI 0 m__law_take (rAt 0 (rVal (mCall dLenA (aCons (var 2) aNil)) rNil))))))
    (I := fun l ρ => ∃ d2 left acc o4, ρ = eR d2 ts left acc o4 ∧ l.length ≤ left.length ∧ left.length ≤ ts.length ∧ acc.length + l.length ≤ 3 ∧ (∀ t ∈ left ++ acc, t ∈ ts))
    (fun i l ρ hh => by
      obtain ⟨d2, left, acc, o4, rfl, hl, hs, ha, hm⟩ := hh
      rw [List.length_cons] at hl ha
      obtain ⟨q, d3, hq, e2⟩ := m_takeN d2 left.length (by omega)
      have lnl := lnI left
      have c2 := callI2 (fn := m__law_take) (m := mCall dLenA (aCons (var 2) aNil)) (ρ := eR d2 ts left acc (some (.int (i : Int)))) (i := 0) rfl (St.call (St.a1 (St.vr rfl)) lnl) e2
      have pp := popAt_ok (i := 2) (ρ := eR d2 ts left acc (some (.int (i : Int)))) rfl c2 rfl hq (by omega)
      have a := St.app (i := 3) (m := ePopAt 2 (mCallI 0 m__law_take (rAt 0 (rVal (mCall dLenA (aCons (var 2) aNil)) rNil)))) (ρ := eR d2 ts left acc (some (.int (i : Int)))) (ds := acc.map PyData.int) (es := acc.map PyData.int) rfl pp rfl (by rw [List.length_map]; omega)
      have q2 : acc.map PyData.int ++ [.int (left.getD q 0)] = (acc ++ [left.getD q 0]).map PyData.int := by rw [List.map_append]; rfl
      rw [q2] at a
      have le := len_erase hq
      refine ⟨eR d2 ts left acc (some (.int (i : Int))), _, rfl, .inl (St.ex a), d3, left.eraseIdx q, acc ++ [left.getD q 0], _, rfl, by omega, by omega, by rw [List.length_append, List.length_singleton]; omega, fun t ht => ?_⟩
      rcases List.mem_append.mp ht with ht | ht
      · exact hm t (List.mem_append_left _ (mem_erase ht))
      · rcases List.mem_append.mp ht with ht | ht
        · exact hm t (List.mem_append_right _ ht)
        · rw [List.mem_singleton.mp ht]; exact hm _ (List.mem_append_left _ (getD_mem 0 hq)))
    (xs := List.range k) (ρ := eR d1 ts ts [] none) ⟨d1, ts, [], none, rfl, by rw [List.length_range]; exact k2, Nat.le_refl _, by rw [List.length_range]; simpa using k1, fun t ht => by simpa using ht⟩
  refine ⟨acc, d2, by simpa using ha, fun t ht => hm t (List.mem_append_right _ ht), St.runI_rt (ρ1 := eR d2 ts left acc o4) rfl ?_ rfl⟩
  show b__law_row_of [some (intsD ds), some (intsD ts), none, none, none] = _
  unfold b__law_row_of
  refine Eq.trans (St.seq (ρ1 := [some (intsD ds), some (intsD ts), some (intsD ts), none, none]) (St.set (St.call (St.a1 (St.vr rfl)) rfl) rfl)) ?_
  refine Eq.trans (St.seq (ρ1 := eR ds ts ts [] none) rfl) ?_
  refine Eq.trans (St.seq (St.fr (St.rg (St.a1 (St.call (St.ac (St.call (St.a1 (St.vr rfl)) ln) (St.a1 c1)) km)) rg) f1)) ?_
  exact St.ret (St.call (St.a1 (St.vr rfl)) rfl)
def eM (ds : List Int) (cell : Int) (ts : List Int) (acc : List Mk) (o4 : Option D) : Ev := [some (intsD ds), some (.int cell), some (intsD ts), some (.list (acc.map markD)), o4]
theorem m_marksof (ds : List Int) (cell : Int) (ts : List Int) (hz : ts.length ≤ 1000) : ∃ (ms : List Mk) (es : List Int), ms.length ≤ 6 ∧ Asc markD ms ∧ (∀ m ∈ ms, m.2.length ≤ 3 ∧ ∀ t ∈ m.2, t ∈ ts) ∧ m__law_marks_of [intsD ds, .int cell, intsD ts] = .ok (.tuple (ms.map markD), intsD es) := by
  obtain ⟨r, d1, hr, e1⟩ := m_takeN ds 7 (by decide)
  have c1 := callI2 (fn := m__law_take) (m := cst (.int 7)) (ρ := eM ds cell ts [] none) (i := 0) rfl rfl e1
  have rg := rng_at r (by omega)
  obtain ⟨ρ', f1, d2, acc, o4, rfl, ha, hm⟩ := for_all (g := gSet 4) (enc := fun i : Nat => PyData.int (i : Int))
    (b := sExpr (eApp 3 (mTup (aCons (mOp dIxA (mLst (aCons (cst (.int 0)) (aCons (mCallI 0 m__law_take (rAt 0 (rVal (cst (.int 4)) rNil))) (aCons (mCallI 0 m__law_take (rAt 0 (rVal (cst (.int 4)) rNil))) (aCons (var 1) aNil))))) (mCallI 0 m__law_take (rAt 0 (rVal (cst (.int 4)) rNil)))) (aCons (mCallI 0 m__law_row_of (rAt 0 (rVal (var 2) rNil))) aNil)))))
    (I := fun l ρ => ∃ d2 acc o4, ρ = eM d2 cell ts acc o4 ∧ acc.length + l.length ≤ 6 ∧ ∀ m ∈ acc, m.2.length ≤ 3 ∧ ∀ t ∈ m.2, t ∈ ts)
    (fun i l ρ hh => by
      obtain ⟨d2, acc, o4, rfl, ha, hm⟩ := hh
      rw [List.length_cons] at ha
      obtain ⟨q1, d3, h1, e1⟩ := m_takeN d2 4 (by decide)
      obtain ⟨q2, d4, h2, e2⟩ := m_takeN d3 4 (by decide)
      obtain ⟨q3, d5, h3, e3⟩ := m_takeN d4 4 (by decide)
      obtain ⟨row, d6, l6, m6, e6⟩ := m_rowof d5 ts hz
      have k1 := callI2 (fn := m__law_take) (m := cst (.int 4)) (ρ := eM d2 cell ts acc (some (.int (i : Int)))) (i := 0) rfl rfl e1
      have k2 := callI2 (fn := m__law_take) (m := cst (.int 4)) (ρ := eM d3 cell ts acc (some (.int (i : Int)))) (i := 0) rfl rfl e2
      have k3 := callI2 (fn := m__law_take) (m := cst (.int 4)) (ρ := eM d4 cell ts acc (some (.int (i : Int)))) (i := 0) rfl rfl e3
      have k4 := callI2 (fn := m__law_row_of) (m := var 2) (ρ := eM d5 cell ts acc (some (.int (i : Int)))) (i := 0) rfl (St.vr rfl) e6
      have p1 := pickI [0, (q1 : Int), (q2 : Int), cell] (r := q3) h3
      generalize [0, (q1 : Int), (q2 : Int), cell].getD q3 0 = num at p1
      have a := St.app (i := 3) (m := mTup (aCons (mOp dIxA (mLst (aCons (cst (.int 0)) (aCons (mCallI 0 m__law_take (rAt 0 (rVal (cst (.int 4)) rNil))) (aCons (mCallI 0 m__law_take (rAt 0 (rVal (cst (.int 4)) rNil))) (aCons (var 1) aNil))))) (mCallI 0 m__law_take (rAt 0 (rVal (cst (.int 4)) rNil)))) (aCons (mCallI 0 m__law_row_of (rAt 0 (rVal (var 2) rNil))) aNil))) (ρ := eM d2 cell ts acc (some (.int (i : Int)))) (ds := acc.map markD) (es := acc.map markD) rfl (St.tup (St.ac (St.op (St.lst (St.ac St.cs (St.ac k1 (St.ac k2 (St.a1 (St.vr rfl))))) (show 4 ≤ 1000 from by decide)) k3 p1) (St.a1 k4)) (show 2 ≤ 1000 from by decide)) rfl (by rw [List.length_map]; omega)
      have q : acc.map markD ++ [.tuple [.int num, rwD row]] = (acc ++ [(num, row)]).map markD := by rw [List.map_append]; rfl
      rw [q] at a
      refine ⟨eM d2 cell ts acc (some (.int (i : Int))), _, rfl, .inl (St.ex a), d6, acc ++ [(num, row)], _, rfl, by rw [List.length_append, List.length_singleton]; omega, fun m hm' => ?_⟩
      rcases List.mem_append.mp hm' with h | h
      · exact hm m h
      · rw [List.mem_singleton.mp h]; exact ⟨l6, m6⟩)
    (xs := List.range r) (ρ := eM d1 cell ts [] none) ⟨d1, [], none, rfl, by rw [List.length_range]; simp; omega, fun _ h => by cases h⟩
  have ha : acc.length ≤ 6 := by simpa using ha
  have ss := (sortSet_mark (ms := acc) (by omega)).1
  refine ⟨ord markD acc, d2, Nat.le_trans ord_len ha, asc_ord, fun m h => hm m (ord_mem.mp h), St.runI_rt (ρ1 := eM d2 cell ts acc o4) rfl ?_ rfl⟩
  show b__law_marks_of [some (intsD ds), some (.int cell), some (intsD ts), none, none] = _
  unfold b__law_marks_of
  refine Eq.trans (St.seq (ρ1 := eM ds cell ts [] none) rfl) ?_
  refine Eq.trans (St.seq (St.fr (St.rg (St.a1 c1) rg) f1)) ?_
  exact St.ret (St.call (St.a1 (St.call (St.a1 (St.vr rfl)) ss)) rfl)
end Lw

set_option Elab.async false
set_option linter.all false
set_option maxRecDepth 100000
set_option autoImplicit false
/-! Marks: a store with marks, drawn; the first half of a turn. -/
namespace Dt
open PySem L2 R
/-- a comprehension that draws, item by item -/
theorem lc_exK {α β : Type} {vs : List Nat} {g : MG} {me : ME} {enc : α → D} {encB : β → D} {J : List Int → Ev} {P : β → Prop} {κ : β → α} : ∀ {xs : List α}, (∀ x ∈ xs, ∀ ds, ∃ ρ1 y ρ3 es, g (enc x) (wipeE (J ds) vs) = .ok ρ1 ∧ me ρ1 = .ok (encB y, ρ3) ∧ P y ∧ κ y = x ∧ mrg true (J ds) ρ3 vs = J es) →
    ∀ ds, ∃ (ys : List β) (es : List Int), lcG true vs g bYes me (xs.map enc) (J ds) = .ok (ys.map encB, J es) ∧ ys.map κ = xs ∧ ∀ y ∈ ys, P y
  | [], _, ds => ⟨[], ds, rfl, rfl, fun _ h => by cases h⟩
  | x :: xs, h, ds => by
    obtain ⟨ρ1, y, ρ3, es, h1, h5, h6, hk, h7⟩ := h x List.mem_cons_self ds
    obtain ⟨ys, fs, e, l, m⟩ := lc_exK (xs := xs) (fun x hx => h x (List.mem_cons_of_mem _ hx)) es
    refine ⟨y :: ys, fs, ?_, by rw [List.map_cons, hk, l], fun z hz => ?_⟩
    · rw [List.map_cons]
      have : lcG true vs g bYes me (enc x :: xs.map enc) (J ds) = ((g (enc x) (wipeE (J ds) vs)).nox.bind fun ρ1 => (me ρ1).nox.bind fun y => (lcG true vs g bYes me (xs.map enc) (mrg true (J ds) y.2 vs)).bind fun r => .ok (y.1 :: r.1, r.2)) := rfl
      rw [this, h1]
      show ((me ρ1).nox.bind _) = _
      rw [h5]
      show ((lcG true vs g bYes me (xs.map enc) (mrg true (J ds) ρ3 vs)).bind _) = _
      rw [h7, e]
      rfl
    · rcases List.mem_cons.mp hz with rfl | hz
      · exact h6
      · exact m z hz
end Dt
namespace Kn
open PySem Dt Dt.R
open Lw (okD)
/-- what a drawn store is like -/
structure M22 (s : Mst) (ts : List Int) : Prop where
  tags : tgs s = ts
  few : ts.length ≤ 6
  ups : ts.Pairwise (· < ·)
  rows : ∀ e ∈ s.rows, okD 9 e.2 = true
  kn : okD 11 s.kn = true
  m6 : s.marks.length ≤ 6
  asc : Asc markD s.marks
  on : ∀ m ∈ s.marks, m.2.length ≤ 3 ∧ ∀ t ∈ m.2, t ∈ ts
theorem okD_ints (n : Nat) (ts : List Int) (h : ts.length ≤ 100000) : okD (n + 2) (rwD ts) = true := by
  show (decide ((ts.map PyData.int).length ≤ 100000) && (ts.map PyData.int).all (okD (n + 1))) = true
  rw [Bool.and_eq_true, decide_eq_true_iff, List.length_map, List.all_eq_true]
  refine ⟨h, fun d hd => ?_⟩
  obtain ⟨i, _, rfl⟩ := List.mem_map.mp hd
  rfl
theorem okD_mark (n : Nat) (m : Mk) (h : m.2.length ≤ 100000) : okD (n + 3) (markD m) = true := by
  show (decide (2 ≤ 100000) && (okD (n + 2) (.int m.1) && (okD (n + 2) (rwD m.2) && true))) = true
  rw [okD_ints n m.2 h]; rfl
theorem okD_marks (n : Nat) (ms : List Mk) (hz : ms.length ≤ 100000) (h : ∀ m ∈ ms, m.2.length ≤ 100000) : okD (n + 4) (.tuple (ms.map markD)) = true := by
  show (decide ((ms.map markD).length ≤ 100000) && (ms.map markD).all (okD (n + 3))) = true
  rw [Bool.and_eq_true, decide_eq_true_iff, List.length_map, List.all_eq_true]
  refine ⟨hz, fun d hd => ?_⟩
  obtain ⟨m, hm, rfl⟩ := List.mem_map.mp hd
  exact okD_mark n m (h m hm)
theorem okD_mst {s : Mst} (hr : ∀ e ∈ s.rows, okD 9 e.2 = true) (hl : s.rows.length ≤ 100000) (hk : okD 11 s.kn = true) (hz : s.marks.length ≤ 100000) (h : ∀ m ∈ s.marks, m.2.length ≤ 100000) : okD 12 (mstD s) = true := by
  have h1 : okD 11 (.tuple (s.rows.map enD)) = true := by
    show (decide ((s.rows.map enD).length ≤ 100000) && (s.rows.map enD).all (okD 10)) = true
    rw [Bool.and_eq_true, decide_eq_true_iff, List.length_map, List.all_eq_true]
    refine ⟨hl, fun d hd => ?_⟩
    obtain ⟨e, he, rfl⟩ := List.mem_map.mp hd
    show (decide (2 ≤ 100000) && (okD 9 (.int e.1) && (okD 9 e.2 && true))) = true
    rw [hr e he]; rfl
  show (decide (4 ≤ 100000) && (okD 11 (.int s.next) && (okD 11 (.tuple (s.rows.map enD)) && (okD 11 s.kn && (okD 11 (.tuple (s.marks.map markD)) && true))))) = true
  rw [h1, hk, okD_marks 7 s.marks hz h]
  rfl
theorem M22.len {s : Mst} {ts : List Int} (M : M22 s ts) : s.rows.length ≤ 6 := by
  have := M.few
  rw [← M.tags] at this
  unfold tgs at this
  rwa [List.length_map] at this
end Kn
namespace Lw
open PySem Kn Dt Dt.R
open L2 (Key)
theorem last_ok (xs : List Int) (h : 0 < xs.length) : ∃ z : Int, dIxA (intsD xs) (.int (-1)) = some (.int z) := by
  have hl : xs.length - 1 < xs.length := by omega
  refine ⟨xs[xs.length - 1], ?_⟩
  show L2.atI (xs.map PyData.int) (-1) = _
  unfold L2.atI L2.ixN
  rw [List.length_map]
  rw [if_neg (by omega)]
  first
    | (rw [if_pos (by omega)]
       have e : ((xs.length : Int) + -1).toNat = xs.length - 1 := by omega
       show (xs.map PyData.int)[((xs.length : Int) + -1).toNat]? = _
       rw [e, List.getElem?_map, List.getElem?_eq_getElem hl]; rfl)
    | (simp; omega)
def kinds22 : List D := [.tuple [.str "p", .tuple [.int 0]], .tuple [.str "q", .tuple []], .tuple [.str "p", .tuple [.int 3]]]
theorem kinds_ok : ∀ d ∈ kinds22, okD 9 d = true := by
  intro d hd
  simp only [kinds22, List.mem_cons, List.not_mem_nil, or_false] at hd
  rcases hd with rfl | rfl | rfl <;> rfl
def knows22 : List D := [.tuple [.tuple [], .tuple []], .tuple [.tuple [.tuple [.int 3, .int 0], .tuple [.int 0, .int 3]], .tuple [.tuple [.str "b", .int 0], .tuple [.int 0, .str "b"]]]]
theorem knows_ok : ∀ d ∈ knows22, okD 11 d = true := by
  intro d hd
  simp only [knows22, List.mem_cons, List.not_mem_nil, or_false] at hd
  rcases hd with rfl | rfl <;> rfl
theorem ixL_id (ds : List D) {i : Nat} (h : i < ds.length) : dIxA (.list ds) (.int (i : Int)) = some (ds.getD i .none) := by
  have := ixL_at (fun d : D => d) .none ds h
  rwa [List.map_id'] at this
theorem m_mstore (ds : List Int) (cell : Int) {ts : List Int} (h6 : ts.length ≤ 6) (up : ts.Pairwise (· < ·)) : ∃ (s : Mst) (es : List Int), M22 s ts ∧ m__law_marked_store [intsD ds, .int cell, intsD ts] = .ok (mstD s, intsD es) := by
  obtain ⟨rows, d1, e1, k1, p1⟩ := lc_exK (vs := [5]) (g := gSet 5) (me := mTup (aCons (var 5) (aCons (mOp dIxA (mLst (aCons (mTup (aCons (cst (.str "p")) (aCons (mTup (aCons (cst (.int 0)) aNil)) aNil))) (aCons (mTup (aCons (cst (.str "q")) (aCons (mTup aNil) aNil))) (aCons (mTup (aCons (cst (.str "p")) (aCons (mTup (aCons (cst (.int 3)) aNil)) aNil))) aNil)))) (mCallI 0 m__law_take (rAt 0 (rVal (cst (.int 3)) rNil)))) aNil)))
    (enc := PyData.int) (encB := enD) (J := fun ds => [some (intsD ds), some (.int cell), some (intsD ts), none, none, none]) (P := fun e => okD 9 e.2 = true) (κ := fun e => e.1) (xs := ts)
    (fun t _ ds => by
      obtain ⟨r, es, hr, e⟩ := m_takeN ds 3 (by decide)
      have ci := callI2 (fn := m__law_take) (m := cst (.int 3)) (ρ := [some (intsD ds), some (.int cell), some (intsD ts), none, none, some (.int t)]) (i := 0) rfl rfl e
      exact ⟨[some (intsD ds), some (.int cell), some (intsD ts), none, none, some (.int t)], (t, kinds22.getD r .none), [some (intsD es), some (.int cell), some (intsD ts), none, none, some (.int t)], es, rfl,
        St.tup (St.ac (St.vr rfl) (St.a1 (St.op (show mLst _ _ = .ok (.list kinds22, _) from rfl) ci (ixL_id kinds22 hr)))) (show 2 ≤ 1000 from by decide), kinds_ok _ (getD_mem _ hr), rfl, rfl⟩) ds
  obtain ⟨r2, d2, h2, e2⟩ := m_takeN d1 2 (by decide)
  have c2 := callI2 (fn := m__law_take) (m := cst (.int 2)) (ρ := [some (intsD d1), some (.int cell), some (intsD ts), some (.tuple (rows.map enD)), none, none]) (i := 0) rfl rfl e2
  have i2 := ixL_id knows22 (i := r2) h2
  have ok2 := knows_ok _ (getD_mem PyData.none (xs := knows22) (i := r2) h2)
  generalize knows22.getD r2 .none = kn at i2 ok2
  obtain ⟨z, hz⟩ := last_ok (0 :: ts) (by simp)
  have ad := add_list PyData.int [0] ts (by simp; omega)
  obtain ⟨r3, d3, h3, e3⟩ := m_takeN d2 3 (by decide)
  have c3 := callI2 (fn := m__law_take) (m := cst (.int 3)) (ρ := [some (intsD d2), some (.int cell), some (intsD ts), some (.tuple (rows.map enD)), some kn, none]) (i := 0) rfl rfl e3
  obtain ⟨ms, d4, l4, a4, o4, e4⟩ := m_marksof d3 cell ts (by omega)
  have c4 : mCallI 0 m__law_marks_of (rAt 0 (rVal (var 1) (rVal (var 2) rNil))) [some (intsD d3), some (.int cell), some (intsD ts), some (.tuple (rows.map enD)), some kn, none] = .ok (.tuple (ms.map markD), [some (intsD d4), some (.int cell), some (intsD ts), some (.tuple (rows.map enD)), some kn, none]) :=
    callIv2 (fn := m__law_marks_of) (m := var 1) (n := var 2) (i := 0) rfl (St.vr rfl) (St.vr rfl) rfl e4
  refine ⟨⟨z + 1 + r3, rows, kn, ms⟩, d4, ⟨k1, h6, up, p1, ok2, l4, a4, o4⟩, St.runI_rt (ρ1 := [some (intsD d4), some (.int cell), some (intsD ts), some (.tuple (rows.map enD)), some kn, none]) rfl ?_ rfl⟩
  show b__law_marked_store [some (intsD ds), some (.int cell), some (intsD ts), none, none, none] = _
  unfold b__law_marked_store
  refine Eq.trans (St.seq (ρ1 := [some (intsD d1), some (.int cell), some (intsD ts), some (.tuple (rows.map enD)), none, none]) (St.set (St.call (St.a1 (St.lc (St.it (St.vr rfl) (it_int ts)) e1)) rfl) rfl)) ?_
  refine Eq.trans (St.seq (ρ1 := [some (intsD d2), some (.int cell), some (intsD ts), some (.tuple (rows.map enD)), some kn, none]) (St.set (St.op (show mLst _ _ = .ok (.list knows22, _) from rfl) c2 i2) rfl)) ?_
  have nx : mOp dAdd (mOp dAdd (mOp dIxA (mOp dAdd (mLst (aCons (cst (.int 0)) aNil)) (var 2)) (mUn dNeg (cst (.int 1)))) (cst (.int 1))) (mCallI 0 m__law_take (rAt 0 (rVal (cst (.int 3)) rNil))) [some (intsD d2), some (.int cell), some (intsD ts), some (.tuple (rows.map enD)), some kn, none] = .ok (.int (z + 1 + r3), [some (intsD d3), some (.int cell), some (intsD ts), some (.tuple (rows.map enD)), some kn, none]) :=
    St.op (St.op (St.op (St.op (show mLst _ _ = .ok (.list (([0] : List Int).map PyData.int), _) from rfl) (St.vr rfl) ad) (show mUn dNeg (cst (.int 1)) _ = .ok (.int (-1), _) from rfl) hz) St.cs rfl) c3 rfl
  exact St.ret (St.tup (St.ac nx (St.ac (St.vr rfl) (St.ac (St.vr rfl) (St.a1 c4)))) (show 4 ≤ 1000 from by decide))
theorem sl_fromT {α : Type} (enc : α → D) (xs : List α) (n : Nat) : dSl (.tuple (xs.map enc)) (some (n : Int)) none = some (.tuple ((xs.drop n).map enc)) := by
  have := sl_fromL enc xs n
  have e : cut (xs.map enc) (some (n : Int)) none = (xs.drop n).map enc := by
    have h : some (PyData.list (cut (xs.map enc) (some (n : Int)) none)) = some (PyData.list ((xs.drop n).map enc)) := this
    injection h with h
    injection h
  show some (PyData.tuple (cut (xs.map enc) (some (n : Int)) none)) = _
  rw [e]
def eA (ds : List Int) (cell : Int) (s : Mst) (ts : List Int) (asked : List Mk) (o6 o7 o8 o9 : Option D) : Ev := [some (intsD ds), some (.int cell), some (mstD s), some (intsD ts), some (.tuple (s.marks.map markD)), some (.list (asked.map markD)), o6, o7, o8, o9, none]
theorem m_right (ds : List Int) {cell : Int} {s : Mst} {ts : List Int} (M : M22 s ts) : ∃ es : List Int, m__law_are_marks_right [intsD ds, .int cell, mstD s, intsD ts] = .ok (.bool true, intsD es) := by
  have m6 := M.m6
  have rl := M.len
  have t6 := M.few
  obtain ⟨r, d1, hr, e1⟩ := m_takeN ds 4 (by decide)
  obtain ⟨row, d2, l2, _, e2⟩ := m_rowof d1 ts (by omega)
  have c1 := callI2 (fn := m__law_take) (m := cst (.int 4)) (ρ := [some (intsD ds), some (.int cell), some (mstD s), some (intsD ts), some (.tuple (s.marks.map markD)), none, none, none, none, none, none]) (i := 0) rfl rfl e1
  have c2 := callI2 (fn := m__law_row_of) (m := var 3) (ρ := [some (intsD d1), some (.int cell), some (mstD s), some (intsD ts), some (.tuple (s.marks.map markD)), none, none, none, none, none, none]) (i := 0) rfl (St.vr rfl) e2
  have ad := add_list markD s.marks [((r : Int), row), (cell, [])] (by simp; omega)
  -- what is asked
  obtain ⟨ρ', f1, _, asked, o6, o7, rfl, hl, hm⟩ := for_all (g := gTpl 2 (gsCons (gSet 6) (gsCons (gSet 7) gsNil))) (enc := markD)
    (b := sSet (gSet 5) (mOp dAdd (var 5) (mLst (aCons (mTup (aCons (mOp dAdd (var 6) (cst (.int 1))) (aCons (var 7) aNil))) (aCons (mTup (aCons (var 6) (aCons (mUn dRevA (var 7)) aNil))) (aCons (mTup (aCons (var 6) (aCons (mSl (var 7) (oSome (cst (.int 1))) oNone) aNil))) aNil))))))
    (I := fun l ρ => (∀ m ∈ l, m.2.length ≤ 3) ∧ ∃ asked o6 o7, ρ = eA d2 cell s ts asked o6 o7 none none ∧ asked.length + 3 * l.length ≤ 30 ∧ ∀ m ∈ asked, m.2.length ≤ 3)
    (fun m l ρ hh => by
      obtain ⟨hl3, asked, o6, o7, rfl, hl, hm⟩ := hh
      rw [List.length_cons] at hl
      have m3 := hl3 m List.mem_cons_self
      have sl := sl_fromT PyData.int m.2 1
      have ad := add_list markD asked [(m.1 + 1, m.2), (m.1, m.2.reverse), (m.1, m.2.drop 1)] (by simp; omega)
      have rv : dRevA (rwD m.2) = some (rwD m.2.reverse) := by
        show some (PyData.tuple (m.2.map PyData.int).reverse) = _
        rw [← List.map_reverse]; rfl
      refine ⟨eA d2 cell s ts asked (some (.int m.1)) (some (rwD m.2)) none none, eA d2 cell s ts (asked ++ [(m.1 + 1, m.2), (m.1, m.2.reverse), (m.1, m.2.drop 1)]) (some (.int m.1)) (some (rwD m.2)) none none, rfl, .inl ?_, fun x hx => hl3 x (List.mem_cons_of_mem _ hx), _, _, _, rfl, by rw [List.length_append]; simp; omega, fun x hx => ?_⟩
      · have ru : mUn dRevA (var 7) (eA d2 cell s ts asked (some (.int m.1)) (some (rwD m.2)) none none) = .ok (rwD m.2.reverse, eA d2 cell s ts asked (some (.int m.1)) (some (rwD m.2)) none none) := St.un (St.vr rfl) rv
        exact St.set (St.op (St.vr rfl) (show mLst _ _ = .ok (.list (([(m.1 + 1, m.2), (m.1, m.2.reverse), (m.1, m.2.drop 1)] : List Mk).map markD), _) from St.lst (St.ac (St.tup (St.ac (St.op (St.vr rfl) St.cs rfl) (St.a1 (St.vr rfl))) (show 2 ≤ 1000 from by decide)) (St.ac (St.tup (St.ac (St.vr rfl) (St.a1 ru)) (show 2 ≤ 1000 from by decide)) (St.a1 (St.tup (St.ac (St.vr rfl) (St.a1 (St.sl (St.vr rfl) (show oSome _ _ = .ok (some 1, _) from rfl) (show oNone _ = .ok (none, _) from rfl) sl))) (show 2 ≤ 1000 from by decide))))) (show 3 ≤ 1000 from by decide)) ad) rfl
      · rcases List.mem_append.mp hx with hx | hx
        · exact hm x hx
        · simp only [List.mem_cons, List.not_mem_nil, or_false] at hx
          rcases hx with rfl | rfl | rfl
          · exact m3
          · show m.2.reverse.length ≤ 3
            rw [List.length_reverse]; exact m3
          · show (m.2.drop 1).length ≤ 3
            rw [List.length_drop]; omega)
    (xs := s.marks) (ρ := eA d2 cell s ts (s.marks ++ [((r : Int), row), (cell, [])]) none none none none)
    ⟨fun m hm => (M.on m hm).1, _, none, none, rfl, by rw [List.length_append]; simp; omega, fun m hm => by
      rcases List.mem_append.mp hm with hm | hm
      · exact (M.on m hm).1
      · simp only [List.mem_cons, List.not_mem_nil, or_false] at hm
        rcases hm with rfl | rfl
        · exact l2
        · exact Nat.zero_le _⟩
  -- each of them
  obtain ⟨ρ'', f2, _, o6', o7', o9', rfl⟩ := for_all (g := gTpl 2 (gsCons (gSet 6) (gsCons (gSet 7) gsNil))) (enc := markD)
    (b := sSeq (sIf (mNotB (mTru (mCallF (m__law_same 12) (aCons (mCallF m_is_marked (aCons (var 2) (aCons (var 6) (aCons (var 7) aNil)))) (aCons (mOp dInA (mTup (aCons (var 6) (aCons (var 7) aNil))) (var 4)) aNil))))) (sRet (cst (.bool false))) sNil) (sSeq (sSet (gSet 9) (mCallF m_with_mark (aCons (var 2) (aCons (var 6) (aCons (var 7) aNil))))) (sIf (mOrB (mNotB (mTru (mCallF (m__law_same 12) (aCons (var 9) (aCons (mOp dAdd (mSl (var 2) oNone (oSome (cst (.int 3)))) (mTup (aCons (mCall dTuple (aCons (mCall dSortSet (aCons (mOp dAdd (mCall dList (aCons (var 4) aNil)) (mLst (aCons (mTup (aCons (var 6) (aCons (var 7) aNil))) aNil))) aNil)) aNil)) aNil))) aNil))))) (mNotB (mTru (mCallF (m__law_same 12) (aCons (mCallF m_is_marked (aCons (var 9) (aCons (var 6) (aCons (var 7) aNil)))) (aCons (cst (.bool true)) aNil)))))) (sRet (cst (.bool false))) sNil)))
    (I := fun l ρ => (∀ m ∈ l, m.2.length ≤ 3) ∧ ∃ o6 o7 o9, ρ = eA d2 cell s ts asked o6 o7 none o9)
    (fun m l ρ hh => by
      obtain ⟨hl3, o6, o7, o9, rfl⟩ := hh
      have m3 := hl3 m List.mem_cons_self
      have mk := m_marked s m.1 m.2
      have sb := same_bool (decide ((m.1, m.2) ∈ s.marks))
      have wm := m_withmark s m.1 m.2 (by omega)
      have mk2 := m_marked { s with marks := ord markD (s.marks ++ [(m.1, m.2)]) } m.1 m.2
      have there : (m.1, m.2) ∈ ord markD (s.marks ++ [(m.1, m.2)]) := ord_mem.mpr (List.mem_append_right _ (List.mem_singleton.mpr rfl))
      have mk2 : m_is_marked [mstD { s with marks := ord markD (s.marks ++ [(m.1, m.2)]) }, .int m.1, rwD m.2] = .ok (.bool (decide ((m.1, m.2) ∈ ord markD (s.marks ++ [(m.1, m.2)])))) := mk2
      rw [decide_eq_true there] at mk2
      have ad := add_list markD s.marks [(m.1, m.2)] (by simp; omega)
      have ss := (sortSet_mark (ms := s.marks ++ [(m.1, m.2)]) (by rw [List.length_append]; simp; omega)).1
      have so := same_ok 12 (mstD { s with marks := ord markD (s.marks ++ [(m.1, m.2)]) }) (okD_mst (s := { s with marks := ord markD (s.marks ++ [(m.1, m.2)]) }) M.rows (by show s.rows.length ≤ _; omega) M.kn (by
        show (ord markD (s.marks ++ [(m.1, m.2)])).length ≤ _
        have := ord_len (key := markD) (xs := s.marks ++ [(m.1, m.2)])
        rw [List.length_append, List.length_singleton] at this
        omega) fun x hx => by
          rcases List.mem_append.mp (ord_mem.mp hx) with h | h
          · have := (M.on x h).1; omega
          · rw [List.mem_singleton.mp h]; show m.2.length ≤ _; omega)
      have q : ∀ o9, mTup (aCons (var 6) (aCons (var 7) aNil)) (eA d2 cell s ts asked (some (.int m.1)) (some (rwD m.2)) none o9) = .ok (markD (m.1, m.2), eA d2 cell s ts asked (some (.int m.1)) (some (rwD m.2)) none o9) := fun o9 => rfl
      refine ⟨eA d2 cell s ts asked (some (.int m.1)) (some (rwD m.2)) none o9, eA d2 cell s ts asked (some (.int m.1)) (some (rwD m.2)) none (some (mstD { s with marks := ord markD (s.marks ++ [(m.1, m.2)]) })), rfl, .inl ?_, fun x hx => hl3 x (List.mem_cons_of_mem _ hx), _, _, _, rfl⟩
      refine Eq.trans (St.seq (St.pass (St.nt (St.trB (St.callF (St.ac (St.callF (St.ac (St.vr rfl) (St.ac (St.vr rfl) (St.a1 (St.vr rfl)))) mk) (St.a1 (St.op (q o9) (St.vr rfl) (in_mT (m.1, m.2) s.marks)))) sb))))) ?_
      refine Eq.trans (St.seq (ρ1 := eA d2 cell s ts asked (some (.int m.1)) (some (rwD m.2)) none (some (mstD { s with marks := ord markD (s.marks ++ [(m.1, m.2)]) }))) (St.set (St.callF (St.ac (St.vr rfl) (St.ac (St.vr rfl) (St.a1 (St.vr rfl)))) wm) rfl)) ?_
      refine St.pass (St.orf (St.nt (St.trB (St.callF (St.ac (St.vr rfl) (St.a1 (St.op (St.sl (St.vr rfl) (show oNone _ = .ok (none, _) from rfl) (show oSome _ _ = .ok (some 3, _) from rfl) (sl3 s)) (St.tup (St.a1 (St.call (St.a1 (St.call (St.a1 (St.op (St.call (St.a1 (St.vr rfl)) (show dList [.tuple (s.marks.map markD)] = some (.list (s.marks.map markD)) from rfl)) (St.lst (St.a1 (q _)) (show 1 ≤ 1000 from by decide)) ad)) ss)) rfl)) (show 1 ≤ 1000 from by decide)) (add3 s _)))) so))) (St.nt (St.trB (St.callF (St.ac (St.callF (St.ac (St.vr rfl) (St.ac (St.vr rfl) (St.a1 (St.vr rfl)))) mk2) (St.a1 St.cs)) (same_bool true))))))
    (xs := asked) (ρ := eA d2 cell s ts asked o6 o7 none none) ⟨hm, _, _, _, rfl⟩
  -- with a tag
  obtain ⟨ρ3, f3, o8', rfl⟩ := for_all (g := gSet 8) (enc := PyData.int)
    (b := sSeq (sIf (mNotB (mTru (mCallF (m__law_same 12) (aCons (mCallF m_marks_with (aCons (var 2) (aCons (var 8) aNil))) (aCons (mCall dTuple (aCons (mLc false (iSq (var 4)) [10] (gSet 10) (mBool (mOp dInA (var 8) (mOp dIxA (var 10) (cst (.int 1))))) (var 10)) aNil)) aNil))))) (sRet (cst (.bool false))) sNil) (sIf (mNotB (mTru (mCallF (m__law_same 12) (aCons (mCallF m_marks_with (aCons (mCallF m_cleared (aCons (var 2) aNil)) (aCons (var 8) aNil))) (aCons (mTup aNil) aNil))))) (sRet (cst (.bool false))) sNil))
    (I := fun l ρ => ∃ o8, ρ = eA d2 cell s ts asked o6' o7' o8 o9')
    (fun t l ρ hh => by
      obtain ⟨o8, rfl⟩ := hh
      have w1 := m_markswith s t
      have w2 := m_markswith { s with marks := [] } t
      have e := lc_eval (g := gSet 10) (vs := [10]) (tt := mBool (mOp dInA (var 8) (mOp dIxA (var 10) (cst (.int 1))))) (me := var 10) (ρ := eA d2 cell s ts asked o6' o7' (some (.int t)) o9') (enc := markD) (c := fun m => decide (t ∈ m.2)) (f := markD) (xs := s.marks)
        fun m _ => ⟨(eA d2 cell s ts asked o6' o7' (some (.int t)) o9').set 10 (some (markD m)), _, rfl, St.bl (St.op (St.vr rfl) (St.op (St.vr rfl) St.cs (ix_m1 m)) (in_iT t m.2)), fun _ => ⟨_, St.vr rfl⟩⟩
      have so := same_ok 12 (.tuple ((s.marks.filter fun m => decide (t ∈ m.2)).map markD)) (okD_marks 8 _ (Nat.le_trans (List.length_filter_le _ _) (by omega)) fun x hx => by
        have := (M.on x (List.mem_filter.mp hx).1).1; omega)
      refine ⟨eA d2 cell s ts asked o6' o7' (some (.int t)) o9', eA d2 cell s ts asked o6' o7' (some (.int t)) o9', rfl, .inl ?_, _, rfl⟩
      refine Eq.trans (St.seq (St.pass (St.nt (St.trB (St.callF (St.ac (St.callF (St.ac (St.vr rfl) (St.a1 (St.vr rfl))) w1) (St.a1 (St.call (St.a1 (St.lc (St.it (St.vr rfl) (it_marks s.marks)) e)) rfl))) so))))) ?_
      exact St.pass (St.nt (St.trB (St.callF (St.ac (St.callF (St.ac (St.callF (St.a1 (St.vr rfl)) (m_cleared' s)) (St.a1 (St.vr rfl))) w2) (St.a1 (show mTup aNil _ = .ok (.tuple [], _) from rfl))) (same_ok 12 (.tuple []) rfl)))))
    (xs := ts ++ [s.next, s.next + cell]) (ρ := eA d2 cell s ts asked o6' o7' none o9') ⟨none, rfl⟩
  have ad3 := add_list PyData.int ts [s.next, s.next + cell] (by simp; omega)
  have sc := same_ok 12 (mstD { s with marks := [] }) (okD_mst (s := { s with marks := [] }) M.rows (by show s.rows.length ≤ _; omega) M.kn (Nat.zero_le _) fun x hx => by cases hx)
  refine ⟨d2, St.runI_rt (ρ1 := eA d2 cell s ts asked o6' o7' o8' o9') rfl ?_ rfl⟩
  show b__law_are_marks_right [some (intsD ds), some (.int cell), some (mstD s), some (intsD ts), none, none, none, none, none, none, none] = _
  unfold b__law_are_marks_right
  refine Eq.trans (St.seq (ρ1 := [some (intsD ds), some (.int cell), some (mstD s), some (intsD ts), some (.tuple (s.marks.map markD)), none, none, none, none, none, none]) (St.set (St.op (St.vr rfl) St.cs (ix_st3 s)) rfl)) ?_
  have tu : mTup (aCons (var 1) (aCons (mTup aNil) aNil)) [some (intsD d2), some (.int cell), some (mstD s), some (intsD ts), some (.tuple (s.marks.map markD)), none, none, none, none, none, none] = .ok (markD (cell, []), [some (intsD d2), some (.int cell), some (mstD s), some (intsD ts), some (.tuple (s.marks.map markD)), none, none, none, none, none, none]) := rfl
  refine Eq.trans (St.seq (ρ1 := eA d2 cell s ts (s.marks ++ [((r : Int), row), (cell, [])]) none none none none) (St.set (St.op (St.call (St.a1 (St.vr rfl)) (show dList [.tuple (s.marks.map markD)] = some (.list (s.marks.map markD)) from rfl)) (St.lst (St.ac (St.tup (St.ac c1 (St.a1 c2)) (show 2 ≤ 1000 from by decide)) (St.a1 tu)) (show 2 ≤ 1000 from by decide)) ad) rfl)) ?_
  refine Eq.trans (St.seq (St.fr (St.it (St.vr rfl) (it_marks s.marks)) f1)) ?_
  refine Eq.trans (St.seq (St.fr (St.it (St.vr rfl) (it_list _)) f2)) ?_
  have ls : mLst (aCons (mOp dIxA (var 2) (cst (.int 0))) (aCons (mOp dAdd (mOp dIxA (var 2) (cst (.int 0))) (var 1)) aNil)) (eA d2 cell s ts asked o6' o7' none o9') = .ok (.list (([s.next, s.next + cell] : List Int).map PyData.int), eA d2 cell s ts asked o6' o7' none o9') :=
    St.lst (St.ac (St.op (St.vr rfl) St.cs rfl) (St.a1 (St.op (St.op (St.vr rfl) St.cs (show dIxA (mstD s) (.int 0) = some (.int s.next) from rfl)) (St.vr rfl) rfl))) (show 2 ≤ 1000 from by decide)
  refine Eq.trans (St.seq (St.fr (St.it (St.op (St.vr rfl) ls ad3) (it_int _)) f3)) ?_
  exact St.ret (St.callF (St.ac (St.callF (St.a1 (St.vr rfl)) (m_cleared' s)) (St.a1 (St.op (St.sl (St.vr rfl) (show oNone _ = .ok (none, _) from rfl) (show oSome _ _ = .ok (some 3, _) from rfl) (sl3 s)) (show mTup _ _ = .ok (.tuple [.tuple (([] : List Mk).map markD)], _) from rfl) (add3 s [])))) sc)
end Lw

set_option Elab.async false
set_option linter.all false
set_option maxRecDepth 100000
set_option autoImplicit false
/-! Marks carried there and back. -/
namespace Dt
open PySem L2 R
/-- a filter by draws -/
theorem lc_exF {α : Type} {vs : List Nat} {g : MG} {tt : MB} {me : ME} {enc : α → D} {J : List Int → Ev} : ∀ {xs : List α}, (∀ x ∈ xs, ∀ ds, ∃ ρ1 t ρ2 es, g (enc x) (wipeE (J ds) vs) = .ok ρ1 ∧ tt ρ1 = .ok (t, ρ2) ∧ me ρ2 = .ok (enc x, ρ2) ∧ mrg true (J ds) ρ2 vs = J es) →
    ∀ ds, ∃ (ys : List α) (es : List Int), lcG true vs g tt me (xs.map enc) (J ds) = .ok (ys.map enc, J es) ∧ ys.Sublist xs
  | [], _, ds => ⟨[], ds, rfl, .slnil⟩
  | x :: xs, h, ds => by
    obtain ⟨ρ1, t, ρ2, es, h1, h2, h3, h4⟩ := h x List.mem_cons_self ds
    obtain ⟨ys, fs, e, l⟩ := lc_exF (xs := xs) (fun x hx => h x (List.mem_cons_of_mem _ hx)) es
    have u : lcG true vs g tt me ((x :: xs).map enc) (J ds) = (if t = true then (me ρ2).nox.bind fun y => (lcG true vs g tt me (xs.map enc) (mrg true (J ds) y.2 vs)).bind fun r => .ok (y.1 :: r.1, r.2) else lcG true vs g tt me (xs.map enc) (mrg true (J ds) ρ2 vs)) := by
      rw [List.map_cons]
      have : lcG true vs g tt me (enc x :: xs.map enc) (J ds) = ((g (enc x) (wipeE (J ds) vs)).nox.bind fun ρ1 => (tt ρ1).nox.bind fun t =>
        if t.1 = true then (me t.2).nox.bind fun y => (lcG true vs g tt me (xs.map enc) (mrg true (J ds) y.2 vs)).bind fun r => .ok (y.1 :: r.1, r.2)
        else lcG true vs g tt me (xs.map enc) (mrg true (J ds) t.2 vs)) := rfl
      rw [this, h1]
      show ((tt ρ1).nox.bind _) = _
      rw [h2]
      rfl
    cases t with
    | true =>
      refine ⟨x :: ys, fs, ?_, l.cons₂ x⟩
      rw [u, if_pos rfl, h3]
      show ((lcG true vs g tt me (xs.map enc) (mrg true (J ds) ρ2 vs)).bind _) = _
      rw [h4, e]; rfl
    | false =>
      refine ⟨ys, fs, ?_, l.cons x⟩
      rw [u, if_neg (by decide), h4, e]
end Dt
namespace Lw
open PySem Kn Dt Dt.R
open L2 (Key)
theorem asK_dm {β : Type} (f : β → D) (m : List (T × β)) : asK (some (.dict (dmD f m))) = some (dmD f m) := by
  show (if flatK (dmD f m) then some (dmD f m) else none) = _
  rw [if_pos (flat_dm m)]
/-- a dict of ints -/
abbrev iis (ps : List (Int × Int)) : List (T × Int) := ps.map fun p => ((.inl p.1 : T), p.2)
def cdD (ps : List (Int × Int)) : D := .dict (dmD PyData.int (iis ps))
theorem lk_chg : ∀ (ps : List (Int × Int)) (t : Int), (t ∈ ps.map (·.1) → lkG (iis ps) (.inl t) = some (chg ps t)) ∧ (t ∉ ps.map (·.1) → lkG (iis ps) (.inl t) = none)
  | [], t => ⟨fun h => (by cases h), fun _ => rfl⟩
  | p :: ps, t => by
    obtain ⟨h1, h2⟩ := lk_chg ps t
    have e : lkG (iis (p :: ps)) (.inl t) = if p.1 = t then some p.2 else lkG (iis ps) (.inl t) := by
      show lkG (((.inl p.1 : T), p.2) :: iis ps) (.inl t) = _
      rw [lkG_cons]
      by_cases h : p.1 = t
      · rw [if_pos h, if_pos (by rw [h])]
      · rw [if_neg h, if_neg (by intro z; injection z with z; exact h z)]
    rw [e]
    by_cases h : p.1 = t
    · have c : chg (p :: ps) t = p.2 := by
        unfold chg
        rw [List.filter_cons_of_pos (p := fun p : Int × Int => decide (p.1 = t)) (decide_eq_true h)]; rfl
      rw [if_pos h, c]
      exact ⟨fun _ => rfl, fun z => absurd (by rw [List.map_cons, h]; exact List.mem_cons_self) z⟩
    · have c : chg (p :: ps) t = chg ps t := by
        unfold chg
        rw [List.filter_cons_of_neg (by simp [h])]
      rw [if_neg h, c]
      refine ⟨fun z => h1 ?_, fun z => h2 fun y => z (by rw [List.map_cons]; exact List.mem_cons_of_mem _ y)⟩
      rw [List.map_cons] at z
      exact (List.mem_cons.mp z).elim (fun e => absurd e.symm h) id
theorem ix_cd {ps : List (Int × Int)} {t : Int} (h : t ∈ ps.map (·.1)) : dIxA (cdD ps) (.int t) = some (.int (chg ps t)) := dIxA_dm (f := PyData.int) ((lk_chg ps t).1 h)
theorem putI {o : Nat} {mv mi : ME} {ρ ρ1 ρ2 : Ev} {ps : List (Int × Int)} {t u : Int} (h : mv ρ = .ok (.int u, ρ1)) (hi : mi ρ1 = .ok (.int t, ρ2)) (ho : getv ρ2 o = some (cdD ps)) (hn : t ∉ ps.map (·.1)) (hz : ps.length < 1000000) : sPutD o mv mi ρ = .ok (.nx, ρ2.set o (some (cdD (ps ++ [(t, u)])))) := by
  unfold sPutD
  rw [h]
  show (mi ρ1).bind _ = _
  rw [hi]
  show (R.opt (asK (getv ρ2 o))).bind _ = _
  rw [ho, show asK (some (cdD ps)) = some (dmD PyData.int (iis ps)) from asK_dm PyData.int (iis ps)]
  show (if (dmD PyData.int (iis ps)).length < sizeLine then R.ok (Fl.nx, ρ2.set o (some (.dict (dput (dmD PyData.int (iis ps)) (.inl t) (.int u))))) else R.no) = _
  rw [if_pos (by unfold dmD; rw [List.length_map, List.length_map, sizeN]; omega)]
  show R.ok (Fl.nx, ρ2.set o (some (.dict (dput (dmD PyData.int (iis ps)) (.inl t) (.int u))))) = _
  have pg : putG (iis ps) (.inl t) u = iis (ps ++ [(t, u)]) := by
    unfold putG
    rw [(lk_chg ps t).2 hn]
    show (if (false : Bool) = true then _ else _) = _
    rw [if_neg (by decide)]
    exact (List.map_append (f := fun p : Int × Int => ((.inl p.1 : T), p.2)) (l₁ := ps) (l₂ := [(t, u)])).symm
  rw [show dput (dmD PyData.int (iis ps)) (.inl t) (.int u) = dmD PyData.int (putG (iis ps) (.inl t) u) from dput_dm (f := PyData.int) (iis ps) (.inl t) u, pg]
  rfl
theorem keys_of {row : List (Int × Int)} (n1 : (row.map (·.1)).Nodup) : (row.map (·.1)).map (fun t => (t, chg row t)) = row := by
  rw [List.map_map]
  have e : row.map ((fun t => (t, chg row t)) ∘ fun p => p.1) = row.map id := List.map_congr_left fun p hp => by
    obtain ⟨a, b⟩ := p
    show (a, chg row a) = (a, b)
    rw [chg_of n1 hp]
  rw [e, List.map_id]
theorem gt_len {α : Type} (enc : α → D) (xs : List α) : mBool (fun ρ => R.ok (PyData.bool (decide ((0 : Int) < (xs.length : Int))), ρ)) = mBool fun ρ => R.ok (PyData.bool (decide (0 < xs.length)), ρ) := by
  have : decide ((0 : Int) < (xs.length : Int)) = decide (0 < xs.length) := decide_eq_decide.mpr (by omega)
  rw [this]
theorem gt0 (n : Nat) : dGt (.int (n : Int)) (.int 0) = some (.bool (decide (0 < n))) := by
  show some (PyData.bool (decide ((0 : Int) < (n : Int)))) = _
  congr 2
  exact decide_eq_decide.mpr (by omega)
theorem keysOk_prs (row : List (Int × Int)) : keysOk (row.map prD) = true := by
  unfold keysOk
  have hm : ∀ d ∈ row.map prD, ∃ m : Int × Int, d = prD m := fun d hd => by
    obtain ⟨m, _, rfl⟩ := List.mem_map.mp hd
    exact ⟨m, rfl⟩
  refine Bool.and_eq_true_iff.mpr ⟨Bool.and_eq_true_iff.mpr ⟨?_, ?_⟩, ?_⟩
  · refine List.all_eq_true.mpr fun d hd => List.all_eq_true.mpr fun e he => ?_
    obtain ⟨m, rfl⟩ := hm d hd
    obtain ⟨m', rfl⟩ := hm e he
    exact alike_ints [m.1, m.2] [m'.1, m'.2]
  · refine Bool.or_eq_true_iff.mpr (.inl (List.all_eq_true.mpr fun d hd => ?_))
    obtain ⟨m, rfl⟩ := hm d hd
    rfl
  · refine List.all_eq_true.mpr fun d hd => ?_
    obtain ⟨m, rfl⟩ := hm d hd
    have e : prD m = rwD [m.1, m.2] := rfl
    rw [e, code_rw.plain, Bool.true_and, decide_eq_true_iff]
    have := code_rw.depth [m.1, m.2]
    omega
theorem sorted_prs (row : List (Int × Int)) : dSorted [.list (row.map prD)] = some (.list ((srt prD row).map prD)) := by
  show (if keysOk (row.map prD) = true then _ else _) = _
  rw [if_pos (keysOk_prs row), sortP_map]
theorem sorted_marks (ms : List Mk) : dSorted [.list (ms.map markD)] = some (.list ((srt markD ms).map markD)) := by
  show (if keysOk (ms.map markD) = true then _ else _) = _
  rw [if_pos (keysOk_mark ms), sortP_map]
def eK (ds : List Int) (cell : Int) (s : Mst) (ts : List Int) (o5 o6 o7 o8 o9 o10 o11 o12 o13 o14 : Option D) : Ev := [some (intsD ds), some (.int cell), some (mstD s), some (intsD ts), some (.tuple (s.marks.map markD)), o5, o6, o7, o8, o9, o10, o11, o12, o13, o14, none, none, none, none]
theorem okM {ms : List Mk} (h1 : ms.length ≤ 100) (h2 : ∀ m ∈ ms, m.2.length ≤ 100) : m__law_same 12 [.tuple (ms.map markD), .tuple (ms.map markD)] = .ok (.bool true) :=
  same_ok 12 _ (okD_marks 8 ms (by omega) fun m hm => by have := h2 m hm; omega)
theorem nodup_of_lt {ts : List Int} (h : ts.Pairwise (· < ·)) : ts.Nodup := h.imp fun h e => by omega
theorem m_carriedright (ds : List Int) {cell : Int} (c0 : 0 ≤ cell) {s : Mst} {ts : List Int} (M : M22 s ts) : ∃ es : List Int, m__law_are_carried_right [intsD ds, .int cell, mstD s, intsD ts] = .ok (.bool true, intsD es) := by
  have m6 := M.m6
  have t6 := M.few
  have on : ∀ m ∈ s.marks, ∀ t ∈ m.2, t ∈ ts := fun m hm => (M.on m hm).2
  -- some of the tags
  obtain ⟨sm, d1, e1, sub⟩ := lc_exF (vs := [10]) (g := gSet 10) (tt := mBool (mOp dGt (mCallI 0 m__law_take (rAt 0 (rVal (cst (.int 4)) rNil))) (cst (.int 0)))) (me := var 10) (enc := PyData.int) (J := fun ds => eK ds cell s ts none none none none none none none none none none) (xs := ts)
    (fun t _ ds => by
      obtain ⟨r, es, hr, e⟩ := m_takeN ds 4 (by decide)
      have ci := callI2 (fn := m__law_take) (m := cst (.int 4)) (ρ := eK ds cell s ts none none none none none (some (.int t)) none none none none) (i := 0) rfl rfl e
      exact ⟨eK ds cell s ts none none none none none (some (.int t)) none none none none, decide (0 < r), eK es cell s ts none none none none none (some (.int t)) none none none none, es, rfl, St.bl (St.op ci St.cs (gt0 r)), St.vr rfl, rfl⟩) ds
  have smn : sm.Nodup := (nodup_of_lt M.ups).sublist sub
  have sml : sm.length ≤ 6 := Nat.le_trans sub.length_le t6
  have sms : ∀ t ∈ sm, t ∈ ts := fun t h => sub.subset h
  generalize hal : (s.marks.filter fun m => allIn sm m.2) = alive
  generalize hde : (s.marks.filter fun m => !allIn sm m.2) = dead
  have alen : alive.length ≤ 6 := by rw [← hal]; exact Nat.le_trans (List.length_filter_le _ _) m6
  have dlen : dead.length ≤ 6 := by rw [← hde]; exact Nat.le_trans (List.length_filter_le _ _) m6
  have am : ∀ m ∈ alive, m ∈ s.marks ∧ allIn sm m.2 = true := fun m hm => by rw [← hal] at hm; exact List.mem_filter.mp hm
  have dm : ∀ m ∈ dead, m ∈ s.marks := fun m hm => by rw [← hde] at hm; exact (List.mem_filter.mp hm).1
  have l3 : ∀ m ∈ s.marks, m.2.length ≤ 100 := fun m hm => by have := (M.on m hm).1; omega
  -- the dead
  have e2 := lc_eval (g := gSet 15) (vs := [15]) (tt := mBool (mOp dGt (mCall dLenA (aCons (mLc false (iSq (mOp dIxA (var 15) (cst (.int 1)))) [10] (gSet 10) (mBool (mOp dNotInA (var 10) (var 5))) (var 10)) aNil)) (cst (.int 0)))) (me := var 15) (ρ := eK d1 cell s ts (some (intsD sm)) none none none none none none none none none) (enc := markD) (c := fun m => !allIn sm m.2) (f := markD) (xs := s.marks)
    fun m _ => by
      have e3 := lc_eval (g := gSet 10) (vs := [10]) (tt := mBool (mOp dNotInA (var 10) (var 5))) (me := var 10) (ρ := (eK d1 cell s ts (some (intsD sm)) none none none none none none none none none).set 15 (some (markD m))) (enc := PyData.int) (c := fun t => !decide (t ∈ sm)) (f := PyData.int) (xs := m.2)
        fun t _ => ⟨((eK d1 cell s ts (some (intsD sm)) none none none none none none none none none).set 15 (some (markD m))).set 10 (some (.int t)), _, rfl, St.bl (St.op (St.vr rfl) (St.vr rfl) (nin_iL t sm)), fun _ => ⟨_, St.vr rfl⟩⟩
      have ln : dLenA [.list ((m.2.filter fun t => !decide (t ∈ sm)).map PyData.int)] = some (.int ((m.2.filter fun t => !decide (t ∈ sm)).length : Nat)) := lnI _
      have g0 := gt0 (m.2.filter fun t => !decide (t ∈ sm)).length
      rw [not_all] at g0
      exact ⟨(eK d1 cell s ts (some (intsD sm)) none none none none none none none none none).set 15 (some (markD m)), _, rfl, St.bl (St.op (St.call (St.a1 (St.lc (St.it (St.op (St.vr rfl) St.cs (ix_m1 m)) (it_rw m.2)) e3)) ln) St.cs g0), fun _ => ⟨_, St.vr rfl⟩⟩
  rw [hde] at e2
  have e4 := lc_eval (g := gSet 15) (vs := [15]) (tt := mBool (mOp dNotInA (var 15) (var 6))) (me := var 15) (ρ := eK d1 cell s ts (some (intsD sm)) (some (.tuple (dead.map markD))) none none none none none none none none) (enc := markD) (c := fun m => !decide (m ∈ dead)) (f := markD) (xs := s.marks)
    fun m _ => ⟨(eK d1 cell s ts (some (intsD sm)) (some (.tuple (dead.map markD))) none none none none none none none none).set 15 (some (markD m)), _, rfl, St.bl (St.op (St.vr rfl) (St.vr rfl) (nin_mT m dead)), fun _ => ⟨_, St.vr rfl⟩⟩
  have ae := alive_eq sm s.marks
  rw [hde, hal] at ae
  rw [ae] at e4
  have md1 := m_dead s.marks sm
  rw [hde] at md1
  have md2 := m_dead s.marks ts
  rw [dead_none on] at md2
  -- those taken out
  have e5 := lc_eval (g := gSet 10) (vs := [10]) (tt := mBool (mOp dNotInA (var 10) (var 5))) (me := var 10) (ρ := eK d1 cell s ts (some (intsD sm)) (some (.tuple (dead.map markD))) (some (.tuple (alive.map markD))) none none none none none none none) (enc := PyData.int) (c := fun t => !decide (t ∈ sm)) (f := PyData.int) (xs := ts)
    fun t _ => ⟨(eK d1 cell s ts (some (intsD sm)) (some (.tuple (dead.map markD))) (some (.tuple (alive.map markD))) none none none none none none none).set 10 (some (.int t)), _, rfl, St.bl (St.op (St.vr rfl) (St.vr rfl) (nin_iL t sm)), fun _ => ⟨_, St.vr rfl⟩⟩
  have ot := m_outtags (s := s) (ts := ts.filter fun t => !decide (t ∈ sm)) fun t ht => by rw [M.tags]; exact (List.mem_filter.mp ht).1
  rw [out_eq on, hal] at ot
  -- other tags for them
  obtain ⟨left0, d2, ll, lu, e6⟩ := m_tags d1 c0 (n := sm.length) (by omega)
  have ln6 : dLenA [intsD sm] = some (.int (sm.length : Int)) := lnI sm
  have c6 : mCallI 0 m__law_tags (rAt 0 (rVal (var 1) (rVal (mCall dLenA (aCons (var 5) aNil)) rNil))) (eK d1 cell s ts (some (intsD sm)) (some (.tuple (dead.map markD))) (some (.tuple (alive.map markD))) none none none none none none none) = .ok (intsD left0, eK d2 cell s ts (some (intsD sm)) (some (.tuple (dead.map markD))) (some (.tuple (alive.map markD))) none none none none none none none) :=
    callIv2 (fn := m__law_tags) (m := var 1) (n := mCall dLenA (aCons (var 5) aNil)) (i := 0) rfl (St.vr rfl) (St.call (St.a1 (St.vr rfl)) ln6) rfl e6
  obtain ⟨ρ', f1, d3, left, row, o10, rfl, hl, hk, hn, hr6⟩ := for_all (g := gSet 10) (enc := PyData.int) (b := sPutD 9 (ePopAt 8 (mCallI 0 m__law_take (rAt 0 (rVal (mCall dLenA (aCons (var 8) aNil)) rNil)))) (var 10))
    (I := fun l ρ => ∃ d3 left row o10, ρ = eK d3 cell s ts (some (intsD sm)) (some (.tuple (dead.map markD))) (some (.tuple (alive.map markD))) (some (intsD left)) (some (cdD row)) o10 none none none none ∧ left.length = l.length ∧ row.map (·.1) ++ l = sm ∧ (row.map (·.2) ++ left).Nodup ∧ left.length ≤ 6)
    (fun t l ρ hh => by
      obtain ⟨d3, left, row, o10, rfl, hl, hk, hn, h6⟩ := hh
      rw [List.length_cons] at hl
      obtain ⟨q, d4, hq, e⟩ := m_takeN d3 left.length (by omega)
      have lnl := lnI left
      have c := callI2 (fn := m__law_take) (m := mCall dLenA (aCons (var 8) aNil)) (ρ := eK d3 cell s ts (some (intsD sm)) (some (.tuple (dead.map markD))) (some (.tuple (alive.map markD))) (some (intsD left)) (some (cdD row)) (some (.int t)) none none none none) (i := 0) rfl (St.call (St.a1 (St.vr rfl)) lnl) e
      have pp := popAt_ok (i := 8) (ρ := eK d3 cell s ts (some (intsD sm)) (some (.tuple (dead.map markD))) (some (.tuple (alive.map markD))) (some (intsD left)) (some (cdD row)) (some (.int t)) none none none none) rfl c rfl hq (by omega)
      have tn : t ∉ row.map (·.1) := fun z => by
        rw [← hk] at smn
        exact (List.nodup_append.mp smn).2.2 t z t List.mem_cons_self rfl
      have rl : row.length ≤ 6 := by
        have := congrArg List.length hk
        rw [List.length_append, List.length_map] at this
        omega
      have st := putI (o := 9) (mi := var 10) (t := t) pp (St.vr rfl) rfl tn (by omega)
      have le := len_erase hq
      refine ⟨eK d3 cell s ts (some (intsD sm)) (some (.tuple (dead.map markD))) (some (.tuple (alive.map markD))) (some (intsD left)) (some (cdD row)) (some (.int t)) none none none none, _, rfl, .inl st, d4, left.eraseIdx q, row ++ [(t, left.getD q 0)], _, rfl, by omega, ?_, ?_, by omega⟩
      · rw [List.map_append, List.append_assoc]; exact hk
      · rw [List.map_append, List.append_assoc]
        have p : (row.map (·.2) ++ ([left.getD q 0] ++ left.eraseIdx q)).Perm (row.map (·.2) ++ left) := by
          refine List.Perm.append_left _ ?_
          exact List.perm_append_comm.trans (perm_pop left hq)
        exact p.nodup_iff.mpr hn)
    (xs := sm) (ρ := eK d2 cell s ts (some (intsD sm)) (some (.tuple (dead.map markD))) (some (.tuple (alive.map markD))) (some (intsD left0)) (some (cdD [])) none none none none none) ⟨d2, left0, [], none, rfl, ll, rfl, nodup_of_lt lu, by omega⟩
  have hk : row.map (·.1) = sm := by simpa using hk
  have n1 : (row.map (·.1)).Nodup := by rw [hk]; exact smn
  have n2 : (row.map (·.2)).Nodup := (List.nodup_append.mp hn).1
  have rl : row.length ≤ 6 := by
    have := congrArg List.length hk
    rw [List.length_map] at this; omega
  -- the row of pairs
  have e7 := lc_map (g := gSet 10) (vs := [10]) (me := mTup (aCons (var 10) (aCons (mOp dIxA (var 9) (var 10)) aNil))) (ρ := eK d3 cell s ts (some (intsD sm)) (some (.tuple (dead.map markD))) (some (.tuple (alive.map markD))) (some (intsD left)) (some (cdD row)) o10 none none none none) (enc := PyData.int) (f := fun t => prD (t, chg row t)) (xs := sm)
    fun t ht => ⟨(eK d3 cell s ts (some (intsD sm)) (some (.tuple (dead.map markD))) (some (.tuple (alive.map markD))) (some (intsD left)) (some (cdD row)) o10 none none none none).set 10 (some (.int t)), _, rfl, St.tup (St.ac (St.vr rfl) (St.a1 (St.op (St.vr rfl) (St.vr rfl) (ix_cd (by rw [hk]; exact ht))))) (show 2 ≤ 1000 from by decide)⟩
  have q7 : (sm.map fun t => prD (t, chg row t)) = row.map prD := by
    have := congrArg (List.map prD) (keys_of n1)
    rw [List.map_map, hk] at this
    exact this
  rw [q7] at e7
  -- carried there
  have e8 := lc_map (g := gTpl 2 (gsCons (gSet 16) (gsCons (gSet 17) gsNil))) (vs := [16, 17]) (me := mTup (aCons (var 16) (aCons (mCall dTuple (aCons (mLc false (iSq (var 17)) [10] (gSet 10) bYes (mOp dIxA (var 9) (var 10))) aNil)) aNil))) (ρ := eK d3 cell s ts (some (intsD sm)) (some (.tuple (dead.map markD))) (some (.tuple (alive.map markD))) (some (intsD left)) (some (cdD row)) o10 (some (.tuple (row.map prD))) none none none) (enc := markD) (f := fun m => markD (carry row m)) (xs := alive)
    fun m hm => by
      have e9 := lc_map (g := gSet 10) (vs := [10]) (me := mOp dIxA (var 9) (var 10)) (ρ := ((eK d3 cell s ts (some (intsD sm)) (some (.tuple (dead.map markD))) (some (.tuple (alive.map markD))) (some (intsD left)) (some (cdD row)) o10 (some (.tuple (row.map prD))) none none none).set 16 (some (.int m.1))).set 17 (some (rwD m.2))) (enc := PyData.int) (f := fun t => PyData.int (chg row t)) (xs := m.2)
        fun t ht => ⟨(((eK d3 cell s ts (some (intsD sm)) (some (.tuple (dead.map markD))) (some (.tuple (alive.map markD))) (some (intsD left)) (some (cdD row)) o10 (some (.tuple (row.map prD))) none none none).set 16 (some (.int m.1))).set 17 (some (rwD m.2))).set 10 (some (.int t)), _, rfl, St.op (St.vr rfl) (St.vr rfl) (ix_cd (by rw [hk]; exact of_decide_eq_true (List.all_eq_true.mp (am m hm).2 t ht)))⟩
      have q : (m.2.map fun t => PyData.int (chg row t)) = (m.2.map (chg row)).map PyData.int := by rw [List.map_map]; rfl
      rw [q] at e9
      exact ⟨((eK d3 cell s ts (some (intsD sm)) (some (.tuple (dead.map markD))) (some (.tuple (alive.map markD))) (some (intsD left)) (some (cdD row)) o10 (some (.tuple (row.map prD))) none none none).set 16 (some (.int m.1))).set 17 (some (rwD m.2)), _, rfl, St.tup (St.ac (St.vr rfl) (St.a1 (St.call (St.a1 (St.lc (St.it (St.vr rfl) (it_rw m.2)) e9)) rfl))) (show 2 ≤ 1000 from by decide)⟩
  have ca : carried row s.marks = alive.map (carry row) := by rw [carried_all, hk, hal]
  have q8 : (alive.map fun m => markD (carry row m)) = (carried row s.marks).map markD := by rw [ca, List.map_map]; rfl
  rw [q8] at e8
  have sd := sorted_marks (carried row s.marks)
  have mc1 := m_carried s.marks row (by omega)
  rw [due_eq n1 n2 M.asc.1] at mc1
  generalize hdu : srt markD (carried row s.marks) = due at sd mc1
  have dul : due.length ≤ 6 := by rw [← hdu, srt_len, ca, List.length_map]; exact alen
  have du3 : ∀ m ∈ due, m.2.length ≤ 100 := fun m hm => by
    rw [← hdu, srt_mem, ca] at hm
    obtain ⟨x, hx, e⟩ := List.mem_map.mp hm
    rw [← e]
    show (x.2.map (chg row)).length ≤ 100
    rw [List.length_map]; exact l3 x (am x hx).1
  -- and back
  have mc2 := m_carried due (swp row) (by omega)
  rw [← hdu, back_eq n1 n2 M.asc, hk, hal, hdu] at mc2
  have e10 := lc_map (g := gTpl 2 (gsCons (gSet 10) (gsCons (gSet 18) gsNil))) (vs := [10, 18]) (me := mTup (aCons (var 18) (aCons (var 10) aNil))) (ρ := eK d3 cell s ts (some (intsD sm)) (some (.tuple (dead.map markD))) (some (.tuple (alive.map markD))) (some (intsD left)) (some (cdD row)) o10 (some (.tuple (row.map prD))) (some (.tuple (due.map markD))) none none) (enc := prD) (f := fun p => prD (p.2, p.1)) (xs := row)
    fun p _ => ⟨((eK d3 cell s ts (some (intsD sm)) (some (.tuple (dead.map markD))) (some (.tuple (alive.map markD))) (some (intsD left)) (some (cdD row)) o10 (some (.tuple (row.map prD))) (some (.tuple (due.map markD))) none none).set 10 (some (.int p.1))).set 18 (some (.int p.2)), _, rfl, rfl⟩
  have q10 : (row.map fun p => prD (p.2, p.1)) = (row.map fun p => (p.2, p.1)).map prD := by rw [List.map_map]; rfl
  rw [q10] at e10
  have sp := sorted_prs (row.map fun p => (p.2, p.1))
  -- moved
  obtain ⟨r1, d4, g1, k1⟩ := m_takeN d3 9 (by decide)
  obtain ⟨r2, d5, g2, k2⟩ := m_takeN d4 4 (by decide)
  have c11 := callI2 (fn := m__law_take) (m := cst (.int 9)) (ρ := eK d3 cell s ts (some (intsD sm)) (some (.tuple (dead.map markD))) (some (.tuple (alive.map markD))) (some (intsD left)) (some (cdD row)) o10 (some (.tuple (row.map prD))) (some (.tuple (due.map markD))) none none) (i := 0) rfl rfl k1
  have c12 := callI2 (fn := m__law_take) (m := cst (.int 4)) (ρ := eK d4 cell s ts (some (intsD sm)) (some (.tuple (dead.map markD))) (some (.tuple (alive.map markD))) (some (intsD left)) (some (cdD row)) o10 (some (.tuple (row.map prD))) (some (.tuple (due.map markD))) none none) (i := 0) rfl rfl k2
  have p12 := pickI [0, 1, (r1 : Int), cell] (r := r2) g2
  generalize [0, 1, (r1 : Int), cell].getD r2 0 = by' at p12
  have e13 := lc_map (g := gTpl 2 (gsCons (gSet 16) (gsCons (gSet 17) gsNil))) (vs := [16, 17]) (me := mTup (aCons (mOp dAdd (var 16) (var 13)) (aCons (var 17) aNil))) (ρ := eK d5 cell s ts (some (intsD sm)) (some (.tuple (dead.map markD))) (some (.tuple (alive.map markD))) (some (intsD left)) (some (cdD row)) o10 (some (.tuple (row.map prD))) (some (.tuple (due.map markD))) (some (.int by')) none) (enc := markD) (f := fun m => markD (mvM by' m)) (xs := s.marks)
    fun m _ => ⟨((eK d5 cell s ts (some (intsD sm)) (some (.tuple (dead.map markD))) (some (.tuple (alive.map markD))) (some (intsD left)) (some (cdD row)) o10 (some (.tuple (row.map prD))) (some (.tuple (due.map markD))) (some (.int by')) none).set 16 (some (.int m.1))).set 17 (some (rwD m.2)), _, rfl, St.tup (St.ac (St.op (St.vr rfl) (St.vr rfl) rfl) (St.a1 (St.vr rfl))) (show 2 ≤ 1000 from by decide)⟩
  have q13 : (s.marks.map fun m => markD (mvM by' m)) = (s.marks.map (mvM by')).map markD := by rw [List.map_map]; rfl
  rw [q13] at e13
  have mm1 : m_marks_moved [.tuple (s.marks.map markD), .int by'] = .ok (.tuple ((s.marks.map (mvM by')).map markD)) := m_moved s.marks by'
  have mm2 : m_marks_moved [.tuple (due.map markD), .int by'] = .ok (.tuple ((due.map (mvM by')).map markD)) := m_moved due by'
  have mc3 := m_carried (s.marks.map (mvM by')) row (by rw [List.length_map]; omega)
  rw [moved_eq n1 n2 M.asc.1, hdu] at mc3
  have mc4 := m_carried s.marks [] (by omega)
  rw [bare_eq M.asc] at mc4
  have e14 := lc_eval (g := gSet 15) (vs := [15]) (tt := mBool (mOp dEq (mOp dIxA (var 15) (cst (.int 1))) (mTup aNil))) (me := var 15) (ρ := eK d5 cell s ts (some (intsD sm)) (some (.tuple (dead.map markD))) (some (.tuple (alive.map markD))) (some (intsD left)) (some (cdD row)) o10 (some (.tuple (row.map prD))) (some (.tuple (due.map markD))) (some (.int by')) (some (.tuple ((s.marks.map (mvM by')).map markD)))) (enc := markD) (c := fun m => decide (m.2 = [])) (f := markD) (xs := s.marks)
    fun m _ => ⟨(eK d5 cell s ts (some (intsD sm)) (some (.tuple (dead.map markD))) (some (.tuple (alive.map markD))) (some (intsD left)) (some (cdD row)) o10 (some (.tuple (row.map prD))) (some (.tuple (due.map markD))) (some (.int by')) (some (.tuple ((s.marks.map (mvM by')).map markD)))).set 15 (some (markD m)), _, rfl, St.bl (St.op (St.op (St.vr rfl) St.cs (ix_m1 m)) (show mTup aNil _ = .ok (rwD [], _) from rfl) (code_rw.dEq (by decide) m.2 [])), fun _ => ⟨_, St.vr rfl⟩⟩
  have z1 := okM (ms := dead) (by omega) fun m hm => l3 m (dm m hm)
  have z2 := okM (ms := []) (by decide) fun m hm => by cases hm
  have z3 := okM (ms := alive) (by omega) fun m hm => l3 m (am m hm).1
  have z4 := okM (ms := due) (by omega) du3
  have z5 := okM (ms := s.marks.map (mvM by')) (by rw [List.length_map]; omega) fun m hm => by
    obtain ⟨x, hx, e⟩ := List.mem_map.mp hm
    rw [← e]; exact l3 x hx
  have z6 := okM (ms := due.map (mvM by')) (by rw [List.length_map]; omega) fun m hm => by
    obtain ⟨x, hx, e⟩ := List.mem_map.mp hm
    rw [← e]; exact du3 x hx
  have z7 := okM (ms := s.marks.filter fun m => decide (m.2 = [])) (Nat.le_trans (List.length_filter_le _ _) (by omega)) fun m hm => l3 m (List.mem_filter.mp hm).1
  refine ⟨d5, St.runI_rt (ρ1 := eK d5 cell s ts (some (intsD sm)) (some (.tuple (dead.map markD))) (some (.tuple (alive.map markD))) (some (intsD left)) (some (cdD row)) o10 (some (.tuple (row.map prD))) (some (.tuple (due.map markD))) (some (.int by')) (some (.tuple ((s.marks.map (mvM by')).map markD)))) rfl ?_ rfl⟩
  show b__law_are_carried_right [some (intsD ds), some (.int cell), some (mstD s), some (intsD ts), none, none, none, none, none, none, none, none, none, none, none, none, none, none, none] = _
  unfold b__law_are_carried_right
  refine Eq.trans (St.seq (ρ1 := eK ds cell s ts none none none none none none none none none none) (St.set (St.op (St.vr rfl) St.cs (ix_st3 s)) rfl)) ?_
  refine Eq.trans (St.seq (ρ1 := eK d1 cell s ts (some (intsD sm)) none none none none none none none none none) (St.set (St.lc (St.it (St.vr rfl) (it_int ts)) e1) rfl)) ?_
  refine Eq.trans (St.seq (ρ1 := eK d1 cell s ts (some (intsD sm)) (some (.tuple (dead.map markD))) none none none none none none none none) (St.set (St.call (St.a1 (St.lc (St.it (St.vr rfl) (it_marks s.marks)) e2)) rfl) rfl)) ?_
  refine Eq.trans (St.seq (ρ1 := eK d1 cell s ts (some (intsD sm)) (some (.tuple (dead.map markD))) (some (.tuple (alive.map markD))) none none none none none none none) (St.set (St.call (St.a1 (St.lc (St.it (St.vr rfl) (it_marks s.marks)) e4)) rfl) rfl)) ?_
  refine Eq.trans (St.seq (St.pass (St.orf (St.nt (St.trB (St.callF (St.ac (St.callF (St.ac (St.vr rfl) (St.a1 (St.call (St.a1 (St.vr rfl)) rfl))) md1) (St.a1 (St.vr rfl))) z1))) (St.nt (St.trB (St.callF (St.ac (St.callF (St.ac (St.vr rfl) (St.a1 (St.call (St.a1 (St.vr rfl)) rfl))) md2) (St.a1 (show mTup aNil _ = .ok (.tuple (([] : List Mk).map markD), _) from rfl))) z2)))))) ?_
  refine Eq.trans (St.seq (St.pass (St.nt (St.trB (St.callF (St.ac (St.op (St.callF (St.ac (St.vr rfl) (St.a1 (St.call (St.a1 (St.lc (St.it (St.vr rfl) (it_int ts)) e5)) rfl))) ot) St.cs (ix_st3 _)) (St.a1 (St.vr rfl))) z3))))) ?_
  refine Eq.trans (St.seq (ρ1 := eK d2 cell s ts (some (intsD sm)) (some (.tuple (dead.map markD))) (some (.tuple (alive.map markD))) (some (intsD left0)) none none none none none none) (St.set c6 rfl)) ?_
  refine Eq.trans (St.seq (ρ1 := eK d2 cell s ts (some (intsD sm)) (some (.tuple (dead.map markD))) (some (.tuple (alive.map markD))) (some (intsD left0)) (some (cdD [])) none none none none none) rfl) ?_
  refine Eq.trans (St.seq (St.fr (St.it (St.vr rfl) (it_int sm)) f1)) ?_
  refine Eq.trans (St.seq (ρ1 := eK d3 cell s ts (some (intsD sm)) (some (.tuple (dead.map markD))) (some (.tuple (alive.map markD))) (some (intsD left)) (some (cdD row)) o10 (some (.tuple (row.map prD))) none none none) (St.set (St.call (St.a1 (St.lc (St.it (St.vr rfl) (it_int sm)) e7)) rfl) rfl)) ?_
  refine Eq.trans (St.seq (ρ1 := eK d3 cell s ts (some (intsD sm)) (some (.tuple (dead.map markD))) (some (.tuple (alive.map markD))) (some (intsD left)) (some (cdD row)) o10 (some (.tuple (row.map prD))) (some (.tuple (due.map markD))) none none) (St.set (St.call (St.a1 (St.call (St.a1 (St.lc (St.it (St.vr rfl) (it_marks alive)) e8)) sd)) rfl) rfl)) ?_
  refine Eq.trans (St.seq (St.pass (St.nt (St.trB (St.callF (St.ac (St.callF (St.ac (St.vr rfl) (St.a1 (St.vr rfl))) mc1) (St.a1 (St.vr rfl))) z4))))) ?_
  refine Eq.trans (St.seq (St.pass (St.nt (St.trB (St.callF (St.ac (St.callF (St.ac (St.vr rfl) (St.a1 (St.call (St.a1 (St.call (St.a1 (St.lc (St.it (St.vr rfl) (it_prs row)) e10)) sp)) rfl))) mc2) (St.a1 (St.vr rfl))) z3))))) ?_
  refine Eq.trans (St.seq (ρ1 := eK d5 cell s ts (some (intsD sm)) (some (.tuple (dead.map markD))) (some (.tuple (alive.map markD))) (some (intsD left)) (some (cdD row)) o10 (some (.tuple (row.map prD))) (some (.tuple (due.map markD))) (some (.int by')) none) (St.set (St.op (St.lst (St.ac St.cs (St.ac St.cs (St.ac c11 (St.a1 (St.vr rfl))))) (show 4 ≤ 1000 from by decide)) c12 p12) rfl)) ?_
  refine Eq.trans (St.seq (ρ1 := eK d5 cell s ts (some (intsD sm)) (some (.tuple (dead.map markD))) (some (.tuple (alive.map markD))) (some (intsD left)) (some (cdD row)) o10 (some (.tuple (row.map prD))) (some (.tuple (due.map markD))) (some (.int by')) (some (.tuple ((s.marks.map (mvM by')).map markD)))) (St.set (St.call (St.a1 (St.lc (St.it (St.vr rfl) (it_marks s.marks)) e13)) rfl) rfl)) ?_
  refine Eq.trans (St.seq (St.pass (St.orf (St.nt (St.trB (St.callF (St.ac (St.callF (St.ac (St.vr rfl) (St.a1 (St.vr rfl))) mm1) (St.a1 (St.vr rfl))) z5))) (St.nt (St.trB (St.callF (St.ac (St.callF (St.ac (St.vr rfl) (St.a1 (St.vr rfl))) mm2) (St.a1 (St.callF (St.ac (St.vr rfl) (St.a1 (St.vr rfl))) mc3))) z6)))))) ?_
  exact St.ret (St.callF (St.ac (St.callF (St.ac (St.vr rfl) (St.a1 (show mTup aNil _ = .ok (.tuple (([] : List (Int × Int)).map prD), _) from rfl))) mc4) (St.a1 (St.call (St.a1 (St.lc (St.it (St.vr rfl) (it_marks s.marks)) e14)) rfl))) z7)
end Lw

set_option Elab.async false
set_option linter.all false
set_option maxRecDepth 100000
set_option autoImplicit false
namespace Lw
open PySem Kn Dt Dt.R
open L2 (Key)
theorem callJ1 {fn : List D → R (D × D)} {m : ME} {ρ : Ev} {i : Nat} {a d b c : D} (hm : m ρ = .ok (d, ρ)) (h1 : getv ρ i = some a) (h3 : fn [d, a] = .ok (b, c)) : mCallI 1 fn (rVal m (rAt i rNil)) ρ = .ok (b, ρ.set i (some c)) := by
  simp [mCallI, rAt, rVal, rNil, h1, hm, arD, isVal, h3, -getv, R.opt, R.bind, R.nox]
def s0 : Mst := ⟨9, [(2, .tuple [.str "p", .tuple []]), (5, .tuple [.str "q", .tuple []]), (7, .tuple [.str "p", .tuple []])], .tuple [.tuple [], .tuple []], [(0, [5]), (1, []), (1, [2, 7])]⟩
theorem y1 : ord markD (s0.marks ++ [(0, [7, 2])]) = [(0, [5]), (0, [7, 2]), (1, []), (1, [2, 7])] := by unfold ord; rw [srt_isrt]; decide +kernel
theorem y2 : ord markD (s0.marks ++ [(1, [])]) = s0.marks := by unfold ord; rw [srt_isrt]; decide +kernel
theorem y3 : ord markD (carried [(2, 8), (5, 1), (7, 0)] s0.marks) = [(0, [1]), (1, []), (1, [8, 0])] := by unfold ord; rw [srt_isrt]; decide +kernel
theorem y4 : ord markD (carried [(2, 9), (5, 1)] [(0, [2]), (0, [5])]) = [(0, [1]), (0, [9])] := by unfold ord; rw [srt_isrt]; decide +kernel
def eL (sc : D) (ds : List Int) (cell : Int) (o3 o4 o5 o6 o7 : Option D) : Ev := [some sc, some (intsD ds), some (.int cell), o3, o4, o5, o6, o7]
def bAgain : MS := (sIf (mOrB (mNotB (mTru (mCallI 0 m__law_are_marks_right (rAt 1 (rVal (var 2) (rVal (var 6) (rVal (var 5) rNil))))))) (mNotB (mTru (mCallI 0 m__law_are_carried_right (rAt 1 (rVal (var 2) (rVal (var 6) (rVal (var 5) rNil)))))))) (sRet (cst (.bool false))) sNil)
def bTurn : MS := (sSeq (sSet (gSet 5) (mCallI 0 m__law_tags (rAt 1 (rVal (var 2) (rVal (mCallI 0 m__law_take (rAt 1 (rVal (cst (.int 7)) rNil))) rNil))))) (sSeq (sSet (gSet 6) (mCallI 0 m__law_marked_store (rAt 1 (rVal (var 2) (rVal (var 5) rNil))))) (sForE (iRg rng1 (aCons (cst (.int 2)) aNil)) (gSet 7) bAgain)))
theorem turn_step (sc : D) (ds : List Int) {cell : Int} (c0 : 0 ≤ cell) (o3 o5 o6 o7 : Option D) : ∃ (es : List Int) (p5 p6 p7 : Option D), bTurn (eL sc ds cell o3 none o5 o6 o7) = .ok (.nx, eL sc es cell o3 none p5 p6 p7) := by
  obtain ⟨n, d1, hn, e1⟩ := m_takeN ds 7 (by decide)
  obtain ⟨ts, d2, tl, tu, e2⟩ := m_tags d1 c0 (n := n) (by omega)
  obtain ⟨s, d3, M, e3⟩ := m_mstore d2 cell (ts := ts) (by omega) tu
  have c1 := callI2 (fn := m__law_take) (m := cst (.int 7)) (ρ := eL sc ds cell o3 none o5 o6 o7) (i := 1) rfl rfl e1
  have c2 : mCallI 0 m__law_tags (rAt 1 (rVal (var 2) (rVal (mCallI 0 m__law_take (rAt 1 (rVal (cst (.int 7)) rNil))) rNil))) (eL sc ds cell o3 none o5 o6 o7) = .ok (intsD ts, eL sc d2 cell o3 none o5 o6 o7) :=
    callIv2 (fn := m__law_tags) (m := var 2) (n := mCallI 0 m__law_take (rAt 1 (rVal (cst (.int 7)) rNil))) (i := 1) rfl (St.vr rfl) c1 rfl e2
  have c3 : mCallI 0 m__law_marked_store (rAt 1 (rVal (var 2) (rVal (var 5) rNil))) (eL sc d2 cell o3 none (some (intsD ts)) o6 o7) = .ok (mstD s, eL sc d3 cell o3 none (some (intsD ts)) o6 o7) :=
    callIv2 (fn := m__law_marked_store) (m := var 2) (n := var 5) (i := 1) rfl (St.vr rfl) (St.vr rfl) rfl e3
  have r2 := rng_at 2 (by decide)
  obtain ⟨ρ', f1, d4, p7, rfl⟩ := for_all (g := gSet 7) (b := bAgain) (enc := fun i : Nat => PyData.int (i : Int))
    (I := fun l ρ => ∃ d4 p7, ρ = eL sc d4 cell o3 none (some (intsD ts)) (some (mstD s)) p7)
    (fun i l ρ h => by
      obtain ⟨d4, p7, rfl⟩ := h
      obtain ⟨d5, e5⟩ := m_right d4 (cell := cell) M
      obtain ⟨d6, e6⟩ := m_carriedright d5 c0 M
      have k1 : mCallI 0 m__law_are_marks_right (rAt 1 (rVal (var 2) (rVal (var 6) (rVal (var 5) rNil)))) (eL sc d4 cell o3 none (some (intsD ts)) (some (mstD s)) (some (.int (i : Int)))) = .ok (.bool true, eL sc d5 cell o3 none (some (intsD ts)) (some (mstD s)) (some (.int (i : Int)))) :=
        callIv3 (fn := m__law_are_marks_right) (m := var 2) (n := var 6) (o := var 5) (i := 1) rfl (St.vr rfl) (St.vr rfl) (St.vr rfl) rfl e5
      have k2 : mCallI 0 m__law_are_carried_right (rAt 1 (rVal (var 2) (rVal (var 6) (rVal (var 5) rNil)))) (eL sc d5 cell o3 none (some (intsD ts)) (some (mstD s)) (some (.int (i : Int)))) = .ok (.bool true, eL sc d6 cell o3 none (some (intsD ts)) (some (mstD s)) (some (.int (i : Int)))) :=
        callIv3 (fn := m__law_are_carried_right) (m := var 2) (n := var 6) (o := var 5) (i := 1) rfl (St.vr rfl) (St.vr rfl) (St.vr rfl) rfl e6
      exact ⟨eL sc d4 cell o3 none (some (intsD ts)) (some (mstD s)) (some (.int (i : Int))), _, rfl, .inl (St.pass (St.orf (St.nt (St.trB k1)) (St.nt (St.trB k2)))), d6, _, rfl⟩)
    (xs := List.range 2) (ρ := eL sc d3 cell o3 none (some (intsD ts)) (some (mstD s)) o7) ⟨_, _, rfl⟩
  refine ⟨d4, some (intsD ts), some (mstD s), p7, ?_⟩
  unfold bTurn
  refine Eq.trans (St.seq (ρ1 := eL sc d2 cell o3 none (some (intsD ts)) o6 o7) (St.set c2 rfl)) ?_
  refine Eq.trans (St.seq (ρ1 := eL sc d3 cell o3 none (some (intsD ts)) (some (mstD s)) o7) (St.set c3 rfl)) ?_
  exact St.fr (St.rg (St.a1 St.cs) r2) f1
theorem law_ok (ns : List Int) (h : ns.length ≤ 63) : m_law [scrD ns] = .ok (.bool true) := by
  obtain ⟨ds, hd⟩ := m_draws ns h 420 (by decide)
  obtain ⟨cell, d1, c0, hc⟩ := m_cell ns ds
  have cc := callJ1 (fn := m__law_cell) (m := var 0) (ρ := [some (scrD ns), some (intsD ds), none, none, none, none, none, none]) (i := 1) rfl rfl hc
  have r3 := rng_at 3 (by decide)
  obtain ⟨ρ', h1, d2, o3, o5, o6, o7, rfl⟩ := for_all (g := gSet 3) (b := bTurn) (enc := fun i : Nat => PyData.int (i : Int))
    (I := fun l ρ => ∃ d2 o3 o5 o6 o7, ρ = eL (scrD ns) d2 cell o3 none o5 o6 o7)
    (fun i l ρ h => by
      obtain ⟨d2, o3, o5, o6, o7, rfl⟩ := h
      obtain ⟨es, p5, p6, p7, e⟩ := turn_step (scrD ns) d2 c0 (some (.int (i : Int))) o5 o6 o7
      exact ⟨eL (scrD ns) d2 cell (some (.int (i : Int))) none o5 o6 o7, _, rfl, .inl e, _, _, _, _, _, rfl⟩)
    (xs := List.range 3) (ρ := eL (scrD ns) d1 cell none none none none none) ⟨_, _, _, _, _, rfl⟩
  have a1 := m_withmark s0 0 [7, 2] (by decide)
  rw [y1] at a1
  have a2 := m_withmark s0 1 [] (by decide)
  rw [y2] at a2
  have a3 := m_marked s0 1 [7, 2]
  have a4 := m_marked s0 1 [2, 7]
  have a5 := m_markswith s0 7
  have a6 := m_dead s0.marks [2, 5]
  have a7 := m_dead s0.marks []
  have a8 := m_carried s0.marks [(2, 8), (5, 1), (7, 0)] (by decide)
  rw [y3] at a8
  have a9 := m_carried [(0, [2]), (0, [5])] [(2, 9), (5, 1)] (by decide)
  rw [y4] at a9
  have a10 := m_moved s0.marks 3
  have w3 : decide (((1, [7, 2]) : Mk) ∈ s0.marks) = false := by decide
  have w4 : decide (((1, [2, 7]) : Mk) ∈ s0.marks) = true := by decide
  rw [w3] at a3
  rw [w4] at a4
  have w5 : (s0.marks.filter fun m => decide (7 ∈ m.2)) = [(1, [2, 7])] := by decide
  rw [w5] at a5
  have w6 : (s0.marks.filter fun m => !allIn [2, 5] m.2) = [(1, [2, 7])] := by decide
  rw [w6] at a6
  have w7 : (s0.marks.filter fun m => !allIn [] m.2) = [(0, [5]), (1, [2, 7])] := by decide
  rw [w7] at a7
  have w10 : (s0.marks.map fun m => (m.1 + 3, m.2)) = [(3, [5]), (4, []), (4, [2, 7])] := by decide
  rw [w10] at a10
  have ok1 := same_ok 12 (mstD { s0 with marks := [(0, [5]), (0, [7, 2]), (1, []), (1, [2, 7])] }) rfl
  have ok2 := same_ok 12 (mstD s0) rfl
  have okm : ∀ ms : List Mk, ms.length ≤ 100 → (∀ m ∈ ms, m.2.length ≤ 100) → m__law_same 12 [.tuple (ms.map markD), .tuple (ms.map markD)] = .ok (.bool true) := fun ms h1 h2 => okM h1 h2
  have z5 := okm [(1, [2, 7])] (by decide) (by decide)
  have z7 := okm [(0, [5]), (1, [2, 7])] (by decide) (by decide)
  have z8 := okm [(0, [1]), (1, []), (1, [8, 0])] (by decide) (by decide)
  have z9 := okm [(0, [1]), (0, [9])] (by decide) (by decide)
  have z10 := okm [(3, [5]), (4, []), (4, [2, 7])] (by decide) (by decide)
  have fin : ∃ ρ1, b_law [some (scrD ns), none, none, none, none, none, none, none] = .ok (.rt (.bool true), ρ1) := by
    apply Exists.intro
    unfold b_law
    refine Eq.trans (St.seq (ρ1 := [some (scrD ns), some (intsD ds), none, none, none, none, none, none]) (St.set (St.callF (St.ac (St.vr rfl) (St.a1 St.cs)) hd) rfl)) ?_
    refine Eq.trans (St.seq (ρ1 := eL (scrD ns) d1 cell none none none none none) (St.set cc rfl)) ?_
    refine Eq.trans (St.seq (St.fr (St.rg (St.a1 St.cs) r3) h1)) ?_
    refine Eq.trans (St.seq (ρ1 := eL (scrD ns) d2 cell o3 (some (mstD s0)) o5 o6 o7) (St.set (show mTup _ _ = .ok (mstD s0, _) from rfl) rfl)) ?_
    refine Eq.trans (St.seq (St.pass (St.orf (St.nt (St.trB (St.callF (St.ac (St.callF (St.ac (St.vr rfl) (St.ac St.cs (St.a1 (show mTup _ _ = .ok (rwD [7, 2], _) from rfl)))) a1) (St.a1 (St.op (St.sl (St.vr rfl) (show oNone _ = .ok (none, _) from rfl) (show oSome _ _ = .ok (some 3, _) from rfl) (sl3 s0)) (show mTup _ _ = .ok (.tuple [.tuple (([(0, [5]), (0, [7, 2]), (1, []), (1, [2, 7])] : List Mk).map markD)], _) from rfl) (add3 s0 _)))) ok1))) (St.nt (St.trB (St.callF (St.ac (St.callF (St.ac (St.vr rfl) (St.ac St.cs (St.a1 (show mTup aNil _ = .ok (rwD [], _) from rfl)))) a2) (St.a1 (St.vr rfl))) ok2)))))) ?_
    refine Eq.trans (St.seq (St.pass (St.orf (St.bl (St.op (St.callF (St.ac (St.vr rfl) (St.ac St.cs (St.a1 (show mTup _ _ = .ok (rwD [7, 2], _) from rfl)))) a3) St.cs rfl)) (St.orf (St.bl (St.op (St.callF (St.ac (St.vr rfl) (St.ac St.cs (St.a1 (show mTup _ _ = .ok (rwD [2, 7], _) from rfl)))) a4) St.cs rfl)) (St.nt (St.trB (St.callF (St.ac (St.callF (St.ac (St.vr rfl) (St.a1 St.cs)) a5) (St.a1 (show mTup _ _ = .ok (.tuple (([(1, [2, 7])] : List Mk).map markD), _) from rfl))) z5))))))) ?_
    refine Eq.trans (St.seq (St.pass (St.orf (St.nt (St.trB (St.callF (St.ac (St.callF (St.ac (St.op (St.vr rfl) St.cs (ix_st3 s0)) (St.a1 (show mTup _ _ = .ok (rwD [2, 5], _) from rfl))) a6) (St.a1 (show mTup _ _ = .ok (.tuple (([(1, [2, 7])] : List Mk).map markD), _) from rfl))) z5))) (St.nt (St.trB (St.callF (St.ac (St.callF (St.ac (St.op (St.vr rfl) St.cs (ix_st3 s0)) (St.a1 (show mTup aNil _ = .ok (rwD [], _) from rfl))) a7) (St.a1 (show mTup _ _ = .ok (.tuple (([(0, [5]), (1, [2, 7])] : List Mk).map markD), _) from rfl))) z7)))))) ?_
    refine Eq.trans (St.seq (St.pass (St.nt (St.trB (St.callF (St.ac (St.callF (St.ac (St.op (St.vr rfl) St.cs (ix_st3 s0)) (St.a1 (show mTup _ _ = .ok (.tuple (([(2, 8), (5, 1), (7, 0)] : List (Int × Int)).map prD), _) from rfl))) a8) (St.a1 (show mTup _ _ = .ok (.tuple (([(0, [1]), (1, []), (1, [8, 0])] : List Mk).map markD), _) from rfl))) z8))))) ?_
    exact St.ret (St.andT (St.callF (St.ac (St.callF (St.ac (show mTup _ _ = .ok (.tuple (([(0, [2]), (0, [5])] : List Mk).map markD), _) from rfl) (St.a1 (show mTup _ _ = .ok (.tuple (([(2, 9), (5, 1)] : List (Int × Int)).map prD), _) from rfl))) a9) (St.a1 (show mTup _ _ = .ok (.tuple (([(0, [1]), (0, [9])] : List Mk).map markD), _) from rfl))) z9) (St.callF (St.ac (St.callF (St.ac (St.op (St.vr rfl) St.cs (ix_st3 s0)) (St.a1 St.cs)) a10) (St.a1 (show mTup _ _ = .ok (.tuple (([(3, [5]), (4, []), (4, [2, 7])] : List Mk).map markD), _) from rfl))) z10))
  obtain ⟨ρ1, fin⟩ := fin
  exact St.runF_rt rfl fin
end Lw

set_option maxRecDepth 100000
set_option autoImplicit false
set_option maxHeartbeats 0
namespace Lw
open PySem PySem.Spec PyProof.Rows L2 Dt Dt.R
theorem facts {P : Program} {w : World} {K : Fg} {h : Heap} {mg : Str → Option Value} {f : Addr} (X : K.In h) (G : h.Ns mainGlobals mg) (hfa : mg ("law" : Str) = some (.ref f)) (c : He.SaysX fal fnl [] [] exl w h K) :
    ∃ fd : FuncData, (∀ (s : Shared) (v : Value), BindsTo s fd ⟨[v], []⟩ [("script", v)]) ∧ ∀ base : Heap, K.In base → base.Ns mainGlobals mg → FnOk P w K mg base (L2.CX P w) 14 f fd ["script"] (spP K mg m_law) := by
  have Z : Fz K mg := ⟨⟨h, X, G⟩, c.t.d⟩
  have hx : exl K = true := c.more
  have Zc : Cn K mg := ⟨trivial⟩
  have e := hfa.symm.trans (Fx.glo Z 38)
  cases e
  have b := FunD.bindsA (ps := ["script"]) (F_law Z) fun _ _ _ _ _ _ us hl => match us, hl with | [_], _ => rfl
  exact ⟨fd_law Z, fun s v => b s [v] rfl, fun base _ _ => ok_law Z Zc⟩

end Lw

open PySem PySem.W PySem.Calls PyProof.Rows
theorem PySem.Challenge.cw_meetingsjoin_k22_marks_and_their_tags_holds : PySem.Challenge.rw_meetingsjoin_k22_marks_and_their_tags.Holds := by
  w_on; o_law
  refine HandSHeadRun.head_any (r := OpenLaw.row PySem.Challenge.rw_meetingsjoin_k22_marks_and_their_tags) (q := view (OpenLaw.row PySem.Challenge.rw_meetingsjoin_k22_marks_and_their_tags).prog [30]) (H := Lw.hk) (ob := Lw.ob) (M := 3500) (loose := Lw.loose) (d := HandSHeadRun.topDef (OpenLaw.row PySem.Challenge.rw_meetingsjoin_k22_marks_and_their_tags).prog 30) (kwd := []) Lw.ob_eq
    (by kernel_rfl) (fun s => by kernel_rfl) Lw.run (by kernel_rfl) (by kernel_rfl) (by kernel_rfl) (by rfl) (by first | assumption | decide +kernel) (by decide +kernel) ⟨rfl, rfl, rfl, rfl, rfl, by decide +kernel⟩ ?hw ?hc
  case hw => w_witness2
  case hc =>
    refine Dt.walkW (l := PySem.Challenge.rw_meetingsjoin_k22_marks_and_their_tags) (m := 63) (k := 14) (y := "script") (C := fun w => L2.CX (PySem.Challenge.rw_meetingsjoin_k22_marks_and_their_tags).prog w) rfl (by decide) (by kernel_rfl) ⟨rfl, by decide, by decide⟩ ?F (fun w => Dt.cx_no)
    intro w mg fa h Y G hmg0
    obtain ⟨K, KX, c⟩ := Y
    have hmg : mg ("law" : PySem.Str) = some (.ref fa) := by
      have e : (HandSHeadRun.topDef (OpenLaw.row PySem.Challenge.rw_meetingsjoin_k22_marks_and_their_tags).prog 30).name = ("law" : PySem.Str) := by kernel_rfl
      rw [← e]
      exact hmg0
    obtain ⟨fd, hb, hF⟩ := Lw.facts (P := (PySem.Challenge.rw_meetingsjoin_k22_marks_and_their_tags).prog) (w := w) KX G hmg c
    exact ⟨K, fd, _, KX, hb, fun H a ns hl hS => Dt.law_start hS (Lw.law_ok ns hl), hF⟩

