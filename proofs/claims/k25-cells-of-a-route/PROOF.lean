import PyProof.Rows.All
import Wide.All
import OpenK.AllK
import Wide.FinOn
import HandS.ForMost
import HandS.ForExc
import HandS.Wide
import KE.KSortTupG
import HandS.Sort
import HandS.ForSpec
import HandS.RaiseMore
import HandS.IsInst
import HandS.ExcIs
import HandS.TryMany
import HandS.Rev
import HandS.RevTup
import HandS.Iter
import HandS.Dict
import HandS.Defaults
import HandS.TupLe
import HandS.Deep
import HandS.SuiteRaise
import HandS.RaiseFrom
import PySem.Challenge.RW_kerbmark_k25_cells_of_a_route_in_one_for
set_option Elab.async false
set_option linter.all false
set_option maxRecDepth 100000
set_option maxHeartbeats 4000000
set_option synthInstance.maxSize 4000
/-! Kb: typed representation, colours, mirrored results -/
namespace Kb
open PySem L2

/-! ### colours: whose an address is (none: frozen, some r: of the structure rooted at r) -/
abbrev Cl := Addr → Option Addr
def setC (c : Cl) (p : Addr) (o : Option Addr) : Cl := fun a => if a = p then o else c a
theorem setC_same {c : Cl} {p : Addr} {o : Option Addr} : setC c p o p = o := by unfold setC; rw [if_pos rfl]
theorem setC_ne {c : Cl} {p a : Addr} {o : Option Addr} (h : a ≠ p) : setC c p o a = c a := by unfold setC; rw [if_neg h]
def Wf (c : Cl) (H : Hp) : Prop := ∀ a o r, H a = some o → c a = some r → ∃ u, H r = some u

/-- the frozen part has grown -/
structure Up (c : Cl) (H : Hp) (c' : Cl) (H' : Hp) : Prop where
  obj : ∀ a o, H a = some o → c a = none → H' a = some o
  col : ∀ a o, H a = some o → c a = none → c' a = none
theorem Up.refl (c : Cl) (H : Hp) : Up c H c H := ⟨fun _ _ h _ => h, fun _ _ _ h => h⟩
theorem Up.trans {c H c1 H1 c2 H2} (a : Up c H c1 H1) (b : Up c1 H1 c2 H2) : Up c H c2 H2 :=
  ⟨fun x o h k => b.obj x o (a.obj x o h k) (a.col x o h k), fun x o h k => b.col x o (a.obj x o h k) (a.col x o h k)⟩

/-- a step that touches the structures rooted in S alone -/
structure Step (S : List Addr) (c : Cl) (H : Hp) (c' : Cl) (H' : Hp) : Prop where
  keep : ∀ a o, H a = some o → (∀ r, c a = some r → r ∉ S) → H' a = some o
  col : ∀ a o, H a = some o → c' a = c a
  live : ∀ a o, H a = some o → ∃ u, H' a = some u
  wf : Wf c' H'
  wf0 : Wf c H
theorem Step.refl {S : List Addr} {c : Cl} {H : Hp} (w : Wf c H) : Step S c H c H := ⟨fun _ _ h _ => h, fun _ _ _ => rfl, fun _ o h => ⟨o, h⟩, w, w⟩
theorem Step.up {S c H c' H'} (g : Step S c H c' H') : Up c H c' H' :=
  ⟨fun a o h k => g.keep a o h (fun r e => by rw [k] at e; cases e), fun a o h k => (g.col a o h).trans k⟩
theorem Step.fresh {S c H c' H'} (g : Step S c H c' H') {p : Addr} (h : H' p = none) : H p = none := by
  cases e : H p with
  | none => rfl
  | some o => obtain ⟨u, q⟩ := g.live p o e; rw [h] at q; cases q
/-- one more: T's roots are S's or fresh ones -/
theorem Step.trans {S T : List Addr} {c H c1 H1 c2 H2} (a : Step S c H c1 H1) (b : Step T c1 H1 c2 H2) (t : ∀ r ∈ T, r ∈ S ∨ H r = none) : Step S c H c2 H2 where
  keep x o h k := by
    refine b.keep x o (a.keep x o h k) fun r e hr => ?_
    rw [a.col x o h] at e
    rcases t r hr with q | q
    · exact k r e q
    · obtain ⟨u, z⟩ := a.wf0 x o r h e; rw [q] at z; cases z
  col x o h := by
    obtain ⟨u, q⟩ := a.live x o h
    rw [b.col x u q, a.col x o h]
  live x o h := by
    obtain ⟨u, q⟩ := a.live x o h
    exact b.live x u q
  wf := b.wf
  wf0 := a.wf0
theorem Step.tr0 {S : List Addr} {c H c1 H1 c2 H2} (a : Step S c H c1 H1) (b : Step [] c1 H1 c2 H2) : Step S c H c2 H2 := a.trans b fun _ h => by cases h
theorem Step.tr1 {S : List Addr} {p : Addr} {c H c1 H1 c2 H2} (a : Step S c H c1 H1) (b : Step [p] c1 H1 c2 H2) (n : p ∈ S ∨ H p = none) : Step S c H c2 H2 := a.trans b fun r h => by
  rcases List.mem_singleton.mp h with rfl
  exact n
theorem Step.weak {S T : List Addr} {c H c1 H1} (a : Step S c H c1 H1) (h : ∀ r ∈ S, r ∈ T) : Step T c H c1 H1 := ⟨fun x o e k => a.keep x o e fun r q z => k r q (h r z), a.col, a.live, a.wf, a.wf0⟩

/-- a new object at p with the colour o -/
theorem Step.new {c : Cl} {H : Hp} (w : Wf c H) {p : Addr} {u : HO} {o : Option Addr} (n : H p = none) (ho : ∀ r, o = some r → r = p ∨ ∃ v, H r = some v) : Step [] c H (setC c p o) (upd H p u) where
  keep a x h _ := by rw [upd_ne (ne_of_none h n)]; exact h
  col a x h := setC_ne (ne_of_none h n)
  live a x h := ⟨x, by rw [upd_ne (ne_of_none h n)]; exact h⟩
  wf := by
    intro a x r h e
    by_cases ea : a = p
    · subst ea
      rw [setC_same] at e
      rcases ho r e with rfl | ⟨v, q⟩
      · exact ⟨u, upd_same⟩
      · exact ⟨v, by rw [upd_ne (ne_of_none q n)]; exact q⟩
    · rw [upd_ne ea] at h
      rw [setC_ne ea] at e
      obtain ⟨v, q⟩ := w a x r h e
      exact ⟨v, by rw [upd_ne (ne_of_none q n)]; exact q⟩
  wf0 := w
/-- the object at p, of the structure r, is changed -/
theorem Step.mut {c : Cl} {H : Hp} (w : Wf c H) {p r : Addr} {u v : HO} (h : H p = some u) (hc : c p = some r) : Step [r] c H c (upd H p v) where
  keep a x e k := by
    by_cases ea : a = p
    · subst ea; exact absurd (List.mem_singleton.mpr rfl) (k r hc)
    · rw [upd_ne ea]; exact e
  col a x e := rfl
  live a x e := by
    by_cases ea : a = p
    · subst ea; exact ⟨v, upd_same⟩
    · exact ⟨x, by rw [upd_ne ea]; exact e⟩
  wf := by
    intro a x s e q
    have : ∃ x', H a = some x' := by
      by_cases ea : a = p
      · subst ea; exact ⟨u, h⟩
      · rw [upd_ne ea] at e; exact ⟨x, e⟩
    obtain ⟨x', e'⟩ := this
    obtain ⟨z, q'⟩ := w a x' s e' q
    by_cases es : s = p
    · subst es; exact ⟨v, upd_same⟩
    · exact ⟨z, by rw [upd_ne es]; exact q'⟩
  wf0 := w
/-- the structure rooted at p is frozen -/
def frz (c : Cl) (p : Addr) : Cl := fun a => if c a = some p then none else c a
theorem frz_none {c : Cl} {p a : Addr} (h : c a = none) : frz c p a = none := by unfold frz; split <;> simp_all
theorem frz_self {c : Cl} {p a : Addr} (h : c a = some p) : frz c p a = none := by unfold frz; rw [if_pos h]
theorem frz_ne {c : Cl} {p a q : Addr} (h : c a = some q) (n : q ≠ p) : frz c p a = some q := by
  unfold frz
  rw [if_neg (by rw [h]; intro e; exact n (Option.some.inj e))]
  exact h
theorem frz_wf {c : Cl} {H : Hp} {p : Addr} (w : Wf c H) : Wf (frz c p) H := fun a o r h e => by
  unfold frz at e
  split at e
  · cases e
  · exact w a o r h e
theorem frz_up {c : Cl} {H : Hp} {p : Addr} : Up c H (frz c p) H := ⟨fun _ _ h _ => h, fun _ _ _ h => frz_none h⟩
theorem Step.frz {S c0 H0 c H} {p : Addr} (g : Step S c0 H0 c H) (n : H0 p = none) : Step S c0 H0 (frz c p) H where
  keep := g.keep
  col a o h := by
    have e := g.col a o h
    unfold Kb.frz
    split
    · rename_i q
      rw [e] at q
      obtain ⟨u, z⟩ := g.wf0 a o p h q
      rw [n] at z; cases z
    · exact e
  live := g.live
  wf := frz_wf g.wf
  wf0 := g.wf0

/-! ### mirrored results -/
inductive Err where
  | ratio | ground | route | off | name | dup | unk | edn | gone | use | event | unkEvent | command
  deriving DecidableEq, Repr
inductive Res (α : Type) where
  | ok (x : α) | err (e : Err) | stk
  deriving DecidableEq, Repr
/-- what a turn of a loop comes to: the next turn's state, or the def's end -/
inductive Ctl (σ ρ : Type) where
  | nx (s : σ) | ret (r : ρ)
  deriving DecidableEq, Repr
def Res.bind {α β : Type} (m : Res α) (f : α → Res β) : Res β := match m with
  | .ok x => f x
  | .err e => .err e
  | .stk => .stk
@[simp] theorem bind_ok {α β : Type} {x : α} {f : α → Res β} : (Res.ok x).bind f = f x := rfl
@[simp] theorem bind_err {α β : Type} {e : Err} {f : α → Res β} : (Res.err e : Res α).bind f = .err e := rfl
@[simp] theorem bind_stk {α β : Type} {f : α → Res β} : (Res.stk : Res α).bind f = .stk := rfl
theorem bind_assoc {α β γ : Type} {m : Res α} {f : α → Res β} {g : β → Res γ} : (m.bind f).bind g = m.bind fun x => (f x).bind g := by cases m <;> rfl
/-- a side condition -/
def chk {α : Type} (b : Bool) (r : Res α) : Res α := if b = true then r else .stk
@[simp] theorem chk_true {α : Type} {r : Res α} : chk true r = r := rfl
@[simp] theorem chk_false {α : Type} {r : Res α} : chk false r = .stk := rfl
theorem chk_of {α : Type} {b : Bool} {r : Res α} (h : b = true) : chk b r = r := by rw [h]; rfl
/-- a place that must be there -/
def opt {α β : Type} (o : Option α) (f : α → Res β) : Res β := match o with
  | some x => f x
  | none => .stk
@[simp] theorem opt_some {α β : Type} {x : α} {f : α → Res β} : opt (some x) f = f x := rfl
@[simp] theorem opt_none {α β : Type} {f : α → Res β} : opt (none : Option α) f = .stk := rfl
theorem opt_of {α β : Type} {o : Option α} {x : α} {f : α → Res β} (h : o = some x) : opt o f = f x := by rw [h]; rfl
/-- a name for a value -/
def lt {α β : Type} (x : α) (f : α → β) : β := f x
@[simp] theorem lt_eq {α β : Type} {x : α} {f : α → β} : lt x f = f x := rfl
/-- a test -/
def br {α : Type} (b : Bool) (x y : Res α) : Res α := if b = true then x else y
@[simp] theorem br_true {α : Type} {x y : Res α} : br true x y = x := rfl
@[simp] theorem br_false {α : Type} {x y : Res α} : br false x y = y := rfl
/-- a for loop without a return in it -/
def forN {α σ : Type} : List α → σ → (σ → α → Res σ) → Res σ
  | [], s, _ => .ok s
  | x :: xs, s, f => (f s x).bind fun s' => forN xs s' f
@[simp] theorem forN_nil {α σ : Type} {s : σ} {f : σ → α → Res σ} : forN [] s f = .ok s := rfl
@[simp] theorem forN_cons {α σ : Type} {x : α} {xs : List α} {s : σ} {f : σ → α → Res σ} : forN (x :: xs) s f = (f s x).bind fun s' => forN xs s' f := rfl
/-- a for loop with a return in it -/
def forR {α σ ρ : Type} : List α → σ → (σ → α → Res (Ctl σ ρ)) → Res (Ctl σ ρ)
  | [], s, _ => .ok (.nx s)
  | x :: xs, s, f => (f s x).bind fun c => match c with
    | .nx s' => forR xs s' f
    | .ret r => .ok (.ret r)
@[simp] theorem forR_nil {α σ ρ : Type} {s : σ} {f : σ → α → Res (Ctl σ ρ)} : forR [] s f = .ok (.nx s) := rfl
theorem forR_cons {α σ ρ : Type} {x : α} {xs : List α} {s : σ} {f : σ → α → Res (Ctl σ ρ)} : forR (x :: xs) s f = (f s x).bind fun c => match c with
    | .nx s' => forR xs s' f
    | .ret r => .ok (.ret r) := rfl
/-- behind a loop: its state, or its return handed on -/
def ctl {σ ρ β : Type} (c : Ctl σ ρ) (f : σ → Res β) (g : ρ → Res β) : Res β := match c with
  | .nx s => f s
  | .ret r => g r
@[simp] theorem ctl_nx {σ ρ β : Type} {s : σ} {f : σ → Res β} {g : ρ → Res β} : ctl (.nx s) f g = f s := rfl
@[simp] theorem ctl_ret {σ ρ β : Type} {r : ρ} {f : σ → Res β} {g : ρ → Res β} : ctl (.ret r) f g = g r := rfl
/-- a while loop, with fuel; the test may be stuck -/
def whileN {σ : Type} : Nat → σ → (σ → Res Bool) → (σ → Res σ) → Res σ
  | 0, _, _, _ => .stk
  | n + 1, s, t, f => (t s).bind fun b => br b ((f s).bind fun s' => whileN n s' t f) (.ok s)
/-- no error is let out -/
def nx {α : Type} (m : Res α) : Res α := match m with
  | .ok x => .ok x
  | .err _ => .stk
  | .stk => .stk
@[simp] theorem nx_ok {α : Type} {x : α} : nx (.ok x) = .ok x := rfl
/-- a comprehension -/
def compN {α β : Type} : List α → (α → Res β) → Res (List β)
  | [], _ => .ok []
  | x :: xs, f => (nx (f x)).bind fun y => (compN xs f).bind fun ys => .ok (y :: ys)
/-- a comprehension with a test -/
def compF {α β : Type} : List α → (α → Res (Option β)) → Res (List β)
  | [], _ => .ok []
  | x :: xs, f => (nx (f x)).bind fun y => (compF xs f).bind fun ys => .ok (match y with | some z => z :: ys | none => ys)
/-- try: an error of ours is handed to the clause if it takes it -/
def tryN {α : Type} (m : Res α) (h : Err → Option (Res α)) : Res α := match m with
  | .ok x => .ok x
  | .err e => (h e).getD (.err e)
  | .stk => .stk
@[simp] theorem tryN_ok {α : Type} {x : α} {h : Err → Option (Res α)} : tryN (.ok x) h = .ok x := rfl
@[simp] theorem tryN_err {α : Type} {e : Err} {h : Err → Option (Res α)} : tryN (.err e : Res α) h = (h e).getD (.err e) := rfl

/-- try: body, one clause, what follows -/
def tryM {τ γ : Type} (m : Res τ) (h : Err → Option (Res γ)) (f : τ → Res γ) : Res γ := match m with
  | .ok s => f s
  | .err e => (h e).getD (.err e)
  | .stk => .stk
@[simp] theorem tryM_ok {τ γ : Type} {s : τ} {h : Err → Option (Res γ)} {f : τ → Res γ} : tryM (.ok s) h f = f s := rfl
@[simp] theorem tryM_err {τ γ : Type} {e : Err} {h : Err → Option (Res γ)} {f : τ → Res γ} : tryM (.err e : Res τ) h f = (h e).getD (.err e) := rfl
/-- what is wanted behind a mirrored result: from the base (c0, H0) on -/
def Kont {α : Type} (P : α → Cl → Hp → Prop) (PE : Err → Cl → Hp → Prop) (S : List Addr) (c0 : Cl) (H0 : Hp) : Res α → Prop
  | .ok y => ∀ c H, Step S c0 H0 c H → P y c H
  | .err e => ∀ c H, Step S c0 H0 c H → PE e c H
  | .stk => False
section
variable {α β : Type} {P : β → Cl → Hp → Prop} {PE : Err → Cl → Hp → Prop} {S : List Addr} {c0 : Cl} {H0 : Hp}
theorem Kont.chk {b : Bool} {r : Res β} (k : Kont P PE S c0 H0 (Kb.chk b r)) : b = true ∧ Kont P PE S c0 H0 r := by
  cases b with
  | true => exact ⟨rfl, k⟩
  | false => exact k.elim
theorem Kont.opt {o : Option α} {f : α → Res β} (k : Kont P PE S c0 H0 (Kb.opt o f)) : ∃ x, o = some x ∧ Kont P PE S c0 H0 (f x) := by
  cases o with
  | some x => exact ⟨x, rfl, k⟩
  | none => exact k.elim
theorem Kont.lt {x : α} {f : α → Res β} (k : Kont P PE S c0 H0 (Kb.lt x f)) : Kont P PE S c0 H0 (f x) := k
theorem Kont.brT {b : Bool} {x y : Res β} (k : Kont P PE S c0 H0 (Kb.br b x y)) (h : b = true) : Kont P PE S c0 H0 x := by subst h; exact k
theorem Kont.brF {b : Bool} {x y : Res β} (k : Kont P PE S c0 H0 (Kb.br b x y)) (h : b = false) : Kont P PE S c0 H0 y := by subst h; exact k
theorem Kont.bindT {m : Res α} {f : α → Res β} (k : Kont P PE S c0 H0 (m.bind f)) : Kont (fun y _ _ => Kont P PE S c0 H0 (f y)) (fun e _ _ => ∀ c H, Step S c0 H0 c H → PE e c H) S c0 H0 m := by
  cases m with
  | ok x => exact fun _ _ _ => k
  | err e => exact fun _ _ _ => k
  | stk => exact k.elim
/-- a call: what the callee's result is to bring -/
theorem Kont.call {m : Res α} {f : α → Res β} {T : List Addr} {c : Cl} {H : Hp} (k : Kont P PE S c0 H0 (m.bind f)) (g : Step S c0 H0 c H) (t : ∀ r ∈ T, r ∈ S ∨ H0 r = none) {Pc : α → Cl → Hp → Prop} {PEc : Err → Cl → Hp → Prop}
    (h : ∀ y, m = .ok y → Kont P PE S c0 H0 (f y) → ∀ c' H', Step T c H c' H' → Step S c0 H0 c' H' → Pc y c' H') (he : ∀ e, m = .err e → ∀ c' H', Step T c H c' H' → Step S c0 H0 c' H' → PE e c' H' → PEc e c' H') : Kont Pc PEc T c H m := by
  cases m with
  | ok x => exact fun c' H' st => h x rfl k c' H' st (g.trans st t)
  | err e => exact fun c' H' st => he e rfl c' H' st (g.trans st t) (k c' H' (g.trans st t))
  | stk => exact k.elim
theorem Kont.nx {m : Res α} {P : α → Cl → Hp → Prop} (k : Kont P PE S c0 H0 (Kb.nx m)) : Kont P (fun _ _ _ => False) S c0 H0 m := by
  cases m with
  | ok x => exact k
  | err e => exact k.elim
  | stk => exact k.elim
/-- a call of what raises nothing -/
theorem Kont.call0 {m : Res α} {f : α → Res β} {T : List Addr} {c : Cl} {H : Hp} (k : Kont P PE S c0 H0 ((Kb.nx m).bind f)) (g : Step S c0 H0 c H) (t : ∀ r ∈ T, r ∈ S ∨ H0 r = none) {Pc : α → Cl → Hp → Prop}
    (h : ∀ y, m = .ok y → Kont P PE S c0 H0 (f y) → ∀ c' H', Step T c H c' H' → Step S c0 H0 c' H' → Pc y c' H') : Kont Pc (fun _ _ _ => False) T c H m := by
  cases m with
  | ok x => exact fun c' H' st => h x rfl k c' H' st (g.trans st t)
  | err e => exact k.elim
  | stk => exact k.elim
theorem Kont.tryM {m : Res α} {h : Err → Option (Res β)} {f : α → Res β} (k : Kont P PE S c0 H0 (Kb.tryM m h f)) : Kont (fun s _ _ => Kont P PE S c0 H0 (f s)) (fun e _ _ => Kont P PE S c0 H0 ((h e).getD (.err e))) S c0 H0 m := by
  cases m with
  | ok x => exact fun _ _ _ => k
  | err e => exact fun _ _ _ => k
  | stk => exact k.elim
theorem Kont.imp {m : Res β} {P' : β → Cl → Hp → Prop} {PE' : Err → Cl → Hp → Prop} (k : Kont P PE S c0 H0 m) (h : ∀ y c H, Step S c0 H0 c H → P y c H → P' y c H) (he : ∀ e c H, Step S c0 H0 c H → PE e c H → PE' e c H) : Kont P' PE' S c0 H0 m := by
  cases m with
  | ok x => exact fun c H g => h _ _ _ g (k c H g)
  | err e => exact fun c H g => he _ _ _ g (k c H g)
  | stk => exact k.elim
theorem Kont.done {y : β} {c : Cl} {H : Hp} (k : Kont P PE S c0 H0 (.ok y)) (g : Step S c0 H0 c H) : P y c H := k c H g
theorem Kont.fail {e : Err} {c : Cl} {H : Hp} (k : Kont P PE S c0 H0 (.err e : Res β)) (g : Step S c0 H0 c H) : PE e c H := k c H g
end
end Kb
namespace Kb
open PySem L2

theorem rd_some {H : Hp} {a : Addr} {o : HO} (h : Rd H a o) : ∃ u, H a = some u := by
  rcases h with h | ⟨u, h⟩
  · exact ⟨_, h⟩
  · exact ⟨_, h⟩
theorem Up.rd {c H c' H'} (g : Up c H c' H') {a : Addr} {o : HO} (k : c a = none) (h : Rd H a o) : Rd H' a o := by
  rcases h with h | ⟨u, h⟩
  · exact .inl (g.obj a _ h k)
  · exact .inr ⟨u, g.obj a _ h k⟩
theorem Up.colR {c H c' H'} (g : Up c H c' H') {a : Addr} {o : HO} (k : c a = none) (h : Rd H a o) : c' a = none := by
  obtain ⟨u, e⟩ := rd_some h
  exact g.col a u e k
/-- a kind of data: how a value in the heap stands for it; its data -/
structure Ty (α : Type) [DecidableEq α] where
  r : Cl → Hp → V → α → Prop
  up : ∀ {c H c' H' v x}, Up c H c' H' → r c H v x → r c' H' v x
  enc : α → PyData
  /-- above 64: no data (objects, dicts) -/
  dep : Nat
  dp : dep ≤ 64 → ∀ {K : PySem.W.Frag} {c H v x}, r c H v x → Dp K H v (enc x)
  lay : dep ≤ 64 → ∀ {c H v x}, r c H v x → (enc x).canLay0 = true
  hdep : dep ≤ 64 → ∀ x, (enc x).depth ≤ dep
  eqv : dep ≤ 64 → ∀ x y, PyData.eqv (enc x) (enc y) = decide (x = y)
def tyI : Ty Int where
  r _ _ v x := v = .int x
  up _ h := h
  enc x := .int x
  dp _ {_} {_} {_} {_} {_} h := by subst h; exact .int _
  lay _ {_} {_} {_} {_} _ := rfl
  dep := 0
  hdep _ _ := Nat.le_refl _
  eqv _ x y := by simp only [PyData.eqv]; rw [Bool.eq_iff_iff]; simp
def tyB : Ty Bool where
  r _ _ v x := v = .bl x
  up _ h := h
  enc x := .bool x
  dp _ {_} {_} {_} {_} {_} h := by subst h; exact .bl _
  lay _ {_} {_} {_} {_} _ := rfl
  dep := 0
  hdep _ _ := Nat.le_refl _
  eqv _ x y := by simp only [PyData.eqv]; rw [Bool.eq_iff_iff]; simp
def tyS : Ty Str where
  r _ _ v x := v = .str x ∧ PyData.strOk x = true
  up _ h := h
  enc x := .str x
  dp _ {_} {_} {_} {_} {_} h := by obtain ⟨h, _⟩ := h; subst h; exact .str _
  lay _ {_} {_} {_} {_} h := h.2
  dep := 0
  hdep _ _ := Nat.le_refl _
  eqv _ x y := by simp only [PyData.eqv]; rw [Bool.eq_iff_iff]; simp
def tyU : Ty Unit where
  r _ _ v _ := v = .non
  up _ h := h
  enc _ := .none
  dp _ {_} {_} {_} {_} {_} h := by subst h; exact .non
  lay _ {_} {_} {_} {_} _ := rfl
  dep := 0
  hdep _ _ := Nat.le_refl _
  eqv _ x y := by simp only [PyData.eqv]; simp
/-- None or a thing -/
def tyO {α : Type} [DecidableEq α] (A : Ty α) (hn : A.dep ≤ 64 → ∀ x, PyData.eqv (A.enc x) .none = false ∧ PyData.eqv .none (A.enc x) = false) (hv : ∀ c H x, ¬ A.r c H .non x) : Ty (Option α) where
  r c H v x := match x with
    | none => v = .non
    | some y => A.r c H v y
  up {c H c' H' v x} g h := by
    cases x with
    | none => exact h
    | some y => exact A.up g h
  enc x := match x with
    | none => .none
    | some y => A.enc y
  dep := A.dep
  dp hd {K c H v x} h := by
    cases x with
    | none => have e : v = .non := h; subst e; exact .non
    | some y => exact A.dp hd h
  lay hd {c H v x} h := by
    cases x with
    | none => rfl
    | some y => exact A.lay hd h
  hdep hd x := by
    cases x with
    | none => exact Nat.zero_le _
    | some y => exact A.hdep hd y
  eqv hd x y := by
    cases x with
    | none =>
      cases y with
      | none => simp [PyData.eqv]
      | some y => simp [(hn hd y).2]
    | some x =>
      cases y with
      | none => simp [(hn hd x).1]
      | some y => simp [A.eqv hd]
/-- a list's values stand for the data -/
def Rs {α : Type} [DecidableEq α] (A : Ty α) (c : Cl) (H : Hp) : List V → List α → Prop
  | [], [] => True
  | u :: us, x :: xs => A.r c H u x ∧ Rs A c H us xs
  | _, _ => False
section
variable {α : Type} [DecidableEq α] {A : Ty α} {c c' : Cl} {H H' : Hp}
theorem Rs.len : ∀ {us : List V} {xs : List α}, Rs A c H us xs → us.length = xs.length
  | [], [], _ => rfl
  | _ :: us, _ :: xs, h => by rw [List.length_cons, List.length_cons, Rs.len h.2]
  | [], _ :: _, h => h.elim
  | _ :: _, [], h => h.elim
theorem Rs.up (g : Up c H c' H') : ∀ {us : List V} {xs : List α}, Rs A c H us xs → Rs A c' H' us xs
  | [], [], _ => trivial
  | _ :: _, _ :: _, h => ⟨A.up g h.1, Rs.up g h.2⟩
  | [], _ :: _, h => h.elim
  | _ :: _, [], h => h.elim
theorem Rs.app : ∀ {us vs : List V} {xs ys : List α}, Rs A c H us xs → Rs A c H vs ys → Rs A c H (us ++ vs) (xs ++ ys)
  | [], _, [], _, _, h => h
  | _ :: _, _, _ :: _, _, h, k => ⟨h.1, Rs.app h.2 k⟩
  | [], _, _ :: _, _, h, _ => h.elim
  | _ :: _, _, [], _, h, _ => h.elim
theorem Rs.get : ∀ {us : List V} {xs : List α} {i : Nat} {u : V}, Rs A c H us xs → us[i]? = some u → ∃ x, xs[i]? = some x ∧ A.r c H u x
  | [], [], _, _, _, e => by simp at e
  | u :: us, x :: xs, 0, v, h, e => by
    have e' : u = v := by simpa using e
    subst e'
    exact ⟨x, rfl, h.1⟩
  | u :: us, x :: xs, i + 1, v, h, e => by
    obtain ⟨y, e1, r⟩ := Rs.get (i := i) (u := v) h.2 (by simpa using e)
    exact ⟨y, by simpa using e1, r⟩
  | [], _ :: _, _, _, h, _ => h.elim
  | _ :: _, [], _, _, h, _ => h.elim
theorem Rs.getX : ∀ {us : List V} {xs : List α} {i : Nat} {x : α}, Rs A c H us xs → xs[i]? = some x → ∃ u, us[i]? = some u ∧ A.r c H u x
  | [], [], _, _, _, e => by simp at e
  | u :: us, x :: xs, 0, y, h, e => by
    have e' : x = y := by simpa using e
    subst e'
    exact ⟨u, rfl, h.1⟩
  | u :: us, x :: xs, i + 1, y, h, e => by
    obtain ⟨v, e1, r⟩ := Rs.getX (i := i) (x := y) h.2 (by simpa using e)
    exact ⟨v, by simpa using e1, r⟩
  | [], _ :: _, _, _, h, _ => h.elim
  | _ :: _, [], _, _, h, _ => h.elim
theorem Rs.set {u : V} {x : α} (r : A.r c H u x) : ∀ {us : List V} {xs : List α} (i : Nat), Rs A c H us xs → Rs A c H (us.set i u) (xs.set i x)
  | [], [], _, _ => trivial
  | _ :: _, _ :: _, 0, h => ⟨r, h.2⟩
  | _ :: _, _ :: _, i + 1, h => ⟨h.1, Rs.set r i h.2⟩
  | [], _ :: _, _, h => h.elim
  | _ :: _, [], _, h => h.elim
theorem Rs.drop : ∀ {us : List V} {xs : List α} (n : Nat), Rs A c H us xs → Rs A c H (us.drop n) (xs.drop n)
  | _, _, 0, h => h
  | [], [], _ + 1, _ => trivial
  | _ :: _, _ :: _, n + 1, h => Rs.drop n h.2
  | [], _ :: _, _, h => h.elim
  | _ :: _, [], _, h => h.elim
theorem Rs.take : ∀ {us : List V} {xs : List α} (n : Nat), Rs A c H us xs → Rs A c H (us.take n) (xs.take n)
  | _, _, 0, h => by simp [Rs]
  | [], [], _ + 1, _ => trivial
  | _ :: _, _ :: _, n + 1, h => ⟨h.1, Rs.take n h.2⟩
  | [], _ :: _, _, h => h.elim
  | _ :: _, [], _, h => h.elim
theorem Rs.rev : ∀ {us : List V} {xs : List α}, Rs A c H us xs → Rs A c H us.reverse xs.reverse
  | [], [], _ => trivial
  | _ :: _, _ :: _, h => by
    rw [List.reverse_cons, List.reverse_cons]
    exact Rs.app (Rs.rev h.2) ⟨h.1, trivial⟩
  | [], _ :: _, h => h.elim
  | _ :: _, [], h => h.elim
theorem Rs.dp {K : PySem.W.Frag} (hd : A.dep ≤ 64) : ∀ {us : List V} {xs : List α}, Rs A c H us xs → DpAll K H us (xs.map A.enc)
  | [], [], _ => .nil
  | _ :: _, _ :: _, h => .cons (A.dp hd h.1) (Rs.dp hd h.2)
  | [], _ :: _, h => h.elim
  | _ :: _, [], h => h.elim
theorem Rs.lay (hd : A.dep ≤ 64) : ∀ {us : List V} {xs : List α}, Rs A c H us xs → PyData.canLayAll0 (xs.map A.enc) = true
  | [], [], _ => rfl
  | _ :: _, x :: xs, h => by
    show (PyData.canLay0 (A.enc x) && PyData.canLayAll0 (xs.map A.enc)) = true
    rw [A.lay hd h.1, Rs.lay hd h.2]; rfl
  | [], _ :: _, h => h.elim
  | _ :: _, [], h => h.elim
theorem depAll (A : Ty α) (hd : A.dep ≤ 64) : ∀ xs : List α, PyData.depthAll (xs.map A.enc) ≤ A.dep
  | [] => Nat.zero_le _
  | x :: xs => Nat.max_le.mpr ⟨A.hdep hd x, depAll A hd xs⟩
theorem eqvAll (A : Ty α) (hd : A.dep ≤ 64) : ∀ xs ys : List α, PyData.eqvAll (xs.map A.enc) (ys.map A.enc) = decide (xs = ys)
  | [], [] => rfl
  | [], _ :: _ => rfl
  | _ :: _, [] => rfl
  | x :: xs, y :: ys => by
    show (PyData.eqv (A.enc x) (A.enc y) && PyData.eqvAll (xs.map A.enc) (ys.map A.enc)) = decide (x :: xs = y :: ys)
    rw [A.eqv hd, eqvAll A hd xs ys, Bool.eq_iff_iff]
    simp
end
/-- a frozen list -/
def tyL {α : Type} [DecidableEq α] (A : Ty α) : Ty (List α) where
  r c H v xs := ∃ (a : Addr) (us : List V), v = .ref a ∧ c a = none ∧ H a = some (.lst us) ∧ Rs A c H us xs
  up := fun g ⟨a, us, e, k, q, h⟩ => ⟨a, us, e, g.col a _ q k, g.obj a _ q k, h.up g⟩
  enc xs := .list (xs.map A.enc)
  dep := A.dep + 1
  dp := fun hd _ _ _ _ _ ⟨a, us, e, k, q, h⟩ => by subst e; exact .lst (.inl (.inl q)) (h.dp (Nat.le_of_succ_le hd))
  lay := fun hd _ _ _ _ ⟨a, us, e, k, q, h⟩ => h.lay (Nat.le_of_succ_le hd)
  hdep hd xs := Nat.succ_le_succ (depAll A (Nat.le_of_succ_le hd) xs)
  eqv hd x y := by simp only [PyData.eqv]; exact eqvAll A (Nat.le_of_succ_le hd) x y
def tyT2 {α0 : Type} [DecidableEq α0] {α1 : Type} [DecidableEq α1] (A0 : Ty α0) (A1 : Ty α1) : Ty (α0 × α1) where
  r c H v x := ∃ (a : Addr) (u0 u1 : V), v = .ref a ∧ c a = none ∧ Rd H a (.tup [u0, u1]) ∧ A0.r c H u0 x.1 ∧ A1.r c H u1 x.2
  up := fun g ⟨a, u0, u1, e, k, q, h0, h1⟩ => ⟨a, u0, u1, e, g.colR k q, g.rd k q, A0.up g h0, A1.up g h1⟩
  enc x := .tuple [A0.enc x.1, A1.enc x.2]
  dep := A0.dep+A1.dep + 1
  dp := fun hd _ _ _ _ _ ⟨a, u0, u1, e, k, q, h0, h1⟩ => by subst e; exact .tup (.inl q) (.cons (A0.dp (by omega) h0) (.cons (A1.dp (by omega) h1) (.nil)))
  lay := fun hd _ _ _ _ ⟨a, u0, u1, e, k, q, h0, h1⟩ => by simp [PyData.canLay0, PyData.canLayAll0, A0.lay (by omega) h0, A1.lay (by omega) h1]
  hdep hd x := by
    have h0 := A0.hdep (by omega) x.1
    have h1 := A1.hdep (by omega) x.2
    simp only [PyData.depth, PyData.depthAll]; omega
  eqv hd x y := by
    have e0 := A0.eqv (by omega)
    have e1 := A1.eqv (by omega)
    simp only [PyData.eqv, PyData.eqvAll, Bool.and_true, e0, e1]
    rw [Bool.eq_iff_iff]; simp only [Bool.and_eq_true, decide_eq_true_eq, Prod.ext_iff]
def tyT3 {α0 : Type} [DecidableEq α0] {α1 : Type} [DecidableEq α1] {α2 : Type} [DecidableEq α2] (A0 : Ty α0) (A1 : Ty α1) (A2 : Ty α2) : Ty (α0 × α1 × α2) where
  r c H v x := ∃ (a : Addr) (u0 u1 u2 : V), v = .ref a ∧ c a = none ∧ Rd H a (.tup [u0, u1, u2]) ∧ A0.r c H u0 x.1 ∧ A1.r c H u1 x.2.1 ∧ A2.r c H u2 x.2.2
  up := fun g ⟨a, u0, u1, u2, e, k, q, h0, h1, h2⟩ => ⟨a, u0, u1, u2, e, g.colR k q, g.rd k q, A0.up g h0, A1.up g h1, A2.up g h2⟩
  enc x := .tuple [A0.enc x.1, A1.enc x.2.1, A2.enc x.2.2]
  dep := A0.dep+A1.dep+A2.dep + 1
  dp := fun hd _ _ _ _ _ ⟨a, u0, u1, u2, e, k, q, h0, h1, h2⟩ => by subst e; exact .tup (.inl q) (.cons (A0.dp (by omega) h0) (.cons (A1.dp (by omega) h1) (.cons (A2.dp (by omega) h2) (.nil))))
  lay := fun hd _ _ _ _ ⟨a, u0, u1, u2, e, k, q, h0, h1, h2⟩ => by simp [PyData.canLay0, PyData.canLayAll0, A0.lay (by omega) h0, A1.lay (by omega) h1, A2.lay (by omega) h2]
  hdep hd x := by
    have h0 := A0.hdep (by omega) x.1
    have h1 := A1.hdep (by omega) x.2.1
    have h2 := A2.hdep (by omega) x.2.2
    simp only [PyData.depth, PyData.depthAll]; omega
  eqv hd x y := by
    have e0 := A0.eqv (by omega)
    have e1 := A1.eqv (by omega)
    have e2 := A2.eqv (by omega)
    simp only [PyData.eqv, PyData.eqvAll, Bool.and_true, e0, e1, e2]
    rw [Bool.eq_iff_iff]; simp only [Bool.and_eq_true, decide_eq_true_eq, Prod.ext_iff]
def tyT4 {α0 : Type} [DecidableEq α0] {α1 : Type} [DecidableEq α1] {α2 : Type} [DecidableEq α2] {α3 : Type} [DecidableEq α3] (A0 : Ty α0) (A1 : Ty α1) (A2 : Ty α2) (A3 : Ty α3) : Ty (α0 × α1 × α2 × α3) where
  r c H v x := ∃ (a : Addr) (u0 u1 u2 u3 : V), v = .ref a ∧ c a = none ∧ Rd H a (.tup [u0, u1, u2, u3]) ∧ A0.r c H u0 x.1 ∧ A1.r c H u1 x.2.1 ∧ A2.r c H u2 x.2.2.1 ∧ A3.r c H u3 x.2.2.2
  up := fun g ⟨a, u0, u1, u2, u3, e, k, q, h0, h1, h2, h3⟩ => ⟨a, u0, u1, u2, u3, e, g.colR k q, g.rd k q, A0.up g h0, A1.up g h1, A2.up g h2, A3.up g h3⟩
  enc x := .tuple [A0.enc x.1, A1.enc x.2.1, A2.enc x.2.2.1, A3.enc x.2.2.2]
  dep := A0.dep+A1.dep+A2.dep+A3.dep + 1
  dp := fun hd _ _ _ _ _ ⟨a, u0, u1, u2, u3, e, k, q, h0, h1, h2, h3⟩ => by subst e; exact .tup (.inl q) (.cons (A0.dp (by omega) h0) (.cons (A1.dp (by omega) h1) (.cons (A2.dp (by omega) h2) (.cons (A3.dp (by omega) h3) (.nil)))))
  lay := fun hd _ _ _ _ ⟨a, u0, u1, u2, u3, e, k, q, h0, h1, h2, h3⟩ => by simp [PyData.canLay0, PyData.canLayAll0, A0.lay (by omega) h0, A1.lay (by omega) h1, A2.lay (by omega) h2, A3.lay (by omega) h3]
  hdep hd x := by
    have h0 := A0.hdep (by omega) x.1
    have h1 := A1.hdep (by omega) x.2.1
    have h2 := A2.hdep (by omega) x.2.2.1
    have h3 := A3.hdep (by omega) x.2.2.2
    simp only [PyData.depth, PyData.depthAll]; omega
  eqv hd x y := by
    have e0 := A0.eqv (by omega)
    have e1 := A1.eqv (by omega)
    have e2 := A2.eqv (by omega)
    have e3 := A3.eqv (by omega)
    simp only [PyData.eqv, PyData.eqvAll, Bool.and_true, e0, e1, e2, e3]
    rw [Bool.eq_iff_iff]; simp only [Bool.and_eq_true, decide_eq_true_eq, Prod.ext_iff]
def tyT5 {α0 : Type} [DecidableEq α0] {α1 : Type} [DecidableEq α1] {α2 : Type} [DecidableEq α2] {α3 : Type} [DecidableEq α3] {α4 : Type} [DecidableEq α4] (A0 : Ty α0) (A1 : Ty α1) (A2 : Ty α2) (A3 : Ty α3) (A4 : Ty α4) : Ty (α0 × α1 × α2 × α3 × α4) where
  r c H v x := ∃ (a : Addr) (u0 u1 u2 u3 u4 : V), v = .ref a ∧ c a = none ∧ Rd H a (.tup [u0, u1, u2, u3, u4]) ∧ A0.r c H u0 x.1 ∧ A1.r c H u1 x.2.1 ∧ A2.r c H u2 x.2.2.1 ∧ A3.r c H u3 x.2.2.2.1 ∧ A4.r c H u4 x.2.2.2.2
  up := fun g ⟨a, u0, u1, u2, u3, u4, e, k, q, h0, h1, h2, h3, h4⟩ => ⟨a, u0, u1, u2, u3, u4, e, g.colR k q, g.rd k q, A0.up g h0, A1.up g h1, A2.up g h2, A3.up g h3, A4.up g h4⟩
  enc x := .tuple [A0.enc x.1, A1.enc x.2.1, A2.enc x.2.2.1, A3.enc x.2.2.2.1, A4.enc x.2.2.2.2]
  dep := A0.dep+A1.dep+A2.dep+A3.dep+A4.dep + 1
  dp := fun hd _ _ _ _ _ ⟨a, u0, u1, u2, u3, u4, e, k, q, h0, h1, h2, h3, h4⟩ => by subst e; exact .tup (.inl q) (.cons (A0.dp (by omega) h0) (.cons (A1.dp (by omega) h1) (.cons (A2.dp (by omega) h2) (.cons (A3.dp (by omega) h3) (.cons (A4.dp (by omega) h4) (.nil))))))
  lay := fun hd _ _ _ _ ⟨a, u0, u1, u2, u3, u4, e, k, q, h0, h1, h2, h3, h4⟩ => by simp [PyData.canLay0, PyData.canLayAll0, A0.lay (by omega) h0, A1.lay (by omega) h1, A2.lay (by omega) h2, A3.lay (by omega) h3, A4.lay (by omega) h4]
  hdep hd x := by
    have h0 := A0.hdep (by omega) x.1
    have h1 := A1.hdep (by omega) x.2.1
    have h2 := A2.hdep (by omega) x.2.2.1
    have h3 := A3.hdep (by omega) x.2.2.2.1
    have h4 := A4.hdep (by omega) x.2.2.2.2
    simp only [PyData.depth, PyData.depthAll]; omega
  eqv hd x y := by
    have e0 := A0.eqv (by omega)
    have e1 := A1.eqv (by omega)
    have e2 := A2.eqv (by omega)
    have e3 := A3.eqv (by omega)
    have e4 := A4.eqv (by omega)
    simp only [PyData.eqv, PyData.eqvAll, Bool.and_true, e0, e1, e2, e3, e4]
    rw [Bool.eq_iff_iff]; simp only [Bool.and_eq_true, decide_eq_true_eq, Prod.ext_iff]
def tyT6 {α0 : Type} [DecidableEq α0] {α1 : Type} [DecidableEq α1] {α2 : Type} [DecidableEq α2] {α3 : Type} [DecidableEq α3] {α4 : Type} [DecidableEq α4] {α5 : Type} [DecidableEq α5] (A0 : Ty α0) (A1 : Ty α1) (A2 : Ty α2) (A3 : Ty α3) (A4 : Ty α4) (A5 : Ty α5) : Ty (α0 × α1 × α2 × α3 × α4 × α5) where
  r c H v x := ∃ (a : Addr) (u0 u1 u2 u3 u4 u5 : V), v = .ref a ∧ c a = none ∧ Rd H a (.tup [u0, u1, u2, u3, u4, u5]) ∧ A0.r c H u0 x.1 ∧ A1.r c H u1 x.2.1 ∧ A2.r c H u2 x.2.2.1 ∧ A3.r c H u3 x.2.2.2.1 ∧ A4.r c H u4 x.2.2.2.2.1 ∧ A5.r c H u5 x.2.2.2.2.2
  up := fun g ⟨a, u0, u1, u2, u3, u4, u5, e, k, q, h0, h1, h2, h3, h4, h5⟩ => ⟨a, u0, u1, u2, u3, u4, u5, e, g.colR k q, g.rd k q, A0.up g h0, A1.up g h1, A2.up g h2, A3.up g h3, A4.up g h4, A5.up g h5⟩
  enc x := .tuple [A0.enc x.1, A1.enc x.2.1, A2.enc x.2.2.1, A3.enc x.2.2.2.1, A4.enc x.2.2.2.2.1, A5.enc x.2.2.2.2.2]
  dep := A0.dep+A1.dep+A2.dep+A3.dep+A4.dep+A5.dep + 1
  dp := fun hd _ _ _ _ _ ⟨a, u0, u1, u2, u3, u4, u5, e, k, q, h0, h1, h2, h3, h4, h5⟩ => by subst e; exact .tup (.inl q) (.cons (A0.dp (by omega) h0) (.cons (A1.dp (by omega) h1) (.cons (A2.dp (by omega) h2) (.cons (A3.dp (by omega) h3) (.cons (A4.dp (by omega) h4) (.cons (A5.dp (by omega) h5) (.nil)))))))
  lay := fun hd _ _ _ _ ⟨a, u0, u1, u2, u3, u4, u5, e, k, q, h0, h1, h2, h3, h4, h5⟩ => by simp [PyData.canLay0, PyData.canLayAll0, A0.lay (by omega) h0, A1.lay (by omega) h1, A2.lay (by omega) h2, A3.lay (by omega) h3, A4.lay (by omega) h4, A5.lay (by omega) h5]
  hdep hd x := by
    have h0 := A0.hdep (by omega) x.1
    have h1 := A1.hdep (by omega) x.2.1
    have h2 := A2.hdep (by omega) x.2.2.1
    have h3 := A3.hdep (by omega) x.2.2.2.1
    have h4 := A4.hdep (by omega) x.2.2.2.2.1
    have h5 := A5.hdep (by omega) x.2.2.2.2.2
    simp only [PyData.depth, PyData.depthAll]; omega
  eqv hd x y := by
    have e0 := A0.eqv (by omega)
    have e1 := A1.eqv (by omega)
    have e2 := A2.eqv (by omega)
    have e3 := A3.eqv (by omega)
    have e4 := A4.eqv (by omega)
    have e5 := A5.eqv (by omega)
    simp only [PyData.eqv, PyData.eqvAll, Bool.and_true, e0, e1, e2, e3, e4, e5]
    rw [Bool.eq_iff_iff]; simp only [Bool.and_eq_true, decide_eq_true_eq, Prod.ext_iff]
def tyT7 {α0 : Type} [DecidableEq α0] {α1 : Type} [DecidableEq α1] {α2 : Type} [DecidableEq α2] {α3 : Type} [DecidableEq α3] {α4 : Type} [DecidableEq α4] {α5 : Type} [DecidableEq α5] {α6 : Type} [DecidableEq α6] (A0 : Ty α0) (A1 : Ty α1) (A2 : Ty α2) (A3 : Ty α3) (A4 : Ty α4) (A5 : Ty α5) (A6 : Ty α6) : Ty (α0 × α1 × α2 × α3 × α4 × α5 × α6) where
  r c H v x := ∃ (a : Addr) (u0 u1 u2 u3 u4 u5 u6 : V), v = .ref a ∧ c a = none ∧ Rd H a (.tup [u0, u1, u2, u3, u4, u5, u6]) ∧ A0.r c H u0 x.1 ∧ A1.r c H u1 x.2.1 ∧ A2.r c H u2 x.2.2.1 ∧ A3.r c H u3 x.2.2.2.1 ∧ A4.r c H u4 x.2.2.2.2.1 ∧ A5.r c H u5 x.2.2.2.2.2.1 ∧ A6.r c H u6 x.2.2.2.2.2.2
  up := fun g ⟨a, u0, u1, u2, u3, u4, u5, u6, e, k, q, h0, h1, h2, h3, h4, h5, h6⟩ => ⟨a, u0, u1, u2, u3, u4, u5, u6, e, g.colR k q, g.rd k q, A0.up g h0, A1.up g h1, A2.up g h2, A3.up g h3, A4.up g h4, A5.up g h5, A6.up g h6⟩
  enc x := .tuple [A0.enc x.1, A1.enc x.2.1, A2.enc x.2.2.1, A3.enc x.2.2.2.1, A4.enc x.2.2.2.2.1, A5.enc x.2.2.2.2.2.1, A6.enc x.2.2.2.2.2.2]
  dep := A0.dep+A1.dep+A2.dep+A3.dep+A4.dep+A5.dep+A6.dep + 1
  dp := fun hd _ _ _ _ _ ⟨a, u0, u1, u2, u3, u4, u5, u6, e, k, q, h0, h1, h2, h3, h4, h5, h6⟩ => by subst e; exact .tup (.inl q) (.cons (A0.dp (by omega) h0) (.cons (A1.dp (by omega) h1) (.cons (A2.dp (by omega) h2) (.cons (A3.dp (by omega) h3) (.cons (A4.dp (by omega) h4) (.cons (A5.dp (by omega) h5) (.cons (A6.dp (by omega) h6) (.nil))))))))
  lay := fun hd _ _ _ _ ⟨a, u0, u1, u2, u3, u4, u5, u6, e, k, q, h0, h1, h2, h3, h4, h5, h6⟩ => by simp [PyData.canLay0, PyData.canLayAll0, A0.lay (by omega) h0, A1.lay (by omega) h1, A2.lay (by omega) h2, A3.lay (by omega) h3, A4.lay (by omega) h4, A5.lay (by omega) h5, A6.lay (by omega) h6]
  hdep hd x := by
    have h0 := A0.hdep (by omega) x.1
    have h1 := A1.hdep (by omega) x.2.1
    have h2 := A2.hdep (by omega) x.2.2.1
    have h3 := A3.hdep (by omega) x.2.2.2.1
    have h4 := A4.hdep (by omega) x.2.2.2.2.1
    have h5 := A5.hdep (by omega) x.2.2.2.2.2.1
    have h6 := A6.hdep (by omega) x.2.2.2.2.2.2
    simp only [PyData.depth, PyData.depthAll]; omega
  eqv hd x y := by
    have e0 := A0.eqv (by omega)
    have e1 := A1.eqv (by omega)
    have e2 := A2.eqv (by omega)
    have e3 := A3.eqv (by omega)
    have e4 := A4.eqv (by omega)
    have e5 := A5.eqv (by omega)
    have e6 := A6.eqv (by omega)
    simp only [PyData.eqv, PyData.eqvAll, Bool.and_true, e0, e1, e2, e3, e4, e5, e6]
    rw [Bool.eq_iff_iff]; simp only [Bool.and_eq_true, decide_eq_true_eq, Prod.ext_iff]
theorem tyI_no (x : Int) : PyData.eqv (tyI.enc x) .none = false ∧ PyData.eqv .none (tyI.enc x) = false := by simp [tyI, PyData.eqv]
/-- a list whose own colour does not matter (it is read alone) -/
def rB {α : Type} [DecidableEq α] (K : PySem.W.Frag) (A : Ty α) (c : Cl) (H : Hp) (v : V) (xs : List α) : Prop := ∃ (a : Addr) (us : List V), v = .ref a ∧ SqL K H a us ∧ Rs A c H us xs
/-- the same, a list that stands by itself -/
def rP {α : Type} [DecidableEq α] (A : Ty α) (c : Cl) (H : Hp) (v : V) (xs : List α) : Prop := ∃ (a : Addr) (us : List V), v = .ref a ∧ H a = some (.lst us) ∧ Rs A c H us xs
/-- a list of one's own, rooted at p, not there ahead of H0 -/
structure Own {α : Type} [DecidableEq α] (A : Ty α) (H0 : Hp) (c : Cl) (H : Hp) (p : Addr) (us : List V) (xs : List α) : Prop where
  col : c p = some p
  obj : H p = some (.lst us)
  rs : Rs A c H us xs
  new : H0 p = none
def rO {α : Type} [DecidableEq α] (A : Ty α) (H0 : Hp) (c : Cl) (H : Hp) (v : V) (xs : List α) : Prop := ∃ (p : Addr) (us : List V), v = .ref p ∧ Own A H0 c H p us xs
section
variable {K : PySem.W.Frag} {α : Type} [DecidableEq α] {A : Ty α} {c c' c0 : Cl} {H H' H0 : Hp} {S T : List Addr} {p : Addr} {us : List V} {xs : List α}
theorem tyL_b {v : V} (h : (tyL A).r c H v xs) : rB K A c H v xs := let ⟨a, us, e, _, q, r⟩ := h; ⟨a, us, e, .inl (.inl q), r⟩
theorem rP.b {v : V} (h : rP A c H v xs) : rB K A c H v xs := let ⟨a, us, e, q, r⟩ := h; ⟨a, us, e, .inl (.inl q), r⟩
theorem tyL_p {v : V} (h : (tyL A).r c H v xs) : rP A c H v xs := let ⟨a, us, e, _, q, r⟩ := h; ⟨a, us, e, q, r⟩
theorem Own.pl (h : Own A H0 c H p us xs) : rP A c H (.ref p) xs := ⟨p, us, rfl, h.obj, h.rs⟩
theorem Step.pl0 {v : V} (g : Step [] c0 H0 c H) (h : rP A c0 H0 v xs) : rP A c H v xs := by
  obtain ⟨a, us, e, q, r⟩ := h
  exact ⟨a, us, e, g.keep a _ q (fun _ _ z => by cases z), r.up g.up⟩
theorem Own.b (h : Own A H0 c H p us xs) : rB K A c H (.ref p) xs := ⟨p, us, rfl, .inl (.inl h.obj), h.rs⟩
theorem Own.step (h : Own A H0 c H p us xs) (g : Step T c H c' H') (n : p ∉ T) : Own A H0 c' H' p us xs :=
  ⟨(g.col p _ h.obj).trans h.col, g.keep p _ h.obj (fun r e => by rw [h.col] at e; cases e; exact n), h.rs.up g.up, h.new⟩
theorem Own.step0 (h : Own A H0 c H p us xs) (g : Step [] c H c' H') : Own A H0 c' H' p us xs := h.step g (fun z => by cases z)
theorem Own.step1 {q : Addr} (h : Own A H0 c H p us xs) (g : Step [q] c H c' H') (n : p ≠ q) : Own A H0 c' H' p us xs := h.step g (fun z => n (List.mem_singleton.mp z))
/-- it is frozen -/
theorem Own.frz (h : Own A H0 c H p us xs) : (tyL A).r (frz c p) H (.ref p) xs := ⟨p, us, rfl, frz_self h.col, h.obj, h.rs.up frz_up⟩
theorem Own.other {q : Addr} (h : Own A H0 c H p us xs) (n : p ≠ q) : Own A H0 (Kb.frz c q) H p us xs := ⟨frz_ne h.col n, h.obj, h.rs.up frz_up, h.new⟩
/-- what the base knows of a list that is read alone stands -/
theorem Step.sq0 {a : Addr} (g : Step [] c0 H0 c H) (h : SqL K H0 a us) : SqL K H a us := by
  rcases h with (q | ⟨o, q⟩) | q
  · exact .inl (.inl (g.keep a _ q fun _ _ z => by cases z))
  · exact .inl (.inr ⟨o, g.keep a _ q fun _ _ z => by cases z⟩)
  · exact .inr q
theorem Step.b0 {v : V} (g : Step [] c0 H0 c H) (h : rB K A c0 H0 v xs) : rB K A c H v xs := by
  obtain ⟨a, us, e, q, r⟩ := h
  exact ⟨a, us, e, g.sq0 q, r.up g.up⟩
end
end Kb
/-! Kb3: what expressions evaluate to while nothing changes -/
namespace Kb
open PySem L2

def Pv (t : TE) (σ : L2.St) (H : Hp) (v : V) : Prop := ∀ Q : VK, Q v H → t σ H Q
def PvT (t : TT) (σ : L2.St) (H : Hp) (b : Bool) : Prop := ∀ Q : Bool → Hp → Prop, Q b H → t σ H Q
def PvA (t : TA) (σ : L2.St) (H : Hp) (vs : List V) : Prop := ∀ Q : List V → Hp → Prop, Q vs H → t σ H Q
def PvO (t : TO) (σ : L2.St) (H : Hp) (o : Option Int) : Prop := ∀ Q : Option Int → Hp → Prop, Q o H → t σ H Q
/-- an operation by values -/
def Rv (r : R2) (x y : V) (H : Hp) (z : V) : Prop := ∀ Q : VK, Q z H → r x y H Q
def Rc (r : List V → Hp → VK → Prop) (vs : List V) (H : Hp) (z : V) : Prop := ∀ Q : VK, Q z H → r vs H Q
section
variable {t ta tb tc : TE} {σ : L2.St} {H : Hp} {v x y z : V} {r r' : R2}
theorem Pv.go (h : Pv t σ H v) {Q : VK} (q : Q v H) : t σ H Q := h Q q
theorem PvT.go {t : TT} {b : Bool} (h : PvT t σ H b) {Q : Bool → Hp → Prop} (q : Q b H) : t σ H Q := h Q q
theorem PvA.go {t : TA} {vs : List V} (h : PvA t σ H vs) {Q : List V → Hp → Prop} (q : Q vs H) : t σ H Q := h Q q
theorem Pv.is {w : V} (h : Pv t σ H v) (e : v = w) : Pv t σ H w := e ▸ h
theorem PvT.is {t : TT} {a b : Bool} (h : PvT t σ H a) (e : a = b) : PvT t σ H b := e ▸ h
theorem pv_v {i : Nat} (h : σ[i]? = some (some v)) : Pv (tVar i) σ H v := fun _ q => ⟨v, h, q⟩
theorem pv_c : Pv (tC v) σ H v := fun _ q => q
theorem pv_2 (ha : Pv ta σ H x) (hb : Pv tb σ H y) (hr : Rv r x y H z) : Pv (tOp r ta tb) σ H z := fun Q q => ha _ (hb _ (hr Q q))
theorem pv_1 {r : V → Hp → VK → Prop} (ha : Pv ta σ H x) (hr : ∀ Q : VK, Q z H → r x H Q) : Pv (tUn r ta) σ H z := fun Q q => ha _ (hr Q q)
theorem pv_cb {r : List V → Hp → VK → Prop} {ta : TA} {vs : List V} (ha : PvA ta σ H vs) (hr : Rc r vs H z) : Pv (tCB r ta) σ H z := fun Q q => ha _ (hr Q q)
theorem pa_n : PvA tNil σ H [] := fun _ q => q
theorem pa_c {tr : TA} {vs : List V} (ha : Pv ta σ H x) (hr : PvA tr σ H vs) : PvA (tCons ta tr) σ H (x :: vs) := fun _ q => ha _ (hr _ q)
theorem pv_ch {a b : Bool} (ha : Pv ta σ H x) (hb : Pv tb σ H y) (hr : Rv r x y H (.bl a)) (hc : a = true → Pv tc σ H z) (hr' : a = true → Rv r' y z H (.bl b)) : Pv (tChain r r' ta tb tc) σ H (.bl (a && b)) := fun Q q => ha _ (hb _ (hr _ ⟨a, rfl, by
  cases a with
  | true => exact iteT (hc rfl _ (hr' rfl _ q))
  | false => exact iteF q⟩))
theorem pv_if {c : TT} {b : Bool} (hc : PvT c σ H b) (h1 : b = true → Pv ta σ H v) (h2 : b = false → Pv tb σ H v) : Pv (tIf c ta tb) σ H v := fun Q q => hc _ (by
  cases b with
  | true => exact iteT (h1 rfl Q q)
  | false => exact iteF (h2 rfl Q q))
theorem pv_andV {a b : Bool} (h1 : Pv ta σ H (.bl a)) (h2 : a = true → Pv tb σ H (.bl b)) : Pv (tAndV ta tb) σ H (.bl (a && b)) := fun Q q => h1 _ ⟨a, rfl, by
  cases a with
  | true => exact iteT (h2 rfl Q q)
  | false => exact iteF q⟩
theorem pv_orV {a b : Bool} (h1 : Pv ta σ H (.bl a)) (h2 : a = false → Pv tb σ H (.bl b)) : Pv (tOrV ta tb) σ H (.bl (a || b)) := fun Q q => h1 _ ⟨a, rfl, by
  cases a with
  | true => exact iteT q
  | false => exact iteF (h2 rfl Q q)⟩
theorem pv_notV {a : Bool} (h1 : Pv ta σ H (.bl a)) : Pv (tNotV ta) σ H (.bl (!a)) := fun Q q => h1 _ ⟨a, rfl, q⟩
theorem pt_t {b : Bool} (h : Pv t σ H (.bl b)) : PvT (tTest t) σ H b := fun _ q => h _ ⟨b, rfl, q⟩
theorem pt_b {b : Bool} (h : Pv t σ H (.bl b)) : PvT (tB t) σ H b := fun _ q => h _ ⟨b, rfl, q⟩
theorem pt_and {t u : TT} {a b : Bool} (h1 : PvT t σ H a) (h2 : a = true → PvT u σ H b) : PvT (tAnd t u) σ H (a && b) := fun Q q => h1 _ (by
  cases a with
  | true => exact iteT (h2 rfl Q q)
  | false => exact iteF q)
theorem pt_or {t u : TT} {a b : Bool} (h1 : PvT t σ H a) (h2 : a = false → PvT u σ H b) : PvT (tOr t u) σ H (a || b) := fun Q q => h1 _ (by
  cases a with
  | true => exact iteT q
  | false => exact iteF (h2 rfl Q q))
theorem pt_not {t : TT} {a : Bool} (h1 : PvT t σ H a) : PvT (tNot t) σ H (!a) := fun _ q => h1 _ q
theorem po_n : PvO tNoPart σ H none := fun _ q => q
theorem po_s {i : Int} (h : Pv t σ H (.int i)) : PvO (tPart t) σ H (some i) := fun _ q => h _ ⟨i, rfl, q⟩
/-! #### operations -/
theorem rv_i {g : Int → Int → V} {i j : Int} : Rv (rI0 g) (.int i) (.int j) H (g i j) := fun _ q => ⟨i, j, rfl, rfl, q⟩
theorem rv_ic {C : Int → Int → Prop} {g : Int → Int → V} {i j : Int} (hc : C i j) : Rv (rI C g) (.int i) (.int j) H (g i j) := fun _ q => ⟨i, j, rfl, rfl, hc, q⟩
theorem rv_eqi {i j : Int} : Rv rEq (.int i) (.int j) H (.bl (decide (i = j))) := fun _ q => ⟨rfl, by rw [dec_int]; rw [show (decide (i = j)) = (i == j) from by rw [Bool.eq_iff_iff]; simp] at q; exact q⟩
theorem rv_nei {i j : Int} : Rv rNe (.int i) (.int j) H (.bl (!decide (i = j))) := fun _ q => ⟨rfl, by rw [dec_int]; rw [show (decide (i = j)) = (i == j) from by rw [Bool.eq_iff_iff]; simp] at q; exact q⟩
theorem rv_eqs {i j : Str} : Rv rEq (.str i) (.str j) H (.bl (decide (i = j))) := fun _ q => ⟨rfl, by rw [dec_str]; rw [show (decide (i = j)) = (i == j) from by rw [Bool.eq_iff_iff]; simp] at q; exact q⟩
theorem rv_nes {i j : Str} : Rv rNe (.str i) (.str j) H (.bl (!decide (i = j))) := fun _ q => ⟨rfl, by rw [dec_str]; rw [show (decide (i = j)) = (i == j) from by rw [Bool.eq_iff_iff]; simp] at q; exact q⟩
theorem rv_eqb {i j : Bool} : Rv rEq (.bl i) (.bl j) H (.bl (decide (i = j))) := fun _ q => ⟨rfl, by rw [dec_bl]; rw [show (decide (i = j)) = (i == j) from by rw [Bool.eq_iff_iff]; simp] at q; exact q⟩
theorem rv_neb {i j : Bool} : Rv rNe (.bl i) (.bl j) H (.bl (!decide (i = j))) := fun _ q => ⟨rfl, by rw [dec_bl]; rw [show (decide (i = j)) = (i == j) from by rw [Bool.eq_iff_iff]; simp] at q; exact q⟩
/-- == of data -/
theorem rv_eqd {α : Type} [DecidableEq α] {A : Ty α} {K : PySem.W.Frag} {c : Cl} {a b : α} (h1 : A.r c H x a) (h2 : A.r c H y b) (hd : A.dep ≤ 64) : Rv (rEqD K) x y H (.bl (decide (a = b))) := fun Q q =>
  ⟨A.enc a, A.enc b, A.dp hd h1, A.dp hd h2, by unfold SeqAt.shaped; rw [A.lay hd h1, decide_eq_true (Nat.le_trans (A.hdep hd a) hd)]; rfl, by unfold SeqAt.shaped; rw [A.lay hd h2, decide_eq_true (Nat.le_trans (A.hdep hd b) hd)]; rfl, by rw [A.eqv hd]; exact q⟩
theorem rv_ned {α : Type} [DecidableEq α] {A : Ty α} {K : PySem.W.Frag} {c : Cl} {a b : α} (h1 : A.r c H x a) (h2 : A.r c H y b) (hd : A.dep ≤ 64) : Rv (rNeD K) x y H (.bl (!decide (a = b))) := fun Q q =>
  ⟨A.enc a, A.enc b, A.dp hd h1, A.dp hd h2, by unfold SeqAt.shaped; rw [A.lay hd h1, decide_eq_true (Nat.le_trans (A.hdep hd a) hd)]; rfl, by unfold SeqAt.shaped; rw [A.lay hd h2, decide_eq_true (Nat.le_trans (A.hdep hd b) hd)]; rfl, by rw [A.eqv hd]; exact q⟩
theorem rB.shape {α : Type} [DecidableEq α] {A : Ty α} {K : PySem.W.Frag} {c : Cl} {v : V} {xs : List α} (h : rB K A c H v xs) (hd : A.dep + 1 ≤ 64) : Dp K H v ((tyL A).enc xs) ∧ SeqAt.shaped ((tyL A).enc xs) = true := by
  obtain ⟨a, us, rfl, q, r⟩ := h
  refine ⟨.lst q (r.dp (Nat.le_of_succ_le hd)), ?_⟩
  unfold SeqAt.shaped
  rw [show ((tyL A).enc xs).canLay0 = true from r.lay (Nat.le_of_succ_le hd), decide_eq_true (Nat.le_trans ((tyL A).hdep hd xs) hd)]
  rfl
/-- == of lists, whatever their colours -/
theorem rv_eql {α : Type} [DecidableEq α] {A : Ty α} {K : PySem.W.Frag} {c : Cl} {a b : List α} (h1 : rB K A c H x a) (h2 : rB K A c H y b) (hd : A.dep + 1 ≤ 64) : Rv (rEqD K) x y H (.bl (decide (a = b))) := fun Q q =>
  ⟨_, _, (h1.shape (K := K) hd).1, (h2.shape (K := K) hd).1, (h1.shape (K := K) hd).2, (h2.shape (K := K) hd).2, by rw [(tyL A).eqv hd]; exact q⟩
theorem rv_nel {α : Type} [DecidableEq α] {A : Ty α} {K : PySem.W.Frag} {c : Cl} {a b : List α} (h1 : rB K A c H x a) (h2 : rB K A c H y b) (hd : A.dep + 1 ≤ 64) : Rv (rNeD K) x y H (.bl (!decide (a = b))) := fun Q q =>
  ⟨_, _, (h1.shape (K := K) hd).1, (h2.shape (K := K) hd).1, (h1.shape (K := K) hd).2, (h2.shape (K := K) hd).2, by rw [(tyL A).eqv hd]; exact q⟩
theorem rv_isN : Rv (fun x y H Q => y = .non ∧ Q (.bl (decide (x = .non))) H) x .non H (.bl (decide (x = .non))) := fun _ q => ⟨rfl, q⟩
theorem rv_isNN : Rv (fun x y H Q => y = .non ∧ Q (.bl (!decide (x = .non))) H) x .non H (.bl (!decide (x = .non))) := fun _ q => ⟨rfl, q⟩
theorem rv_cats {i j : Str} (h : i.length + j.length ≤ sizeLine) : Rv (fun x y H Q => ∃ i j, x = .str i ∧ y = .str j ∧ i.length + j.length ≤ sizeLine ∧ Q (.str (i ++ j)) H) (.str i) (.str j) H (.str (i ++ j)) := fun _ q => ⟨i, j, rfl, rfl, h, q⟩
/-- xs[i] -/
theorem ixN_map {n m : Nat} (h : n = m) (i : Int) : ixN n i = ixN m i := by rw [h]
theorem Rs.at {α : Type} [DecidableEq α] {A : Ty α} {c : Cl} {us : List V} {xs : List α} {i : Int} {a : α} (h : Rs A c H us xs) (e : atI xs i = some a) : ∃ u, atI us i = some u ∧ A.r c H u a := by
  unfold atI at e ⊢
  rw [h.len]
  cases q : ixN xs.length i with
  | none => rw [q] at e; cases e
  | some j =>
    rw [q] at e
    exact h.getX e
theorem rv_ixl {K : PySem.W.Frag} {a : Addr} {us : List V} {i : Int} (h : Rd H a (.lst us)) (e : atI us i = some v) : Rv (rIxL K) (.ref a) (.int i) H v := fun _ q => ⟨a, us, i, v, rfl, rfl, .inl h, e, q⟩
theorem rv_ixt {K : PySem.W.Frag} {a : Addr} {us : List V} {i : Int} (h : Rd H a (.tup us)) (e : atI us i = some v) : Rv (rIxT K) (.ref a) (.int i) H v := fun _ q => ⟨a, us, i, v, rfl, rfl, .inl h, e, q⟩
theorem rv_ixs {s : Str} {i : Int} {n : Nat} (h : s.length ≤ sizeLine) (e : atI s.cps.toList i = some n) : Rv rIxS (.str s) (.int i) H (.str ⟨#[n]⟩) := fun _ q => ⟨s, i, n, rfl, rfl, h, e, q⟩
/-! #### built-ins -/
theorem rc_abs {i : Int} : Rc (fun xs H Q => ∃ i, xs = [.int i] ∧ Q (.int (if i < 0 then -i else i)) H) [.int i] H (.int (if i < 0 then -i else i)) := fun _ q => ⟨i, rfl, q⟩
theorem rc_max {i j : Int} : Rc (fun xs H Q => ∃ i j, xs = [.int i, .int j] ∧ Q (.int (if j > i then j else i)) H) [.int i, .int j] H (.int (if j > i then j else i)) := fun _ q => ⟨i, j, rfl, q⟩
theorem rc_min {i j : Int} : Rc (fun xs H Q => ∃ i j, xs = [.int i, .int j] ∧ Q (.int (if j < i then j else i)) H) [.int i, .int j] H (.int (if j < i then j else i)) := fun _ q => ⟨i, j, rfl, q⟩
theorem rc_int {i : Int} : Rc (fun xs H Q => (∃ i, xs = [.int i] ∧ Q (.int i) H) ∨ ∃ k, xs = [.bl k] ∧ Q (.int (if k then 1 else 0)) H) [.int i] H (.int i) := fun _ q => .inl ⟨i, rfl, q⟩
theorem rc_lenl {K : PySem.W.Frag} {a : Addr} {us : List V} (h : Rd H a (.lst us)) : Rc (fun xs H Q => ∃ p ys, xs = [.ref p] ∧ (SqL K H p ys ∨ SqT K H p ys) ∧ Q (.int ys.length) H) [.ref a] H (.int us.length) := fun _ q => ⟨a, us, rfl, .inl (.inl h), q⟩
theorem rc_lent {K : PySem.W.Frag} {a : Addr} {us : List V} (h : Rd H a (.tup us)) : Rc (fun xs H Q => ∃ p ys, xs = [.ref p] ∧ (SqL K H p ys ∨ SqT K H p ys) ∧ Q (.int ys.length) H) [.ref a] H (.int us.length) := fun _ q => ⟨a, us, rfl, .inr (.inl h), q⟩
theorem rc_lenB {α : Type} [DecidableEq α] {A : Ty α} {K : PySem.W.Frag} {c : Cl} {xs : List α} (h : rB K A c H v xs) : Rc (fun xs H Q => ∃ p ys, xs = [.ref p] ∧ (SqL K H p ys ∨ SqT K H p ys) ∧ Q (.int ys.length) H) [v] H (.int xs.length) := fun Q q => by
  obtain ⟨a, us, rfl, h1, r⟩ := h
  exact ⟨a, us, rfl, .inl h1, by rw [r.len]; exact q⟩
theorem rc_lens {s : Str} (h : s.length ≤ sizeLine) : Rc (fun xs H Q => ∃ z, xs = [.str z] ∧ z.length ≤ sizeLine ∧ Q (.int z.length) H) [.str s] H (.int s.length) := fun _ q => ⟨s, rfl, h, q⟩
/-- truth of a list -/
theorem ptr_list {K : PySem.W.Frag} {a : Addr} {us : List V} (h : Rd H a (.lst us)) : SqL K H a us := .inl h
end
/-! #### the inverse of partial values -/
theorem opt_inv {α β : Type} {o : Option α} {f : α → Res β} {y : β} (h : opt o f = .ok y) : ∃ x, o = some x ∧ f x = .ok y := by
  cases o with
  | some x => exact ⟨x, rfl, h⟩
  | none => cases h
theorem chk_inv {β : Type} {b : Bool} {r : Res β} {y : β} (h : chk b r = .ok y) : b = true ∧ r = .ok y := by
  cases b with
  | true => exact ⟨rfl, h⟩
  | false => cases h
/-- and, or of partial tests -/
def andN (a b : Res Bool) : Res Bool := a.bind fun x => br x b (.ok false)
def orN (a b : Res Bool) : Res Bool := a.bind fun x => br x (.ok true) b
theorem pt_andN {t u : TT} {σ : L2.St} {H : Hp} {m n : Res Bool} {b : Bool} (h : andN m n = .ok b) (h1 : ∀ a, m = .ok a → PvT t σ H a) (h2 : ∀ a, n = .ok a → PvT u σ H a) : PvT (tAnd t u) σ H b := by
  cases m with
  | ok x =>
    cases x with
    | true => exact fun Q q => h1 true rfl _ (iteT (h2 b h Q q))
    | false =>
      have e : false = b := Res.ok.inj h
      subst e
      exact fun Q q => h1 false rfl _ (iteF q)
  | err e => cases h
  | stk => cases h
theorem pt_orN {t u : TT} {σ : L2.St} {H : Hp} {m n : Res Bool} {b : Bool} (h : orN m n = .ok b) (h1 : ∀ a, m = .ok a → PvT t σ H a) (h2 : ∀ a, n = .ok a → PvT u σ H a) : PvT (tOr t u) σ H b := by
  cases m with
  | ok x =>
    cases x with
    | true =>
      have e : true = b := Res.ok.inj h
      subst e
      exact fun Q q => h1 true rfl _ (iteT q)
    | false => exact fun Q q => h1 false rfl _ (iteF (h2 b h Q q))
  | err e => cases h
  | stk => cases h
theorem pv_andN {t u : TE} {σ : L2.St} {H : Hp} {m n : Res Bool} {b : Bool} (h : andN m n = .ok b) (h1 : ∀ a, m = .ok a → Pv t σ H (.bl a)) (h2 : ∀ a, n = .ok a → Pv u σ H (.bl a)) : Pv (tAndV t u) σ H (.bl b) := by
  cases m with
  | ok x =>
    cases x with
    | true => exact fun Q q => h1 true rfl _ ⟨true, rfl, iteT (h2 b h Q q)⟩
    | false =>
      have e : false = b := Res.ok.inj h
      subst e
      exact fun Q q => h1 false rfl _ ⟨false, rfl, iteF q⟩
  | err e => cases h
  | stk => cases h
theorem pv_orN {t u : TE} {σ : L2.St} {H : Hp} {m n : Res Bool} {b : Bool} (h : orN m n = .ok b) (h1 : ∀ a, m = .ok a → Pv t σ H (.bl a)) (h2 : ∀ a, n = .ok a → Pv u σ H (.bl a)) : Pv (tOrV t u) σ H (.bl b) := by
  cases m with
  | ok x =>
    cases x with
    | true =>
      have e : true = b := Res.ok.inj h
      subst e
      exact fun Q q => h1 true rfl _ ⟨true, rfl, iteT q⟩
    | false => exact fun Q q => h1 false rfl _ ⟨false, rfl, iteF (h2 b h Q q)⟩
  | err e => cases h
  | stk => cases h
/-- a partial value at a step -/
theorem Kont.bindP {α β : Type} {P : β → Cl → Hp → Prop} {PE : Err → Cl → Hp → Prop} {S : List Addr} {c0 : Cl} {H0 : Hp} {m : Res α} {f : α → Res β} (k : Kont P PE S c0 H0 (m.bind f)) (hm : ∀ e, m ≠ .err e) : ∃ x, m = .ok x ∧ Kont P PE S c0 H0 (f x) := by
  cases m with
  | ok x => exact ⟨x, rfl, k⟩
  | err e => exact absurd rfl (hm e)
  | stk => exact k.elim
theorem ne_ok {α : Type} {x : α} (e : Err) : (Res.ok x) ≠ Res.err e := fun h => by cases h
theorem ne_opt {α β : Type} {o : Option α} {f : α → Res β} (h : ∀ x e, f x ≠ .err e) (e : Err) : opt o f ≠ .err e := by
  cases o with
  | some x => exact h x e
  | none => exact fun z => by cases z
theorem ne_chk {β : Type} {b : Bool} {r : Res β} (h : ∀ e, r ≠ .err e) (e : Err) : chk b r ≠ .err e := by
  cases b with
  | true => exact h e
  | false => exact fun z => by cases z
theorem ne_andN {m n : Res Bool} (h1 : ∀ e, m ≠ .err e) (h2 : ∀ e, n ≠ .err e) (e : Err) : andN m n ≠ .err e := by
  cases m with
  | ok x =>
    cases x with
    | true => exact h2 e
    | false => exact fun z => by cases z
  | err x => exact absurd rfl (h1 x)
  | stk => exact fun z => by cases z
theorem ne_orN {m n : Res Bool} (h1 : ∀ e, m ≠ .err e) (h2 : ∀ e, n ≠ .err e) (e : Err) : orN m n ≠ .err e := by
  cases m with
  | ok x =>
    cases x with
    | true => exact fun z => by cases z
    | false => exact h2 e
  | err x => exact absurd rfl (h1 x)
  | stk => exact fun z => by cases z
end Kb
/-! Kb4: what changes the heap; loops -/
namespace Kb
open PySem L2
section
variable {t ta tb : TE} {σ : L2.St} {c c0 : Cl} {H H0 : Hp} {v x y z : V} {S : List Addr}
/-! #### openings -/
theorem op_u {r : R2} {Q : VK} (h : ta σ H fun x H1 => tb σ H1 fun y H2 => r x y H2 Q) : tOp r ta tb σ H Q := h
theorem un_u {r : V → Hp → VK → Prop} {Q : VK} (h : ta σ H fun x H1 => r x H1 Q) : tUn r ta σ H Q := h
theorem cons_u {tr : TA} {Q : List V → Hp → Prop} (h : ta σ H fun x H1 => tr σ H1 fun xs H2 => Q (x :: xs) H2) : tCons ta tr σ H Q := h
theorem nil_u {Q : List V → Hp → Prop} (h : Q [] H) : tNil σ H Q := h
def MkT (Q : VK) (xs : List V) (H1 : Hp) : Prop := xs.length ≤ sizeLine ∧ ∀ p, H1 p = none → Q (.ref p) (upd H1 p (.tup xs))
def MkL (Q : VK) (xs : List V) (H1 : Hp) : Prop := xs.length ≤ sizeLine ∧ ∀ p, H1 p = none → Q (.ref p) (upd H1 p (.lst xs))
theorem tup_u {ta : TA} {Q : VK} (h : ta σ H (MkT Q)) : tTup ta σ H Q := h
theorem lst_u {ta : TA} {Q : VK} (h : ta σ H (MkL Q)) : tLst ta σ H Q := h
theorem cb_u {r : List V → Hp → VK → Prop} {ta : TA} {Q : VK} (h : ta σ H fun vs H1 => r vs H1 Q) : tCB r ta σ H Q := h
theorem call_u {sp : Sp} {dvs : List V} {E : XK} {ta : TA} {Q : VK} (h : ta σ H fun vs H1 => sp (vs ++ dvs) H1 Q E) : tCall sp dvs E ta σ H Q := h
theorem callS_u {sp : Sp} {E : L2.St → XK} {ta : TA} {Q : VK} (h : ta σ H fun vs H1 => sp vs H1 Q (E σ)) : tCallS sp E ta σ H Q := h
theorem test_u {Q : Bool → Hp → Prop} (h : t σ H fun x H' => ∃ k, x = .bl k ∧ Q k H') : tTest t σ H Q := h
theorem tB_u {Q : Bool → Hp → Prop} (h : t σ H fun x H' => ∃ k, x = .bl k ∧ Q k H') : tB t σ H Q := h
theorem and_u {t u : TT} {Q : Bool → Hp → Prop} (h : t σ H fun c H1 => if c = true then u σ H1 Q else Q false H1) : tAnd t u σ H Q := h
theorem or_u {t u : TT} {Q : Bool → Hp → Prop} (h : t σ H fun c H1 => if c = true then Q true H1 else u σ H1 Q) : tOr t u σ H Q := h
theorem not_u {t : TT} {Q : Bool → Hp → Prop} (h : t σ H fun c H1 => Q (!c) H1) : tNot t σ H Q := h
theorem andV_u {Q : VK} (h : ta σ H fun x H1 => ∃ c, x = .bl c ∧ if c = true then tb σ H1 Q else Q (.bl false) H1) : tAndV ta tb σ H Q := h
theorem orV_u {Q : VK} (h : ta σ H fun x H1 => ∃ c, x = .bl c ∧ if c = true then Q (.bl true) H1 else tb σ H1 Q) : tOrV ta tb σ H Q := h
theorem notV_u {Q : VK} (h : ta σ H fun x H1 => ∃ c, x = .bl c ∧ Q (.bl (!c)) H1) : tNotV ta σ H Q := h
theorem ifE_u {c : TT} {Q : VK} (h : c σ H fun b H1 => if b = true then ta σ H1 Q else tb σ H1 Q) : tIf c ta tb σ H Q := h
theorem seq_u {t u : TS} {D : Ends} (h : t { D with nx := u D } σ H) : tSeq t u D σ H := h
theorem next_u {D : Ends} (h : D.nx σ H) : tNext D σ H := h
theorem drop_u {D : Ends} (h : t σ H fun _ H1 => D.nx σ H1) : tDrop t D σ H := h
theorem ret_u {D : Ends} (h : t σ H D.rt) : tRet t D σ H := h
theorem retN_u {D : Ends} (h : D.rt .non H) : tRetN D σ H := h
theorem ifS_u {c : TT} {t u : TS} {D : Ends} (h : c σ H fun b H1 => if b = true then t D σ H1 else u D σ H1) : tIfS c t u D σ H := h
theorem asg_u {g : TG} {D : Ends} (h : t σ H fun x H1 => g x σ H1 D.nx) : tAsg t g D σ H := h
theorem gname_u {i : Nat} {Q : L2.St → Hp → Prop} (h : Q (σ.set i (some v)) H) : gName i v σ H Q := h
theorem gtup_u {K : PySem.W.Frag} {n : Nat} {t : TGs} {a : Addr} {us : List V} {Q : L2.St → Hp → Prop} (r : Rd H a (.tup us)) (hn : us.length = n) (h : t us σ H Q) : gTup K n t (.ref a) σ H Q := ⟨a, us, rfl, .inl r, hn, h⟩
theorem gcons_u {t : TG} {u : TGs} {vs : List V} {Q : L2.St → Hp → Prop} (h : t v σ H fun σ' H' => u vs σ' H' Q) : gCons t u (v :: vs) σ H Q := ⟨v, vs, rfl, h⟩
theorem gnil_u {Q : L2.St → Hp → Prop} (h : Q σ H) : gNil [] σ H Q := ⟨rfl, h⟩
theorem gsub_u {to ti : TE} {t : TSet} {Q : L2.St → Hp → Prop} (h : to σ H fun o H1 => ti σ H1 fun i H2 => t o i v H2 fun H3 => Q σ H3) : gSub to ti t v σ H Q := h
theorem bm_u {K : PySem.W.Frag} {T : String} {r : V → List V → Hp → VK → Prop} {to : TE} {t : TA} {Q : VK} (h : to σ H fun x H1 => tyV K T x H1 ∧ t σ H1 fun xs H2 => r x xs H2 Q) : tBM K T r to t σ H Q := h
theorem bm0_u {K : PySem.W.Frag} {T : String} {r : V → List V → Hp → VK → Prop} {to : TE} {Q : VK} (h : to σ H fun x H1 => tyV K T x H1 ∧ r x [] H1 Q) : tBM0 K T r to σ H Q := h
theorem ty_list {K : PySem.W.Frag} {p : Addr} {us : List V} (h : Rd H p (.lst us)) : tyV K "list" (.ref p) H := .inl ⟨rfl, us, .inl h⟩
theorem sl_u {r : V → Option Int → Option Int → Hp → VK → Prop} {te : TE} {tl th : TO} {Q : VK} (h : te σ H fun x H1 => tl σ H1 fun l H2 => th σ H2 fun u H3 => r x l u H3 Q) : tSl r te tl th σ H Q := h
theorem PvO.go {t : TO} {o : Option Int} (h : PvO t σ H o) {Q : Option Int → Hp → Prop} (q : Q o H) : t σ H Q := h Q q
/-! #### ends that make new objects -/
theorem tup_end {vs : List V} (hl : vs.length ≤ 1000) (w : Wf c H) {Q : VK} (q : ∀ p c' H', Step [] c H c' H' → c' p = none → Rd H' p (.tup vs) → H p = none → Q (.ref p) H') : MkT Q vs H :=
  ⟨Nat.le_trans hl (by decide), fun p n => q p (setC c p none) _ (Step.new w n fun r e => by cases e) setC_same (.inl upd_same) n⟩
theorem lst_end {vs : List V} (hl : vs.length ≤ 1000) (w : Wf c H) {Q : VK} (q : ∀ p c' H', Step [] c H c' H' → c' p = some p → H' p = some (.lst vs) → H p = none → Q (.ref p) H') : MkL Q vs H :=
  ⟨Nat.le_trans hl (by decide), fun p n => q p (setC c p (some p)) _ (Step.new w n fun r e => by cases e; exact .inl rfl) setC_same upd_same n⟩
/-- a new list, wherever it comes from -/
theorem new_end {vs : List V} (w : Wf c H) {Q : VK} (q : ∀ p c' H', Step [] c H c' H' → c' p = some p → H' p = some (.lst vs) → H p = none → Q (.ref p) H') : ∀ p, H p = none → Q (.ref p) (upd H p (.lst vs)) :=
  fun p n => q p (setC c p (some p)) _ (Step.new w n fun r e => by cases e; exact .inl rfl) setC_same upd_same n
theorem newT_end {vs : List V} (w : Wf c H) {Q : VK} (q : ∀ p c' H', Step [] c H c' H' → c' p = none → Rd H' p (.tup vs) → H p = none → Q (.ref p) H') : ∀ p, H p = none → Q (.ref p) (upd H p (.tup vs)) :=
  fun p n => q p (setC c p none) _ (Step.new w n fun r e => by cases e) setC_same (.inl upd_same) n
section
variable {α : Type} [DecidableEq α] {A : Ty α} {p : Addr} {us : List V} {xs : List α} {a : α} {u : V}
theorem append_end (o : Own A H0 c H p us xs) (w : Wf c H) (r : A.r c H u a) (hl : xs.length < sizeLine) {Q : VK} (q : ∀ H', Step [p] c H c H' → Own A H0 c H' p (us ++ [u]) (xs ++ [a]) → Q .non H') : rAppend (.ref p) [u] H Q := by
  have st : Step [p] c H c (upd H p (.lst (us ++ [u]))) := Step.mut w o.obj o.col
  exact ⟨p, us, u, rfl, rfl, o.obj, by rw [o.rs.len]; exact hl, q _ st ⟨o.col, upd_same, (o.rs.up st.up).app ⟨A.up st.up r, trivial⟩, o.new⟩⟩
theorem set_end (o : Own A H0 c H p us xs) (w : Wf c H) (r : A.r c H u a) {i : Int} {j : Nat} (hi : ixN xs.length i = some j) {Q : Hp → Prop} (q : ∀ H', Step [p] c H c H' → Own A H0 c H' p (us.set j u) (xs.set j a) → Q H') : rSetL (.ref p) (.int i) u H Q := by
  have st : Step [p] c H c (upd H p (.lst (us.set j u))) := Step.mut w o.obj o.col
  exact ⟨p, us, i, j, rfl, rfl, o.obj, by rw [o.rs.len]; exact hi, q _ st ⟨o.col, upd_same, (o.rs.up st.up).set (A.up st.up r) j, o.new⟩⟩
theorem reverse_end (o : Own A H0 c H p us xs) (w : Wf c H) {Q : VK} (q : ∀ H', Step [p] c H c H' → Own A H0 c H' p us.reverse xs.reverse → Q .non H') : rReverse (.ref p) [] H Q := by
  have st : Step [p] c H c (upd H p (.lst us.reverse)) := Step.mut w o.obj o.col
  exact ⟨p, us, rfl, rfl, o.obj, q _ st ⟨o.col, upd_same, (o.rs.up st.up).rev, o.new⟩⟩
/-- an extension by a list that is read -/
theorem extend_end {vs : List V} {ys : List α} {b : Addr} (o : Own A H0 c H p us xs) (w : Wf c H) (hb : H b = some (.lst vs)) (r : Rs A c H vs ys) (hl : xs.length + ys.length ≤ sizeLine) {Q : VK} (q : ∀ H', Step [p] c H c H' → Own A H0 c H' p (us ++ vs) (xs ++ ys) → Q .non H') : rExtend (.ref p) [.ref b] H Q := by
  have st : Step [p] c H c (upd H p (.lst (us ++ vs))) := Step.mut w o.obj o.col
  exact ⟨p, b, us, vs, rfl, rfl, o.obj, hb, by rw [o.rs.len, r.len]; exact hl, q _ st ⟨o.col, upd_same, (o.rs.up st.up).app (r.up st.up), o.new⟩⟩
/-- a slice -/
theorem slice_end {K : PySem.W.Frag} {lo hi : Option Int} (hx : rB K A c H v xs) (w : Wf c H) (n0 : ∀ p, H p = none → H0 p = none) {Q : VK}
    (q : ∀ p us' c' H', H p = none → Step [] c H c' H' → Own A H0 c' H' p us' ((xs.drop (HT.sIx xs.length 0 lo)).take (HT.sIx xs.length xs.length hi - HT.sIx xs.length 0 lo)) → Q (.ref p) H') : rSlL K v lo hi H Q := by
  obtain ⟨a, us, rfl, h, r⟩ := hx
  refine ⟨a, us, rfl, h, new_end w fun p c' H' st cp hp np => q p _ c' H' np st ⟨cp, hp, ?_, n0 p np⟩⟩
  unfold cutV
  rw [r.len]
  exact ((r.up st.up).drop _).take _
def rListOf (K : PySem.W.Frag) : List V → Hp → VK → Prop := fun xs H Q => ∃ p ys, xs = [V.ref p] ∧ (SqL K H p ys ∨ SqT K H p ys) ∧ ∀ l, H l = none → Q (.ref l) (upd H l (.lst ys))
theorem cr_list {X : Cx} : CallR X (.type "list") (rListOf X.K) := call_list_of
/-- list(xs) -/
theorem listof_end {K : PySem.W.Frag} (hx : rB K A c H v xs) (w : Wf c H) (n0 : ∀ p, H p = none → H0 p = none) {Q : VK} (q : ∀ p us' c' H', H p = none → Step [] c H c' H' → Own A H0 c' H' p us' xs → Q (.ref p) H') :
    rListOf K [v] H Q := by
  obtain ⟨a, us, rfl, h, r⟩ := hx
  exact ⟨a, us, rfl, .inl h, new_end w fun p c' H' st cp hp np => q p _ c' H' np st ⟨cp, hp, r.up st.up, n0 p np⟩⟩
/-- the part of a list that a slice tells -/
def sliceL {α : Type} (xs : List α) (lo hi : Option Int) : List α := (xs.drop (HT.sIx xs.length 0 lo)).take (HT.sIx xs.length xs.length hi - HT.sIx xs.length 0 lo)
/-- xs + ys -/
theorem cat_end {ys : List α} {x y : V} {a b : Addr} {us vs : List V} (ex : x = .ref a) (ey : y = .ref b) (hx : H a = some (.lst us)) (rx : Rs A c H us xs) (hy : H b = some (.lst vs)) (ry : Rs A c H vs ys) (w : Wf c H) (n0 : ∀ p, H p = none → H0 p = none) (hl : xs.length + ys.length ≤ sizeLine) {Q : VK}
    (q : ∀ p us' c' H', H p = none → Step [] c H c' H' → Own A H0 c' H' p us' (xs ++ ys) → Q (.ref p) H') : rCat x y H Q := by
  subst ex ey
  exact ⟨a, b, us, vs, rfl, rfl, hx, hy, by rw [rx.len, ry.len]; exact hl, new_end w fun p c' H' st cp hp np => q p _ c' H' np st ⟨cp, hp, (rx.up st.up).app (ry.up st.up), n0 p np⟩⟩
end
end
/-! #### loops -/
section
variable {β τ α : Type} [DecidableEq α] {A : Ty α} {P : β → Cl → Hp → Prop} {PE : Err → Cl → Hp → Prop} {S : List Addr} {c0 c : Cl} {H0 H : Hp} {σ : L2.St} {g : TG} {tb : TS} {D : Ends} {K : PySem.W.Frag} {a : Addr} {us : List V} {xs : List α} {s0 : τ}
theorem Kont.turn {m : Res τ} {f : τ → Res β} (k : Kont P PE S c0 H0 (m.bind f)) : Kont (fun s _ _ => Kont P PE S c0 H0 (f s)) PE S c0 H0 m := by
  cases m with
  | ok x => exact fun _ _ _ => k
  | err e => exact k
  | stk => exact k.elim
theorem drop_at {l : List α} {i : Nat} {x : α} (h : l[i]? = some x) : l.drop i = x :: l.drop (i + 1) := by
  obtain ⟨hi, e⟩ := List.getElem?_eq_some_iff.mp h
  rw [List.drop_eq_getElem_cons hi, e]
theorem for_n {f : τ → α → Res τ} {rest : τ → Res β} (k : Kont P PE S c0 H0 ((forN xs s0 f).bind rest)) (I : τ → Cl → Hp → L2.St → Prop) (h0 : I s0 c H σ) (hl : ∀ s c H σ, I s c H σ → SqL K H a us ∧ Rs A c H us xs)
    (hb : ∀ s x v c H σ (N : L2.St → Hp → Prop), I s c H σ → A.r c H v x → Kont (fun s' c' H' => ∀ σ', I s' c' H' σ' → N σ' H') PE S c0 H0 (f s x) → g v σ H fun σ2 H2 => tb { D with nx := N, ct := N, bk := D.nx } σ2 H2)
    (hd : ∀ s c H σ, I s c H σ → Kont P PE S c0 H0 (rest s) → D.nx σ H) :
    ∃ W : Nat → Nat → L2.St → Hp → Prop, (∃ m, W 0 m σ H) ∧ ∀ i m σ H, W i m σ H →
      ((Itl K a).stop i H ∧ D.nx σ H) ∨ ((Itl K a).go i H ∧ ∃ N : L2.St → Hp → Prop, (∀ σ' H', N σ' H' → ∃ m', m' < m ∧ W (i + 1) m' σ' H') ∧ ∀ x H', (Itl K a).yld i H x H' → g x σ H' fun σ2 H2 => tb { D with nx := N, ct := N, bk := D.nx } σ2 H2) := by
  refine for_list (K := K) (a := a) (xs := us) (fun i σ H => ∃ s c, I s c H σ ∧ Kont P PE S c0 H0 ((forN (xs.drop i) s f).bind rest)) ⟨s0, c, h0, k⟩ (fun i σ H _ ⟨s, c, h, _⟩ => (hl s c H σ h).1) ?_ ?_
  · rintro i v σ1 H1 hi ⟨s, c1, h, k1⟩
    obtain ⟨_, r⟩ := hl s c1 H1 σ1 h
    obtain ⟨x, hx, rx⟩ := r.get hi
    rw [drop_at hx, forN_cons, bind_assoc] at k1
    refine hb s x v c1 H1 σ1 _ h rx (k1.turn.imp (fun s' c' H' st q σ' h' => ⟨s', c', h', q⟩) fun _ _ _ _ q => q)
  · rintro σ1 H1 ⟨s, c1, h, k1⟩
    obtain ⟨_, r⟩ := hl s c1 H1 σ1 h
    rw [List.drop_eq_nil_of_le (by rw [r.len]; exact Nat.le_refl _)] at k1
    exact hd s c1 H1 σ1 h k1
theorem for_r {ρ : Type} {f : τ → α → Res (Ctl τ ρ)} {rest : Ctl τ ρ → Res β} {Rr : Cl → Hp → V → ρ → Prop} (k : Kont P PE S c0 H0 ((forR xs s0 f).bind rest)) (I : τ → Cl → Hp → L2.St → Prop) (h0 : I s0 c H σ) (hl : ∀ s c H σ, I s c H σ → SqL K H a us ∧ Rs A c H us xs)
    (hb : ∀ s x v c H σ (N : L2.St → Hp → Prop), I s c H σ → A.r c H v x → Kont (fun y c' H' => match y with | .nx s' => ∀ σ', I s' c' H' σ' → N σ' H' | .ret r => ∀ v, Rr c' H' v r → D.rt v H') PE S c0 H0 (f s x) → g v σ H fun σ2 H2 => tb { D with nx := N, ct := N, bk := D.nx } σ2 H2)
    (hr : ∀ r, Kont P PE S c0 H0 (rest (.ret r)) → ∀ c H, Step S c0 H0 c H → ∀ v, Rr c H v r → D.rt v H)
    (hd : ∀ s c H σ, I s c H σ → Kont P PE S c0 H0 (rest (.nx s)) → D.nx σ H) :
    ∃ W : Nat → Nat → L2.St → Hp → Prop, (∃ m, W 0 m σ H) ∧ ∀ i m σ H, W i m σ H →
      ((Itl K a).stop i H ∧ D.nx σ H) ∨ ((Itl K a).go i H ∧ ∃ N : L2.St → Hp → Prop, (∀ σ' H', N σ' H' → ∃ m', m' < m ∧ W (i + 1) m' σ' H') ∧ ∀ x H', (Itl K a).yld i H x H' → g x σ H' fun σ2 H2 => tb { D with nx := N, ct := N, bk := D.nx } σ2 H2) := by
  refine for_list (K := K) (a := a) (xs := us) (fun i σ H => ∃ s c, I s c H σ ∧ Kont P PE S c0 H0 ((forR (xs.drop i) s f).bind rest)) ⟨s0, c, h0, k⟩ (fun i σ H _ ⟨s, c, h, _⟩ => (hl s c H σ h).1) ?_ ?_
  · rintro i v σ1 H1 hi ⟨s, c1, h, k1⟩
    obtain ⟨_, r⟩ := hl s c1 H1 σ1 h
    obtain ⟨x, hx, rx⟩ := r.get hi
    rw [drop_at hx, forR_cons, bind_assoc] at k1
    refine hb s x v c1 H1 σ1 _ h rx (k1.turn.imp (fun y c' H' st q => ?_) fun _ _ _ _ q => q)
    cases y with
    | nx s' => exact fun σ' h' => ⟨s', c', h', q⟩
    | ret r' => exact fun v hv => hr r' q c' H' st v hv
  · rintro σ1 H1 ⟨s, c1, h, k1⟩
    obtain ⟨_, r⟩ := hl s c1 H1 σ1 h
    rw [List.drop_eq_nil_of_le (by rw [r.len]; exact Nat.le_refl _)] at k1
    exact hd s c1 H1 σ1 h k1
/-- range(lo, ..), n turns: the items are lo, lo + 1, .. -/
def rng (lo : Int) : Nat → List Int
  | 0 => []
  | n + 1 => lo :: rng (lo + 1) n
theorem ints_len : ∀ (n : Nat) (lo : Int), (rng lo n).length = n
  | 0, _ => rfl
  | n + 1, lo => by show (rng (lo + 1) n).length + 1 = n + 1; rw [ints_len n]
theorem ints_at : ∀ (n : Nat) (lo : Int) (i : Nat), i < n → (rng lo n)[i]? = some (lo + i)
  | 0, _, i, h => absurd h (Nat.not_lt_zero _)
  | n + 1, lo, 0, _ => by show some lo = some (lo + ((0 : Nat) : Int)); simp
  | n + 1, lo, i + 1, h => by
    show (rng (lo + 1) n)[i]? = some (lo + ((i + 1 : Nat) : Int))
    rw [ints_at n (lo + 1) i (Nat.lt_of_succ_lt_succ h)]
    congr 1
    omega
theorem for_rgn {lo : Int} {n : Nat} {f : τ → Int → Res τ} {rest : τ → Res β} (k : Kont P PE S c0 H0 ((forN (rng lo n) s0 f).bind rest)) (I : τ → Cl → Hp → L2.St → Prop) (h0 : I s0 c H σ)
    (hb : ∀ s x c H σ (N : L2.St → Hp → Prop), I s c H σ → Kont (fun s' c' H' => ∀ σ', I s' c' H' σ' → N σ' H') PE S c0 H0 (f s x) → g (.int x) σ H fun σ2 H2 => tb { D with nx := N, ct := N, bk := D.nx } σ2 H2)
    (hd : ∀ s c H σ, I s c H σ → Kont P PE S c0 H0 (rest s) → D.nx σ H) :
    ∃ W : Nat → Nat → L2.St → Hp → Prop, (∃ m, W 0 m σ H) ∧ ∀ i m σ H, W i m σ H →
      ((Itr lo n).stop i H ∧ D.nx σ H) ∨ ((Itr lo n).go i H ∧ ∃ N : L2.St → Hp → Prop, (∀ σ' H', N σ' H' → ∃ m', m' < m ∧ W (i + 1) m' σ' H') ∧ ∀ x H', (Itr lo n).yld i H x H' → g x σ H' fun σ2 H2 => tb { D with nx := N, ct := N, bk := D.nx } σ2 H2) := by
  refine for_range (lo := lo) (n := n) (fun i σ H => ∃ s c, I s c H σ ∧ Kont P PE S c0 H0 ((forN ((rng lo n).drop i) s f).bind rest)) ⟨s0, c, h0, k⟩ ?_ ?_
  · rintro i σ1 H1 hi ⟨s, c1, h, k1⟩
    rw [drop_at (ints_at n lo i hi), forN_cons, bind_assoc] at k1
    exact hb s _ c1 H1 σ1 _ h (k1.turn.imp (fun s' c' H' st q σ' h' => ⟨s', c', h', q⟩) fun _ _ _ _ q => q)
  · rintro σ1 H1 ⟨s, c1, h, k1⟩
    rw [List.drop_eq_nil_of_le (by rw [ints_len]; exact Nat.le_refl _)] at k1
    exact hd s c1 H1 σ1 h k1
theorem for_rgr {ρ : Type} {lo : Int} {n : Nat} {f : τ → Int → Res (Ctl τ ρ)} {rest : Ctl τ ρ → Res β} {Rr : Cl → Hp → V → ρ → Prop} (k : Kont P PE S c0 H0 ((forR (rng lo n) s0 f).bind rest)) (I : τ → Cl → Hp → L2.St → Prop) (h0 : I s0 c H σ)
    (hb : ∀ s x c H σ (N : L2.St → Hp → Prop), I s c H σ → Kont (fun y c' H' => match y with | .nx s' => ∀ σ', I s' c' H' σ' → N σ' H' | .ret r => ∀ v, Rr c' H' v r → D.rt v H') PE S c0 H0 (f s x) → g (.int x) σ H fun σ2 H2 => tb { D with nx := N, ct := N, bk := D.nx } σ2 H2)
    (hr : ∀ r, Kont P PE S c0 H0 (rest (.ret r)) → ∀ c H, Step S c0 H0 c H → ∀ v, Rr c H v r → D.rt v H)
    (hd : ∀ s c H σ, I s c H σ → Kont P PE S c0 H0 (rest (.nx s)) → D.nx σ H) :
    ∃ W : Nat → Nat → L2.St → Hp → Prop, (∃ m, W 0 m σ H) ∧ ∀ i m σ H, W i m σ H →
      ((Itr lo n).stop i H ∧ D.nx σ H) ∨ ((Itr lo n).go i H ∧ ∃ N : L2.St → Hp → Prop, (∀ σ' H', N σ' H' → ∃ m', m' < m ∧ W (i + 1) m' σ' H') ∧ ∀ x H', (Itr lo n).yld i H x H' → g x σ H' fun σ2 H2 => tb { D with nx := N, ct := N, bk := D.nx } σ2 H2) := by
  refine for_range (lo := lo) (n := n) (fun i σ H => ∃ s c, I s c H σ ∧ Kont P PE S c0 H0 ((forR ((rng lo n).drop i) s f).bind rest)) ⟨s0, c, h0, k⟩ ?_ ?_
  · rintro i σ1 H1 hi ⟨s, c1, h, k1⟩
    rw [drop_at (ints_at n lo i hi), forR_cons, bind_assoc] at k1
    refine hb s _ c1 H1 σ1 _ h (k1.turn.imp (fun y c' H' st q => ?_) fun _ _ _ _ q => q)
    cases y with
    | nx s' => exact fun σ' h' => ⟨s', c', h', q⟩
    | ret r' => exact fun v hv => hr r' q c' H' st v hv
  · rintro σ1 H1 ⟨s, c1, h, k1⟩
    rw [List.drop_eq_nil_of_le (by rw [ints_len]; exact Nat.le_refl _)] at k1
    exact hd s c1 H1 σ1 h k1
/-- a while -/
def WhI (P : β → Cl → Hp → Prop) (PE : Err → Cl → Hp → Prop) (S : List Addr) (c0 : Cl) (H0 : Hp) (I : τ → Cl → Hp → L2.St → Prop) (t : τ → Res Bool) (f : τ → Res τ) (rest : τ → Res β) (n : Nat) (σ : L2.St) (H : Hp) : Prop :=
  ∃ s c, I s c H σ ∧ Kont P PE S c0 H0 ((whileN n s t f).bind rest)
theorem while_n {tc : TT} {fuel : Nat} {t : τ → Res Bool} {f : τ → Res τ} {rest : τ → Res β} (k : Kont P PE S c0 H0 ((whileN fuel s0 t f).bind rest)) (I : τ → Cl → Hp → L2.St → Prop) (h0 : I s0 c H σ)
    (hb : ∀ n s c H σ, I s c H σ → Kont P PE S c0 H0 ((t s).bind fun b => br b ((f s).bind fun s' => (whileN n s' t f).bind rest) (rest s)) →
      tc σ H fun b H1 => if b = true then ∃ N : L2.St → Hp → Prop, (∀ σ' H', N σ' H' → WhI P PE S c0 H0 I t f rest n σ' H') ∧ tb { D with nx := N, ct := N, bk := D.nx } σ H1 else D.nx σ H1)
    (mono : ∀ σ H Q Q', (∀ b H1, Q b H1 → Q' b H1) → tc σ H Q → tc σ H Q') : tWhile tc tb D σ H := by
  refine ⟨fun m σ H => WhI P PE S c0 H0 I t f rest m σ H, ⟨fuel, s0, c, h0, k⟩, ?_⟩
  rintro m σ1 H1 ⟨s, c1, h, k1⟩
  cases m with
  | zero => exact k1.elim
  | succ n =>
    have k2 : Kont P PE S c0 H0 ((t s).bind fun b => br b ((f s).bind fun s' => (whileN n s' t f).bind rest) (rest s)) := by
      have e : ((whileN (n + 1) s t f).bind rest) = ((t s).bind fun b => br b ((f s).bind fun s' => (whileN n s' t f).bind rest) (rest s)) := by
        show (((t s).bind fun b => br b ((f s).bind fun s' => whileN n s' t f) (.ok s)).bind rest) = _
        rw [bind_assoc]
        congr 1
        funext b
        cases b with
        | true => show (((f s).bind fun s' => whileN n s' t f).bind rest) = ((f s).bind fun s' => (whileN n s' t f).bind rest); rw [bind_assoc]
        | false => rfl
      rw [← e]
      exact k1
    refine mono _ _ _ _ (fun b H2 q => ?_) (hb n s c1 H1 σ1 h k2)
    cases b with
    | true =>
      obtain ⟨N, hN, q⟩ := q
      exact ⟨N, fun σ' H' q' => ⟨n, Nat.lt_succ_self _, hN σ' H' q'⟩, q⟩
    | false => exact q
end
/-! #### comprehensions -/
section
variable {γ β α : Type} [DecidableEq α] [DecidableEq β] {A : Ty α} {B : Ty β} {P : γ → Cl → Hp → Prop} {PE : Err → Cl → Hp → Prop} {S : List Addr} {c0 c : Cl} {H0 H : Hp} {σ : L2.St} {g : TG} {te : TE} {K : PySem.W.Frag} {a : Addr} {us : List V} {xs : List α}
theorem yes_u {te : TE} {σ : L2.St} {H : Hp} {Q : VK} {Qn : Hp → Prop} (h : te σ H Q) : tYes σ H fun b H3 => if b = true then te σ H3 Q else Qn H3 := by
  show (if true = true then te σ H Q else Qn H)
  rw [if_pos rfl]
  exact h
theorem compN_cons {x : α} {xs : List α} {f : α → Res β} : compN (x :: xs) f = (nx (f x)).bind fun y => (compN xs f).bind fun ys => .ok (y :: ys) := rfl
/-- the list that is made so far -/
structure Acc (B : Ty β) (H0 : Hp) (c : Cl) (H : Hp) (ci : Cl) (Hi : Hp) (d : Addr) (vs : List V) (ys : List β) : Prop where
  st : Step [] c H ci Hi
  own : Own B H0 ci Hi d vs ys
theorem Acc.start (w : Wf c H) {d : Addr} (n : H d = none) (n0 : H0 d = none) : Acc B H0 c H (setC c d (some d)) (upd H d (.lst [])) d [] [] :=
  ⟨Step.new w n fun r e => by cases e; exact .inl rfl, ⟨setC_same, upd_same, trivial, n0⟩⟩
theorem Acc.push {ci ci' : Cl} {Hi Hi' : Hp} {d : Addr} {vs : List V} {ys : List β} {u : V} {y : β} (h : Acc B H0 c H ci Hi d vs ys) (n : H d = none) (st : Step [] ci Hi ci' Hi') (r : B.r ci' Hi' u y) : Acc B H0 c H ci' (upd Hi' d (.lst (vs ++ [u]))) d (vs ++ [u]) (ys ++ [y]) := by
  have o := h.own.step0 st
  have m : Step [d] ci' Hi' ci' (upd Hi' d (.lst (vs ++ [u]))) := Step.mut st.wf o.obj o.col
  exact ⟨(h.st.tr0 st).tr1 m (.inr n), ⟨o.col, upd_same, (o.rs.up m.up).app ⟨B.up m.up r, trivial⟩, o.new⟩⟩
theorem comp_list {f : α → Res β} {rest : List β → Res γ} {vs : List Nat} {Q : VK} (k : Kont P PE S c0 H0 ((compN xs f).bind rest)) (w : Wf c H) (gs : Step S c0 H0 c H) (hx : SqL K H a us) (hr : Rs A c H us xs) (hl : xs.length ≤ sizeLine)
    (hk : ∀ ci Hi, Step [] c H ci Hi → SqL K Hi a us)
    (hb : ∀ x v ci Hi (Qe : VK) (Qn : Hp → Prop), Step [] c H ci Hi → Step S c0 H0 ci Hi → A.r ci Hi v x → Kont (fun y c' H' => Step [] ci Hi c' H' → ∀ u, B.r c' H' u y → Qe u H') (fun _ _ _ => False) S c0 H0 (f x) → g v (wipe σ vs) Hi fun σ2 H2 => wipe σ2 vs = wipe σ vs ∧ tYes σ2 H2 fun b H3 => if b = true then te σ2 H3 Qe else Qn H3)
    (hd : ∀ ys p us' c' H', H p = none → Step [] c H c' H' → Own B H0 c' H' p us' ys → Kont P PE S c0 H0 (rest ys) → Q (.ref p) H') : ∀ d, H d = none →
    ∃ W : Nat → Nat → Hp → Prop, (∃ m, W 0 m (upd H d (.lst []))) ∧ ∀ i m H, W i m H →
      ((Itl K a).stop i H ∧ Q (.ref d) H) ∨ ((Itl K a).go i H ∧ ∃ Nx : Hp → Prop, (∀ H', Nx H' → ∃ m', m' < m ∧ W (i + 1) m' H') ∧ ∀ x H', (Itl K a).yld i H x H' → g x (wipe σ vs) H' fun σ2 H2 => wipe σ2 vs = wipe σ vs ∧ tYes σ2 H2 fun b H3 =>
        if b = true then te σ2 H3 fun y H4 => ∃ acc, H4 d = some (.lst acc) ∧ acc.length < sizeLine ∧ Nx (upd H4 d (.lst (acc ++ [y]))) else Nx H3) := by
  intro d nd
  have n0 : H0 d = none := gs.fresh nd
  refine lc_list (K := K) (a := a) (xs := us) (Qd := fun H' => Q (.ref d) H') (fun i Hi => ∃ ci zs ys, Acc B H0 c H ci Hi d zs ys ∧ ys.length = i ∧ Kont P PE S c0 H0 ((compN (xs.drop i) f).bind fun r => rest (ys ++ r))) ⟨_, [], [], Acc.start w nd n0, rfl, k⟩ ?_ ?_ ?_
  · rintro i Hi _ ⟨ci, zs, ys, ac, _, _⟩
    exact hk ci Hi ac.st
  · rintro i v Hi hi ⟨ci, zs, ys, ac, el, k1⟩
    obtain ⟨x, hxi, rx⟩ := (hr.up ac.st.up).get hi
    rw [drop_at hxi, compN_cons, bind_assoc] at k1
    have gi : Step S c0 H0 ci Hi := gs.tr0 ac.st
    refine (hb x v ci Hi _ _ ac.st gi rx (k1.turn.nx.imp (fun y c' H' _ q st u ru => ?_) fun e cc HH _ q => q))
    have ac' := ac.push nd st ru
    have hlt : ys.length < xs.length := by rw [el]; exact (List.getElem?_eq_some_iff.mp hxi).1
    refine ⟨zs, (ac.own.step0 st).obj, by rw [ac.own.rs.len]; omega, c', _, _, ac', by rw [List.length_append, el]; rfl, ?_⟩
    rw [bind_assoc] at q
    rw [show (fun r => rest (ys ++ [y] ++ r)) = fun r => rest (ys ++ (y :: r)) from by funext r; rw [List.append_assoc]; rfl]
    exact q
  · rintro Hi ⟨ci, zs, ys, ac, el, k1⟩
    rw [List.drop_eq_nil_of_le (by rw [hr.len]; exact Nat.le_refl _)] at k1
    have k2 : Kont P PE S c0 H0 (rest (ys ++ [])) := k1
    rw [List.append_nil] at k2
    exact hd ys d zs ci Hi nd ac.st ac.own k2
end
end Kb
/-! Kb5: sorted of tuples of ints and texts -/
namespace Kb
open PySem L2 PyProof.Rows PyProof.Rows.G
abbrev SK := List (Int ⊕ List Nat)
def ltK (a b : SK) : Bool := lexLt itemOrd a b
def leK (a b : SK) : Bool := !ltK b a
def itemV : V → Option (Int ⊕ List Nat)
  | .int i => some (.inl i)
  | .str x => some (.inr x.cps.toList)
  | _ => none
def isS : V → Bool
  | .str _ => true
  | _ => false
def keyV : List V → Option SK
  | [] => some []
  | v :: vs => (itemV v).bind fun a => (keyV vs).map (a :: ·)
theorem key_items {sh : Nat → Bool} : ∀ {vs : List V} {its : List Value} {k : SK} (i : Nat), Vals vs its → keyV vs = some k → (∀ j v, vs[j]? = some v → isS v = sh (i + j)) → tupItems sh i its = some k
  | _, _, k, i, .nil, h, _ => by
    have e : ([] : SK) = k := Option.some.inj h
    subst e
    rfl
  | v :: vs, u :: its, k, i, .cons r t, h, s => by
    have s0 := s 0 v rfl
    have st : ∀ j w, vs[j]? = some w → isS w = sh (i + 1 + j) := fun j w e => by
      have z := s (j + 1) w (by simpa using e)
      rw [show i + 1 + j = i + (j + 1) from by omega]
      exact z
    unfold keyV at h
    cases v with
    | int n =>
      obtain ⟨tk, rfl⟩ := r
      have s0' : sh i = false := s0.symm
      cases q : keyV vs with
      | none => rw [q] at h; cases h
      | some k' =>
        rw [q] at h
        have e : (Sum.inl n :: k' : SK) = k := Option.some.inj h
        subst e
        have ih := key_items (i + 1) t q st
        show (if sh i = true then none else (tupItems sh (i + 1) its).map (Sum.inl n :: ·)) = _
        rw [s0', if_neg Bool.false_ne_true, ih]
        rfl
    | str x =>
      obtain ⟨tk, rfl⟩ := r
      have s0' : sh i = true := s0.symm
      cases q : keyV vs with
      | none => rw [q] at h; cases h
      | some k' =>
        rw [q] at h
        have e : (Sum.inr x.cps.toList :: k' : SK) = k := Option.some.inj h
        subst e
        have ih := key_items (i + 1) t q st
        show (if sh i = true then (tupItems sh (i + 1) its).map (Sum.inr x.cps.toList :: ·) else none) = _
        rw [s0', if_pos rfl, ih]
        rfl
    | _ => cases h
/-- sorted(xs), xs a list of tuples of ints and texts of one shape, any length -/
def rSortT (K : PySem.W.Frag) : List V → Hp → VK → Prop := fun vs H Q => ∃ (a : Addr) (us : List V) (kf : V → SK) (sh : Nat → Bool), vs = [V.ref a] ∧ SqL K H a us ∧
  (∀ u ∈ us, ∃ t ws, u = V.ref t ∧ Rd H t (.tup ws) ∧ ws ≠ [] ∧ keyV ws = some (kf u) ∧ ∀ j v, ws[j]? = some v → isS v = sh j) ∧
  ∀ ys p, ys.Perm us → ys.Pairwise (fun x y => leK (kf x) (kf y) = true) → H p = none → Q (.ref p) (upd H p (.lst ys))
section
variable {X : Cx}
theorem back_ref {v : Value} (h : ∃ a, v = Value.ref a) : ∃ a, v = Value.ref a ∧ backV v = V.ref a := by
  obtain ⟨a, rfl⟩ := h
  exact ⟨a, rfl, rfl⟩
theorem tups_of {h : Heap} {sh : Nat → Bool} : ∀ {its : List Value}, (∀ u ∈ its, ∃ f, TupOf h sh u f) → ∃ fs, TupsOf h sh its fs
  | [], _ => ⟨[], .nil⟩
  | u :: its, q => by
    obtain ⟨f, t⟩ := q u List.mem_cons_self
    obtain ⟨fs, r⟩ := tups_of fun v hv => q v (List.mem_cons_of_mem _ hv)
    exact ⟨f :: fs, .cons t r⟩
theorem cr_sortT : CallR X (.builtin "sorted") (rSortT X.K) := by
  intro pins s σ H vs us' Q I r h
  obtain ⟨a, us, kf, sh, rfl, hs, hx, q⟩ := h
  obtain ⟨its, rv, hl, hz⟩ := I.list hs
  obtain ⟨u, rfl, ru⟩ := vals1 r
  obtain rfl : u = Value.ref a := ru
  obtain ⟨e1, e2⟩ := refs_back rv fun x m => by
    obtain ⟨t, _, e, _⟩ := hx x m
    exact ⟨t, e⟩
  -- each value: a tuple of the shape
  have each : ∀ v ∈ its, ∃ t o xs n f, v = .ref t ∧ s.heap.get? t = some o ∧ o.cls = .type "tuple" ∧ o.data = .seq xs n ∧ tupItems sh 0 xs.toList = some (kf (backV v)) ∧ xs[0]? = some f ∧
      (sh 0 = false → ∃ k t, f = .int k t) ∧ (sh 0 = true → ∃ x t, f = .str x t) := fun v hv => by
    obtain ⟨t, rfl⟩ := e2 v hv
    have hm : V.ref t ∈ us := by rw [e1]; exact List.mem_map.mpr ⟨_, hv, rfl⟩
    obtain ⟨t', ws, e, hr, hne, hk, hsh⟩ := hx _ hm
    cases e
    obtain ⟨_, ws', r2, o, ho, hc, n, hd⟩ := hr.ok I.hok
    have hi := key_items (sh := sh) 0 r2 hk fun j v e => by rw [Nat.zero_add]; exact hsh j v e
    cases r2 with
    | nil => exact absurd rfl hne
    | cons r0 rt =>
      rename_i w wv ws0 its0 hlen
      have s0 := hsh 0 w rfl
      refine ⟨t, o, _, n, wv, rfl, ho, hc, hd, hi, rfl, fun z => ?_, fun z => ?_⟩
      · rw [z] at s0
        cases w with
        | int i => obtain ⟨tk, e⟩ := r0; exact ⟨i, tk, e⟩
        | str x => exact absurd s0 (by simp [isS])
        | _ => exact absurd hk (by simp [keyV, itemV])
      · rw [z] at s0
        cases w with
        | str x => obtain ⟨tk, e⟩ := r0; exact ⟨x, tk, e⟩
        | int i => exact absurd s0 (by simp [isS])
        | _ => exact absurd hk (by simp [keyV, itemV])
  have hkey : ∀ v ∈ its, tupKeyC s.heap sh v = some (kf (backV v)) := fun v hv => by
    obtain ⟨t, o, xs, n, f, rfl, ho, hc, hd, hi, _⟩ := each v hv
    unfold tupKeyC
    have e1 : isTupObj s.heap (.ref t) = true := by simp [isTupObj, ho, hc]
    rw [if_pos e1]
    simp only [tupKey, ho, hd]
    exact hi
  obtain ⟨fs, ht⟩ : ∃ fs, TupsOf s.heap sh its fs := tups_of fun v hv => by
    obtain ⟨t, o, xs, n, f, rfl, ho, hc, hd, hi, h0, f1, f2⟩ := each v hv
    exact ⟨f, t, o, xs, n, rfl, ho, hc, hd, h0, f1, f2⟩
  refine sorted_tups hl.isList ht (fun v hv => ⟨_, hkey v hv⟩) (by rw [← rv.length]; exact hz) fun st' hp hso _ => ?_
  have pl : (arrOf st').toList.Perm (its.zip its) := by
    have e := Array.perm_iff_toList_perm.mp hp
    rw [pairsOf_toList] at e
    exact e
  have both : ∀ p ∈ (arrOf st').toList, p.1 = p.2 ∧ p.1 ∈ its := fun p m => by
    have m' := pl.mem_iff.mp m
    exact mem_zip_self m'
  have outP : ((arrOf st').map (·.2)).toList.Perm its := by
    rw [Array.toList_map]
    have e := pl.map (·.2)
    rw [show (its.zip its).map (·.2) = its from by rw [List.map_snd_zip]; exact Nat.le_refl _] at e
    exact e
  have outR : ∀ u ∈ ((arrOf st').map (·.2)).toList, ∃ a, u = Value.ref a := fun u hu => e2 u (outP.mem_iff.mp hu)
  obtain ⟨n, hn⟩ := sortedAll_at s.heap its ((arrOf st').map (·.2))
  have pw : (((arrOf st').map (·.2)).toList.map backV).Pairwise (fun x y => leK (kf x) (kf y) = true) := by
    rw [Array.toList_map, List.map_map, List.pairwise_iff_getElem]
    intro i j hi hj hij
    rw [List.length_map] at hi hj
    have hsz : (pairsOf its).size = (arrOf st').toList.length := by
      have z := pl.length_eq
      rw [z, ← pairsOf_toList, Array.length_toList]
    have o := hso i j (Nat.le_of_lt hij) (by rw [hsz]; exact hj)
    have kk : ∀ m (hm : m < (arrOf st').toList.length), KK (tupKindC s.heap sh) (arrOf st') m = kf (backV ((arrOf st').toList[m]).2) := fun m hm => by
      have hm' : m < (arrOf st').size := by rw [Array.length_toList] at hm; exact hm
      obtain ⟨b1, b2⟩ := both _ (List.getElem_mem hm)
      unfold KK
      rw [show (arrOf st')[m]? = some ((arrOf st').toList[m]) from by rw [Array.getElem_toList]; exact Array.getElem?_eq_getElem hm']
      show ((tupKeyC s.heap sh ((arrOf st').toList[m]).1).getD []) = _
      rw [hkey _ b2, b1]
      rfl
    rw [kk i hi, kk j hj] at o
    rw [List.getElem_map, List.getElem_map]
    show (!ltK _ _) = true
    have o' : lexLt itemOrd (kf (backV ((arrOf st').toList[j]).2)) (kf (backV ((arrOf st').toList[i]).2)) = false := o
    unfold ltK
    show (!lexLt itemOrd (kf (backV ((arrOf st').toList[j]).2)) (kf (backV ((arrOf st').toList[i]).2))) = true
    rw [o']
    rfl
  refine ⟨.ref (s.heap.objs.size + 1), upd H (s.heap.objs.size + 1) (.lst (((arrOf st').map (·.2)).toList.map backV)), I.laid (t' := s.toks) (fun b o hb => sortedAll_old hb) (Nat.le_succ _) ⟨?_, ((arrOf st').map (·.2)).toList, n, vals_back outR, ?_⟩, rfl, q _ _ ?_ pw (I.hok.fresh (Nat.le_succ _))⟩
  · rw [List.length_map, outP.length_eq, ← rv.length]
    exact hz
  · rw [Array.toArray_toList]
    exact hn
  · rw [e1]
    exact outP.map backV
end

/-! #### by data -/
def kfH (H : Hp) : V → SK
  | .ref t => match H t with
    | some (.tup ws) => (keyV ws).getD []
    | some (.frz _ (.tup ws)) => (keyV ws).getD []
    | _ => []
  | _ => []
/-- data that tuples stand for, sorted as tuples are -/
structure SKey {α : Type} [DecidableEq α] (A : Ty α) (key : α → SK) (sh : Nat → Bool) : Prop where
  ok : ∀ {c H v x}, A.r c H v x → ∃ t ws, v = V.ref t ∧ Rd H t (.tup ws) ∧ ws ≠ [] ∧ keyV ws = some (key x) ∧ ∀ j v, ws[j]? = some v → isS v = sh j
  inj : ∀ x y, key x = key y → x = y
theorem kfH_of {H : Hp} {t : Addr} {ws : List V} {k : SK} (r : Rd H t (.tup ws)) (h : keyV ws = some k) : kfH H (.ref t) = k := by
  unfold kfH
  rcases r with r | ⟨o, r⟩ <;> simp only [r, h] <;> rfl
/-- insertion -/
def insK {α : Type} (key : α → SK) (x : α) : List α → List α
  | [] => [x]
  | y :: ys => if leK (key x) (key y) = true then x :: y :: ys else y :: insK key x ys
def sortK {α : Type} (key : α → SK) : List α → List α
  | [] => []
  | x :: xs => insK key x (sortK key xs)
theorem le_refl' (a : SK) : leK a a = true := by
  have z : lexLt itemOrd a a = false := (listOrd itemOrd).irrefl a
  unfold leK ltK
  rw [z]; rfl
theorem le_trans' {a b c : SK} (h1 : leK a b = true) (h2 : leK b c = true) : leK a c = true := by
  have e : ∀ {x y : SK}, leK x y = true → (listOrd itemOrd).kle x y := fun {x y} h => by
    unfold leK ltK at h
    show lexLt itemOrd y x = false
    simpa using h
  have z : lexLt itemOrd c a = false := KeyOrd.kle_trans (O := listOrd itemOrd) (e h1) (e h2)
  unfold leK ltK
  rw [z]; rfl
theorem le_total' (a b : SK) : leK a b = true ∨ leK b a = true := by
  unfold leK ltK
  cases h : lexLt itemOrd b a with
  | false => exact .inl rfl
  | true =>
    refine .inr ?_
    have z : (listOrd itemOrd).kle b a := KeyOrd.kle_of_klt (O := listOrd itemOrd) h
    have z' : lexLt itemOrd a b = false := z
    rw [z']; rfl
theorem le_anti' {a b : SK} (h1 : leK a b = true) (h2 : leK b a = true) : a = b := by
  unfold leK ltK at h1 h2
  exact (listOrd itemOrd).total a b (by simpa using h2) (by simpa using h1)
theorem insK_perm {α : Type} {key : α → SK} {x : α} : ∀ l : List α, (insK key x l).Perm (x :: l)
  | [] => .refl _
  | y :: ys => by
    unfold insK
    split
    · exact .refl _
    · exact ((insK_perm ys).cons y).trans (.swap x y ys)
theorem sortK_perm {α : Type} {key : α → SK} : ∀ l : List α, (sortK key l).Perm l
  | [] => .refl _
  | x :: xs => (insK_perm _).trans ((sortK_perm xs).cons x)
theorem insK_sorted {α : Type} {key : α → SK} {x : α} : ∀ {l : List α}, l.Pairwise (fun a b => leK (key a) (key b) = true) → (insK key x l).Pairwise (fun a b => leK (key a) (key b) = true)
  | [], _ => List.pairwise_singleton _ _
  | y :: ys, h => by
    obtain ⟨h1, h2⟩ := List.pairwise_cons.mp h
    unfold insK
    split
    · rename_i c
      refine List.pairwise_cons.mpr ⟨fun z hz => ?_, h⟩
      rcases List.mem_cons.mp hz with rfl | hz
      · exact c
      · exact le_trans' c (h1 z hz)
    · rename_i c
      refine List.pairwise_cons.mpr ⟨fun z hz => ?_, insK_sorted h2⟩
      have hz' := (insK_perm ys).mem_iff.mp hz
      rcases List.mem_cons.mp hz' with rfl | hz'
      · exact (le_total' _ _).resolve_left c
      · exact h1 z hz'
theorem sortK_sorted {α : Type} {key : α → SK} : ∀ l : List α, (sortK key l).Pairwise (fun a b => leK (key a) (key b) = true)
  | [] => .nil
  | x :: xs => insK_sorted (sortK_sorted xs)
theorem sorted_uniq {α : Type} {key : α → SK} (inj : ∀ x y, key x = key y → x = y) : ∀ {l m : List α}, l.Pairwise (fun a b => leK (key a) (key b) = true) → m.Pairwise (fun a b => leK (key a) (key b) = true) → l.Perm m → l = m
  | [], m, _, _, p => (List.Perm.nil_eq p)
  | x :: l, [], _, _, p => by have z := p.length_eq; simp at z
  | x :: l, y :: m, h1, h2, p => by
    obtain ⟨a1, a2⟩ := List.pairwise_cons.mp h1
    obtain ⟨b1, b2⟩ := List.pairwise_cons.mp h2
    have hx : leK (key x) (key y) = true := by
      have hm : y ∈ x :: l := p.mem_iff.mpr List.mem_cons_self
      rcases List.mem_cons.mp hm with e | hm
      · rw [e]; exact le_refl' _
      · exact a1 y hm
    have hy : leK (key y) (key x) = true := by
      have hm : x ∈ y :: m := p.mem_iff.mp List.mem_cons_self
      rcases List.mem_cons.mp hm with e | hm
      · rw [e]; exact le_refl' _
      · exact b1 x hm
    have e : x = y := inj _ _ (le_anti' hx hy)
    subst e
    rw [sorted_uniq inj a2 b2 (List.Perm.cons_inv p)]
section
variable {α : Type} [DecidableEq α] {A : Ty α} {c : Cl} {H H0 : Hp} {key : α → SK} {sh : Nat → Bool}
theorem Rs.perm {us vs : List V} (p : vs.Perm us) : ∀ {xs : List α}, Rs A c H us xs → ∃ ys, ys.Perm xs ∧ Rs A c H vs ys := by
  induction p with
  | nil =>
    intro xs h
    cases xs with
    | nil => exact ⟨[], .refl _, trivial⟩
    | cons _ _ => exact h.elim
  | cons u p ih =>
    intro xs h
    cases xs with
    | nil => exact h.elim
    | cons x xs =>
      obtain ⟨ys, p', r⟩ := ih h.2
      exact ⟨x :: ys, p'.cons x, h.1, r⟩
  | swap u v l =>
    intro xs h
    cases xs with
    | nil => exact h.elim
    | cons x xs =>
      cases xs with
      | nil => exact h.2.elim
      | cons y xs => exact ⟨y :: x :: xs, .swap _ _ _, h.2.1, h.1, h.2.2⟩
  | trans p q ih1 ih2 =>
    intro xs h
    obtain ⟨ys, p1, r1⟩ := ih2 h
    obtain ⟨zs, p2, r2⟩ := ih1 r1
    exact ⟨zs, p2.trans p1, r2⟩
theorem Rs.pw (K : SKey A key sh) : ∀ {us : List V} {xs : List α}, Rs A c H us xs → us.Pairwise (fun x y => leK (kfH H x) (kfH H y) = true) → xs.Pairwise (fun x y => leK (key x) (key y) = true)
  | [], [], _, _ => .nil
  | u :: us, x :: xs, h, p => by
    obtain ⟨p1, p2⟩ := List.pairwise_cons.mp p
    refine List.pairwise_cons.mpr ⟨fun y hy => ?_, Rs.pw K h.2 p2⟩
    obtain ⟨i, hi, e⟩ := List.getElem_of_mem hy
    obtain ⟨v, e1, r⟩ := h.2.getX (i := i) (x := y) (by rw [← e]; exact List.getElem?_eq_getElem hi)
    have q := p1 v (List.mem_of_getElem? e1)
    obtain ⟨t, ws, rfl, hr, _, hk, _⟩ := K.ok h.1
    obtain ⟨t', ws', rfl, hr', _, hk', _⟩ := K.ok r
    rw [kfH_of hr hk, kfH_of hr' hk'] at q
    exact q
  | [], _ :: _, h, _ => h.elim
  | _ :: _, [], h, _ => h.elim
theorem sorted_end {K : PySem.W.Frag} {v : V} {xs : List α} (SKx : SKey A key sh) (hx : rB K A c H v xs) (w : Wf c H) (n0 : ∀ p, H p = none → H0 p = none) {Q : VK} (q : ∀ p us' c' H', H p = none → Step [] c H c' H' → Own A H0 c' H' p us' (sortK key xs) → Q (.ref p) H') : rSortT K [v] H Q := by
  obtain ⟨a, us, rfl, h, r⟩ := hx
  refine ⟨a, us, kfH H, sh, rfl, h, fun u hu => ?_, fun ys p hp hs np => ?_⟩
  · obtain ⟨i, hi, e⟩ := List.getElem_of_mem hu
    obtain ⟨x, _, rx⟩ := r.get (i := i) (u := u) (by rw [← e]; exact List.getElem?_eq_getElem hi)
    obtain ⟨t, ws, rfl, hr, h1, h2, h3⟩ := SKx.ok rx
    exact ⟨t, ws, rfl, hr, h1, by rw [kfH_of hr h2]; exact h2, h3⟩
  · obtain ⟨zs, pz, rz⟩ := r.perm hp
    have e : zs = sortK key xs := sorted_uniq SKx.inj (rz.pw SKx hs) (sortK_sorted xs) (pz.trans (sortK_perm xs).symm)
    rw [← e] at q
    have st : Step [] c H (setC c p (some p)) (upd H p (.lst ys)) := Step.new w np fun r e => by cases e; exact .inl rfl
    exact q p ys _ _ np st ⟨setC_same, upd_same, rz.up st.up, n0 p np⟩
end
end Kb
/-! Kb6: own errors, isinstance -/
namespace Kb
open PySem L2
/-- isinstance(e, c), e the exception that the suite holds, whatever it is -/
def rIsX (K : PySem.W.Frag) (a : Addr) (cls : Value) (d : Option Addr) : List V → Hp → VK → Prop := fun xs H Q => ∃ (D : Addr) (c : V) (cv : Value) (b : Bool), cls = .ref D ∧ d = none ∧ ExcC K D ∧ xs = [.ref a, c] ∧ (∀ u, RelV c u → u = cv) ∧ PySem.W.kitOne K (.ref D) cv = some b ∧ Q (.bl b) H
theorem call_isX {X : Cx} {a : Addr} {cls : Value} {d : Option Addr} {oe : Obj} {pn : List (Addr × Obj)} (hz : Zc cls d oe) (hf : ∃ vs, oe.data = .fields vs) : CallR (X.suite a ((a, oe) :: pn)) (.builtin "isinstance") (rIsX X.K a cls d) := by
  intro pins s σ H xs us Q I r h
  obtain ⟨D, c, cv, b, rfl, rfl, C, e1, h1, h2, q⟩ := h
  exact call_isE C hz hf pins s σ H xs us Q I r ⟨c, cv, b, e1, h1, h2, q⟩
theorem rc_isX {K : PySem.W.Frag} {a : Addr} {D : Addr} {H : Hp} {c : V} {cv : Value} {b : Bool} (C : ExcC K D) (hk : PySem.W.kitOne K (.ref D) cv = some b) (hc : ∀ u, RelV c u → u = cv := by intro u h; exact h) : Rc (rIsX K a (.ref D) none) [.ref a, c] H (.bl b) := fun _ q => ⟨D, c, cv, b, rfl, rfl, C, rfl, hc, hk, q⟩
/-- the classes of errors, as the top has made them: ea e is e's class, kerb the base's -/
structure ErrC (K : PySem.W.Frag) (mg : Str → Option Value) (x : Str) (C : Addr) (tail : List Value) : Prop where
  g : mg x = some (.ref C)
  ex : PySem.W.excIn K C tail "ValueError.__new__" = true
  kp : PySem.W.keepIn K (.ref C) = true
  sub : PySem.W.subIn K (.ref C) (.type "BaseException") = some true
  ty : PySem.W.typeIn K (.ref C) = some (.type "type")
  ec : ExcC K C
theorem ErrC.raises {X : Cx} {x : Str} {C : Addr} {tail : List Value} (e : ErrC X.K X.mg x C tail) : Raises X (.ref C) := raises_own e.sub e.ty
/-- a def of the text, called by its name -/
structure Df (K : PySem.W.Frag) (mg : Str → Option Value) (x : Str) (st : Stmt) (f : Addr) (fd : FuncData) (ps : List Str) : Prop where
  F : Fun K x x st f fd
  g : mg x = some (.ref f)
  b : Binds K fd ps []
/-- isinstance of data whose kind is known -/
theorem rc_isi {K : PySem.W.Frag} {H : Hp} {x c : V} {t u : Value} {b : Bool} (hc : ClsV c u) (ht : TyX K H x t) (hk : PySem.W.kitOne K t u = some b) : Rc (rIsi K) [x, c] H (.bl b) := fun _ q => ⟨x, c, t, u, b, rfl, hc, ht, hk, q⟩
theorem tyx_int {K : PySem.W.Frag} {H : Hp} {i : Int} : TyX K H (.int i) (.type "int") := .base (by first | exact .int i | exact .int | constructor)
theorem tyx_bl {K : PySem.W.Frag} {H : Hp} {i : Bool} : TyX K H (.bl i) (.type "bool") := .base (by first | exact .bl i | exact .bl | constructor)
theorem tyx_str {K : PySem.W.Frag} {H : Hp} {i : Str} : TyX K H (.str i) (.type "str") := .base (by first | exact .str i | exact .str | constructor)
end Kb
/-! Kb7: steps by data -/
namespace Kb
open PySem L2
theorem lift {α : Type} [DecidableEq α] {A : Ty α} {c c' : Cl} {H H' : Hp} {T : List Addr} {v : V} {x : α} (h : A.r c H v x) (st : Step T c H c' H') : A.r c' H' v x := A.up st.up h
theorem liftF {α : Type} [DecidableEq α] {A : Ty α} {c : Cl} {H : Hp} {p : Addr} {v : V} {x : α} (h : A.r c H v x) : A.r (frz c p) H v x := A.up frz_up h
/-- a frozen list, opened -/
structure Fzl {α : Type} [DecidableEq α] (A : Ty α) (c : Cl) (H : Hp) (a : Addr) (us : List V) (xs : List α) : Prop where
  col : c a = none
  obj : H a = some (.lst us)
  rs : Rs A c H us xs
section
variable {α : Type} [DecidableEq α] {A : Ty α} {c c' c0 : Cl} {H H' H0 : Hp} {S T : List Addr} {p a : Addr} {us : List V} {xs : List α} {v x y : V} {σ : L2.St} {t ta tb : TE}
theorem tyL_open (h : (tyL A).r c H v xs) : ∃ a us, v = .ref a ∧ Fzl A c H a us xs := let ⟨a, us, e, k, q, r⟩ := h; ⟨a, us, e, k, q, r⟩
theorem Fzl.lift (h : Fzl A c H a us xs) (st : Step T c H c' H') : Fzl A c' H' a us xs := ⟨st.up.col a _ h.obj h.col, st.up.obj a _ h.obj h.col, h.rs.up st.up⟩
theorem Fzl.liftF (h : Fzl A c H a us xs) : Fzl A (frz c p) H a us xs := ⟨frz_none h.col, h.obj, h.rs.up frz_up⟩
theorem Fzl.rd {K : PySem.W.Frag} (h : Fzl A c H a us xs) : SqL K H a us := .inl (.inl h.obj)
theorem Fzl.b {K : PySem.W.Frag} (h : Fzl A c H a us xs) : rB K A c H (.ref a) xs := ⟨a, us, rfl, .inl (.inl h.obj), h.rs⟩
theorem Fzl.pl (h : Fzl A c H a us xs) : rP A c H (.ref a) xs := ⟨a, us, rfl, h.obj, h.rs⟩
theorem Fzl.ty (h : Fzl A c H a us xs) : (tyL A).r c H (.ref a) xs := ⟨a, us, rfl, h.col, h.obj, h.rs⟩
/-- what the base knows of a list that is read alone, opened -/
structure Bl (K : PySem.W.Frag) (A : Ty α) (c0 : Cl) (H0 : Hp) (a : Addr) (us : List V) (xs : List α) : Prop where
  rd : SqL K H0 a us
  rs : Rs A c0 H0 us xs
theorem rB_open {K : PySem.W.Frag} (h : rB K A c H v xs) : ∃ a us, v = .ref a ∧ Bl K A c H a us xs := let ⟨a, us, e, q, r⟩ := h; ⟨a, us, e, q, r⟩
theorem Bl.b {K : PySem.W.Frag} (h : Bl K A c H a us xs) : rB K A c H (.ref a) xs := ⟨a, us, rfl, h.rd, h.rs⟩
theorem Bl.at {K : PySem.W.Frag} (h : Bl K A c0 H0 a us xs) (g : Step [] c0 H0 c H) : Bl K A c H a us xs := by
  exact ⟨g.sq0 h.rd, h.rs.up g.up⟩
theorem rv_ixB {K : PySem.W.Frag} {i : Int} {z : α} (h : rB K A c H v xs) (e : atI xs i = some z) : ∃ u, A.r c H u z ∧ Rv (rIxL K) v (.int i) H u := by
  obtain ⟨a, us, rfl, q, r⟩ := h
  obtain ⟨u, e1, ru⟩ := r.at e
  exact ⟨u, ru, fun _ z => ⟨a, us, i, u, rfl, rfl, q, e1, z⟩⟩
theorem len_B {K : PySem.W.Frag} (h : rB K A c H v xs) (hv : Pv t σ H v) : Pv (tCB (fun xs H Q => ∃ p ys, xs = [.ref p] ∧ (SqL K H p ys ∨ SqT K H p ys) ∧ Q (.int ys.length) H) (tCons t tNil)) σ H (.int xs.length) := pv_cb (pa_c hv pa_n) (rc_lenB h)
theorem tyx_lst {K : PySem.W.Frag} (h : rP A c H v xs) : TyX K H v (.type "list") := by
  obtain ⟨a, us, rfl, q, r⟩ := h
  exact .base (.lst q)
theorem nx_go {a : L2.St → Hp → Prop} {b : VK} {cc d : L2.St → Hp → Prop} (h : a σ H) : Ends.nx ⟨a, b, cc, d⟩ σ H := h
theorem for_u {wi : TI} {g : TG} {tb : TS} {D : Ends} (h : wi σ H fun J H1 => ∃ W : Nat → Nat → L2.St → Hp → Prop, (∃ m, W 0 m σ H1) ∧ ∀ i m σ H, W i m σ H →
  (J.stop i H ∧ D.nx σ H) ∨ (J.go i H ∧ ∃ N : L2.St → Hp → Prop, (∀ σ' H', N σ' H' → ∃ m', m' < m ∧ W (i + 1) m' σ' H') ∧ ∀ x H', J.yld i H x H' → g x σ H' fun σ2 H2 => tb { D with nx := N, ct := N, bk := D.nx } σ2 H2)) : tFor wi g tb D σ H := h
def LIt (K : PySem.W.Frag) (R : It → Hp → Prop) (x : V) (H1 : Hp) : Prop := ∃ a, x = .ref a ∧ (∃ xs, SqL K H1 a xs) ∧ R (Itl K a) H1
theorem ilist_u {K : PySem.W.Frag} {tl : TE} {R : It → Hp → Prop} (h : tl σ H (LIt K R)) : iList K tl σ H R := h
theorem ilist_e {K : PySem.W.Frag} {R : It → Hp → Prop} (hr : SqL K H a us) (q : R (Itl K a) H) : LIt K R (V.ref a) H := ⟨a, rfl, ⟨us, hr⟩, q⟩
def RIt1 (R : It → Hp → Prop) (vs : List V) (H1 : Hp) : Prop := ∃ j : Int, vs = [.int j] ∧ -(2 ^ 62) ≤ j ∧ j < 2 ^ 62 ∧ R (Itr 0 j.toNat) H1
theorem irng1_u {ta : TA} {R : It → Hp → Prop} (h : ta σ H (RIt1 R)) : iRng1 ta σ H R := h
def RIt2 (R : It → Hp → Prop) (vs : List V) (H1 : Hp) : Prop := ∃ i j : Int, vs = [.int i, .int j] ∧ (-(2 ^ 62) ≤ i ∧ i < 2 ^ 62 ∧ -(2 ^ 62) ≤ j ∧ j < 2 ^ 62) ∧ R (Itr i (j - i).toNat) H1
theorem irng2_u {ta : TA} {R : It → Hp → Prop} (h : ta σ H (RIt2 R)) : iRng2 ta σ H R := h
@[irreducible] def rngOk (i : Int) : Bool := decide (-(2 ^ 62) ≤ i) && decide (i < 2 ^ 62)
theorem rngOk_iff {i : Int} (h : rngOk i = true) : -(2 ^ 62) ≤ i ∧ i < 2 ^ 62 := by
  unfold rngOk at h
  rw [Bool.and_eq_true] at h
  exact ⟨of_decide_eq_true h.1, of_decide_eq_true h.2⟩
theorem irng1_e {R : It → Hp → Prop} {j : Int} (h : rngOk j = true) (q : R (Itr 0 j.toNat) H) : RIt1 R [V.int j] H := ⟨j, rfl, (rngOk_iff h).1, (rngOk_iff h).2, q⟩
theorem irng2_e {R : It → Hp → Prop} {i j : Int} (h : rngOk i = true) (h' : rngOk j = true) (q : R (Itr i (j - i).toNat) H) : RIt2 R [V.int i, V.int j] H := ⟨i, j, rfl, ⟨(rngOk_iff h).1, (rngOk_iff h).2, (rngOk_iff h').1, (rngOk_iff h').2⟩, q⟩
@[irreducible] def mulOk (a b : Int) : Bool := decide (a.natAbs.log2 + b.natAbs.log2 < 1000000)
theorem rv_mul {i j : Int} (h : mulOk i j = true) : Rv (rI CMulW fun i j => .int (i * j)) (.int i) (.int j) H (.int (i * j)) := rv_ic (C := CMulW) (g := fun i j => .int (i * j)) (show i.natAbs.log2 + j.natAbs.log2 < 1000000 by unfold mulOk at h; exact of_decide_eq_true h)
@[irreducible] def divOk (b : Int) : Bool := decide (0 < b) && decide (b.natAbs.log2 < 9000)
theorem rv_div {i j : Int} (h : divOk j = true) : Rv (rI CDivW fun i j => .int (i / j)) (.int i) (.int j) H (.int (i / j)) := rv_ic (C := CDivW) (g := fun i j => .int (i / j)) (by
  unfold divOk at h
  rw [Bool.and_eq_true] at h
  exact ⟨of_decide_eq_true h.1, of_decide_eq_true h.2⟩)
theorem rv_mod {i j : Int} (h : decide (0 < j) = true) : Rv (rI (fun _ j => 0 < j) fun i j => .int (i % j)) (.int i) (.int j) H (.int (i % j)) := rv_ic (C := fun _ j => 0 < j) (g := fun i j => .int (i % j)) (of_decide_eq_true h)
theorem rv_modL {i j : Int} (h : 0 < j) : Rv (rI (fun _ j => 0 < j) fun i j => .int (i % j)) (.int i) (.int j) H (.int (i % j)) := rv_ic (C := fun _ j => 0 < j) (g := fun i j => .int (i % j)) h
theorem rv_divL {i j : Int} (h : CDiv i j) : Rv (rI CDiv fun i j => .int (i / j)) (.int i) (.int j) H (.int (i / j)) := rv_ic (C := CDiv) (g := fun i j => .int (i / j)) h
theorem rv_pow {i j : Int} (h : CPow i j) : Rv (rI CPow fun i j => .int (i ^ j.toNat)) (.int i) (.int j) H (.int (i ^ j.toNat)) := rv_ic (C := CPow) (g := fun i j => .int (i ^ j.toNat)) h
theorem pv_neg {i : Int} (h : Pv t σ H (.int i)) : Pv (tUn (rU fun i => .int (-i)) t) σ H (.int (-i)) := pv_1 h fun _ q => ⟨i, rfl, q⟩
/-- truth of a list -/
theorem pt_list {K : PySem.W.Frag} (h : rB K A c H v xs) (hv : Pv t σ H v) : PvT (fun σ H Q => t σ H fun x H' => ∃ k, TruV K x H' k ∧ Q k H') σ H (!xs.isEmpty) := by
  obtain ⟨a, us, rfl, q, r⟩ := h
  refine fun Q q1 => hv _ ⟨!xs.isEmpty, .inl ⟨us, q, ?_⟩, q1⟩
  have e := r.len
  cases us <;> cases xs <;> simp_all
/-- a test whose ways meet behind it -/
theorem if_cut {β τ : Type} {P : β → Cl → Hp → Prop} {PE : Err → Cl → Hp → Prop} {m : Res τ} {rest : τ → Res β} {cc : TT} {t u : TS} {D : Ends} (k : Kont P PE S c0 H0 (m.bind rest)) (I : τ → Cl → Hp → L2.St → Prop) (kk : ∀ s c H σ, I s c H σ → Kont P PE S c0 H0 (rest s) → D.nx σ H)
    (h : Kont (fun s c' H' => ∀ σ', I s c' H' σ' → D.nx σ' H') PE S c0 H0 m → tIfS cc t u D σ H) : tIfS cc t u D σ H := h (k.turn.imp (fun s c H _ q σ i => kk s c H σ i q) fun _ _ _ _ q => q)
theorem Own.base {c1 : Cl} {H1 : Hp} (h : Own A H1 c H p us xs) (g : Step S c0 H0 c1 H1) : Own A H0 c H p us xs := ⟨h.col, h.obj, h.rs, g.fresh h.new⟩
theorem PvT.ifS {cc : TT} {t u : TS} {D : Ends} {b : Bool} (h : PvT cc σ H b) (ht : b = true → t D σ H) (hf : b = false → u D σ H) : tIfS cc t u D σ H := h _ (by
  cases b with
  | true => exact iteT (ht rfl)
  | false => exact iteF (hf rfl))
theorem ite_b {b : Bool} {A B : Prop} (ht : b = true → A) (hf : b = false → B) : if b = true then A else B := by
  cases b with
  | true => exact iteT (ht rfl)
  | false => exact iteF (hf rfl)
theorem not_s {t : TT} {A B : Hp → Prop} (h : t σ H fun c H1 => if c = true then B H1 else A H1) : tNot t σ H fun b H1 => if b = true then A H1 else B H1 := by
  show t σ H fun c H1 => if (!c) = true then A H1 else B H1
  have e : (fun (c : Bool) (H1 : Hp) => if (!c) = true then A H1 else B H1) = fun c H1 => if c = true then B H1 else A H1 := by
    funext c H1
    cases c <;> rfl
  rw [e]
  exact h
theorem and_s {t u : TT} {A B : Hp → Prop} (h : t σ H fun c H1 => if c = true then (u σ H1 fun b H2 => if b = true then A H2 else B H2) else B H1) : tAnd t u σ H fun b H1 => if b = true then A H1 else B H1 := by
  show t σ H fun c H1 => if c = true then (u σ H1 fun b H2 => if b = true then A H2 else B H2) else (if false = true then A H1 else B H1)
  have e : (fun (c : Bool) (H1 : Hp) => if c = true then (u σ H1 fun b H2 => if b = true then A H2 else B H2) else (if false = true then A H1 else B H1)) = fun c H1 => if c = true then (u σ H1 fun b H2 => if b = true then A H2 else B H2) else B H1 := by
    funext c H1
    cases c <;> rfl
  rw [e]
  exact h
theorem or_s {t u : TT} {A B : Hp → Prop} (h : t σ H fun c H1 => if c = true then A H1 else (u σ H1 fun b H2 => if b = true then A H2 else B H2)) : tOr t u σ H fun b H1 => if b = true then A H1 else B H1 := by
  show t σ H fun c H1 => if c = true then (if true = true then A H1 else B H1) else (u σ H1 fun b H2 => if b = true then A H2 else B H2)
  have e : (fun (c : Bool) (H1 : Hp) => if c = true then (if true = true then A H1 else B H1) else (u σ H1 fun b H2 => if b = true then A H2 else B H2)) = fun c H1 => if c = true then A H1 else (u σ H1 fun b H2 => if b = true then A H2 else B H2) := by
    funext c H1
    cases c <;> rfl
  rw [e]
  exact h
theorem cat_B {ys : List α} (hx : rP A c H v xs) (hy : rP A c H x ys) (w : Wf c H) (n0 : ∀ p, H p = none → H0 p = none) (hl : xs.length + ys.length ≤ sizeLine) {Q : VK}
    (q : ∀ p us' c' H', H p = none → Step [] c H c' H' → Own A H0 c' H' p us' (xs ++ ys) → Q (.ref p) H') : rCat v x H Q := by
  obtain ⟨a, us, rfl, h1, r1⟩ := hx
  obtain ⟨b, vs, rfl, h2, r2⟩ := hy
  exact cat_end rfl rfl h1 r1 h2 r2 w n0 hl q
theorem ok_cat {x y : Str} (h1 : PyData.strOk x = true) (h2 : PyData.strOk y = true) : PyData.strOk (x ++ y) = true := by
  unfold PyData.strOk at *
  show (x.cps ++ y.cps).all _ = true
  rw [Array.all_append, h1, h2]; rfl
theorem ok_at {x : Str} {i : Int} {n : Nat} (h : PyData.strOk x = true) (e : atI x.cps.toList i = some n) : PyData.strOk ⟨#[n]⟩ = true := by
  unfold PyData.strOk at *
  rw [Array.all_eq_true] at h
  unfold atI at e
  cases q : ixN x.cps.toList.length i with
  | none => rw [q] at e; cases e
  | some j =>
    rw [q] at e
    have e' : x.cps.toList[j]? = some n := e
    obtain ⟨hj, ej⟩ := List.getElem?_eq_some_iff.mp e'
    have hj' : j < x.cps.size := by rw [← Array.length_toList]; exact hj
    have z := h j hj'
    rw [← Array.getElem_toList] at z
    rw [ej] at z
    simpa using z
/-- from a base to a list's places -/
theorem base_ok (w : Wf c H) : Step [] c H c H := Step.refl w
end

theorem ix2_0 {α0 : Type} [DecidableEq α0] {A0 : Ty α0} {α1 : Type} [DecidableEq α1] {A1 : Ty α1} {c : Cl} {H : Hp} {v : V} {x : α0 × α1} (h : (tyT2 A0 A1).r c H v x) : ∃ u, A0.r c H u (x.1) ∧ ∀ {K : PySem.W.Frag}, Rv (rIxT K) v (.int 0) H u := by
  obtain ⟨a, u0, u1, rfl, _, q, h0, h1⟩ := h
  exact ⟨u0, h0, rv_ixt q rfl⟩
theorem ix2_1 {α0 : Type} [DecidableEq α0] {A0 : Ty α0} {α1 : Type} [DecidableEq α1] {A1 : Ty α1} {c : Cl} {H : Hp} {v : V} {x : α0 × α1} (h : (tyT2 A0 A1).r c H v x) : ∃ u, A1.r c H u (x.2) ∧ ∀ {K : PySem.W.Frag}, Rv (rIxT K) v (.int 1) H u := by
  obtain ⟨a, u0, u1, rfl, _, q, h0, h1⟩ := h
  exact ⟨u1, h1, rv_ixt q rfl⟩
theorem open2 {α0 : Type} [DecidableEq α0] {A0 : Ty α0} {α1 : Type} [DecidableEq α1] {A1 : Ty α1} {c : Cl} {H : Hp} {v : V} {x : α0 × α1} (h : (tyT2 A0 A1).r c H v x) : ∃ (a : Addr) (u0 u1 : V), v = .ref a ∧ Rd H a (.tup [u0, u1]) ∧ A0.r c H u0 (x.1) ∧ A1.r c H u1 (x.2) := by
  obtain ⟨a, u0, u1, e, _, q, h0, h1⟩ := h
  exact ⟨a, u0, u1, e, q, h0, h1⟩
theorem tyx2 {α0 : Type} [DecidableEq α0] {A0 : Ty α0} {α1 : Type} [DecidableEq α1] {A1 : Ty α1} {c : Cl} {H : Hp} {v : V} {x : α0 × α1} {K : PySem.W.Frag} (h : (tyT2 A0 A1).r c H v x) : TyX K H v (.type "tuple") := by
  obtain ⟨a, u0, u1, rfl, _, q, h0, h1⟩ := h
  rcases q with q | ⟨o, q⟩
  · exact .base (.tup q)
  · exact .fTuple q
theorem lenT2 {α0 : Type} [DecidableEq α0] {A0 : Ty α0} {α1 : Type} [DecidableEq α1] {A1 : Ty α1} {c : Cl} {H : Hp} {v : V} {x : α0 × α1} {K : PySem.W.Frag} {σ : L2.St} {t : TE} (h : (tyT2 A0 A1).r c H v x) (hv : Pv t σ H v) : Pv (tCB (fun xs H Q => ∃ p ys, xs = [.ref p] ∧ (SqL K H p ys ∨ SqT K H p ys) ∧ Q (.int ys.length) H) (tCons t tNil)) σ H (.int 2) := by
  obtain ⟨a, u0, u1, rfl, _, q, h0, h1⟩ := h
  exact pv_cb (pa_c hv pa_n) (rc_lent q)
theorem ix3_0 {α0 : Type} [DecidableEq α0] {A0 : Ty α0} {α1 : Type} [DecidableEq α1] {A1 : Ty α1} {α2 : Type} [DecidableEq α2] {A2 : Ty α2} {c : Cl} {H : Hp} {v : V} {x : α0 × α1 × α2} (h : (tyT3 A0 A1 A2).r c H v x) : ∃ u, A0.r c H u (x.1) ∧ ∀ {K : PySem.W.Frag}, Rv (rIxT K) v (.int 0) H u := by
  obtain ⟨a, u0, u1, u2, rfl, _, q, h0, h1, h2⟩ := h
  exact ⟨u0, h0, rv_ixt q rfl⟩
theorem ix3_1 {α0 : Type} [DecidableEq α0] {A0 : Ty α0} {α1 : Type} [DecidableEq α1] {A1 : Ty α1} {α2 : Type} [DecidableEq α2] {A2 : Ty α2} {c : Cl} {H : Hp} {v : V} {x : α0 × α1 × α2} (h : (tyT3 A0 A1 A2).r c H v x) : ∃ u, A1.r c H u (x.2.1) ∧ ∀ {K : PySem.W.Frag}, Rv (rIxT K) v (.int 1) H u := by
  obtain ⟨a, u0, u1, u2, rfl, _, q, h0, h1, h2⟩ := h
  exact ⟨u1, h1, rv_ixt q rfl⟩
theorem ix3_2 {α0 : Type} [DecidableEq α0] {A0 : Ty α0} {α1 : Type} [DecidableEq α1] {A1 : Ty α1} {α2 : Type} [DecidableEq α2] {A2 : Ty α2} {c : Cl} {H : Hp} {v : V} {x : α0 × α1 × α2} (h : (tyT3 A0 A1 A2).r c H v x) : ∃ u, A2.r c H u (x.2.2) ∧ ∀ {K : PySem.W.Frag}, Rv (rIxT K) v (.int 2) H u := by
  obtain ⟨a, u0, u1, u2, rfl, _, q, h0, h1, h2⟩ := h
  exact ⟨u2, h2, rv_ixt q rfl⟩
theorem open3 {α0 : Type} [DecidableEq α0] {A0 : Ty α0} {α1 : Type} [DecidableEq α1] {A1 : Ty α1} {α2 : Type} [DecidableEq α2] {A2 : Ty α2} {c : Cl} {H : Hp} {v : V} {x : α0 × α1 × α2} (h : (tyT3 A0 A1 A2).r c H v x) : ∃ (a : Addr) (u0 u1 u2 : V), v = .ref a ∧ Rd H a (.tup [u0, u1, u2]) ∧ A0.r c H u0 (x.1) ∧ A1.r c H u1 (x.2.1) ∧ A2.r c H u2 (x.2.2) := by
  obtain ⟨a, u0, u1, u2, e, _, q, h0, h1, h2⟩ := h
  exact ⟨a, u0, u1, u2, e, q, h0, h1, h2⟩
theorem tyx3 {α0 : Type} [DecidableEq α0] {A0 : Ty α0} {α1 : Type} [DecidableEq α1] {A1 : Ty α1} {α2 : Type} [DecidableEq α2] {A2 : Ty α2} {c : Cl} {H : Hp} {v : V} {x : α0 × α1 × α2} {K : PySem.W.Frag} (h : (tyT3 A0 A1 A2).r c H v x) : TyX K H v (.type "tuple") := by
  obtain ⟨a, u0, u1, u2, rfl, _, q, h0, h1, h2⟩ := h
  rcases q with q | ⟨o, q⟩
  · exact .base (.tup q)
  · exact .fTuple q
theorem lenT3 {α0 : Type} [DecidableEq α0] {A0 : Ty α0} {α1 : Type} [DecidableEq α1] {A1 : Ty α1} {α2 : Type} [DecidableEq α2] {A2 : Ty α2} {c : Cl} {H : Hp} {v : V} {x : α0 × α1 × α2} {K : PySem.W.Frag} {σ : L2.St} {t : TE} (h : (tyT3 A0 A1 A2).r c H v x) (hv : Pv t σ H v) : Pv (tCB (fun xs H Q => ∃ p ys, xs = [.ref p] ∧ (SqL K H p ys ∨ SqT K H p ys) ∧ Q (.int ys.length) H) (tCons t tNil)) σ H (.int 3) := by
  obtain ⟨a, u0, u1, u2, rfl, _, q, h0, h1, h2⟩ := h
  exact pv_cb (pa_c hv pa_n) (rc_lent q)
theorem ix4_0 {α0 : Type} [DecidableEq α0] {A0 : Ty α0} {α1 : Type} [DecidableEq α1] {A1 : Ty α1} {α2 : Type} [DecidableEq α2] {A2 : Ty α2} {α3 : Type} [DecidableEq α3] {A3 : Ty α3} {c : Cl} {H : Hp} {v : V} {x : α0 × α1 × α2 × α3} (h : (tyT4 A0 A1 A2 A3).r c H v x) : ∃ u, A0.r c H u (x.1) ∧ ∀ {K : PySem.W.Frag}, Rv (rIxT K) v (.int 0) H u := by
  obtain ⟨a, u0, u1, u2, u3, rfl, _, q, h0, h1, h2, h3⟩ := h
  exact ⟨u0, h0, rv_ixt q rfl⟩
theorem ix4_1 {α0 : Type} [DecidableEq α0] {A0 : Ty α0} {α1 : Type} [DecidableEq α1] {A1 : Ty α1} {α2 : Type} [DecidableEq α2] {A2 : Ty α2} {α3 : Type} [DecidableEq α3] {A3 : Ty α3} {c : Cl} {H : Hp} {v : V} {x : α0 × α1 × α2 × α3} (h : (tyT4 A0 A1 A2 A3).r c H v x) : ∃ u, A1.r c H u (x.2.1) ∧ ∀ {K : PySem.W.Frag}, Rv (rIxT K) v (.int 1) H u := by
  obtain ⟨a, u0, u1, u2, u3, rfl, _, q, h0, h1, h2, h3⟩ := h
  exact ⟨u1, h1, rv_ixt q rfl⟩
theorem ix4_2 {α0 : Type} [DecidableEq α0] {A0 : Ty α0} {α1 : Type} [DecidableEq α1] {A1 : Ty α1} {α2 : Type} [DecidableEq α2] {A2 : Ty α2} {α3 : Type} [DecidableEq α3] {A3 : Ty α3} {c : Cl} {H : Hp} {v : V} {x : α0 × α1 × α2 × α3} (h : (tyT4 A0 A1 A2 A3).r c H v x) : ∃ u, A2.r c H u (x.2.2.1) ∧ ∀ {K : PySem.W.Frag}, Rv (rIxT K) v (.int 2) H u := by
  obtain ⟨a, u0, u1, u2, u3, rfl, _, q, h0, h1, h2, h3⟩ := h
  exact ⟨u2, h2, rv_ixt q rfl⟩
theorem ix4_3 {α0 : Type} [DecidableEq α0] {A0 : Ty α0} {α1 : Type} [DecidableEq α1] {A1 : Ty α1} {α2 : Type} [DecidableEq α2] {A2 : Ty α2} {α3 : Type} [DecidableEq α3] {A3 : Ty α3} {c : Cl} {H : Hp} {v : V} {x : α0 × α1 × α2 × α3} (h : (tyT4 A0 A1 A2 A3).r c H v x) : ∃ u, A3.r c H u (x.2.2.2) ∧ ∀ {K : PySem.W.Frag}, Rv (rIxT K) v (.int 3) H u := by
  obtain ⟨a, u0, u1, u2, u3, rfl, _, q, h0, h1, h2, h3⟩ := h
  exact ⟨u3, h3, rv_ixt q rfl⟩
theorem open4 {α0 : Type} [DecidableEq α0] {A0 : Ty α0} {α1 : Type} [DecidableEq α1] {A1 : Ty α1} {α2 : Type} [DecidableEq α2] {A2 : Ty α2} {α3 : Type} [DecidableEq α3] {A3 : Ty α3} {c : Cl} {H : Hp} {v : V} {x : α0 × α1 × α2 × α3} (h : (tyT4 A0 A1 A2 A3).r c H v x) : ∃ (a : Addr) (u0 u1 u2 u3 : V), v = .ref a ∧ Rd H a (.tup [u0, u1, u2, u3]) ∧ A0.r c H u0 (x.1) ∧ A1.r c H u1 (x.2.1) ∧ A2.r c H u2 (x.2.2.1) ∧ A3.r c H u3 (x.2.2.2) := by
  obtain ⟨a, u0, u1, u2, u3, e, _, q, h0, h1, h2, h3⟩ := h
  exact ⟨a, u0, u1, u2, u3, e, q, h0, h1, h2, h3⟩
theorem tyx4 {α0 : Type} [DecidableEq α0] {A0 : Ty α0} {α1 : Type} [DecidableEq α1] {A1 : Ty α1} {α2 : Type} [DecidableEq α2] {A2 : Ty α2} {α3 : Type} [DecidableEq α3] {A3 : Ty α3} {c : Cl} {H : Hp} {v : V} {x : α0 × α1 × α2 × α3} {K : PySem.W.Frag} (h : (tyT4 A0 A1 A2 A3).r c H v x) : TyX K H v (.type "tuple") := by
  obtain ⟨a, u0, u1, u2, u3, rfl, _, q, h0, h1, h2, h3⟩ := h
  rcases q with q | ⟨o, q⟩
  · exact .base (.tup q)
  · exact .fTuple q
theorem lenT4 {α0 : Type} [DecidableEq α0] {A0 : Ty α0} {α1 : Type} [DecidableEq α1] {A1 : Ty α1} {α2 : Type} [DecidableEq α2] {A2 : Ty α2} {α3 : Type} [DecidableEq α3] {A3 : Ty α3} {c : Cl} {H : Hp} {v : V} {x : α0 × α1 × α2 × α3} {K : PySem.W.Frag} {σ : L2.St} {t : TE} (h : (tyT4 A0 A1 A2 A3).r c H v x) (hv : Pv t σ H v) : Pv (tCB (fun xs H Q => ∃ p ys, xs = [.ref p] ∧ (SqL K H p ys ∨ SqT K H p ys) ∧ Q (.int ys.length) H) (tCons t tNil)) σ H (.int 4) := by
  obtain ⟨a, u0, u1, u2, u3, rfl, _, q, h0, h1, h2, h3⟩ := h
  exact pv_cb (pa_c hv pa_n) (rc_lent q)
theorem ix5_0 {α0 : Type} [DecidableEq α0] {A0 : Ty α0} {α1 : Type} [DecidableEq α1] {A1 : Ty α1} {α2 : Type} [DecidableEq α2] {A2 : Ty α2} {α3 : Type} [DecidableEq α3] {A3 : Ty α3} {α4 : Type} [DecidableEq α4] {A4 : Ty α4} {c : Cl} {H : Hp} {v : V} {x : α0 × α1 × α2 × α3 × α4} (h : (tyT5 A0 A1 A2 A3 A4).r c H v x) : ∃ u, A0.r c H u (x.1) ∧ ∀ {K : PySem.W.Frag}, Rv (rIxT K) v (.int 0) H u := by
  obtain ⟨a, u0, u1, u2, u3, u4, rfl, _, q, h0, h1, h2, h3, h4⟩ := h
  exact ⟨u0, h0, rv_ixt q rfl⟩
theorem ix5_1 {α0 : Type} [DecidableEq α0] {A0 : Ty α0} {α1 : Type} [DecidableEq α1] {A1 : Ty α1} {α2 : Type} [DecidableEq α2] {A2 : Ty α2} {α3 : Type} [DecidableEq α3] {A3 : Ty α3} {α4 : Type} [DecidableEq α4] {A4 : Ty α4} {c : Cl} {H : Hp} {v : V} {x : α0 × α1 × α2 × α3 × α4} (h : (tyT5 A0 A1 A2 A3 A4).r c H v x) : ∃ u, A1.r c H u (x.2.1) ∧ ∀ {K : PySem.W.Frag}, Rv (rIxT K) v (.int 1) H u := by
  obtain ⟨a, u0, u1, u2, u3, u4, rfl, _, q, h0, h1, h2, h3, h4⟩ := h
  exact ⟨u1, h1, rv_ixt q rfl⟩
theorem ix5_2 {α0 : Type} [DecidableEq α0] {A0 : Ty α0} {α1 : Type} [DecidableEq α1] {A1 : Ty α1} {α2 : Type} [DecidableEq α2] {A2 : Ty α2} {α3 : Type} [DecidableEq α3] {A3 : Ty α3} {α4 : Type} [DecidableEq α4] {A4 : Ty α4} {c : Cl} {H : Hp} {v : V} {x : α0 × α1 × α2 × α3 × α4} (h : (tyT5 A0 A1 A2 A3 A4).r c H v x) : ∃ u, A2.r c H u (x.2.2.1) ∧ ∀ {K : PySem.W.Frag}, Rv (rIxT K) v (.int 2) H u := by
  obtain ⟨a, u0, u1, u2, u3, u4, rfl, _, q, h0, h1, h2, h3, h4⟩ := h
  exact ⟨u2, h2, rv_ixt q rfl⟩
theorem ix5_3 {α0 : Type} [DecidableEq α0] {A0 : Ty α0} {α1 : Type} [DecidableEq α1] {A1 : Ty α1} {α2 : Type} [DecidableEq α2] {A2 : Ty α2} {α3 : Type} [DecidableEq α3] {A3 : Ty α3} {α4 : Type} [DecidableEq α4] {A4 : Ty α4} {c : Cl} {H : Hp} {v : V} {x : α0 × α1 × α2 × α3 × α4} (h : (tyT5 A0 A1 A2 A3 A4).r c H v x) : ∃ u, A3.r c H u (x.2.2.2.1) ∧ ∀ {K : PySem.W.Frag}, Rv (rIxT K) v (.int 3) H u := by
  obtain ⟨a, u0, u1, u2, u3, u4, rfl, _, q, h0, h1, h2, h3, h4⟩ := h
  exact ⟨u3, h3, rv_ixt q rfl⟩
theorem ix5_4 {α0 : Type} [DecidableEq α0] {A0 : Ty α0} {α1 : Type} [DecidableEq α1] {A1 : Ty α1} {α2 : Type} [DecidableEq α2] {A2 : Ty α2} {α3 : Type} [DecidableEq α3] {A3 : Ty α3} {α4 : Type} [DecidableEq α4] {A4 : Ty α4} {c : Cl} {H : Hp} {v : V} {x : α0 × α1 × α2 × α3 × α4} (h : (tyT5 A0 A1 A2 A3 A4).r c H v x) : ∃ u, A4.r c H u (x.2.2.2.2) ∧ ∀ {K : PySem.W.Frag}, Rv (rIxT K) v (.int 4) H u := by
  obtain ⟨a, u0, u1, u2, u3, u4, rfl, _, q, h0, h1, h2, h3, h4⟩ := h
  exact ⟨u4, h4, rv_ixt q rfl⟩
theorem open5 {α0 : Type} [DecidableEq α0] {A0 : Ty α0} {α1 : Type} [DecidableEq α1] {A1 : Ty α1} {α2 : Type} [DecidableEq α2] {A2 : Ty α2} {α3 : Type} [DecidableEq α3] {A3 : Ty α3} {α4 : Type} [DecidableEq α4] {A4 : Ty α4} {c : Cl} {H : Hp} {v : V} {x : α0 × α1 × α2 × α3 × α4} (h : (tyT5 A0 A1 A2 A3 A4).r c H v x) : ∃ (a : Addr) (u0 u1 u2 u3 u4 : V), v = .ref a ∧ Rd H a (.tup [u0, u1, u2, u3, u4]) ∧ A0.r c H u0 (x.1) ∧ A1.r c H u1 (x.2.1) ∧ A2.r c H u2 (x.2.2.1) ∧ A3.r c H u3 (x.2.2.2.1) ∧ A4.r c H u4 (x.2.2.2.2) := by
  obtain ⟨a, u0, u1, u2, u3, u4, e, _, q, h0, h1, h2, h3, h4⟩ := h
  exact ⟨a, u0, u1, u2, u3, u4, e, q, h0, h1, h2, h3, h4⟩
theorem tyx5 {α0 : Type} [DecidableEq α0] {A0 : Ty α0} {α1 : Type} [DecidableEq α1] {A1 : Ty α1} {α2 : Type} [DecidableEq α2] {A2 : Ty α2} {α3 : Type} [DecidableEq α3] {A3 : Ty α3} {α4 : Type} [DecidableEq α4] {A4 : Ty α4} {c : Cl} {H : Hp} {v : V} {x : α0 × α1 × α2 × α3 × α4} {K : PySem.W.Frag} (h : (tyT5 A0 A1 A2 A3 A4).r c H v x) : TyX K H v (.type "tuple") := by
  obtain ⟨a, u0, u1, u2, u3, u4, rfl, _, q, h0, h1, h2, h3, h4⟩ := h
  rcases q with q | ⟨o, q⟩
  · exact .base (.tup q)
  · exact .fTuple q
theorem lenT5 {α0 : Type} [DecidableEq α0] {A0 : Ty α0} {α1 : Type} [DecidableEq α1] {A1 : Ty α1} {α2 : Type} [DecidableEq α2] {A2 : Ty α2} {α3 : Type} [DecidableEq α3] {A3 : Ty α3} {α4 : Type} [DecidableEq α4] {A4 : Ty α4} {c : Cl} {H : Hp} {v : V} {x : α0 × α1 × α2 × α3 × α4} {K : PySem.W.Frag} {σ : L2.St} {t : TE} (h : (tyT5 A0 A1 A2 A3 A4).r c H v x) (hv : Pv t σ H v) : Pv (tCB (fun xs H Q => ∃ p ys, xs = [.ref p] ∧ (SqL K H p ys ∨ SqT K H p ys) ∧ Q (.int ys.length) H) (tCons t tNil)) σ H (.int 5) := by
  obtain ⟨a, u0, u1, u2, u3, u4, rfl, _, q, h0, h1, h2, h3, h4⟩ := h
  exact pv_cb (pa_c hv pa_n) (rc_lent q)
theorem ix6_0 {α0 : Type} [DecidableEq α0] {A0 : Ty α0} {α1 : Type} [DecidableEq α1] {A1 : Ty α1} {α2 : Type} [DecidableEq α2] {A2 : Ty α2} {α3 : Type} [DecidableEq α3] {A3 : Ty α3} {α4 : Type} [DecidableEq α4] {A4 : Ty α4} {α5 : Type} [DecidableEq α5] {A5 : Ty α5} {c : Cl} {H : Hp} {v : V} {x : α0 × α1 × α2 × α3 × α4 × α5} (h : (tyT6 A0 A1 A2 A3 A4 A5).r c H v x) : ∃ u, A0.r c H u (x.1) ∧ ∀ {K : PySem.W.Frag}, Rv (rIxT K) v (.int 0) H u := by
  obtain ⟨a, u0, u1, u2, u3, u4, u5, rfl, _, q, h0, h1, h2, h3, h4, h5⟩ := h
  exact ⟨u0, h0, rv_ixt q rfl⟩
theorem ix6_1 {α0 : Type} [DecidableEq α0] {A0 : Ty α0} {α1 : Type} [DecidableEq α1] {A1 : Ty α1} {α2 : Type} [DecidableEq α2] {A2 : Ty α2} {α3 : Type} [DecidableEq α3] {A3 : Ty α3} {α4 : Type} [DecidableEq α4] {A4 : Ty α4} {α5 : Type} [DecidableEq α5] {A5 : Ty α5} {c : Cl} {H : Hp} {v : V} {x : α0 × α1 × α2 × α3 × α4 × α5} (h : (tyT6 A0 A1 A2 A3 A4 A5).r c H v x) : ∃ u, A1.r c H u (x.2.1) ∧ ∀ {K : PySem.W.Frag}, Rv (rIxT K) v (.int 1) H u := by
  obtain ⟨a, u0, u1, u2, u3, u4, u5, rfl, _, q, h0, h1, h2, h3, h4, h5⟩ := h
  exact ⟨u1, h1, rv_ixt q rfl⟩
theorem ix6_2 {α0 : Type} [DecidableEq α0] {A0 : Ty α0} {α1 : Type} [DecidableEq α1] {A1 : Ty α1} {α2 : Type} [DecidableEq α2] {A2 : Ty α2} {α3 : Type} [DecidableEq α3] {A3 : Ty α3} {α4 : Type} [DecidableEq α4] {A4 : Ty α4} {α5 : Type} [DecidableEq α5] {A5 : Ty α5} {c : Cl} {H : Hp} {v : V} {x : α0 × α1 × α2 × α3 × α4 × α5} (h : (tyT6 A0 A1 A2 A3 A4 A5).r c H v x) : ∃ u, A2.r c H u (x.2.2.1) ∧ ∀ {K : PySem.W.Frag}, Rv (rIxT K) v (.int 2) H u := by
  obtain ⟨a, u0, u1, u2, u3, u4, u5, rfl, _, q, h0, h1, h2, h3, h4, h5⟩ := h
  exact ⟨u2, h2, rv_ixt q rfl⟩
theorem ix6_3 {α0 : Type} [DecidableEq α0] {A0 : Ty α0} {α1 : Type} [DecidableEq α1] {A1 : Ty α1} {α2 : Type} [DecidableEq α2] {A2 : Ty α2} {α3 : Type} [DecidableEq α3] {A3 : Ty α3} {α4 : Type} [DecidableEq α4] {A4 : Ty α4} {α5 : Type} [DecidableEq α5] {A5 : Ty α5} {c : Cl} {H : Hp} {v : V} {x : α0 × α1 × α2 × α3 × α4 × α5} (h : (tyT6 A0 A1 A2 A3 A4 A5).r c H v x) : ∃ u, A3.r c H u (x.2.2.2.1) ∧ ∀ {K : PySem.W.Frag}, Rv (rIxT K) v (.int 3) H u := by
  obtain ⟨a, u0, u1, u2, u3, u4, u5, rfl, _, q, h0, h1, h2, h3, h4, h5⟩ := h
  exact ⟨u3, h3, rv_ixt q rfl⟩
theorem ix6_4 {α0 : Type} [DecidableEq α0] {A0 : Ty α0} {α1 : Type} [DecidableEq α1] {A1 : Ty α1} {α2 : Type} [DecidableEq α2] {A2 : Ty α2} {α3 : Type} [DecidableEq α3] {A3 : Ty α3} {α4 : Type} [DecidableEq α4] {A4 : Ty α4} {α5 : Type} [DecidableEq α5] {A5 : Ty α5} {c : Cl} {H : Hp} {v : V} {x : α0 × α1 × α2 × α3 × α4 × α5} (h : (tyT6 A0 A1 A2 A3 A4 A5).r c H v x) : ∃ u, A4.r c H u (x.2.2.2.2.1) ∧ ∀ {K : PySem.W.Frag}, Rv (rIxT K) v (.int 4) H u := by
  obtain ⟨a, u0, u1, u2, u3, u4, u5, rfl, _, q, h0, h1, h2, h3, h4, h5⟩ := h
  exact ⟨u4, h4, rv_ixt q rfl⟩
theorem ix6_5 {α0 : Type} [DecidableEq α0] {A0 : Ty α0} {α1 : Type} [DecidableEq α1] {A1 : Ty α1} {α2 : Type} [DecidableEq α2] {A2 : Ty α2} {α3 : Type} [DecidableEq α3] {A3 : Ty α3} {α4 : Type} [DecidableEq α4] {A4 : Ty α4} {α5 : Type} [DecidableEq α5] {A5 : Ty α5} {c : Cl} {H : Hp} {v : V} {x : α0 × α1 × α2 × α3 × α4 × α5} (h : (tyT6 A0 A1 A2 A3 A4 A5).r c H v x) : ∃ u, A5.r c H u (x.2.2.2.2.2) ∧ ∀ {K : PySem.W.Frag}, Rv (rIxT K) v (.int 5) H u := by
  obtain ⟨a, u0, u1, u2, u3, u4, u5, rfl, _, q, h0, h1, h2, h3, h4, h5⟩ := h
  exact ⟨u5, h5, rv_ixt q rfl⟩
theorem open6 {α0 : Type} [DecidableEq α0] {A0 : Ty α0} {α1 : Type} [DecidableEq α1] {A1 : Ty α1} {α2 : Type} [DecidableEq α2] {A2 : Ty α2} {α3 : Type} [DecidableEq α3] {A3 : Ty α3} {α4 : Type} [DecidableEq α4] {A4 : Ty α4} {α5 : Type} [DecidableEq α5] {A5 : Ty α5} {c : Cl} {H : Hp} {v : V} {x : α0 × α1 × α2 × α3 × α4 × α5} (h : (tyT6 A0 A1 A2 A3 A4 A5).r c H v x) : ∃ (a : Addr) (u0 u1 u2 u3 u4 u5 : V), v = .ref a ∧ Rd H a (.tup [u0, u1, u2, u3, u4, u5]) ∧ A0.r c H u0 (x.1) ∧ A1.r c H u1 (x.2.1) ∧ A2.r c H u2 (x.2.2.1) ∧ A3.r c H u3 (x.2.2.2.1) ∧ A4.r c H u4 (x.2.2.2.2.1) ∧ A5.r c H u5 (x.2.2.2.2.2) := by
  obtain ⟨a, u0, u1, u2, u3, u4, u5, e, _, q, h0, h1, h2, h3, h4, h5⟩ := h
  exact ⟨a, u0, u1, u2, u3, u4, u5, e, q, h0, h1, h2, h3, h4, h5⟩
theorem tyx6 {α0 : Type} [DecidableEq α0] {A0 : Ty α0} {α1 : Type} [DecidableEq α1] {A1 : Ty α1} {α2 : Type} [DecidableEq α2] {A2 : Ty α2} {α3 : Type} [DecidableEq α3] {A3 : Ty α3} {α4 : Type} [DecidableEq α4] {A4 : Ty α4} {α5 : Type} [DecidableEq α5] {A5 : Ty α5} {c : Cl} {H : Hp} {v : V} {x : α0 × α1 × α2 × α3 × α4 × α5} {K : PySem.W.Frag} (h : (tyT6 A0 A1 A2 A3 A4 A5).r c H v x) : TyX K H v (.type "tuple") := by
  obtain ⟨a, u0, u1, u2, u3, u4, u5, rfl, _, q, h0, h1, h2, h3, h4, h5⟩ := h
  rcases q with q | ⟨o, q⟩
  · exact .base (.tup q)
  · exact .fTuple q
theorem lenT6 {α0 : Type} [DecidableEq α0] {A0 : Ty α0} {α1 : Type} [DecidableEq α1] {A1 : Ty α1} {α2 : Type} [DecidableEq α2] {A2 : Ty α2} {α3 : Type} [DecidableEq α3] {A3 : Ty α3} {α4 : Type} [DecidableEq α4] {A4 : Ty α4} {α5 : Type} [DecidableEq α5] {A5 : Ty α5} {c : Cl} {H : Hp} {v : V} {x : α0 × α1 × α2 × α3 × α4 × α5} {K : PySem.W.Frag} {σ : L2.St} {t : TE} (h : (tyT6 A0 A1 A2 A3 A4 A5).r c H v x) (hv : Pv t σ H v) : Pv (tCB (fun xs H Q => ∃ p ys, xs = [.ref p] ∧ (SqL K H p ys ∨ SqT K H p ys) ∧ Q (.int ys.length) H) (tCons t tNil)) σ H (.int 6) := by
  obtain ⟨a, u0, u1, u2, u3, u4, u5, rfl, _, q, h0, h1, h2, h3, h4, h5⟩ := h
  exact pv_cb (pa_c hv pa_n) (rc_lent q)
theorem ix7_0 {α0 : Type} [DecidableEq α0] {A0 : Ty α0} {α1 : Type} [DecidableEq α1] {A1 : Ty α1} {α2 : Type} [DecidableEq α2] {A2 : Ty α2} {α3 : Type} [DecidableEq α3] {A3 : Ty α3} {α4 : Type} [DecidableEq α4] {A4 : Ty α4} {α5 : Type} [DecidableEq α5] {A5 : Ty α5} {α6 : Type} [DecidableEq α6] {A6 : Ty α6} {c : Cl} {H : Hp} {v : V} {x : α0 × α1 × α2 × α3 × α4 × α5 × α6} (h : (tyT7 A0 A1 A2 A3 A4 A5 A6).r c H v x) : ∃ u, A0.r c H u (x.1) ∧ ∀ {K : PySem.W.Frag}, Rv (rIxT K) v (.int 0) H u := by
  obtain ⟨a, u0, u1, u2, u3, u4, u5, u6, rfl, _, q, h0, h1, h2, h3, h4, h5, h6⟩ := h
  exact ⟨u0, h0, rv_ixt q rfl⟩
theorem ix7_1 {α0 : Type} [DecidableEq α0] {A0 : Ty α0} {α1 : Type} [DecidableEq α1] {A1 : Ty α1} {α2 : Type} [DecidableEq α2] {A2 : Ty α2} {α3 : Type} [DecidableEq α3] {A3 : Ty α3} {α4 : Type} [DecidableEq α4] {A4 : Ty α4} {α5 : Type} [DecidableEq α5] {A5 : Ty α5} {α6 : Type} [DecidableEq α6] {A6 : Ty α6} {c : Cl} {H : Hp} {v : V} {x : α0 × α1 × α2 × α3 × α4 × α5 × α6} (h : (tyT7 A0 A1 A2 A3 A4 A5 A6).r c H v x) : ∃ u, A1.r c H u (x.2.1) ∧ ∀ {K : PySem.W.Frag}, Rv (rIxT K) v (.int 1) H u := by
  obtain ⟨a, u0, u1, u2, u3, u4, u5, u6, rfl, _, q, h0, h1, h2, h3, h4, h5, h6⟩ := h
  exact ⟨u1, h1, rv_ixt q rfl⟩
theorem ix7_2 {α0 : Type} [DecidableEq α0] {A0 : Ty α0} {α1 : Type} [DecidableEq α1] {A1 : Ty α1} {α2 : Type} [DecidableEq α2] {A2 : Ty α2} {α3 : Type} [DecidableEq α3] {A3 : Ty α3} {α4 : Type} [DecidableEq α4] {A4 : Ty α4} {α5 : Type} [DecidableEq α5] {A5 : Ty α5} {α6 : Type} [DecidableEq α6] {A6 : Ty α6} {c : Cl} {H : Hp} {v : V} {x : α0 × α1 × α2 × α3 × α4 × α5 × α6} (h : (tyT7 A0 A1 A2 A3 A4 A5 A6).r c H v x) : ∃ u, A2.r c H u (x.2.2.1) ∧ ∀ {K : PySem.W.Frag}, Rv (rIxT K) v (.int 2) H u := by
  obtain ⟨a, u0, u1, u2, u3, u4, u5, u6, rfl, _, q, h0, h1, h2, h3, h4, h5, h6⟩ := h
  exact ⟨u2, h2, rv_ixt q rfl⟩
theorem ix7_3 {α0 : Type} [DecidableEq α0] {A0 : Ty α0} {α1 : Type} [DecidableEq α1] {A1 : Ty α1} {α2 : Type} [DecidableEq α2] {A2 : Ty α2} {α3 : Type} [DecidableEq α3] {A3 : Ty α3} {α4 : Type} [DecidableEq α4] {A4 : Ty α4} {α5 : Type} [DecidableEq α5] {A5 : Ty α5} {α6 : Type} [DecidableEq α6] {A6 : Ty α6} {c : Cl} {H : Hp} {v : V} {x : α0 × α1 × α2 × α3 × α4 × α5 × α6} (h : (tyT7 A0 A1 A2 A3 A4 A5 A6).r c H v x) : ∃ u, A3.r c H u (x.2.2.2.1) ∧ ∀ {K : PySem.W.Frag}, Rv (rIxT K) v (.int 3) H u := by
  obtain ⟨a, u0, u1, u2, u3, u4, u5, u6, rfl, _, q, h0, h1, h2, h3, h4, h5, h6⟩ := h
  exact ⟨u3, h3, rv_ixt q rfl⟩
theorem ix7_4 {α0 : Type} [DecidableEq α0] {A0 : Ty α0} {α1 : Type} [DecidableEq α1] {A1 : Ty α1} {α2 : Type} [DecidableEq α2] {A2 : Ty α2} {α3 : Type} [DecidableEq α3] {A3 : Ty α3} {α4 : Type} [DecidableEq α4] {A4 : Ty α4} {α5 : Type} [DecidableEq α5] {A5 : Ty α5} {α6 : Type} [DecidableEq α6] {A6 : Ty α6} {c : Cl} {H : Hp} {v : V} {x : α0 × α1 × α2 × α3 × α4 × α5 × α6} (h : (tyT7 A0 A1 A2 A3 A4 A5 A6).r c H v x) : ∃ u, A4.r c H u (x.2.2.2.2.1) ∧ ∀ {K : PySem.W.Frag}, Rv (rIxT K) v (.int 4) H u := by
  obtain ⟨a, u0, u1, u2, u3, u4, u5, u6, rfl, _, q, h0, h1, h2, h3, h4, h5, h6⟩ := h
  exact ⟨u4, h4, rv_ixt q rfl⟩
theorem ix7_5 {α0 : Type} [DecidableEq α0] {A0 : Ty α0} {α1 : Type} [DecidableEq α1] {A1 : Ty α1} {α2 : Type} [DecidableEq α2] {A2 : Ty α2} {α3 : Type} [DecidableEq α3] {A3 : Ty α3} {α4 : Type} [DecidableEq α4] {A4 : Ty α4} {α5 : Type} [DecidableEq α5] {A5 : Ty α5} {α6 : Type} [DecidableEq α6] {A6 : Ty α6} {c : Cl} {H : Hp} {v : V} {x : α0 × α1 × α2 × α3 × α4 × α5 × α6} (h : (tyT7 A0 A1 A2 A3 A4 A5 A6).r c H v x) : ∃ u, A5.r c H u (x.2.2.2.2.2.1) ∧ ∀ {K : PySem.W.Frag}, Rv (rIxT K) v (.int 5) H u := by
  obtain ⟨a, u0, u1, u2, u3, u4, u5, u6, rfl, _, q, h0, h1, h2, h3, h4, h5, h6⟩ := h
  exact ⟨u5, h5, rv_ixt q rfl⟩
theorem ix7_6 {α0 : Type} [DecidableEq α0] {A0 : Ty α0} {α1 : Type} [DecidableEq α1] {A1 : Ty α1} {α2 : Type} [DecidableEq α2] {A2 : Ty α2} {α3 : Type} [DecidableEq α3] {A3 : Ty α3} {α4 : Type} [DecidableEq α4] {A4 : Ty α4} {α5 : Type} [DecidableEq α5] {A5 : Ty α5} {α6 : Type} [DecidableEq α6] {A6 : Ty α6} {c : Cl} {H : Hp} {v : V} {x : α0 × α1 × α2 × α3 × α4 × α5 × α6} (h : (tyT7 A0 A1 A2 A3 A4 A5 A6).r c H v x) : ∃ u, A6.r c H u (x.2.2.2.2.2.2) ∧ ∀ {K : PySem.W.Frag}, Rv (rIxT K) v (.int 6) H u := by
  obtain ⟨a, u0, u1, u2, u3, u4, u5, u6, rfl, _, q, h0, h1, h2, h3, h4, h5, h6⟩ := h
  exact ⟨u6, h6, rv_ixt q rfl⟩
theorem open7 {α0 : Type} [DecidableEq α0] {A0 : Ty α0} {α1 : Type} [DecidableEq α1] {A1 : Ty α1} {α2 : Type} [DecidableEq α2] {A2 : Ty α2} {α3 : Type} [DecidableEq α3] {A3 : Ty α3} {α4 : Type} [DecidableEq α4] {A4 : Ty α4} {α5 : Type} [DecidableEq α5] {A5 : Ty α5} {α6 : Type} [DecidableEq α6] {A6 : Ty α6} {c : Cl} {H : Hp} {v : V} {x : α0 × α1 × α2 × α3 × α4 × α5 × α6} (h : (tyT7 A0 A1 A2 A3 A4 A5 A6).r c H v x) : ∃ (a : Addr) (u0 u1 u2 u3 u4 u5 u6 : V), v = .ref a ∧ Rd H a (.tup [u0, u1, u2, u3, u4, u5, u6]) ∧ A0.r c H u0 (x.1) ∧ A1.r c H u1 (x.2.1) ∧ A2.r c H u2 (x.2.2.1) ∧ A3.r c H u3 (x.2.2.2.1) ∧ A4.r c H u4 (x.2.2.2.2.1) ∧ A5.r c H u5 (x.2.2.2.2.2.1) ∧ A6.r c H u6 (x.2.2.2.2.2.2) := by
  obtain ⟨a, u0, u1, u2, u3, u4, u5, u6, e, _, q, h0, h1, h2, h3, h4, h5, h6⟩ := h
  exact ⟨a, u0, u1, u2, u3, u4, u5, u6, e, q, h0, h1, h2, h3, h4, h5, h6⟩
theorem tyx7 {α0 : Type} [DecidableEq α0] {A0 : Ty α0} {α1 : Type} [DecidableEq α1] {A1 : Ty α1} {α2 : Type} [DecidableEq α2] {A2 : Ty α2} {α3 : Type} [DecidableEq α3] {A3 : Ty α3} {α4 : Type} [DecidableEq α4] {A4 : Ty α4} {α5 : Type} [DecidableEq α5] {A5 : Ty α5} {α6 : Type} [DecidableEq α6] {A6 : Ty α6} {c : Cl} {H : Hp} {v : V} {x : α0 × α1 × α2 × α3 × α4 × α5 × α6} {K : PySem.W.Frag} (h : (tyT7 A0 A1 A2 A3 A4 A5 A6).r c H v x) : TyX K H v (.type "tuple") := by
  obtain ⟨a, u0, u1, u2, u3, u4, u5, u6, rfl, _, q, h0, h1, h2, h3, h4, h5, h6⟩ := h
  rcases q with q | ⟨o, q⟩
  · exact .base (.tup q)
  · exact .fTuple q
theorem lenT7 {α0 : Type} [DecidableEq α0] {A0 : Ty α0} {α1 : Type} [DecidableEq α1] {A1 : Ty α1} {α2 : Type} [DecidableEq α2] {A2 : Ty α2} {α3 : Type} [DecidableEq α3] {A3 : Ty α3} {α4 : Type} [DecidableEq α4] {A4 : Ty α4} {α5 : Type} [DecidableEq α5] {A5 : Ty α5} {α6 : Type} [DecidableEq α6] {A6 : Ty α6} {c : Cl} {H : Hp} {v : V} {x : α0 × α1 × α2 × α3 × α4 × α5 × α6} {K : PySem.W.Frag} {σ : L2.St} {t : TE} (h : (tyT7 A0 A1 A2 A3 A4 A5 A6).r c H v x) (hv : Pv t σ H v) : Pv (tCB (fun xs H Q => ∃ p ys, xs = [.ref p] ∧ (SqL K H p ys ∨ SqT K H p ys) ∧ Q (.int ys.length) H) (tCons t tNil)) σ H (.int 7) := by
  obtain ⟨a, u0, u1, u2, u3, u4, u5, u6, rfl, _, q, h0, h1, h2, h3, h4, h5, h6⟩ := h
  exact pv_cb (pa_c hv pa_n) (rc_lent q)

/-! #### sort keys -/
def keySII (x : Str × Int × Int) : SK := [.inr x.1.cps.toList, .inl x.2.1, .inl x.2.2]
def shSII : Nat → Bool := fun i => i == 0
theorem sk_SII : SKey (tyT3 tyS tyI tyI) keySII shSII where
  ok := by
    intro c H v x h
    obtain ⟨a, u0, u1, u2, e, _, q, ⟨h0, _⟩, h1, h2⟩ := h
    have h1' : u1 = V.int x.2.1 := h1
    have h2' : u2 = V.int x.2.2 := h2
    subst h0 h1' h2'
    refine ⟨a, _, e, q, by simp, rfl, fun j v hj => ?_⟩
    match j, hj with
    | 0, hj => cases hj; rfl
    | 1, hj => cases hj; rfl
    | 2, hj => cases hj; rfl
    | j + 3, hj => simp at hj
  inj := by
    rintro ⟨⟨⟨a⟩⟩, b, c⟩ ⟨⟨⟨a'⟩⟩, b', c'⟩ h
    simp only [keySII, List.cons.injEq, Sum.inr.injEq, Sum.inl.injEq, and_true] at h
    obtain ⟨h1, h2, h3⟩ := h
    subst h2 h3
    have h1' : a = a' := h1
    subst h1'
    rfl
end Kb
/-! Kb8: what the top has made -/
namespace Kb
open PySem L2 PySem.W
section
variable {K : PySem.W.Frag} {mg : Str → Option Value} {h : Heap}
theorem df_mk {x : Str} {st : Stmt} {ps : List Str} {f : Addr} {oc : Value} {od an : Option Addr} {sl : Array (Option Value)} {kV dc pm cd ct : Value} (X : K.In h) (G : h.Ns mainGlobals mg) (a : nsIn K mainGlobals x = some (some (.ref f)))
    (l : K.lookup f = some ⟨oc, od, .func (fnOf x x (defArgs st) (defBody st) (defScope st) .none kV dc pm an cd ct), sl⟩) (c : codeIn K cd x = true) (k : keepIn K (.ref f) = true)
    (hb : ∀ (kV doc pm : Value) (an : Option Addr) (cdv ct : Value) (us : List Value), us.length = ps.length → bindArgs (fnOf x x (defArgs st) (defBody st) (defScope st) .none kV doc pm an cdv ct) ⟨us, []⟩ = pure (ps.zip us)) :
    Df K mg x st f (fnOf x x (defArgs st) (defBody st) (defScope st) .none kV dc pm an cd ct) ps :=
  ⟨fun_mk l c k, mg_of X G a, (fun_mk (st := st) l c k).binds hb⟩
theorem err_mk {x : Str} {C : Addr} {tail : List Value} (X : K.In h) (G : h.Ns mainGlobals mg) (a : nsIn K mainGlobals x = some (some (.ref C))) (ex : excIn K C tail "ValueError.__new__" = true) (kp : keepIn K (.ref C) = true) (sb : subIn K (.ref C) (.type "BaseException") = some true) (ty : typeIn K (.ref C) = some (.type "type"))
    (hg : findIn K (.ref C) "__getattribute__" = some (some (.builtin "BaseException.__getattribute__"))) (hk : findIn K (.ref C) "__getattr__" = some none) (hd : hasDictIn K C = true) (ha : findIn K (.ref C) "__class__" = some (some (.builtin "object.__class__"))) (hm : mroIn K C (.type "object") = some true)
    (hn : specialIn K (.builtin "object.__class__") "__get__" = some (some (.builtin "getset_descriptor.__get__"))) (ht : takesIn K (.builtin "object.__class__") = some true) : ErrC K mg x C tail :=
  ⟨mg_of X G a, ex, kp, sb, ty, ⟨hg, hk, sb, hd, ha, hn, ht, hm⟩⟩
theorem kit_own {t : Value} {C : Addr} {b : Bool} (h1 : isClsIn K C = true) (h2 : typeIn K (.ref C) = some (.type "type")) (h3 : subIn K t (.ref C) = some b) (hs : subIn K (.ref C) (.ref C) = some true) : kitOne K t (.ref C) = some b := by
  have e2 : ((clsIn K C).isSome && typeIn K (.ref C) == some (.type "type")) = true := by
    have h1' : (clsIn K C).isSome = true := h1
    rw [h1', h2] <;> rfl
  unfold kitOne
  split
  · rename_i e
    have e' : t = .ref C := by simpa using e
    rw [e', hs] at h3
    exact h3
  · show (if ((clsIn K C).isSome && typeIn K (.ref C) == some (.type "type")) = true then subIn K t (.ref C) else none) = some b
    rw [if_pos e2]
    exact h3
theorem kit_ty1 {D : Addr} {T : String} {b : Bool} (hm : kitMeta T = true) (h3 : subIn K (.ref D) (.type T) = some b) : kitOne K (.ref D) (.type T) = some b := by
  unfold kitOne
  rw [if_neg (by simp)]
  show (if kitMeta T = true then subIn K (.ref D) (.type T) else none) = some b
  rw [if_pos hm]
  exact h3
theorem rs_ints {c : Cl} {H : Hp} : ∀ ns : List Int, Rs tyI c H (ns.map V.int) ns
  | [] => trivial
  | _ :: ns => ⟨rfl, rs_ints ns⟩
/-- the law's end -/
theorem law_end {H : Hp} {a : Addr} {ns : List Int} {m : List Int → Res Bool} (hm : m ns = .ok true) (hS : SqL K H a (ns.map V.int)) :
    ∃ (c : Cl) (v : V) (x : List Int), [V.ref a] = [v] ∧ Wf c H ∧ rB K tyI c H v x ∧ Kont (fun y c' H' => ∀ v, tyB.r c' H' v y → (fun (v : V) (_ : Hp) => v = .bl true) v H') (fun _ _ _ => False) [] c H (m x) := by
  refine ⟨fun _ => none, .ref a, ns, rfl, (fun _ _ _ _ e => by cases e), ⟨a, _, rfl, hS, rs_ints ns⟩, ?_⟩
  rw [hm]
  exact fun c H' st v hv => hv
end
end Kb
/-! Kb9: loops and comprehensions over whatever yields data and leaves the heap alone -/
namespace Kb
open PySem L2
structure PIt {α : Type} [DecidableEq α] (J : It) (A : Ty α) (xs : List α) (c : Cl) (H : Hp) : Prop where
  go : ∀ i, i < xs.length → J.go i H
  stop : J.stop xs.length H
  item : ∀ i x v H', xs[i]? = some x → J.yld i H v H' → H' = H ∧ A.r c H v x
section
variable {α : Type} [DecidableEq α] {A : Ty α} {c : Cl} {H : Hp} {a : Addr} {us : List V} {xs : List α} {K : PySem.W.Frag}
theorem pit_l (h : SqL K H a us) (r : Rs A c H us xs) : PIt (Itl K a) A xs c H where
  go i hi := by
    have hu : i < us.length := by rw [r.len]; exact hi
    exact ⟨us, us[i], h, List.getElem?_eq_getElem hu⟩
  stop := ⟨us, h, by rw [r.len]; exact Nat.le_refl _⟩
  item i x v H' hx hy := by
    obtain ⟨e, q⟩ := hy
    refine ⟨e, ?_⟩
    obtain ⟨u, eu, ru⟩ := r.getX hx
    have z := q us h
    rw [eu] at z
    rw [← Option.some.inj z]
    exact ru
theorem pit_t (h : SqT K H a us) (r : Rs A c H us xs) : PIt (Itt K a) A xs c H where
  go i hi := by
    have hu : i < us.length := by rw [r.len]; exact hi
    exact ⟨us, us[i], h, List.getElem?_eq_getElem hu⟩
  stop := ⟨us, h, by rw [r.len]; exact Nat.le_refl _⟩
  item i x v H' hx hy := by
    obtain ⟨e, q⟩ := hy
    refine ⟨e, ?_⟩
    obtain ⟨u, eu, ru⟩ := r.getX hx
    have z := q us h
    rw [eu] at z
    rw [← Option.some.inj z]
    exact ru
theorem pit_v (h : SqL K H a us) (r : Rs A c H us xs) : PIt (Itv K a us.length) A xs.reverse c H where
  go i hi := by
    rw [List.length_reverse, ← r.len] at hi
    exact ⟨hi, us, us[us.length - 1 - i]'(by omega), h, List.getElem?_eq_getElem (by omega)⟩
  stop := by
    rw [List.length_reverse, ← r.len]
    exact Nat.le_refl _
  item i x v H' hx hy := by
    obtain ⟨e, q⟩ := hy
    refine ⟨e, ?_⟩
    have hi : i < xs.length := by
      have z := (List.getElem?_eq_some_iff.mp hx).1
      rw [List.length_reverse] at z
      exact z
    rw [List.getElem?_reverse hi] at hx
    obtain ⟨u, eu, ru⟩ := r.getX hx
    have z := q us h
    rw [r.len, eu] at z
    rw [← Option.some.inj z]
    exact ru
theorem pit_r {lo : Int} {n : Nat} : PIt (Itr lo n) tyI (rng lo n) c H where
  go i hi := by rw [ints_len] at hi; exact hi
  stop := by rw [ints_len]; exact Nat.le_refl _
  item i x v H' hx hy := by
    obtain ⟨e, e2⟩ := hy
    refine ⟨e, ?_⟩
    have hl : i < n := by
      have z := (List.getElem?_eq_some_iff.mp hx).1
      rw [ints_len] at z
      exact z
    rw [ints_at n lo i hl] at hx
    rw [e2, ← Option.some.inj hx]
    rfl
/-- the signs of a text -/
def signs (s : Str) : List Str := s.cps.toList.map fun n => ⟨#[n]⟩
theorem pit_s {s : Str} (ok : PyData.strOk s = true) : PIt (Its s) tyS (signs s) c H where
  go i hi := by
    unfold signs at hi
    rw [List.length_map, Array.length_toList] at hi
    exact hi
  stop := by
    unfold signs
    rw [List.length_map, Array.length_toList]
    exact Nat.le_refl _
  item i x v H' hx hy := by
    obtain ⟨e, n, hn, e2⟩ := hy
    refine ⟨e, ?_⟩
    unfold signs at hx
    rw [List.getElem?_map, Array.getElem?_toList, hn] at hx
    have ex : (⟨#[n]⟩ : Str) = x := Option.some.inj hx
    rw [e2, ex]
    refine ⟨rfl, ?_⟩
    rw [← ex]
    unfold PyData.strOk at *
    rw [Array.all_eq_true] at ok
    obtain ⟨hi, ei⟩ := Array.getElem?_eq_some_iff.mp hn
    have z := ok i hi
    rw [ei] at z
    simpa using z
end
section
variable {β τ α : Type} [DecidableEq α] {A : Ty α} {P : β → Cl → Hp → Prop} {PE : Err → Cl → Hp → Prop} {S : List Addr} {c0 c : Cl} {H0 H : Hp} {σ : L2.St} {g : TG} {tb : TS} {D : Ends} {xs : List α} {s0 : τ} {J : It}
theorem for_p {f : τ → α → Res τ} {rest : τ → Res β} (k : Kont P PE S c0 H0 ((forN xs s0 f).bind rest)) (I : τ → Cl → Hp → L2.St → Prop) (h0 : I s0 c H σ) (hl : ∀ s c H σ, I s c H σ → PIt J A xs c H)
    (hb : ∀ s x v c H σ (N : L2.St → Hp → Prop), I s c H σ → A.r c H v x → Kont (fun s' c' H' => ∀ σ', I s' c' H' σ' → N σ' H') PE S c0 H0 (f s x) → g v σ H fun σ2 H2 => tb { D with nx := N, ct := N, bk := D.nx } σ2 H2)
    (hd : ∀ s c H σ, I s c H σ → Kont P PE S c0 H0 (rest s) → D.nx σ H) :
    ∃ W : Nat → Nat → L2.St → Hp → Prop, (∃ m, W 0 m σ H) ∧ ∀ i m σ H, W i m σ H →
      (J.stop i H ∧ D.nx σ H) ∨ (J.go i H ∧ ∃ N : L2.St → Hp → Prop, (∀ σ' H', N σ' H' → ∃ m', m' < m ∧ W (i + 1) m' σ' H') ∧ ∀ x H', J.yld i H x H' → g x σ H' fun σ2 H2 => tb { D with nx := N, ct := N, bk := D.nx } σ2 H2) := by
  refine ⟨fun i m σ H => m = xs.length - i ∧ i ≤ xs.length ∧ ∃ s c, I s c H σ ∧ Kont P PE S c0 H0 ((forN (xs.drop i) s f).bind rest), ⟨xs.length, by simp, Nat.zero_le _, s0, c, h0, k⟩, ?_⟩
  rintro i m σ1 H1 ⟨rfl, hi, s, c1, h, k1⟩
  have p := hl s c1 H1 σ1 h
  by_cases hlt : i < xs.length
  · have hx : xs[i]? = some xs[i] := List.getElem?_eq_getElem hlt
    rw [drop_at hx, forN_cons, bind_assoc] at k1
    refine .inr ⟨p.go i hlt, fun σ' H' => ∃ s c, I s c H' σ' ∧ Kont P PE S c0 H0 ((forN (xs.drop (i + 1)) s f).bind rest), fun σ' H' q => ⟨xs.length - (i + 1), by omega, rfl, hlt, q⟩, fun v H' hy => ?_⟩
    obtain ⟨e, r⟩ := p.item i _ v H' hx hy
    subst e
    exact hb s _ v c1 _ σ1 _ h r (k1.turn.imp (fun s' c' H' st q σ' h' => ⟨s', c', h', q⟩) fun _ _ _ _ q => q)
  · have e : i = xs.length := by omega
    subst e
    rw [List.drop_length] at k1
    exact .inl ⟨p.stop, hd s c1 H1 σ1 h k1⟩
theorem for_pr {ρ : Type} {f : τ → α → Res (Ctl τ ρ)} {rest : Ctl τ ρ → Res β} {Rr : Cl → Hp → V → ρ → Prop} (k : Kont P PE S c0 H0 ((forR xs s0 f).bind rest)) (I : τ → Cl → Hp → L2.St → Prop) (h0 : I s0 c H σ) (hl : ∀ s c H σ, I s c H σ → PIt J A xs c H)
    (hb : ∀ s x v c H σ (N : L2.St → Hp → Prop), I s c H σ → A.r c H v x → Kont (fun y c' H' => match y with | .nx s' => ∀ σ', I s' c' H' σ' → N σ' H' | .ret r => ∀ v, Rr c' H' v r → D.rt v H') PE S c0 H0 (f s x) → g v σ H fun σ2 H2 => tb { D with nx := N, ct := N, bk := D.nx } σ2 H2)
    (hr : ∀ r, Kont P PE S c0 H0 (rest (.ret r)) → ∀ c H, Step S c0 H0 c H → ∀ v, Rr c H v r → D.rt v H)
    (hd : ∀ s c H σ, I s c H σ → Kont P PE S c0 H0 (rest (.nx s)) → D.nx σ H) :
    ∃ W : Nat → Nat → L2.St → Hp → Prop, (∃ m, W 0 m σ H) ∧ ∀ i m σ H, W i m σ H →
      (J.stop i H ∧ D.nx σ H) ∨ (J.go i H ∧ ∃ N : L2.St → Hp → Prop, (∀ σ' H', N σ' H' → ∃ m', m' < m ∧ W (i + 1) m' σ' H') ∧ ∀ x H', J.yld i H x H' → g x σ H' fun σ2 H2 => tb { D with nx := N, ct := N, bk := D.nx } σ2 H2) := by
  refine ⟨fun i m σ H => m = xs.length - i ∧ i ≤ xs.length ∧ ∃ s c, I s c H σ ∧ Kont P PE S c0 H0 ((forR (xs.drop i) s f).bind rest), ⟨xs.length, by simp, Nat.zero_le _, s0, c, h0, k⟩, ?_⟩
  rintro i m σ1 H1 ⟨rfl, hi, s, c1, h, k1⟩
  have p := hl s c1 H1 σ1 h
  by_cases hlt : i < xs.length
  · have hx : xs[i]? = some xs[i] := List.getElem?_eq_getElem hlt
    rw [drop_at hx, forR_cons, bind_assoc] at k1
    refine .inr ⟨p.go i hlt, fun σ' H' => ∃ s c, I s c H' σ' ∧ Kont P PE S c0 H0 ((forR (xs.drop (i + 1)) s f).bind rest), fun σ' H' q => ⟨xs.length - (i + 1), by omega, rfl, hlt, q⟩, fun v H' hy => ?_⟩
    obtain ⟨e, r⟩ := p.item i _ v H' hx hy
    subst e
    refine hb s _ v c1 _ σ1 _ h r (k1.turn.imp (fun y c' H' st q => ?_) fun _ _ _ _ q => q)
    cases y with
    | nx s' => exact fun σ' h' => ⟨s', c', h', q⟩
    | ret r' => exact fun v hv => hr r' q c' H' st v hv
  · have e : i = xs.length := by omega
    subst e
    rw [List.drop_length] at k1
    exact .inl ⟨p.stop, hd s c1 H1 σ1 h k1⟩
end
/-! #### comprehensions -/
section
variable {γ β α : Type} [DecidableEq α] [DecidableEq β] {A : Ty α} {B : Ty β} {P : γ → Cl → Hp → Prop} {PE : Err → Cl → Hp → Prop} {S : List Addr} {c0 c : Cl} {H0 H : Hp} {σ : L2.St} {g : TG} {tt : TT} {te : TE} {xs : List α} {J : It}
def LcK (g : TG) (tt : TT) (te : TE) (vs : List Nat) (σ : L2.St) (Q : VK) : It → Hp → Prop := fun J H1 => ∀ D, H1 D = none → ∃ W : Nat → Nat → Hp → Prop, (∃ m, W 0 m (upd H1 D (.lst []))) ∧ ∀ i m H, W i m H →
  (J.stop i H ∧ Q (.ref D) H) ∨ (J.go i H ∧ ∃ Nx : Hp → Prop, (∀ H', Nx H' → ∃ m', m' < m ∧ W (i + 1) m' H') ∧ ∀ x H', J.yld i H x H' → g x (wipe σ vs) H' fun σ2 H2 => wipe σ2 vs = wipe σ vs ∧ tt σ2 H2 fun b H3 =>
    if b = true then te σ2 H3 fun y H4 => ∃ acc, H4 D = some (.lst acc) ∧ acc.length < sizeLine ∧ Nx (upd H4 D (.lst (acc ++ [y]))) else Nx H3)
theorem lc_u {wi : TI} {vs : List Nat} {Q : VK} (h : wi σ H (LcK g tt te vs σ Q)) : tLc wi g tt te vs σ H Q := h
theorem comp_p {f : α → Res β} {rest : List β → Res γ} {vs : List Nat} {Q : VK} (k : Kont P PE S c0 H0 ((compN xs f).bind rest)) (gs : Step S c0 H0 c H) (hl : xs.length ≤ sizeLine)
    (hp : ∀ ci Hi, Step [] c H ci Hi → PIt J A xs ci Hi)
    (hb : ∀ x v ci Hi (Qe : VK) (Qn : Hp → Prop), Step [] c H ci Hi → Step S c0 H0 ci Hi → A.r ci Hi v x → Kont (fun y c' H' => Step [] ci Hi c' H' → ∀ u, B.r c' H' u y → Qe u H') (fun _ _ _ => False) S c0 H0 (f x) → g v (wipe σ vs) Hi fun σ2 H2 => wipe σ2 vs = wipe σ vs ∧ tYes σ2 H2 fun b H3 => if b = true then te σ2 H3 Qe else Qn H3)
    (hd : ∀ ys p us' c' H', H p = none → Step [] c H c' H' → Own B H0 c' H' p us' ys → Kont P PE S c0 H0 (rest ys) → Q (.ref p) H') : LcK g tYes te vs σ Q J H := by
  intro d nd
  have n0 : H0 d = none := gs.fresh nd
  refine ⟨fun i m Hi => m = xs.length - i ∧ i ≤ xs.length ∧ ∃ ci zs ys, Acc B H0 c H ci Hi d zs ys ∧ ys.length = i ∧ Kont P PE S c0 H0 ((compN (xs.drop i) f).bind fun r => rest (ys ++ r)), ⟨xs.length, by simp, Nat.zero_le _, _, [], [], Acc.start gs.wf nd n0, rfl, k⟩, ?_⟩
  rintro i m Hi ⟨rfl, hi, ci, zs, ys, ac, el, k1⟩
  have p := hp ci Hi ac.st
  by_cases hlt : i < xs.length
  · have hx : xs[i]? = some xs[i] := List.getElem?_eq_getElem hlt
    rw [drop_at hx, compN_cons, bind_assoc] at k1
    refine .inr ⟨p.go i hlt, fun Hi => ∃ ci zs ys, Acc B H0 c H ci Hi d zs ys ∧ ys.length = i + 1 ∧ Kont P PE S c0 H0 ((compN (xs.drop (i + 1)) f).bind fun r => rest (ys ++ r)), fun H' q => ⟨xs.length - (i + 1), by omega, rfl, hlt, q⟩, fun v H' hy => ?_⟩
    obtain ⟨e, rx⟩ := p.item i _ v H' hx hy
    subst e
    refine hb _ v ci _ _ _ ac.st (gs.tr0 ac.st) rx (k1.turn.nx.imp (fun y c' H' _ q st u ru => ?_) fun e cc HH _ q => q)
    have ac' := ac.push nd st ru
    refine ⟨zs, (ac.own.step0 st).obj, by rw [ac.own.rs.len]; omega, c', _, _, ac', by rw [List.length_append, el]; rfl, ?_⟩
    rw [bind_assoc] at q
    rw [show (fun r => rest (ys ++ [y] ++ r)) = fun r => rest (ys ++ (y :: r)) from by funext r; rw [List.append_assoc]; rfl]
    exact q
  · have e : i = xs.length := by omega
    subst e
    rw [List.drop_length] at k1
    have k2 : Kont P PE S c0 H0 (rest (ys ++ [])) := k1
    rw [List.append_nil] at k2
    exact .inl ⟨p.stop, hd ys d zs ci Hi nd ac.st ac.own k2⟩
theorem compF_cons {x : α} {xs : List α} {f : α → Res (Option β)} : compF (x :: xs) f = (nx (f x)).bind fun y => (compF xs f).bind fun ys => .ok (match y with | some z => z :: ys | none => ys) := rfl
/-- with a test: the item's value, or none -/
theorem comp_f {f : α → Res (Option β)} {rest : List β → Res γ} {vs : List Nat} {Q : VK} (k : Kont P PE S c0 H0 ((compF xs f).bind rest)) (gs : Step S c0 H0 c H) (hl : xs.length ≤ sizeLine)
    (hp : ∀ ci Hi, Step [] c H ci Hi → PIt J A xs ci Hi)
    (hb : ∀ x v ci Hi (Qe : VK) (Qn : Hp → Prop), Step [] c H ci Hi → Step S c0 H0 ci Hi → A.r ci Hi v x → Kont (fun y c' H' => match y with | some y => Step [] ci Hi c' H' → ∀ u, B.r c' H' u y → Qe u H' | none => Step [] ci Hi c' H' → Qn H') (fun _ _ _ => False) S c0 H0 (f x) → g v (wipe σ vs) Hi fun σ2 H2 => wipe σ2 vs = wipe σ vs ∧ tt σ2 H2 fun b H3 => if b = true then te σ2 H3 Qe else Qn H3)
    (hd : ∀ ys p us' c' H', H p = none → Step [] c H c' H' → Own B H0 c' H' p us' ys → Kont P PE S c0 H0 (rest ys) → Q (.ref p) H') : LcK g tt te vs σ Q J H := by
  intro d nd
  have n0 : H0 d = none := gs.fresh nd
  refine ⟨fun i m Hi => m = xs.length - i ∧ i ≤ xs.length ∧ ∃ ci zs ys, Acc B H0 c H ci Hi d zs ys ∧ ys.length ≤ i ∧ Kont P PE S c0 H0 ((compF (xs.drop i) f).bind fun r => rest (ys ++ r)), ⟨xs.length, by simp, Nat.zero_le _, _, [], [], Acc.start gs.wf nd n0, Nat.le_refl _, k⟩, ?_⟩
  rintro i m Hi ⟨rfl, hi, ci, zs, ys, ac, el, k1⟩
  have p := hp ci Hi ac.st
  by_cases hlt : i < xs.length
  · have hx : xs[i]? = some xs[i] := List.getElem?_eq_getElem hlt
    rw [drop_at hx, compF_cons, bind_assoc] at k1
    refine .inr ⟨p.go i hlt, fun Hi => ∃ ci zs ys, Acc B H0 c H ci Hi d zs ys ∧ ys.length ≤ i + 1 ∧ Kont P PE S c0 H0 ((compF (xs.drop (i + 1)) f).bind fun r => rest (ys ++ r)), fun H' q => ⟨xs.length - (i + 1), by omega, rfl, hlt, q⟩, fun v H' hy => ?_⟩
    obtain ⟨e, rx⟩ := p.item i _ v H' hx hy
    subst e
    refine hb _ v ci _ _ _ ac.st (gs.tr0 ac.st) rx (k1.turn.nx.imp (fun y c' H' _ q => ?_) fun e cc HH _ q => q)
    rw [bind_assoc] at q
    cases y with
    | some y =>
      refine fun st u ru => ?_
      have ac' := ac.push nd st ru
      refine ⟨zs, (ac.own.step0 st).obj, by rw [ac.own.rs.len]; omega, c', _, _, ac', by rw [List.length_append, List.length_singleton]; omega, ?_⟩
      rw [show (fun r => rest (ys ++ [y] ++ r)) = fun r => rest (ys ++ (y :: r)) from by funext r; rw [List.append_assoc]; rfl]
      exact q
    | none =>
      exact fun st => ⟨c', zs, ys, ⟨ac.st.tr0 st, ac.own.step0 st⟩, by omega, q⟩
  · have e : i = xs.length := by omega
    subst e
    rw [List.drop_length] at k1
    have k2 : Kont P PE S c0 H0 (rest (ys ++ [])) := k1
    rw [List.append_nil] at k2
    exact .inl ⟨p.stop, hd ys d zs ci Hi nd ac.st ac.own k2⟩
end
/-! #### what walks -/
section
variable {σ : L2.St} {H : Hp} {a : Addr} {us : List V} {K : PySem.W.Frag} {R : It → Hp → Prop}
def SIt (R : It → Hp → Prop) (v : V) (H1 : Hp) : Prop := ∃ x, v = .str x ∧ R (Its x) H1
theorem istr_u {te : TE} (h : te σ H (SIt R)) : iStr te σ H R := h
theorem istr_e {s : Str} (q : R (Its s) H) : SIt R (.str s) H := ⟨s, rfl, q⟩
def VIt (K : PySem.W.Frag) (R : It → Hp → Prop) (vs : List V) (H1 : Hp) : Prop := ∃ (a : Addr) (xs : List V), vs = [.ref a] ∧ SqL K H1 a xs ∧ R (Itv K a xs.length) H1
theorem irev_u {ta : TA} (h : ta σ H (VIt K R)) : iRev K ta σ H R := h
theorem irev_e (hs : SqL K H a us) (q : R (Itv K a us.length) H) : VIt K R [.ref a] H := ⟨a, us, rfl, hs, q⟩
def TIt (K : PySem.W.Frag) (R : It → Hp → Prop) (x : V) (H1 : Hp) : Prop := ∃ a, x = .ref a ∧ (∃ xs, SqT K H1 a xs) ∧ R (Itt K a) H1
theorem itup_u {tl : TE} (h : tl σ H (TIt K R)) : iTup K tl σ H R := h
theorem itup_e (hr : SqT K H a us) (q : R (Itt K a) H) : TIt K R (V.ref a) H := ⟨a, rfl, ⟨us, hr⟩, q⟩
end
/-! #### sum, slices of texts -/
section
variable {σ : L2.St} {H : Hp} {c : Cl} {K : PySem.W.Frag} {v : V} {ns : List Int}
theorem ints_of : ∀ {us : List V} {ns : List Int}, Rs tyI c H us ns → us = ns.map V.int
  | [], [], _ => rfl
  | u :: us, n :: ns, h => by
    have e : u = V.int n := h.1
    rw [e, ints_of h.2]
    rfl
  | [], _ :: _, h => h.elim
  | _ :: _, [], h => h.elim
theorem sl_s {te : TE} {tl th : TO} {s : Str} {lo hi : Option Int} (h : Pv te σ H (.str s)) (h1 : PvO tl σ H lo) (h2 : PvO th σ H hi) (hs : s.length ≤ sizeLine) : Pv (tSl rSlS te tl th) σ H (.str (cutS s lo hi)) := fun _ q => h _ (h1 _ (h2 _ ⟨s, rfl, hs, q⟩))
theorem ok_cut {s : Str} {lo hi : Option Int} (h : PyData.strOk s = true) : PyData.strOk (cutS s lo hi) = true := by
  unfold PyData.strOk cutS at *
  rw [Array.all_eq_true] at *
  intro i hi
  simp only [List.size_toArray, List.length_take, List.length_drop, Array.length_toList] at hi
  simp only [List.getElem_toArray, List.getElem_take, List.getElem_drop, Array.getElem_toList]
  exact h _ _
end
end Kb
/-! Kb10: list(reversed(xs)) -/
namespace Kb
open PySem L2 PySem.Spec PyProof.Rows RT
section
variable {prog : Program} {w : World} {A : Around} {E : Value → Shared → Prop} {s : Shared}
theorem ext_rev {S it l : Addr} {items : Array Value} {R : Result → Shared → Prop} {c₀ : Nat} {res : Value} (hh : A.handled = none) (hit : s.heap.IsRevIter it l ((items.size : Int) - 1)) (hl : s.heap.IsList l items) (hne : l ≠ it) (hn : items.size ≤ sizeLine) (hSi : S ≠ it) (hSl : S ≠ l)
    (hS : s.heap.get? S = some { cls := .type "list", data := .seq #[] c₀ })
    (hR : ∀ s' acc' c', Moved (S :: [it]) (fun a b => b = a) s s' → s'.heap.get? S = some { cls := .type "list", dict := none, data := .seq acc' c', slots := #[] } → ItemsOf (fun i v => items[items.size - 1 - i]? = some v) acc' items.size → R (.ok (.ret res)) s') :
    wpAny (model prog w) A.in1 (Builtin.List.listExtendWith (.ref S) (.ref it) res)
      (fun fin s' => match fin with | .done f => R (.ok f) s' | .again c' => c'.quiet = true ∧ codeAny (model prog w) A c' R s') (fun e s' => R (.error e) s') s := by
  have W := (Walks.listRev (prog := prog) (w := w) (A := A.in1) hh it l hne items).toS
  have hSf : S ∉ [it, l] := by simp only [List.mem_cons, List.not_mem_nil, or_false, not_or]; exact ⟨hSi, hSl⟩
  have hT : s.TypeIs (.ref it) "list_reverseiterator" := Heap.IsRevIter.typeIs hit
  unfold Builtin.List.listExtendWith
  refine wpAny_bind (wpAny_typeOf hT ?_)
  rw [if_neg (by rw [show Builtin.List.listSameRef (.ref S) (.ref it) = false from by simp [Builtin.List.listSameRef, hSi]]; decide)]
  refine wpAny_bind (wpAny_pyIter_revIter hit ?_)
  refine wpAny_bind (wpAny_holding ?_)
  unfold Builtin.List.listLengthHint
  refine wpAny_bind (wpAny_specialOf hT nolen_lri ?_)
  refine wpAny_bind (wpAny_specialOf hT hint_lri ?_)
  generalize hid : ("list_reverseiterator.__length_hint__" : String) = id0
  wp_delta
  rw [show splitId id0 = some ("list_reverseiterator", "__length_hint__") from by subst hid; decide +kernel]
  subst hid
  refine wpAny_bind (wpAny_isInstance (b := true) hT (by rw [isSubtype_type]; kernel_rfl) ?_)
  refine wpAny_pure ?_
  rw [if_neg (by decide)]
  have e0 : ((items.size : Nat) : Int) - 1 - ((0 : Nat) : Int) = (items.size : Int) - 1 := by omega
  exact wpAny_pure ⟨plainId_quiet F.plain_extend_loop _, codeAny_extend_loopS W hn _ hSf _ items.size 0 _ _ _ rfl (Nat.zero_le _) ⟨Nat.zero_le _, by rw [e0]; exact hit, hl⟩ hS (ItemsOf.nil _) fun s' acc' c' hm hS' hacc => hR s' acc' c' hm hS' hacc⟩
theorem init_rev {S it l : Addr} {items : Array Value} {R : Result → Shared → Prop} (hh : A.handled = none) (hit : s.heap.IsRevIter it l ((items.size : Int) - 1)) (hl : s.heap.IsList l items) (hne : l ≠ it) (hn : items.size ≤ sizeLine) (hSi : S ≠ it) (hSl : S ≠ l)
    (hS : s.heap.get? S = some { cls := .type "list", data := .seq #[] })
    (hR : ∀ (h' : Heap) (tk : Nat) acc' c', (∀ b o, b ≠ S → b ≠ it → s.heap.get? b = some o → h'.get? b = some o) → h'.get? S = some { cls := .type "list", dict := none, data := .seq acc' c', slots := #[] } → ItemsOf (fun i v => items[items.size - 1 - i]? = some v) acc' items.size → R (.ok (.ret .none)) { s with heap := h', toks := tk }) :
    wpAny (model prog w) A.in1 (Builtin.«list.__init__» ⟨[.ref S, .ref it], []⟩)
      (fun fin s' => match fin with | .done f => R (.ok f) s' | .again c' => c'.quiet = true ∧ codeAny (model prog w) A c' R s') (fun e s' => R (.error e) s') s := by
  show wpAny _ A.in1 (Builtin.List.listItems (.ref S) >>= fun old => Builtin.List.listUpdate (.ref S) (fun _ => #[]) >>= fun _ => letGo old.toList.reverse >>= fun _ => Builtin.List.listExtendWith (.ref S) (.ref it) .none) _ _ s
  refine wpAny_bind ?_
  unfold Builtin.List.listItems
  refine wpAny_bind (wpAny_seqItems hS rfl (wpAny_pure ?_))
  show wpAny _ A.in1 (updateSeq S (fun _ => #[]) >>= fun _ => letGo (#[] : Array Value).toList.reverse >>= fun _ => Builtin.List.listExtendWith (.ref S) (.ref it) .none) _ _ s
  refine wpAny_bind (wpAny_updateSeq hS rfl (wpAny_bind (wpAny_letGo ?_)))
  have hS2 := Heap.get?_update_self (Obj.mapSeq (fun _ => (#[] : Array Value))) hS rfl
  have oth : ∀ b o, b ≠ S → s.heap.get? b = some o → (s.heap.update S (Obj.mapSeq (fun _ => (#[] : Array Value)))).get? b = some o := fun b o hb e => (Heap.get?_update_other _ _ (Ne.symm hb)).trans e
  refine ext_rev hh (hit.at fun o e => oth it o (Ne.symm hSi) e) ?_ hne hn hSi hSl hS2 fun s' acc' c' hm hS' hacc => ?_
  · obtain ⟨o, h1, h2⟩ := hl
    exact ⟨o, oth l o (Ne.symm hSl) h1, h2⟩
  · rw [Moved.eq_with hm]
    exact hR s'.heap s'.toks acc' c' (fun b o hb hi e => hm.heap b o (by simp [hb, hi]) (oth b o hb e)) hS' hacc
theorem call_list_rev {it l : Addr} {items : Array Value} {Q : Value → Shared → Prop} (hh : A.handled = none) (hit : s.heap.IsRevIter it l ((items.size : Int) - 1)) (hl : s.heap.IsList l items) (hne : l ≠ it) (hn : items.size ≤ sizeLine)
    (hQ : ∀ (h' : Heap) (tk : Nat) (acc : Array Value) (c' : Nat), (∀ b o, b ≠ it → s.heap.get? b = some o → h'.get? b = some o) → h'.get? s.heap.objs.size = some { cls := .type "list", dict := none, data := .seq acc c', slots := #[] } → ItemsOf (fun i v => items[items.size - 1 - i]? = some v) acc items.size →
      Q (.ref s.heap.objs.size) { s with heap := h', toks := tk }) : wpAny (model prog w) A (call (.type "list") [.ref it]) Q E s := by
  obtain ⟨oi, hoi, _⟩ := id hit
  obtain ⟨ol, hol, _⟩ := id hl
  refine callType_codes (Q₁ := fun obj s1 => obj = .ref s.heap.objs.size ∧ s1 = { s with heap := s.heap.push { cls := .type "list", data := .seq #[] } }) F.called_list (F.typeCall_list_1 _) F.entry_list_init (code_list_new _ ⟨rfl, rfl⟩) fun obj s1 h1 => ?_
  obtain ⟨rfl, rfl⟩ := h1
  have hS : (s.heap.push { cls := .type "list", data := .seq #[] }).get? s.heap.objs.size = some { cls := .type "list", data := .seq #[] } := Heap.get?_push_size _ rfl
  refine ⟨⟨_, hS, rfl⟩, F.args_list_init_2 _ _, init_rev (s := { s with heap := s.heap.push { cls := .type "list", data := .seq #[] } }) hh (hit.at fun o e => Heap.get?_push_of_some _ e) (hl.push _) hne hn (Nat.ne_of_gt (Heap.lt_size hoi)) (Nat.ne_of_gt (Heap.lt_size hol)) hS fun h' tk acc' c' hk hS' hacc => ?_⟩
  exact ⟨rfl, hQ h' tk acc' c' (fun b o hb e => hk b o (Nat.ne_of_lt (Heap.lt_size e)) hb (Heap.get?_push_of_some _ e)) hS' hacc⟩
end
/-- list(reversed(e)) -/
def tListRev (K : PySem.W.Frag) (te : TE) : TE := fun σ H Q => te σ H fun v H1 => ∃ a xs, v = .ref a ∧ SqL K H1 a xs ∧ ∀ p, H1 p = none → Q (.ref p) (upd H1 p (.lst xs.reverse))
theorem vals_rev' {xs : List V} {its : List Value} {acc : Array Value} (r : Vals xs its) (h : ItemsOf (fun i v => its.toArray[its.toArray.size - 1 - i]? = some v) acc its.toArray.size) : Vals xs.reverse acc.toList := RT.vals_rev r h
section
variable {X : Cx}
theorem pe_listRev {e : Expr} {te : TE} {p p2 pos pos2 : Pos} (hc : X.calm = true) (hg : Gl X "list") (hm : X.mg "list" = none) (hg2 : Gl X "reversed") (hm2 : X.mg "reversed" = none) (he : PE X e te)
    (hs : starEach [e] X.env = (false, eval e X.env) :: starEach [] X.env := by rfl)
    (hs2 : starEach [.Call (.Name "reversed" p2) [e] [] pos2] X.env = (false, eval (.Call (.Name "reversed" p2) [e] [] pos2) X.env) :: starEach [] X.env := by rfl) :
    PE X (.Call (.Name "list" p) [.Call (.Name "reversed" p2) [e] [] pos2] [] pos) (tListRev X.K te) := by
  refine ⟨fun pins s σ H Q I h => ?_⟩
  refine Call_ (ld_blt I hg hm boot_list (PyProof.Rows.callWith_type1 (args_cons (Call_ (ld_blt I hg2 hm2 PyProof.Rows.boot_reversed (PyProof.Rows.callWith_type1 (args_cons (thn (he.run pins s σ H _ I h) fun u s1 ⟨v, H1, I1, r1, q1⟩ => args_nil ?_) hs) hs rfl))) hs2) hs2 rfl))
  obtain ⟨a, xs, ev, hq, q⟩ := q1
  subst ev
  obtain rfl : u = Value.ref a := r1
  obtain ⟨its, rv, p', hz⟩ := I1.list hq
  refine call_reversed_list p'.isList (args_nil ?_)
  have hl := p'.isList
  obtain ⟨ol, hol, _⟩ := id hl
  have hne : a ≠ s1.heap.objs.size := Nat.ne_of_lt (Heap.lt_size hol)
  have hn : its.toArray.size ≤ sizeLine := by rw [List.size_toArray, ← rv.length]; exact hz
  refine call_list_rev (s := { s1 with heap := s1.heap.push (revObj a ((its.toArray.size : Int) - 1)) }) (I1.ok.hd hc) ⟨_, Heap.get?_push_size _ rfl, rfl, rfl⟩ (hl.push _) hne hn fun h' tk acc c' hk hS hi => ?_
  have sz : (s1.heap.push (revObj a ((its.toArray.size : Int) - 1))).objs.size = s1.heap.objs.size + 1 := by simp [Heap.push]
  have hT : s1.heap.objs.size ≤ (s1.heap.push (revObj a ((its.toArray.size : Int) - 1))).objs.size := by rw [sz]; exact Nat.le_succ _
  have hnT := I1.hok.fresh hT
  have la : acc.toList.length = xs.length := by
    rw [Array.length_toList, hi.1, List.size_toArray, ← rv.length]
  have rvv := vals_rev' rv hi
  refine ⟨V.ref (s1.heap.push (revObj a ((its.toArray.size : Int) - 1))).objs.size, upd H1 _ (.lst xs.reverse), I1.turnedNew (ch := [s1.heap.objs.size]) (T := (s1.heap.push (revObj a ((its.toArray.size : Int) - 1))).objs.size) (fun b o hb e => hk b o (fun z => hb (by rw [z]; exact List.mem_singleton.mpr rfl)) (Heap.get?_push_of_some _ e)) (fun b hb => by
    rw [List.mem_singleton.mp hb]
    exact I1.fpOk (Nat.le_refl _) (I1.hok.fresh (Nat.le_refl _))) hT ⟨by rw [List.length_reverse]; exact hz, acc.toList, c', rvv, by rw [Array.toArray_toList]; exact hS⟩, rfl, q _ hnT⟩
end
end Kb
/-! Kb11: values of and/or with calls; comprehensions on their own base; while; sums; tuples walked -/
namespace Kb
open PySem L2
section
variable {β : Type} {P : β → Cl → Hp → Prop} {PE : Err → Cl → Hp → Prop} {S : List Addr} {c0 : Cl} {H0 : Hp}
theorem Kont.rebase {m : Res β} {ci : Cl} {Hi : Hp} (k : Kont P PE S c0 H0 m) (g : Step S c0 H0 ci Hi) : Kont P PE [] ci Hi m := by
  cases m with
  | ok y => exact fun c H st => k c H (g.tr0 st)
  | err e => exact fun c H st => k c H (g.tr0 st)
  | stk => exact k.elim
end
section
variable {γ β α : Type} [DecidableEq α] [DecidableEq β] {A : Ty α} {B : Ty β} {P : γ → Cl → Hp → Prop} {PE : Err → Cl → Hp → Prop} {S : List Addr} {c0 c : Cl} {H0 H : Hp} {σ : L2.St} {g : TG} {tt : TT} {te : TE} {xs : List α} {J : It}
theorem comp_pB {f : α → Res β} {rest : List β → Res γ} {vs : List Nat} {Q : VK} (k : Kont P PE S c0 H0 ((compN xs f).bind rest)) (gs : Step S c0 H0 c H) (hl : decide (xs.length ≤ sizeLine) = true)
    (hp : ∀ ci Hi, Step [] c H ci Hi → PIt J A xs ci Hi)
    (hb : ∀ x v ci Hi (Qe : VK) (Qn : Hp → Prop), Step [] c H ci Hi → Step S c0 H0 ci Hi → A.r ci Hi v x → Kont (fun y c' H' => ∀ u, B.r c' H' u y → Qe u H') (fun _ _ _ => False) [] ci Hi (f x) → g v (wipe σ vs) Hi fun σ2 H2 => wipe σ2 vs = wipe σ vs ∧ tYes σ2 H2 fun b H3 => if b = true then te σ2 H3 Qe else Qn H3)
    (hd : ∀ ys p us' c' H', H p = none → Step [] c H c' H' → Own B H0 c' H' p us' ys → Kont P PE S c0 H0 (rest ys) → Q (.ref p) H') : LcK g tYes te vs σ Q J H :=
  comp_p k gs (of_decide_eq_true hl) hp (fun x v ci Hi Qe Qn st gi r k => hb x v ci Hi Qe Qn st gi r ((k.rebase gi).imp (fun y c' H' s q => q s) fun _ _ _ _ q => q)) hd
theorem comp_fB {f : α → Res (Option β)} {rest : List β → Res γ} {vs : List Nat} {Q : VK} (k : Kont P PE S c0 H0 ((compF xs f).bind rest)) (gs : Step S c0 H0 c H) (hl : decide (xs.length ≤ sizeLine) = true)
    (hp : ∀ ci Hi, Step [] c H ci Hi → PIt J A xs ci Hi)
    (hb : ∀ x v ci Hi (Qe : VK) (Qn : Hp → Prop), Step [] c H ci Hi → Step S c0 H0 ci Hi → A.r ci Hi v x → Kont (fun y c' H' => (match y with | some y => ∀ u, B.r c' H' u y → Qe u H' | none => Qn H')) (fun _ _ _ => False) [] ci Hi (f x) → g v (wipe σ vs) Hi fun σ2 H2 => wipe σ2 vs = wipe σ vs ∧ tt σ2 H2 fun b H3 => if b = true then te σ2 H3 Qe else Qn H3)
    (hd : ∀ ys p us' c' H', H p = none → Step [] c H c' H' → Own B H0 c' H' p us' ys → Kont P PE S c0 H0 (rest ys) → Q (.ref p) H') : LcK g tt te vs σ Q J H :=
  comp_f k gs (of_decide_eq_true hl) hp (fun x v ci Hi Qe Qn st gi r k => hb x v ci Hi Qe Qn st gi r ((k.rebase gi).imp (fun y c' H' s q => by
    cases y with
    | some y => exact q s
    | none => exact q s) fun _ _ _ _ q => q)) hd
end
section
variable {β τ : Type} {P : β → Cl → Hp → Prop} {PE : Err → Cl → Hp → Prop} {S : List Addr} {c0 c : Cl} {H0 H : Hp} {σ : L2.St} {tb : TS} {D : Ends} {s0 : τ}
theorem while_m {tc : TT} {fuel : Nat} {t : τ → Res Bool} {f : τ → Res τ} {rest : τ → Res β} (k : Kont P PE S c0 H0 ((whileN fuel s0 t f).bind rest)) (I : τ → Cl → Hp → L2.St → Prop) (h0 : I s0 c H σ)
    (hb : ∀ n s c H σ (M : L2.St → Hp → Prop), I s c H σ → (∀ s' c' H' σ', I s' c' H' σ' → Kont P PE S c0 H0 ((whileN n s' t f).bind rest) → M σ' H') → Kont P PE S c0 H0 ((t s).bind fun b => br b ((f s).bind fun s' => (whileN n s' t f).bind rest) (rest s)) →
      tc σ H fun b H1 => if b = true then ∃ N : L2.St → Hp → Prop, (∀ σ' H', N σ' H' → M σ' H') ∧ tb { D with nx := N, ct := N, bk := D.nx } σ H1 else D.nx σ H1) : tWhile tc tb D σ H := by
  refine ⟨fun m σ H => WhI P PE S c0 H0 I t f rest m σ H, ⟨fuel, s0, c, h0, k⟩, ?_⟩
  rintro m σ1 H1 ⟨s, c1, h, k1⟩
  cases m with
  | zero => exact k1.elim
  | succ n =>
    have k2 : Kont P PE S c0 H0 ((t s).bind fun b => br b ((f s).bind fun s' => (whileN n s' t f).bind rest) (rest s)) := by
      have e : ((whileN (n + 1) s t f).bind rest) = ((t s).bind fun b => br b ((f s).bind fun s' => (whileN n s' t f).bind rest) (rest s)) := by
        show (((t s).bind fun b => br b ((f s).bind fun s' => whileN n s' t f) (.ok s)).bind rest) = _
        rw [bind_assoc]
        congr 1
        funext b
        cases b with
        | true => show (((f s).bind fun s' => whileN n s' t f).bind rest) = ((f s).bind fun s' => (whileN n s' t f).bind rest); rw [bind_assoc]
        | false => rfl
      rw [← e]
      exact k1
    exact hb n s c1 H1 σ1 (fun σ' H' => ∃ m', m' < n + 1 ∧ WhI P PE S c0 H0 I t f rest m' σ' H') h (fun s' c' H' σ' h' k' => ⟨n, Nat.lt_succ_self _, s', c', h', k'⟩) k2
end
section
variable {α : Type} [DecidableEq α] {A : Ty α} {c : Cl} {H H0 : Hp} {v : V} {xs : List α} {σ : L2.St} {K : PySem.W.Frag}
theorem sum_end {ns : List Int} (h : rB K tyI c H v ns) {Q : VK} (q : Q (.int ns.sum) H) : rSum K [v] H Q := by
  obtain ⟨a, us, rfl, r, rs⟩ := h
  rw [ints_of rs] at r
  exact ⟨a, ns, rfl, r, q⟩
theorem vb_cut {β : Type} {P : β → Cl → Hp → Prop} {PE : Err → Cl → Hp → Prop} {S : List Addr} {c0 : Cl} {te : TE} {Q : VK} {m : Res Bool} {rest : Bool → Res β} (k : Kont P PE S c0 H0 (m.bind rest)) (I : Unit → Cl → Hp → L2.St → Prop) (hd : ∀ b c H, I () c H σ → Kont P PE S c0 H0 (rest b) → Q (.bl b) H) (hb : Kont (fun b c H => I () c H σ → Q (.bl b) H) PE S c0 H0 m → te σ H Q) : te σ H Q :=
  hb ((k.turn).imp (fun b c H _ q i => hd b c H i q) (fun _ _ _ _ q => q))
def LRv (K : PySem.W.Frag) (Q : VK) : VK := fun v H1 => ∃ a xs, v = .ref a ∧ SqL K H1 a xs ∧ ∀ p, H1 p = none → Q (.ref p) (upd H1 p (.lst xs.reverse))
theorem lrev_u {te : TE} {Q : VK} (h : te σ H (LRv K Q)) : tListRev K te σ H Q := h
theorem lrev_end (h : rB K A c H v xs) (w : Wf c H) (n0 : ∀ p, H p = none → H0 p = none) {Q : VK} (q : ∀ p us' c' H', H p = none → Step [] c H c' H' → Own A H0 c' H' p us' xs.reverse → Q (.ref p) H') : LRv K Q v H := by
  obtain ⟨a, us, rfl, r, rs⟩ := h
  exact ⟨a, us, rfl, r, new_end w fun p c' H' st cp hp np => q p _ c' H' np st ⟨cp, hp, rs.rev.up st.up, n0 p np⟩⟩
theorem pitT2 {a : Addr} {x0 x1 : α} (h : (tyT2 A A).r c H (.ref a) (x0, x1)) : PIt (Itt K a) A [x0, x1] c H := by
  obtain ⟨b, u0, u1, e, q, h0, h1⟩ := open2 h
  cases e
  exact pit_t ((Or.inl q : SqT K H a _)) ⟨h0, ⟨h1, trivial⟩⟩
theorem sqT2 {a : Addr} {x0 x1 : α} (h : (tyT2 A A).r c H (.ref a) (x0, x1)) : ∃ us, SqT K H a us := by
  obtain ⟨b, u0, u1, e, q, h0, h1⟩ := open2 h
  cases e
  exact ⟨_, (Or.inl q : SqT K H a _)⟩
theorem pitT3 {a : Addr} {x0 x1 x2 : α} (h : (tyT3 A A A).r c H (.ref a) (x0, x1, x2)) : PIt (Itt K a) A [x0, x1, x2] c H := by
  obtain ⟨b, u0, u1, u2, e, q, h0, h1, h2⟩ := open3 h
  cases e
  exact pit_t ((Or.inl q : SqT K H a _)) ⟨h0, ⟨h1, ⟨h2, trivial⟩⟩⟩
theorem sqT3 {a : Addr} {x0 x1 x2 : α} (h : (tyT3 A A A).r c H (.ref a) (x0, x1, x2)) : ∃ us, SqT K H a us := by
  obtain ⟨b, u0, u1, u2, e, q, h0, h1, h2⟩ := open3 h
  cases e
  exact ⟨_, (Or.inl q : SqT K H a _)⟩
theorem pitT4 {a : Addr} {x0 x1 x2 x3 : α} (h : (tyT4 A A A A).r c H (.ref a) (x0, x1, x2, x3)) : PIt (Itt K a) A [x0, x1, x2, x3] c H := by
  obtain ⟨b, u0, u1, u2, u3, e, q, h0, h1, h2, h3⟩ := open4 h
  cases e
  exact pit_t ((Or.inl q : SqT K H a _)) ⟨h0, ⟨h1, ⟨h2, ⟨h3, trivial⟩⟩⟩⟩
theorem sqT4 {a : Addr} {x0 x1 x2 x3 : α} (h : (tyT4 A A A A).r c H (.ref a) (x0, x1, x2, x3)) : ∃ us, SqT K H a us := by
  obtain ⟨b, u0, u1, u2, u3, e, q, h0, h1, h2, h3⟩ := open4 h
  cases e
  exact ⟨_, (Or.inl q : SqT K H a _)⟩
theorem pitT5 {a : Addr} {x0 x1 x2 x3 x4 : α} (h : (tyT5 A A A A A).r c H (.ref a) (x0, x1, x2, x3, x4)) : PIt (Itt K a) A [x0, x1, x2, x3, x4] c H := by
  obtain ⟨b, u0, u1, u2, u3, u4, e, q, h0, h1, h2, h3, h4⟩ := open5 h
  cases e
  exact pit_t ((Or.inl q : SqT K H a _)) ⟨h0, ⟨h1, ⟨h2, ⟨h3, ⟨h4, trivial⟩⟩⟩⟩⟩
theorem sqT5 {a : Addr} {x0 x1 x2 x3 x4 : α} (h : (tyT5 A A A A A).r c H (.ref a) (x0, x1, x2, x3, x4)) : ∃ us, SqT K H a us := by
  obtain ⟨b, u0, u1, u2, u3, u4, e, q, h0, h1, h2, h3, h4⟩ := open5 h
  cases e
  exact ⟨_, (Or.inl q : SqT K H a _)⟩
theorem pitT6 {a : Addr} {x0 x1 x2 x3 x4 x5 : α} (h : (tyT6 A A A A A A).r c H (.ref a) (x0, x1, x2, x3, x4, x5)) : PIt (Itt K a) A [x0, x1, x2, x3, x4, x5] c H := by
  obtain ⟨b, u0, u1, u2, u3, u4, u5, e, q, h0, h1, h2, h3, h4, h5⟩ := open6 h
  cases e
  exact pit_t ((Or.inl q : SqT K H a _)) ⟨h0, ⟨h1, ⟨h2, ⟨h3, ⟨h4, ⟨h5, trivial⟩⟩⟩⟩⟩⟩
theorem sqT6 {a : Addr} {x0 x1 x2 x3 x4 x5 : α} (h : (tyT6 A A A A A A).r c H (.ref a) (x0, x1, x2, x3, x4, x5)) : ∃ us, SqT K H a us := by
  obtain ⟨b, u0, u1, u2, u3, u4, u5, e, q, h0, h1, h2, h3, h4, h5⟩ := open6 h
  cases e
  exact ⟨_, (Or.inl q : SqT K H a _)⟩
theorem itup_e' {R : It → Hp → Prop} {a : Addr} (hr : ∃ us, SqT K H a us) (q : R (Itt K a) H) : TIt K R (V.ref a) H := ⟨a, rfl, hr, q⟩
theorem Own.sqv {K : PySem.W.Frag} {p : Addr} {us : List V} (h : Own A H0 c H p us xs) : SqL K H p us := .inl (.inl h.obj)
end
end Kb
/-! Kb12: rules that tell the fragment's name, for the blocks of comprehensions -/
namespace Kb
open PySem L2
theorem brF_eq {α : Type} {b : Bool} {x y : Res α} (h : b = false) : br b x y = y := by subst h; rfl
theorem brT_eq {α : Type} {b : Bool} {x y : Res α} (h : b = true) : br b x y = x := by subst h; rfl
section
variable {X : Cx} {K : PySem.W.Frag}
theorem ix_tupK (e : X.K = K) : IxR X (rIxT K) := e ▸ ix_tup
theorem ix_listK (e : X.K = K) : IxR X (rIxL K) := e ▸ ix_list
theorem op_eqDK (e : X.K = K) (hu : X.A.units + 64 < cLine) : OpR X (compareOp .Eq) (rEqD K) := e ▸ op_eqD hu
theorem op_neDK (e : X.K = K) (hu : X.A.units + 64 < cLine) : OpR X (compareOp .NotEq) (rNeD K) := e ▸ op_neD hu
theorem call_len_seqK (e : X.K = K) : CallR X (.builtin "len") (fun xs H Q => ∃ p ys, xs = [.ref p] ∧ (SqL K H p ys ∨ SqT K H p ys) ∧ Q (.int ys.length) H) := e ▸ call_len_seq
theorem cr_sumK (e : X.K = K) (hc : X.calm = true) : CallR X (.builtin "sum") (rSum K) := e ▸ cr_sum hc
theorem call_isiK (e : X.K = K) : CallR X (.builtin "isinstance") (rIsi K) := e ▸ call_isi
theorem sl_listK (e : X.K = K) : SlR X (rSlL K) := e ▸ sl_list
theorem pg_tupK {es : List Expr} {k : Nat} {t : TGs} {n : Nat} {pos : Pos} (e : X.K = K) (hc : X.calm = true) (h : PGs X es t)
    (hn : (assignEach es X.env).length = n := by rfl) (hst : (assignEach es X.env).findIdx? (·.1) = none := by rfl) : PG X (.Tuple es k pos) (gTup K n t) := e ▸ pg_tup hc h hn hst
theorem pt_truthK {a : Expr} {ta : TE} (e : X.K = K) (ha : PE X a ta) (he : ∀ whole, isTrue a X.env whole = (do let v ← whole; standAt a.pos; holding [v] (truthy v))) :
    PT X a (fun σ H Q => ta σ H fun x H' => ∃ k, TruV K x H' k ∧ Q k H') := e ▸ pt_truth ha he
theorem cr_sortTK (e : X.K = K) : CallR X (.builtin "sorted") (rSortT K) := e ▸ cr_sortT
theorem cr_listK (e : X.K = K) : CallR X (.type "list") (rListOf K) := e ▸ cr_list
end
end Kb
/-! Kb13: values of any kind -/
namespace Kb
open PySem L2
inductive Dyn | i (n : Int) | b (x : Bool) | o
  deriving DecidableEq
def Dyn.isNum : Dyn → Bool
  | .i _ => true
  | .b _ => true
  | .o => false
def Dyn.isB : Dyn → Bool
  | .b _ => true
  | _ => false
def Dyn.int? : Dyn → Option Int
  | .i n => some n
  | _ => none
theorem Dyn.int_of {x : Dyn} {n : Int} (h : x.int? = some n) : x = .i n := by
  cases x with
  | i m => exact congrArg Dyn.i (Option.some.inj h)
  | b m => cases h
  | o => cases h
def OthO (u : HO) : Prop := (∃ xs, u = .lst xs) ∨ (∃ xs, u = .tup xs) ∨ (∃ kvs, u = .dK kvs) ∨ ∃ o xs, u = .frz o (.tup xs)
def rD (c : Cl) (H : Hp) (v : V) : Dyn → Prop
  | .i n => v = .int n
  | .b x => v = .bl x
  | .o => v = .non ∨ (∃ s, v = .str s) ∨ ∃ a u, v = .ref a ∧ c a = none ∧ H a = some u ∧ OthO u
section
variable {c c' : Cl} {H H' H0 : Hp} {v : V} {x : Dyn} {T : List Addr} {p : Addr} {σ : L2.St} {K : PySem.W.Frag}
theorem upD (g : Up c H c' H') (h : rD c H v x) : rD c' H' v x := by
  cases x with
  | i n => exact h
  | b n => exact h
  | o =>
    rcases h with h | h | ⟨a, u, e, k, q, t⟩
    · exact .inl h
    · exact .inr (.inl h)
    · exact .inr (.inr ⟨a, u, e, g.col a _ q k, g.obj a _ q k, t⟩)
theorem liftD (h : rD c H v x) (st : Step T c H c' H') : rD c' H' v x := upD st.up h
theorem liftDF (h : rD c H v x) : rD (frz c p) H v x := upD frz_up h
theorem rD_non : rD c H .non .o := .inl rfl
theorem rD_str {s : Str} : rD c H (.str s) .o := .inr (.inl ⟨s, rfl⟩)
theorem rD_lst {α : Type} [DecidableEq α] {A : Ty α} {xs : List α} (h : (tyL A).r c H v xs) : rD c H v .o := by
  obtain ⟨a, us, e, k, q, _⟩ := h
  exact .inr (.inr ⟨a, _, e, k, q, .inl ⟨_, rfl⟩⟩)
theorem rD_t2 {α β : Type} [DecidableEq α] [DecidableEq β] {A : Ty α} {B : Ty β} {y : α × β} (h : (tyT2 A B).r c H v y) : rD c H v .o := by
  obtain ⟨a, u0, u1, e, k, q, _⟩ := h
  rcases q with q | ⟨o, q⟩
  · exact .inr (.inr ⟨a, _, e, k, q, .inr (.inl ⟨_, rfl⟩)⟩)
  · exact .inr (.inr ⟨a, _, e, k, q, .inr (.inr (.inr ⟨_, _, rfl⟩))⟩)
def DNK (Q : VK) (H : Hp) : Prop := ∀ d, H d = none → Q (.ref d) (upd H d (.dK []))
theorem dnew_u {Q : VK} (h : DNK Q H) : tDNewK σ H Q := h
def ParK (D : Ends) (σ : L2.St) (i j : Nat) (vs : List V) (H1 : Hp) : Prop := ∃ v w, vs = [v, w] ∧ D.nx ((σ.set i (some v)).set j (some w)) H1
theorem par_u {D : Ends} {i j : Nat} {ta : TA} (h : ta σ H (ParK D σ i j)) : tPar i j ta D σ H := h
theorem par_e {D : Ends} {i j : Nat} {v w : V} (h : D.nx ((σ.set i (some v)).set j (some w)) H) : ParK D σ i j [v, w] H := ⟨v, w, rfl, h⟩
theorem dnew_end (w : Wf c H) {Q : VK} (q : ∀ p c' H', Step [] c H c' H' → rD c' H' (.ref p) .o → H p = none → Q (.ref p) H') : DNK Q H :=
  fun p n => q p (setC c p none) _ (Step.new w n fun r e => by cases e) (.inr (.inr ⟨p, _, rfl, setC_same, upd_same, .inr (.inr (.inl ⟨_, rfl⟩))⟩)) n
theorem oth_ty (h : rD c H v .o) : ∃ t, TyX K H v (.type t) ∧ (t = "NoneType" ∨ t = "str" ∨ t = "list" ∨ t = "tuple" ∨ t = "dict") := by
  rcases h with rfl | ⟨s, rfl⟩ | ⟨a, u, rfl, k, q, t⟩
  · exact ⟨_, .base .non, .inl rfl⟩
  · exact ⟨_, .base (.str s), .inr (.inl rfl)⟩
  · rcases t with ⟨xs, rfl⟩ | ⟨xs, rfl⟩ | ⟨kvs, rfl⟩ | ⟨o, xs, rfl⟩
    · exact ⟨_, .base (.lst q), .inr (.inr (.inl rfl))⟩
    · exact ⟨_, .base (.tup q), .inr (.inr (.inr (.inl rfl)))⟩
    · exact ⟨_, .base (.dK q), .inr (.inr (.inr (.inr rfl)))⟩
    · exact ⟨_, .fTuple q, .inr (.inr (.inr (.inl rfl)))⟩
theorem rc_isD_int (h : rD c H v x) : Rc (rIsi K) [v, V.ty "int"] H (.bl x.isNum) := by
  cases x with
  | i n => have e : v = .int n := h; subst e; exact rc_isi (b := true) (.ty _) tyx_int (kit_ty (by decide +kernel))
  | b n => have e : v = .bl n := h; subst e; exact rc_isi (b := true) (.ty _) tyx_bl (kit_ty (by decide +kernel))
  | o =>
    obtain ⟨t, ht, h5⟩ := oth_ty (K := K) h
    rcases h5 with rfl | rfl | rfl | rfl | rfl <;> exact rc_isi (b := false) (.ty _) ht (kit_ty (by decide +kernel))
theorem rc_isD_bool (h : rD c H v x) : Rc (rIsi K) [v, V.ty "bool"] H (.bl x.isB) := by
  cases x with
  | i n => have e : v = .int n := h; subst e; exact rc_isi (b := false) (.ty _) tyx_int (kit_ty (by decide +kernel))
  | b n => have e : v = .bl n := h; subst e; exact rc_isi (b := true) (.ty _) tyx_bl (kit_ty (by decide +kernel))
  | o =>
    obtain ⟨t, ht, h5⟩ := oth_ty (K := K) h
    rcases h5 with rfl | rfl | rfl | rfl | rfl <;> exact rc_isi (b := false) (.ty _) ht (kit_ty (by decide +kernel))
def RsD (c : Cl) (H : Hp) : List V → List Dyn → Prop
  | [], [] => True
  | v :: vs, x :: xs => rD c H v x ∧ RsD c H vs xs
  | _, _ => False
theorem RsD.up (g : Up c H c' H') : ∀ {vs : List V} {xs : List Dyn}, RsD c H vs xs → RsD c' H' vs xs
  | [], [], _ => trivial
  | v :: vs, x :: xs, h => ⟨upD g h.1, RsD.up g h.2⟩
  | [], _ :: _, h => h.elim
  | _ :: _, [], h => h.elim
theorem RsD.len : ∀ {vs : List V} {xs : List Dyn}, RsD c H vs xs → vs.length = xs.length
  | [], [], _ => rfl
  | v :: vs, x :: xs, h => by rw [List.length_cons, List.length_cons, RsD.len h.2]
  | [], _ :: _, h => h.elim
  | _ :: _, [], h => h.elim
theorem RsD.getX : ∀ {vs : List V} {xs : List Dyn} {i : Nat} {x : Dyn}, RsD c H vs xs → xs[i]? = some x → ∃ u, vs[i]? = some u ∧ rD c H u x
  | [], [], _, _, _, e => by cases e
  | v :: vs, y :: xs, 0, x, h, e => ⟨v, rfl, by rw [← Option.some.inj e]; exact h.1⟩
  | v :: vs, y :: xs, i + 1, x, h, e => RsD.getX (i := i) h.2 (by simpa using e)
  | [], _ :: _, _, _, h, _ => h.elim
  | _ :: _, [], _, _, h, _ => h.elim
/-- a tuple of values of any kind -/
structure DTup (c : Cl) (H : Hp) (a : Addr) (us : List V) (xs : List Dyn) : Prop where
  col : c a = none
  rd : Rd H a (.tup us)
  rs : RsD c H us xs
theorem DTup.lift {a : Addr} {us : List V} {xs : List Dyn} (h : DTup c H a us xs) (st : Step T c H c' H') : DTup c' H' a us xs := ⟨st.up.colR h.col h.rd, st.up.rd h.col h.rd, h.rs.up st.up⟩
theorem DTup.liftF {a : Addr} {us : List V} {xs : List Dyn} (h : DTup c H a us xs) : DTup (frz c p) H a us xs := ⟨frz_none h.col, h.rd, h.rs.up frz_up⟩
structure PIr {α : Type} (J : It) (R : Cl → Hp → V → α → Prop) (xs : List α) (c : Cl) (H : Hp) : Prop where
  go : ∀ i, i < xs.length → J.go i H
  stop : J.stop xs.length H
  item : ∀ i x v H', xs[i]? = some x → J.yld i H v H' → H' = H ∧ R c H v x
theorem DTup.pir {a : Addr} {us : List V} {xs : List Dyn} (h : DTup c H a us xs) : PIr (Itt K a) rD xs c H where
  go i hi := by
    have hu : i < us.length := by rw [h.rs.len]; exact hi
    exact ⟨us, us[i], .inl h.rd, List.getElem?_eq_getElem hu⟩
  stop := ⟨us, .inl h.rd, by rw [h.rs.len]; exact Nat.le_refl _⟩
  item i x v H' hx hy := by
    obtain ⟨e, q⟩ := hy
    refine ⟨e, ?_⟩
    obtain ⟨u, eu, ru⟩ := h.rs.getX hx
    have z := q us (.inl h.rd)
    rw [eu] at z
    rw [← Option.some.inj z]
    exact ru
end
section
variable {β τ α : Type} [DecidableEq α] {A : Cl → Hp → V → α → Prop} {P : β → Cl → Hp → Prop} {PE : Err → Cl → Hp → Prop} {S : List Addr} {c0 c : Cl} {H0 H : Hp} {σ : L2.St} {g : TG} {tb : TS} {D : Ends} {xs : List α} {s0 : τ} {J : It}
theorem for_rD {ρ : Type} {f : τ → α → Res (Ctl τ ρ)} {rest : Ctl τ ρ → Res β} {Rr : Cl → Hp → V → ρ → Prop} (k : Kont P PE S c0 H0 ((forR xs s0 f).bind rest)) (I : τ → Cl → Hp → L2.St → Prop) (h0 : I s0 c H σ) (hl : ∀ s c H σ, I s c H σ → PIr J A xs c H)
    (hb : ∀ s x v c H σ (N : L2.St → Hp → Prop), I s c H σ → A c H v x → Kont (fun y c' H' => match y with | .nx s' => ∀ σ', I s' c' H' σ' → N σ' H' | .ret r => ∀ v, Rr c' H' v r → D.rt v H') PE S c0 H0 (f s x) → g v σ H fun σ2 H2 => tb { D with nx := N, ct := N, bk := D.nx } σ2 H2)
    (hr : ∀ r, Kont P PE S c0 H0 (rest (.ret r)) → ∀ c H, Step S c0 H0 c H → ∀ v, Rr c H v r → D.rt v H)
    (hd : ∀ s c H σ, I s c H σ → Kont P PE S c0 H0 (rest (.nx s)) → D.nx σ H) :
    ∃ W : Nat → Nat → L2.St → Hp → Prop, (∃ m, W 0 m σ H) ∧ ∀ i m σ H, W i m σ H →
      (J.stop i H ∧ D.nx σ H) ∨ (J.go i H ∧ ∃ N : L2.St → Hp → Prop, (∀ σ' H', N σ' H' → ∃ m', m' < m ∧ W (i + 1) m' σ' H') ∧ ∀ x H', J.yld i H x H' → g x σ H' fun σ2 H2 => tb { D with nx := N, ct := N, bk := D.nx } σ2 H2) := by
  refine ⟨fun i m σ H => m = xs.length - i ∧ i ≤ xs.length ∧ ∃ s c, I s c H σ ∧ Kont P PE S c0 H0 ((forR (xs.drop i) s f).bind rest), ⟨xs.length, by simp, Nat.zero_le _, s0, c, h0, k⟩, ?_⟩
  rintro i m σ1 H1 ⟨rfl, hi, s, c1, h, k1⟩
  have p := hl s c1 H1 σ1 h
  by_cases hlt : i < xs.length
  · have hx : xs[i]? = some xs[i] := List.getElem?_eq_getElem hlt
    rw [drop_at hx, forR_cons, bind_assoc] at k1
    refine .inr ⟨p.go i hlt, fun σ' H' => ∃ s c, I s c H' σ' ∧ Kont P PE S c0 H0 ((forR (xs.drop (i + 1)) s f).bind rest), fun σ' H' q => ⟨xs.length - (i + 1), by omega, rfl, hlt, q⟩, fun v H' hy => ?_⟩
    obtain ⟨e, r⟩ := p.item i _ v H' hx hy
    subst e
    refine hb s _ v c1 _ σ1 _ h r (k1.turn.imp (fun y c' H' st q => ?_) fun _ _ _ _ q => q)
    cases y with
    | nx s' => exact fun σ' h' => ⟨s', c', h', q⟩
    | ret r' => exact fun v hv => hr r' q c' H' st v hv
  · have e : i = xs.length := by omega
    subst e
    rw [List.drop_length] at k1
    exact .inl ⟨p.stop, hd s c1 H1 σ1 h k1⟩
end
end Kb
/-! Kb14: a def with one default (an int), called with all its arguments -/
namespace Kb
open PySem L2 PySem.W
structure DfD (K : PySem.W.Frag) (mg : Str → Option Value) (x : Str) (st : Stmt) (f : Addr) (fd : FuncData) (ps : List Str) (i : Int) : Prop where
  F : FunD K x x (defArgs st) (defBody st) (defScope st) [V.int i] [] f fd
  kp : PySem.W.keepIn K (.ref f) = true
  g : mg x = some (.ref f)
  b : Binds K fd ps []
  d1 : ∃ ds, Vals [V.int i] ds ∧ Binds K fd ps ds
section
variable {K : PySem.W.Frag} {mg : Str → Option Value} {h : Heap}
theorem dfd_mk {x : Str} {st : Stmt} {ps : List Str} {f T : Addr} {oc tc : Value} {od an td : Option Addr} {sl ts : Array (Option Value)} {kV dc pm cd ct : Value} {i : Int} {tk : Tok} {tn : Nat} (X : K.In h) (G : h.Ns mainGlobals mg) (a : nsIn K mainGlobals x = some (some (.ref f)))
    (l : K.lookup f = some ⟨oc, od, .func (fnOf x x (defArgs st) (defBody st) (defScope st) (.ref T) kV dc pm an cd ct), sl⟩) (t : K.lookup T = some ⟨tc, td, .seq #[.int i tk] tn, ts⟩) (c : codeIn K cd x = true) (k : keepIn K (.ref f) = true)
    (hb : ∀ (T : Addr) (kV doc pm : Value) (an : Option Addr) (cdv ct : Value) (us its : List Value), us.length = ps.length → its.length = 1 →
      ∃ k, bindArgs (PySem.W.fnOf x x (defArgs st) (defBody st) (defScope st) (.ref T) kV doc pm an cdv ct) ⟨us, []⟩ = seqItems? (.ref T) >>= k ∧ k (some its.toArray) = pure (ps.zip (us ++ its.drop 1)))
    (hb2 : ∀ (T : Addr) (kV doc pm : Value) (an : Option Addr) (cdv ct : Value) (us its : List Value), us.length + 1 = ps.length → its.length = 1 →
      ∃ k, bindArgs (PySem.W.fnOf x x (defArgs st) (defBody st) (defScope st) (.ref T) kV doc pm an cdv ct) ⟨us, []⟩ = seqItems? (.ref T) >>= k ∧ k (some its.toArray) = pure (ps.zip (us ++ its))) (hp : ps ≠ []) :
    DfD K mg x st f (fnOf x x (defArgs st) (defBody st) (defScope st) (.ref T) kV dc pm an cd ct) ps i := by
  have F : FunD K x x (defArgs st) (defBody st) (defScope st) [V.int i] [] f (fnOf x x (defArgs st) (defBody st) (defScope st) (.ref T) kV dc pm an cd ct) :=
    ⟨⟨oc, od, .ref T, kV, dc, pm, an, cd, ct, sl, rfl, l, c, .inr ⟨by simp, T, _, [.int i tk], tn, rfl, t, rfl, .cons ⟨tk, rfl⟩ .nil⟩, .inl rfl⟩, k⟩
  obtain ⟨ds, hv, hbs⟩ := F.binds1 (ps := ps) ps.length 1 (by simp) (by simp) hb
  have e : ds = [] := by cases hv; rfl
  rw [e] at hbs
  have hpl : (ps.length - 1) + 1 = ps.length := by
    have := List.length_pos_iff.mpr hp
    omega
  obtain ⟨ds2, hv2, hbs2⟩ := F.binds1 (ps := ps) (ps.length - 1) 0 (by simp) (by simpa using hpl) (fun T kV doc pm an cdv ct us its hu hi => by
    have := hb2 T kV doc pm an cdv ct us its (by omega) (by simpa using hi)
    simpa using this)
  exact ⟨F, k, mg_of X G a, hbs, ds2, by simpa using hv2, hbs2⟩
end
end Kb
/-! Kb15: the order of pairs (text, int) -/
namespace Kb
open PySem L2 PySem.Spec PyProof.Rows
def ltSI (x y : Str × Int) : Bool := if x.1 = y.1 then decide (x.2 < y.2) else decide (x.1.cps.toList < y.1.cps.toList)
def leSI (x y : Str × Int) : Bool := if x.1 = y.1 then decide (x.2 ≤ y.2) else !decide (y.1.cps.toList < x.1.cps.toList)
def rSI (K : PySem.W.Frag) (f : Str × Int → Str × Int → Bool) : R2 := fun x y H Q => ∃ (a b : Addr) (s t : Str) (i j : Int), x = .ref a ∧ y = .ref b ∧ SqT K H a [.str s, .int i] ∧ SqT K H b [.str t, .int j] ∧ Q (.bl (f (s, i) (t, j))) H
theorem two_of {s : Str} {i : Int} {its : List Value} (h : Vals [V.str s, V.int i] its) : ∃ t u, its = [.str s t, .int i u] := by
  cases h with
  | cons h1 h2 =>
    cases h2 with
    | cons h3 h4 =>
      cases h4
      obtain ⟨t, rfl⟩ := h1
      obtain ⟨u, rfl⟩ := h3
      exact ⟨t, u, rfl⟩
theorem beq_dec {α : Type} [DecidableEq α] (a b : α) : (a == b) = decide (a = b) := rfl
section
variable {X : Cx} {K : PySem.W.Frag}
theorem op_ltSI (e : X.K = K) (hu : X.A.units < cLine) : OpR X (compareOp .Lt) (rSI K ltSI) := by
  subst e
  intro pins s σ H x y v u Q I rx ry h
  obtain ⟨a, b, p, q, i, j, rfl, rfl, ha, hb, h⟩ := h
  cases rx
  cases ry
  obtain ⟨its, r1, p1, _⟩ := I.tuple ha
  obtain ⟨its2, r2, p2, _⟩ := I.tuple hb
  obtain ⟨t1, u1, rfl⟩ := two_of r1
  obtain ⟨t2, u2, rfl⟩ := two_of r2
  have R := Ob.RcOp.tuples_lt (A := X.A) (s := s) (e := fun k => match k with | 0 => decide (p = q) | _ => decide (i = j)) (r := fun k => match k with | 0 => decide (p.cps.toList < q.cps.toList) | _ => decide (i < j)) p1 p2 hu (fun k h1 h2 => by
    match k, h1, h2 with
    | 0, _, _ => exact SeqAt.EqAt.str_str _ _ _ _
    | 1, _, _ => exact SeqAt.EqAt.int_int _ _ _ _
    | k + 2, h1, _ => exact absurd (show k + 2 < 2 from h1) (by omega)) (fun k h1 h2 _ => by
    match k, h1, h2 with
    | 0, _, _ => exact fun prog w E Q h => lt_str h
    | 1, _, _ => exact Ob.RcOp.lt_int _ _ _ _
    | k + 2, h1, _ => exact absurd (show k + 2 < 2 from h1) (by omega))
  refine R X.prog X.w X.xe (EP X pins σ Q) ⟨.bl _, H, I, rfl, ?_⟩
  have e : Ob.lexAt (fun k => match k with | 0 => decide (p = q) | _ => decide (i = j)) (fun k => match k with | 0 => decide (p.cps.toList < q.cps.toList) | _ => decide (i < j)) (decide ((2 : Nat) < 2)) 0 2 = ltSI (p, i) (q, j) := by
    show (if decide (p = q) = true then (if decide (i = j) = true then decide ((2 : Nat) < 2) else decide (i < j)) else decide (p.cps.toList < q.cps.toList)) = (if p = q then decide (i < j) else decide (p.cps.toList < q.cps.toList))
    by_cases c : p = q
    · rw [if_pos (decide_eq_true c), if_pos c]
      by_cases d : i = j
      · rw [if_pos (decide_eq_true d), d]
        simp
      · rw [if_neg (by simpa using d)]
    · rw [if_neg (by simpa using c), if_neg c]
  show Q (.bl (Ob.lexAt _ _ (decide ((2 : Nat) < 2)) 0 2)) H
  rw [e]
  exact h
theorem op_leSI (e : X.K = K) (hu : X.A.units < cLine) : OpR X (compareOp .LtE) (rSI K leSI) := by
  subst e
  intro pins s σ H x y v u Q I rx ry h
  obtain ⟨a, b, p, q, i, j, rfl, rfl, ha, hb, h⟩ := h
  cases rx
  cases ry
  obtain ⟨its, r1, p1, _⟩ := I.tuple ha
  obtain ⟨its2, r2, p2, _⟩ := I.tuple hb
  obtain ⟨t1, u1, rfl⟩ := two_of r1
  obtain ⟨t2, u2, rfl⟩ := two_of r2
  have R := Ob.RcOp.tuples_le (A := X.A) (s := s) (e := fun k => match k with | 0 => decide (p = q) | _ => decide (i = j)) (r := fun k => match k with | 0 => !decide (q.cps.toList < p.cps.toList) | _ => decide (i ≤ j)) p1 p2 hu (fun k h1 h2 => by
    match k, h1, h2 with
    | 0, _, _ => exact SeqAt.EqAt.str_str _ _ _ _
    | 1, _, _ => exact SeqAt.EqAt.int_int _ _ _ _
    | k + 2, h1, _ => exact absurd (show k + 2 < 2 from h1) (by omega)) (fun k h1 h2 _ => by
    match k, h1, h2 with
    | 0, _, _ => exact fun prog w E Q h => PySem.P.le_str h
    | 1, _, _ => exact Ob.RcOp.le_int _ _ _ _
    | k + 2, h1, _ => exact absurd (show k + 2 < 2 from h1) (by omega))
  refine R X.prog X.w X.xe (EP X pins σ Q) ⟨.bl _, H, I, rfl, ?_⟩
  have e : Ob.lexAt (fun k => match k with | 0 => decide (p = q) | _ => decide (i = j)) (fun k => match k with | 0 => !decide (q.cps.toList < p.cps.toList) | _ => decide (i ≤ j)) (decide ((2 : Nat) ≤ 2)) 0 2 = leSI (p, i) (q, j) := by
    show (if decide (p = q) = true then (if decide (i = j) = true then decide ((2 : Nat) ≤ 2) else decide (i ≤ j)) else !decide (q.cps.toList < p.cps.toList)) = (if p = q then decide (i ≤ j) else !decide (q.cps.toList < p.cps.toList))
    by_cases c : p = q
    · rw [if_pos (decide_eq_true c), if_pos c]
      by_cases d : i = j
      · rw [if_pos (decide_eq_true d), d]
        simp
      · rw [if_neg (by simpa using d)]
    · rw [if_neg (by simpa using c), if_neg c]
  show Q (.bl (Ob.lexAt _ _ (decide ((2 : Nat) ≤ 2)) 0 2)) H
  rw [e]
  exact h
end
section
variable {c : Cl} {H : Hp} {K : PySem.W.Frag} {v w : V} {x y : Str × Int}
theorem rv_SI {f : Str × Int → Str × Int → Bool} (hx : (tyT2 tyS tyI).r c H v x) (hy : (tyT2 tyS tyI).r c H w y) : Rv (rSI K f) v w H (.bl (f x y)) := fun Q q => by
  obtain ⟨a, u0, u1, rfl, r1, h0, h1⟩ := open2 hx
  obtain ⟨b, w0, w1, rfl, r2, g0, g1⟩ := open2 hy
  obtain ⟨e0, _⟩ := h0
  have e1 : u1 = _ := h1
  obtain ⟨f0, _⟩ := g0
  have f1 : w1 = _ := g1
  subst e0 e1 f0 f1
  exact ⟨a, b, _, _, _, _, rfl, rfl, .inl r1, .inl r2, q⟩
end
end Kb
/-! Kb16: a loop over a tuple of lists of one's own, each changed in its turn -/
namespace Kb
open PySem L2
section
variable {β : Type} {P : β → Cl → Hp → Prop} {PE : Err → Cl → Hp → Prop} {S : List Addr} {c0 : Cl} {H0 : Hp}
theorem Kont.rebase1 {m : Res β} {ci : Cl} {Hi : Hp} {p : Addr} (k : Kont P PE S c0 H0 m) (g : Step S c0 H0 ci Hi) (n : H0 p = none) : Kont P PE [p] ci Hi m := by
  cases m with
  | ok y => exact fun c H st => k c H (g.tr1 st (.inr n))
  | err e => exact fun c H st => k c H (g.tr1 st (.inr n))
  | stk => exact k.elim
end
section
variable {β α : Type} [DecidableEq α] {A : Ty α} {P : β → Cl → Hp → Prop} {PE : Err → Cl → Hp → Prop} {S : List Addr} {c0 c : Cl} {H0 H : Hp} {σ : L2.St} {g : TG} {tb : TS} {D : Ends} {K : PySem.W.Frag} {t : Addr}
/-- lists of one's own, each at its address -/
def OwnL (A : Ty α) (H0 : Hp) (c : Cl) (H : Hp) : List Addr → List (List α) → Prop
  | [], [] => True
  | p :: ps, x :: xs => (∃ us, Own A H0 c H p us x) ∧ OwnL A H0 c H ps xs
  | _, _ => False
theorem OwnL.len : ∀ {ps : List Addr} {xs : List (List α)}, OwnL A H0 c H ps xs → ps.length = xs.length
  | [], [], _ => rfl
  | p :: ps, x :: xs, h => by rw [List.length_cons, List.length_cons, OwnL.len h.2]
  | [], _ :: _, h => h.elim
  | _ :: _, [], h => h.elim
theorem OwnL.step {c' : Cl} {H' : Hp} {p : Addr} (st : Step [p] c H c' H') : ∀ {ps : List Addr} {xs : List (List α)}, p ∉ ps → OwnL A H0 c H ps xs → OwnL A H0 c' H' ps xs
  | [], [], _, _ => trivial
  | q :: ps, x :: xs, n, h => by
    obtain ⟨⟨us, o⟩, h2⟩ := h
    exact ⟨⟨us, o.step1 st fun e => n (e ▸ List.mem_cons_self)⟩, OwnL.step st (fun m => n (List.mem_cons_of_mem _ m)) h2⟩
  | [], _ :: _, _, h => h.elim
  | _ :: _, [], _, h => h.elim
theorem for_own {ps : List Addr} {xs : List (List α)} {f : Unit → List α → Res Unit} {rest : Unit → Res β} (k : Kont P PE S c0 H0 ((forN xs () f).bind rest)) (I : Unit → Cl → Hp → L2.St → Prop) (h0 : I () c H σ) (ho : OwnL A H0 c H ps xs) (nd : ps.Nodup)
    (hl : ∀ c H σ, I () c H σ → Rd H t (.tup (ps.map V.ref)) ∧ Step S c0 H0 c H)
    (hb : ∀ p us x c H σ (N : L2.St → Hp → Prop), I () c H σ → Own A H0 c H p us x → Kont (fun _ c' H' => Step [p] c H c' H' → ∀ σ', I () c' H' σ' → N σ' H') PE [p] c H (f () x) → g (.ref p) σ H fun σ2 H2 => tb { D with nx := N, ct := N, bk := D.nx } σ2 H2)
    (hd : ∀ c H σ, I () c H σ → Kont P PE S c0 H0 (rest ()) → D.nx σ H) :
    ∃ W : Nat → Nat → L2.St → Hp → Prop, (∃ m, W 0 m σ H) ∧ ∀ i m σ H, W i m σ H →
      ((Itt K t).stop i H ∧ D.nx σ H) ∨ ((Itt K t).go i H ∧ ∃ N : L2.St → Hp → Prop, (∀ σ' H', N σ' H' → ∃ m', m' < m ∧ W (i + 1) m' σ' H') ∧ ∀ x H', (Itt K t).yld i H x H' → g x σ H' fun σ2 H2 => tb { D with nx := N, ct := N, bk := D.nx } σ2 H2) := by
  refine ⟨fun i m σ H => m = ps.length - i ∧ i ≤ ps.length ∧ ∃ c, I () c H σ ∧ OwnL A H0 c H (ps.drop i) (xs.drop i) ∧ Kont P PE S c0 H0 ((forN (xs.drop i) () f).bind rest), ⟨ps.length, by simp, Nat.zero_le _, c, h0, ho, k⟩, ?_⟩
  rintro i m σ1 H1 ⟨rfl, hi, c1, h, o1, k1⟩
  obtain ⟨rd, gs⟩ := hl c1 H1 σ1 h
  by_cases hlt : i < ps.length
  · have e1 : ps.drop i = ps[i] :: ps.drop (i + 1) := List.drop_eq_getElem_cons hlt
    rw [e1] at o1
    have nd' : (ps.drop i).Nodup := nd.sublist (List.drop_sublist i ps)
    rw [e1] at nd'
    cases hx : xs.drop i with
    | nil => rw [hx] at o1; exact o1.elim
    | cons x r =>
      have er : xs.drop (i + 1) = r := by
        have z : (xs.drop i).drop 1 = r := by rw [hx]; rfl
        rw [List.drop_drop] at z
        exact z
      rw [hx] at o1 k1
      obtain ⟨⟨us, ow⟩, o2⟩ := o1
      rw [forN_cons, bind_assoc] at k1
      have hu : i < (ps.map V.ref).length := by rw [List.length_map]; exact hlt
      refine .inr ⟨⟨_, (ps.map V.ref)[i], .inl rd, List.getElem?_eq_getElem hu⟩, fun σ' H' => ∃ c, I () c H' σ' ∧ OwnL A H0 c H' (ps.drop (i + 1)) (xs.drop (i + 1)) ∧ Kont P PE S c0 H0 ((forN (xs.drop (i + 1)) () f).bind rest), fun σ' H' q => ⟨ps.length - (i + 1), by omega, rfl, hlt, q⟩, fun v H' hy => ?_⟩
      obtain ⟨e, q⟩ := hy
      subst e
      have z := q _ (.inl rd)
      rw [List.getElem?_eq_getElem hu, List.getElem_map] at z
      have ev : V.ref ps[i] = v := Option.some.inj z
      subst ev
      refine hb _ us x c1 _ σ1 _ h ow ((k1.turn.rebase1 gs ow.new).imp (fun y c' H' st kk s σ' h' => ?_) fun e c' H' st q => q)
      refine ⟨c', h', ?_, ?_⟩
      · rw [er]
        exact o2.step s (List.nodup_cons.mp nd').1
      · rw [er]
        exact kk
  · have e : i = ps.length := by omega
    subst e
    have el : xs.drop ps.length = [] := List.drop_eq_nil_of_le (by have := OwnL.len ho; omega)
    rw [el] at k1
    refine .inl ⟨⟨_, .inl rd, by rw [List.length_map]; exact Nat.le_refl _⟩, hd c1 H1 σ1 h k1⟩
end
end Kb
namespace Kb
open PySem L2
/-- a frozen tuple, opened -/
structure Fzt (c : Cl) (H : Hp) (a : Addr) (us : List V) : Prop where
  col : c a = none
  rd : Rd H a (.tup us)
theorem Fzt.lift {c c' : Cl} {H H' : Hp} {T : List Addr} {a : Addr} {us : List V} (h : Fzt c H a us) (st : Step T c H c' H') : Fzt c' H' a us := ⟨st.up.colR h.col h.rd, st.up.rd h.col h.rd⟩
theorem Fzt.liftF {c : Cl} {H : Hp} {p a : Addr} {us : List V} (h : Fzt c H a us) : Fzt (frz c p) H a us := ⟨frz_none h.col, h.rd⟩
end Kb
/-! Kb17: a value or None -/
namespace Kb
open PySem L2
def tyOI : Ty (Option Int) := tyO tyI (fun _ x => ⟨rfl, rfl⟩) (fun c H x h => by cases (show V.non = V.int x from h))
def tyO_T2 {α β : Type} [DecidableEq α] [DecidableEq β] (A : Ty α) (B : Ty β) : Ty (Option (α × β)) := tyO (tyT2 A B) (fun _ x => ⟨rfl, rfl⟩) (fun c H x h => by obtain ⟨a, u0, u1, e, _⟩ := h; cases e)
def tyO_T4 {α β γ δ : Type} [DecidableEq α] [DecidableEq β] [DecidableEq γ] [DecidableEq δ] (A : Ty α) (B : Ty β) (C : Ty γ) (D : Ty δ) : Ty (Option (α × β × γ × δ)) := tyO (tyT4 A B C D) (fun _ x => ⟨rfl, rfl⟩) (fun c H x h => by obtain ⟨a, u0, u1, u2, u3, e, _⟩ := h; cases e)
section
variable {α : Type} [DecidableEq α] {A : Ty α} {hn : A.dep ≤ 64 → ∀ x, PyData.eqv (A.enc x) .none = false ∧ PyData.eqv .none (A.enc x) = false} {hv : ∀ c H x, ¬ A.r c H .non x} {c : Cl} {H : Hp} {v : V} {x : Option α}
theorem isN_of (h : (tyO A hn hv).r c H v x) : decide (v = .non) = x.isNone := by
  cases x with
  | none => have e : v = .non := h; rw [e]; rfl
  | some y =>
    refine decide_eq_false fun e => ?_
    have z : A.r c H v y := h
    rw [e] at z
    exact hv _ _ _ z
theorem rv_isO (h : (tyO A hn hv).r c H v x) : Rv (fun x y H Q => y = V.non ∧ Q (.bl (decide (x = .non))) H) v .non H (.bl x.isNone) := fun Q q => ⟨rfl, by rw [isN_of h]; exact q⟩
theorem rv_isNO (h : (tyO A hn hv).r c H v x) : Rv (fun x y H Q => y = V.non ∧ Q (.bl (!decide (x = .non))) H) v .non H (.bl (!x.isNone)) := fun Q q => ⟨rfl, by rw [isN_of h]; exact q⟩
theorem some_of {y : α} (h : (tyO A hn hv).r c H v x) (e : x = some y) : A.r c H v y := by subst e; exact h
end
end Kb
/-! Kb18: x in list; min and max of a list of ints -/
namespace Kb
open PySem L2
theorem room65 {k : Nat} {A : Around} (r : Room k A) : A.units + 65 < cLine := by have := r.un; omega
section
variable {X : Cx} {K : PySem.W.Frag}
theorem op_inDK (e : X.K = K) (hu : X.A.units + 65 < cLine) : OpR X (compareOp .In) (rInD K) := e ▸ op_inD hu
theorem op_notInDK (e : X.K = K) (hu : X.A.units + 65 < cLine) : OpR X (compareOp .NotIn) (rNotInD K) := e ▸ op_notInD hu
end
section
variable {α : Type} [DecidableEq α] {A : Ty α} {K : PySem.W.Frag} {c : Cl} {H : Hp} {v w : V} {x : α} {xs : List α}
def memB (x : α) (xs : List α) : Bool := xs.any fun y => decide (y = x)
theorem any_mem (A : Ty α) (hd : A.dep ≤ 64) (x : α) : ∀ xs : List α, ((xs.map A.enc).any fun z => PyData.eqv z (A.enc x)) = memB x xs
  | [] => rfl
  | y :: ys => by
    rw [List.map_cons, List.any_cons, any_mem A hd x ys, A.eqv hd]
    rfl
theorem rv_in (h1 : A.r c H v x) (h2 : rB K A c H w xs) (hd : A.dep + 1 ≤ 64) : Rv (rInD K) v w H (.bl (memB x xs)) := fun Q q =>
  ⟨A.enc x, xs.map A.enc, A.dp (Nat.le_of_succ_le hd) h1, (h2.shape (K := K) hd).1, by unfold SeqAt.shaped; rw [A.lay (Nat.le_of_succ_le hd) h1, decide_eq_true (Nat.le_trans (A.hdep (Nat.le_of_succ_le hd) x) (Nat.le_of_succ_le hd))]; rfl, (h2.shape (K := K) hd).2, by rw [any_mem A (Nat.le_of_succ_le hd)]; exact q⟩
theorem rv_notin (h1 : A.r c H v x) (h2 : rB K A c H w xs) (hd : A.dep + 1 ≤ 64) : Rv (rNotInD K) v w H (.bl (!memB x xs)) := fun Q q =>
  ⟨A.enc x, xs.map A.enc, A.dp (Nat.le_of_succ_le hd) h1, (h2.shape (K := K) hd).1, by unfold SeqAt.shaped; rw [A.lay (Nat.le_of_succ_le hd) h1, decide_eq_true (Nat.le_trans (A.hdep (Nat.le_of_succ_le hd) x) (Nat.le_of_succ_le hd))]; rfl, (h2.shape (K := K) hd).2, by rw [any_mem A (Nat.le_of_succ_le hd)]; exact q⟩
theorem max_end {ns : List Int} {m : Int} (h : rB K tyI c H v ns) (e : ns.max? = some m) {Q : VK} (q : Q (.int m) H) : rMax K [v] H Q := by
  obtain ⟨a, us, rfl, r, rs⟩ := h
  rw [ints_of rs] at r
  obtain ⟨h1, h2⟩ := List.max?_eq_some_iff.mp e
  refine ⟨a, ns, rfl, r, List.length_pos_of_mem h1, fun z h3 h4 => ?_⟩
  have : z = m := Int.le_antisymm (h2 z h3) (h4 m h1)
  rw [this]; exact q
theorem min_end {ns : List Int} {m : Int} (h : rB K tyI c H v ns) (e : ns.min? = some m) {Q : VK} (q : Q (.int m) H) : rMin K [v] H Q := by
  obtain ⟨a, us, rfl, r, rs⟩ := h
  rw [ints_of rs] at r
  obtain ⟨h1, h2⟩ := List.min?_eq_some_iff.mp e
  refine ⟨a, ns, rfl, r, List.length_pos_of_mem h1, fun z h3 h4 => ?_⟩
  have : z = m := Int.le_antisymm (h4 m h1) (h2 z h3)
  rw [this]; exact q
end
end Kb
/-! Kb19: instances of own classes: frozen (kinds of data), and one's own while they are made -/
namespace Kb
open PySem L2
theorem look_none {m : Str} : ∀ {ns : List Str} {us : List V}, ns.all (fun f => !(m == f)) = true → (ns.zip us).lookup m = none
  | [], _, _ => rfl
  | _ :: _, [], _ => rfl
  | n :: ns, u :: us, h => by
    simp only [List.all_cons, Bool.and_eq_true, Bool.not_eq_true'] at h
    show List.lookup m ((n, u) :: ns.zip us) = none
    rw [List.lookup_cons, h.1]
    exact look_none h.2
theorem look_at {m : Str} : ∀ {ns : List Str} {us : List V} {i : Nat}, ns.findIdx (fun f => m == f) = i → i < ns.length → us.length = ns.length → (ns.zip us).lookup m = us[i]?
  | [], _, _, _, h, _ => by cases h
  | _ :: _, [], _, _, _, l => by cases l
  | n :: ns, u :: us, i, e, h, l => by
    show List.lookup m ((n, u) :: ns.zip us) = _
    rw [List.lookup_cons]
    rw [List.findIdx_cons] at e
    cases q : (m == n) with
    | true => rw [q] at e; simp at e; subst e; rfl
    | false =>
      rw [q] at e
      simp at e
      subst e
      simp only [List.getElem?_cons_succ]
      exact look_at rfl (by simpa using h) (by simpa using l)
/-- an instance of one's own, while it is made: rooted at p -/
structure OwnI (C : Addr) (c : Cl) (H : Hp) (p dx : Addr) (fs : List (Str × V)) : Prop where
  col : c p = some p
  obj : H p = some (.ins C dx fs)
section
variable {K : PySem.W.Frag} {C : Addr} {c c' c0 : Cl} {H H' H0 : Hp} {S T : List Addr} {p q dx : Addr} {fs : List (Str × V)} {σ : L2.St}
theorem OwnI.step (h : OwnI C c H p dx fs) (g : Step T c H c' H') (n : p ∉ T) : OwnI C c' H' p dx fs :=
  ⟨(g.col p _ h.obj).trans h.col, g.keep p _ h.obj (fun r e => by rw [h.col] at e; cases e; exact n)⟩
theorem OwnI.step0 (h : OwnI C c H p dx fs) (g : Step [] c H c' H') : OwnI C c' H' p dx fs := h.step g (fun z => by cases z)
theorem OwnI.step1 (h : OwnI C c H p dx fs) (g : Step [q] c H c' H') (n : p ≠ q) : OwnI C c' H' p dx fs := h.step g (fun z => n (List.mem_singleton.mp z))
theorem OwnI.other (h : OwnI C c H p dx fs) (n : p ≠ q) : OwnI C (Kb.frz c q) H p dx fs := ⟨frz_ne h.col n, h.obj⟩
/-- a field that is read -/
def FldK (K : PySem.W.Frag) (f : Str) (x : V) (H1 : Hp) (Q : VK) : Prop := ∃ a C dx fs v, x = .ref a ∧ H1 a = some (.ins C dx fs) ∧ Cls K C ∧ NoAttr K C f ∧ fs.lookup f = some v ∧ Q v H1
theorem fld_u {ta : TE} {f : Str} {Q : VK} (h : ta σ H fun x H1 => FldK K f x H1 Q) : tFld K ta f σ H Q := h
def Fv (K : PySem.W.Frag) (f : Str) (v : V) (H : Hp) (u : V) : Prop := ∀ Q : VK, Q u H → FldK K f v H Q
theorem pv_f {ta : TE} {f : Str} {x u : V} (ha : Pv ta σ H x) (hf : Fv K f x H u) : Pv (tFld K ta f) σ H u := fun Q q => ha _ (hf Q q)
/-- a field of one's own instance -/
theorem OwnI.fv {f : Str} {u : V} (h : OwnI C c H p dx fs) (cl : Cls K C) (na : NoAttr K C f) (l : fs.lookup f = some u) : Fv K f (.ref p) H u := fun _ q => ⟨p, C, dx, fs, u, rfl, h.obj, cl, na, l, q⟩
/-- a method's receiver -/
def MethK (m : Str) (H1 : Hp) (x : V) (B : Prop) : Prop := ∃ a dx fs, ∃ C, x = .ref a ∧ H1 a = some (.ins C dx fs) ∧ fs.lookup m = none ∧ B
theorem meth_u {C : Addr} {m : Str} {sp : Sp} {dvs : List V} {E : Value → Option Addr → Hp → Prop} {ta : TE} {t : TA} {Q : VK} (h : ta σ H fun x H1 => ∃ a dx fs, x = .ref a ∧ H1 a = some (.ins C dx fs) ∧ fs.lookup m = none ∧ t σ H1 fun vs H2 => sp (x :: (vs ++ dvs)) H2 Q E) : tMeth C m sp dvs E ta t σ H Q := h
/-- an instance is made -/
def MakeK (C : Addr) (sp : Sp) (dvs : List V) (E : Value → Option Addr → Hp → Prop) (Q : VK) (vs : List V) (H1 : Hp) : Prop := ∀ x dx, H1 x = none → H1 dx = none → dx ≠ x → sp (.ref x :: (vs ++ dvs)) (upd (upd H1 dx (.own x)) x (.ins C dx [])) (fun v H2 => v = .non ∧ Q (.ref x) H2) E
theorem make_u {C : Addr} {sp : Sp} {dvs : List V} {E : Value → Option Addr → Hp → Prop} {t : TA} {Q : VK} (h : t σ H (MakeK C sp dvs E Q)) : tMake C sp dvs E t σ H Q := h
theorem make_e {sp : Sp} {dvs : List V} {E : Value → Option Addr → Hp → Prop} {Q : VK} {vs : List V} (w : Wf c H)
    (h : ∀ x dx c1 H1, H x = none → Step [] c H c1 H1 → OwnI C c1 H1 x dx [] → sp (.ref x :: (vs ++ dvs)) H1 (fun v H2 => v = .non ∧ Q (.ref x) H2) E) : MakeK C sp dvs E Q vs H := by
  intro x dx nx nd ne
  have s1 : Step [] c H (setC c dx none) (upd H dx (.own x)) := Step.new w nd fun r e => by cases e
  have nx1 : upd H dx (.own x) x = none := by rw [upd_ne ne.symm]; exact nx
  have s2 := Step.new (u := .ins C dx []) (o := some x) s1.wf nx1 fun r e => by cases e; exact .inl rfl
  exact h x dx _ _ nx (s1.tr0 s2) ⟨setC_same, upd_same⟩
/-- what follows a maker's call: the new instance is frozen -/
theorem Step.made {c1 : Cl} {H1 : Hp} (g : Step [] c H c1 H1) (g2 : Step [p] c1 H1 c' H') (n : H p = none) : Step [] c H (Kb.frz c' p) H' := (g.tr1 g2 (.inr n)).frz n
/-- a field that is set -/
def SetFK (K : PySem.W.Frag) (f : Str) (D : Ends) (σ : L2.St) (v : V) (x : V) (H1 : Hp) : Prop := ∃ a C dx fs, x = .ref a ∧ H1 a = some (.ins C dx fs) ∧ Cls K C ∧ NoAttr K C f ∧ fs.length < 1000 ∧ D.nx σ (upd H1 a (.ins C dx (putF f v fs)))
theorem setf_u {ta tv : TE} {f : Str} {D : Ends} (h : tv σ H fun v H1 => ta σ H1 (SetFK K f D σ v)) : sFld K ta tv f D σ H := h
theorem setf_end {f : Str} {D : Ends} {v : V} (h : OwnI C c H p dx fs) (w : Wf c H) (cl : Cls K C) (na : NoAttr K C f) (l : fs.length < 1000)
    (q : ∀ H', Step [p] c H c H' → OwnI C c H' p dx (putF f v fs) → D.nx σ H') : SetFK K f D σ v (.ref p) H :=
  ⟨p, C, dx, fs, rfl, h.obj, cl, na, l, q _ (Step.mut w h.obj h.col) ⟨h.col, upd_same⟩⟩
end
theorem putF_new {f : Str} {v : V} : ∀ {ns : List Str} {us : List V}, ns.all (fun g => !decide (g = f)) = true → us.length = ns.length → putF f v (ns.zip us) = (ns ++ [f]).zip (us ++ [v])
  | [], [], _, _ => rfl
  | n :: ns, u :: us, h, l => by
    simp only [List.all_cons, Bool.and_eq_true, Bool.not_eq_true', decide_eq_false_iff_not] at h
    have ih := putF_new (v := v) h.2 (show us.length = ns.length by simpa using l)
    simp only [List.zip_cons_cons, putF, if_neg h.1, ih, List.cons_append]
  | [], _ :: _, _, l => by cases l
  | _ :: _, [], _, l => by cases l
/-- a frozen instance of the class at C with the fields n0 .. -/
def tyN1 {α0 : Type} [DecidableEq α0] (C : Addr) (n0 : Str) (A0 : Ty α0) : Ty (α0) where
  r c H v x := ∃ (a dx : Addr) (u0 : V), v = .ref a ∧ c a = none ∧ H a = some (.ins C dx (List.zip [n0] [u0])) ∧ A0.r c H u0 x
  up := fun g ⟨a, dx, u0, e, k, q, h0⟩ => ⟨a, dx, u0, e, g.col a _ q k, g.obj a _ q k, A0.up g h0⟩
  enc _ := .none
  dep := 1000
  dp h := absurd h (by decide)
  lay h := absurd h (by decide)
  hdep h := absurd h (by decide)
  eqv h := absurd h (by decide)
section
variable {K : PySem.W.Frag} {C : Addr} {c c' : Cl} {H H' : Hp} {v : V} {n0 : Str} {α0 : Type} [DecidableEq α0] {A0 : Ty α0} {x : α0} {f : Str}
theorem fld1_0 (h : (tyN1 C n0 A0).r c H v x) (cl : Cls K C) (na : NoAttr K C f) (l : [n0].findIdx (fun g => f == g) = 0) : ∃ u, A0.r c H u (x) ∧ Fv K f v H u := by
  obtain ⟨a, dx, u0, rfl, k, q, h0⟩ := h
  exact ⟨u0, h0, fun Q z => ⟨a, C, dx, _, u0, rfl, q, cl, na, (look_at l (Nat.le_of_ble_eq_true rfl) rfl).trans rfl, z⟩⟩
theorem meth1 {m : Str} {B : Prop} (h : (tyN1 C n0 A0).r c H v x) (l : [n0].all (fun f => !(m == f)) = true) (b : B) : ∃ a dx fs, v = .ref a ∧ H a = some (.ins C dx fs) ∧ fs.lookup m = none ∧ B := by
  obtain ⟨a, dx, u0, rfl, k, q, h0⟩ := h
  exact ⟨a, dx, _, rfl, q, look_none l, b⟩
theorem OwnI.frz1 {p dx : Addr} {u0 : V} (h : OwnI C c H p dx (List.zip [n0] [u0])) {x0 : α0} (h0 : A0.r c H u0 x0) : (tyN1 C n0 A0).r (Kb.frz c p) H (.ref p) (x0) := ⟨p, dx, u0, rfl, frz_self h.col, h.obj, A0.up frz_up h0⟩
end
/-- a frozen instance of the class at C with the fields n0 .. -/
def tyN2 {α0 : Type} [DecidableEq α0] {α1 : Type} [DecidableEq α1] (C : Addr) (n0 n1 : Str) (A0 : Ty α0) (A1 : Ty α1) : Ty (α0 × α1) where
  r c H v x := ∃ (a dx : Addr) (u0 u1 : V), v = .ref a ∧ c a = none ∧ H a = some (.ins C dx (List.zip [n0, n1] [u0, u1])) ∧ A0.r c H u0 x.1 ∧ A1.r c H u1 x.2
  up := fun g ⟨a, dx, u0, u1, e, k, q, h0, h1⟩ => ⟨a, dx, u0, u1, e, g.col a _ q k, g.obj a _ q k, A0.up g h0, A1.up g h1⟩
  enc _ := .none
  dep := 1000
  dp h := absurd h (by decide)
  lay h := absurd h (by decide)
  hdep h := absurd h (by decide)
  eqv h := absurd h (by decide)
section
variable {K : PySem.W.Frag} {C : Addr} {c c' : Cl} {H H' : Hp} {v : V} {n0 n1 : Str} {α0 : Type} [DecidableEq α0] {α1 : Type} [DecidableEq α1] {A0 : Ty α0} {A1 : Ty α1} {x : α0 × α1} {f : Str}
theorem fld2_0 (h : (tyN2 C n0 n1 A0 A1).r c H v x) (cl : Cls K C) (na : NoAttr K C f) (l : [n0, n1].findIdx (fun g => f == g) = 0) : ∃ u, A0.r c H u (x.1) ∧ Fv K f v H u := by
  obtain ⟨a, dx, u0, u1, rfl, k, q, h0, h1⟩ := h
  exact ⟨u0, h0, fun Q z => ⟨a, C, dx, _, u0, rfl, q, cl, na, (look_at l (Nat.le_of_ble_eq_true rfl) rfl).trans rfl, z⟩⟩
theorem fld2_1 (h : (tyN2 C n0 n1 A0 A1).r c H v x) (cl : Cls K C) (na : NoAttr K C f) (l : [n0, n1].findIdx (fun g => f == g) = 1) : ∃ u, A1.r c H u (x.2) ∧ Fv K f v H u := by
  obtain ⟨a, dx, u0, u1, rfl, k, q, h0, h1⟩ := h
  exact ⟨u1, h1, fun Q z => ⟨a, C, dx, _, u1, rfl, q, cl, na, (look_at l (Nat.le_of_ble_eq_true rfl) rfl).trans rfl, z⟩⟩
theorem meth2 {m : Str} {B : Prop} (h : (tyN2 C n0 n1 A0 A1).r c H v x) (l : [n0, n1].all (fun f => !(m == f)) = true) (b : B) : ∃ a dx fs, v = .ref a ∧ H a = some (.ins C dx fs) ∧ fs.lookup m = none ∧ B := by
  obtain ⟨a, dx, u0, u1, rfl, k, q, h0, h1⟩ := h
  exact ⟨a, dx, _, rfl, q, look_none l, b⟩
theorem OwnI.frz2 {p dx : Addr} {u0 u1 : V} (h : OwnI C c H p dx (List.zip [n0, n1] [u0, u1])) {x0 : α0} (h0 : A0.r c H u0 x0) {x1 : α1} (h1 : A1.r c H u1 x1) : (tyN2 C n0 n1 A0 A1).r (Kb.frz c p) H (.ref p) (x0, x1) := ⟨p, dx, u0, u1, rfl, frz_self h.col, h.obj, A0.up frz_up h0, A1.up frz_up h1⟩
end
/-- a frozen instance of the class at C with the fields n0 .. -/
def tyN3 {α0 : Type} [DecidableEq α0] {α1 : Type} [DecidableEq α1] {α2 : Type} [DecidableEq α2] (C : Addr) (n0 n1 n2 : Str) (A0 : Ty α0) (A1 : Ty α1) (A2 : Ty α2) : Ty (α0 × α1 × α2) where
  r c H v x := ∃ (a dx : Addr) (u0 u1 u2 : V), v = .ref a ∧ c a = none ∧ H a = some (.ins C dx (List.zip [n0, n1, n2] [u0, u1, u2])) ∧ A0.r c H u0 x.1 ∧ A1.r c H u1 x.2.1 ∧ A2.r c H u2 x.2.2
  up := fun g ⟨a, dx, u0, u1, u2, e, k, q, h0, h1, h2⟩ => ⟨a, dx, u0, u1, u2, e, g.col a _ q k, g.obj a _ q k, A0.up g h0, A1.up g h1, A2.up g h2⟩
  enc _ := .none
  dep := 1000
  dp h := absurd h (by decide)
  lay h := absurd h (by decide)
  hdep h := absurd h (by decide)
  eqv h := absurd h (by decide)
section
variable {K : PySem.W.Frag} {C : Addr} {c c' : Cl} {H H' : Hp} {v : V} {n0 n1 n2 : Str} {α0 : Type} [DecidableEq α0] {α1 : Type} [DecidableEq α1] {α2 : Type} [DecidableEq α2] {A0 : Ty α0} {A1 : Ty α1} {A2 : Ty α2} {x : α0 × α1 × α2} {f : Str}
theorem fld3_0 (h : (tyN3 C n0 n1 n2 A0 A1 A2).r c H v x) (cl : Cls K C) (na : NoAttr K C f) (l : [n0, n1, n2].findIdx (fun g => f == g) = 0) : ∃ u, A0.r c H u (x.1) ∧ Fv K f v H u := by
  obtain ⟨a, dx, u0, u1, u2, rfl, k, q, h0, h1, h2⟩ := h
  exact ⟨u0, h0, fun Q z => ⟨a, C, dx, _, u0, rfl, q, cl, na, (look_at l (Nat.le_of_ble_eq_true rfl) rfl).trans rfl, z⟩⟩
theorem fld3_1 (h : (tyN3 C n0 n1 n2 A0 A1 A2).r c H v x) (cl : Cls K C) (na : NoAttr K C f) (l : [n0, n1, n2].findIdx (fun g => f == g) = 1) : ∃ u, A1.r c H u (x.2.1) ∧ Fv K f v H u := by
  obtain ⟨a, dx, u0, u1, u2, rfl, k, q, h0, h1, h2⟩ := h
  exact ⟨u1, h1, fun Q z => ⟨a, C, dx, _, u1, rfl, q, cl, na, (look_at l (Nat.le_of_ble_eq_true rfl) rfl).trans rfl, z⟩⟩
theorem fld3_2 (h : (tyN3 C n0 n1 n2 A0 A1 A2).r c H v x) (cl : Cls K C) (na : NoAttr K C f) (l : [n0, n1, n2].findIdx (fun g => f == g) = 2) : ∃ u, A2.r c H u (x.2.2) ∧ Fv K f v H u := by
  obtain ⟨a, dx, u0, u1, u2, rfl, k, q, h0, h1, h2⟩ := h
  exact ⟨u2, h2, fun Q z => ⟨a, C, dx, _, u2, rfl, q, cl, na, (look_at l (Nat.le_of_ble_eq_true rfl) rfl).trans rfl, z⟩⟩
theorem meth3 {m : Str} {B : Prop} (h : (tyN3 C n0 n1 n2 A0 A1 A2).r c H v x) (l : [n0, n1, n2].all (fun f => !(m == f)) = true) (b : B) : ∃ a dx fs, v = .ref a ∧ H a = some (.ins C dx fs) ∧ fs.lookup m = none ∧ B := by
  obtain ⟨a, dx, u0, u1, u2, rfl, k, q, h0, h1, h2⟩ := h
  exact ⟨a, dx, _, rfl, q, look_none l, b⟩
theorem OwnI.frz3 {p dx : Addr} {u0 u1 u2 : V} (h : OwnI C c H p dx (List.zip [n0, n1, n2] [u0, u1, u2])) {x0 : α0} (h0 : A0.r c H u0 x0) {x1 : α1} (h1 : A1.r c H u1 x1) {x2 : α2} (h2 : A2.r c H u2 x2) : (tyN3 C n0 n1 n2 A0 A1 A2).r (Kb.frz c p) H (.ref p) (x0, x1, x2) := ⟨p, dx, u0, u1, u2, rfl, frz_self h.col, h.obj, A0.up frz_up h0, A1.up frz_up h1, A2.up frz_up h2⟩
end
/-- a frozen instance of the class at C with the fields n0 .. -/
def tyN4 {α0 : Type} [DecidableEq α0] {α1 : Type} [DecidableEq α1] {α2 : Type} [DecidableEq α2] {α3 : Type} [DecidableEq α3] (C : Addr) (n0 n1 n2 n3 : Str) (A0 : Ty α0) (A1 : Ty α1) (A2 : Ty α2) (A3 : Ty α3) : Ty (α0 × α1 × α2 × α3) where
  r c H v x := ∃ (a dx : Addr) (u0 u1 u2 u3 : V), v = .ref a ∧ c a = none ∧ H a = some (.ins C dx (List.zip [n0, n1, n2, n3] [u0, u1, u2, u3])) ∧ A0.r c H u0 x.1 ∧ A1.r c H u1 x.2.1 ∧ A2.r c H u2 x.2.2.1 ∧ A3.r c H u3 x.2.2.2
  up := fun g ⟨a, dx, u0, u1, u2, u3, e, k, q, h0, h1, h2, h3⟩ => ⟨a, dx, u0, u1, u2, u3, e, g.col a _ q k, g.obj a _ q k, A0.up g h0, A1.up g h1, A2.up g h2, A3.up g h3⟩
  enc _ := .none
  dep := 1000
  dp h := absurd h (by decide)
  lay h := absurd h (by decide)
  hdep h := absurd h (by decide)
  eqv h := absurd h (by decide)
section
variable {K : PySem.W.Frag} {C : Addr} {c c' : Cl} {H H' : Hp} {v : V} {n0 n1 n2 n3 : Str} {α0 : Type} [DecidableEq α0] {α1 : Type} [DecidableEq α1] {α2 : Type} [DecidableEq α2] {α3 : Type} [DecidableEq α3] {A0 : Ty α0} {A1 : Ty α1} {A2 : Ty α2} {A3 : Ty α3} {x : α0 × α1 × α2 × α3} {f : Str}
theorem fld4_0 (h : (tyN4 C n0 n1 n2 n3 A0 A1 A2 A3).r c H v x) (cl : Cls K C) (na : NoAttr K C f) (l : [n0, n1, n2, n3].findIdx (fun g => f == g) = 0) : ∃ u, A0.r c H u (x.1) ∧ Fv K f v H u := by
  obtain ⟨a, dx, u0, u1, u2, u3, rfl, k, q, h0, h1, h2, h3⟩ := h
  exact ⟨u0, h0, fun Q z => ⟨a, C, dx, _, u0, rfl, q, cl, na, (look_at l (Nat.le_of_ble_eq_true rfl) rfl).trans rfl, z⟩⟩
theorem fld4_1 (h : (tyN4 C n0 n1 n2 n3 A0 A1 A2 A3).r c H v x) (cl : Cls K C) (na : NoAttr K C f) (l : [n0, n1, n2, n3].findIdx (fun g => f == g) = 1) : ∃ u, A1.r c H u (x.2.1) ∧ Fv K f v H u := by
  obtain ⟨a, dx, u0, u1, u2, u3, rfl, k, q, h0, h1, h2, h3⟩ := h
  exact ⟨u1, h1, fun Q z => ⟨a, C, dx, _, u1, rfl, q, cl, na, (look_at l (Nat.le_of_ble_eq_true rfl) rfl).trans rfl, z⟩⟩
theorem fld4_2 (h : (tyN4 C n0 n1 n2 n3 A0 A1 A2 A3).r c H v x) (cl : Cls K C) (na : NoAttr K C f) (l : [n0, n1, n2, n3].findIdx (fun g => f == g) = 2) : ∃ u, A2.r c H u (x.2.2.1) ∧ Fv K f v H u := by
  obtain ⟨a, dx, u0, u1, u2, u3, rfl, k, q, h0, h1, h2, h3⟩ := h
  exact ⟨u2, h2, fun Q z => ⟨a, C, dx, _, u2, rfl, q, cl, na, (look_at l (Nat.le_of_ble_eq_true rfl) rfl).trans rfl, z⟩⟩
theorem fld4_3 (h : (tyN4 C n0 n1 n2 n3 A0 A1 A2 A3).r c H v x) (cl : Cls K C) (na : NoAttr K C f) (l : [n0, n1, n2, n3].findIdx (fun g => f == g) = 3) : ∃ u, A3.r c H u (x.2.2.2) ∧ Fv K f v H u := by
  obtain ⟨a, dx, u0, u1, u2, u3, rfl, k, q, h0, h1, h2, h3⟩ := h
  exact ⟨u3, h3, fun Q z => ⟨a, C, dx, _, u3, rfl, q, cl, na, (look_at l (Nat.le_of_ble_eq_true rfl) rfl).trans rfl, z⟩⟩
theorem meth4 {m : Str} {B : Prop} (h : (tyN4 C n0 n1 n2 n3 A0 A1 A2 A3).r c H v x) (l : [n0, n1, n2, n3].all (fun f => !(m == f)) = true) (b : B) : ∃ a dx fs, v = .ref a ∧ H a = some (.ins C dx fs) ∧ fs.lookup m = none ∧ B := by
  obtain ⟨a, dx, u0, u1, u2, u3, rfl, k, q, h0, h1, h2, h3⟩ := h
  exact ⟨a, dx, _, rfl, q, look_none l, b⟩
theorem OwnI.frz4 {p dx : Addr} {u0 u1 u2 u3 : V} (h : OwnI C c H p dx (List.zip [n0, n1, n2, n3] [u0, u1, u2, u3])) {x0 : α0} (h0 : A0.r c H u0 x0) {x1 : α1} (h1 : A1.r c H u1 x1) {x2 : α2} (h2 : A2.r c H u2 x2) {x3 : α3} (h3 : A3.r c H u3 x3) : (tyN4 C n0 n1 n2 n3 A0 A1 A2 A3).r (Kb.frz c p) H (.ref p) (x0, x1, x2, x3) := ⟨p, dx, u0, u1, u2, u3, rfl, frz_self h.col, h.obj, A0.up frz_up h0, A1.up frz_up h1, A2.up frz_up h2, A3.up frz_up h3⟩
end
/-- a frozen instance of the class at C with the fields n0 .. -/
def tyN5 {α0 : Type} [DecidableEq α0] {α1 : Type} [DecidableEq α1] {α2 : Type} [DecidableEq α2] {α3 : Type} [DecidableEq α3] {α4 : Type} [DecidableEq α4] (C : Addr) (n0 n1 n2 n3 n4 : Str) (A0 : Ty α0) (A1 : Ty α1) (A2 : Ty α2) (A3 : Ty α3) (A4 : Ty α4) : Ty (α0 × α1 × α2 × α3 × α4) where
  r c H v x := ∃ (a dx : Addr) (u0 u1 u2 u3 u4 : V), v = .ref a ∧ c a = none ∧ H a = some (.ins C dx (List.zip [n0, n1, n2, n3, n4] [u0, u1, u2, u3, u4])) ∧ A0.r c H u0 x.1 ∧ A1.r c H u1 x.2.1 ∧ A2.r c H u2 x.2.2.1 ∧ A3.r c H u3 x.2.2.2.1 ∧ A4.r c H u4 x.2.2.2.2
  up := fun g ⟨a, dx, u0, u1, u2, u3, u4, e, k, q, h0, h1, h2, h3, h4⟩ => ⟨a, dx, u0, u1, u2, u3, u4, e, g.col a _ q k, g.obj a _ q k, A0.up g h0, A1.up g h1, A2.up g h2, A3.up g h3, A4.up g h4⟩
  enc _ := .none
  dep := 1000
  dp h := absurd h (by decide)
  lay h := absurd h (by decide)
  hdep h := absurd h (by decide)
  eqv h := absurd h (by decide)
section
variable {K : PySem.W.Frag} {C : Addr} {c c' : Cl} {H H' : Hp} {v : V} {n0 n1 n2 n3 n4 : Str} {α0 : Type} [DecidableEq α0] {α1 : Type} [DecidableEq α1] {α2 : Type} [DecidableEq α2] {α3 : Type} [DecidableEq α3] {α4 : Type} [DecidableEq α4] {A0 : Ty α0} {A1 : Ty α1} {A2 : Ty α2} {A3 : Ty α3} {A4 : Ty α4} {x : α0 × α1 × α2 × α3 × α4} {f : Str}
theorem fld5_0 (h : (tyN5 C n0 n1 n2 n3 n4 A0 A1 A2 A3 A4).r c H v x) (cl : Cls K C) (na : NoAttr K C f) (l : [n0, n1, n2, n3, n4].findIdx (fun g => f == g) = 0) : ∃ u, A0.r c H u (x.1) ∧ Fv K f v H u := by
  obtain ⟨a, dx, u0, u1, u2, u3, u4, rfl, k, q, h0, h1, h2, h3, h4⟩ := h
  exact ⟨u0, h0, fun Q z => ⟨a, C, dx, _, u0, rfl, q, cl, na, (look_at l (Nat.le_of_ble_eq_true rfl) rfl).trans rfl, z⟩⟩
theorem fld5_1 (h : (tyN5 C n0 n1 n2 n3 n4 A0 A1 A2 A3 A4).r c H v x) (cl : Cls K C) (na : NoAttr K C f) (l : [n0, n1, n2, n3, n4].findIdx (fun g => f == g) = 1) : ∃ u, A1.r c H u (x.2.1) ∧ Fv K f v H u := by
  obtain ⟨a, dx, u0, u1, u2, u3, u4, rfl, k, q, h0, h1, h2, h3, h4⟩ := h
  exact ⟨u1, h1, fun Q z => ⟨a, C, dx, _, u1, rfl, q, cl, na, (look_at l (Nat.le_of_ble_eq_true rfl) rfl).trans rfl, z⟩⟩
theorem fld5_2 (h : (tyN5 C n0 n1 n2 n3 n4 A0 A1 A2 A3 A4).r c H v x) (cl : Cls K C) (na : NoAttr K C f) (l : [n0, n1, n2, n3, n4].findIdx (fun g => f == g) = 2) : ∃ u, A2.r c H u (x.2.2.1) ∧ Fv K f v H u := by
  obtain ⟨a, dx, u0, u1, u2, u3, u4, rfl, k, q, h0, h1, h2, h3, h4⟩ := h
  exact ⟨u2, h2, fun Q z => ⟨a, C, dx, _, u2, rfl, q, cl, na, (look_at l (Nat.le_of_ble_eq_true rfl) rfl).trans rfl, z⟩⟩
theorem fld5_3 (h : (tyN5 C n0 n1 n2 n3 n4 A0 A1 A2 A3 A4).r c H v x) (cl : Cls K C) (na : NoAttr K C f) (l : [n0, n1, n2, n3, n4].findIdx (fun g => f == g) = 3) : ∃ u, A3.r c H u (x.2.2.2.1) ∧ Fv K f v H u := by
  obtain ⟨a, dx, u0, u1, u2, u3, u4, rfl, k, q, h0, h1, h2, h3, h4⟩ := h
  exact ⟨u3, h3, fun Q z => ⟨a, C, dx, _, u3, rfl, q, cl, na, (look_at l (Nat.le_of_ble_eq_true rfl) rfl).trans rfl, z⟩⟩
theorem fld5_4 (h : (tyN5 C n0 n1 n2 n3 n4 A0 A1 A2 A3 A4).r c H v x) (cl : Cls K C) (na : NoAttr K C f) (l : [n0, n1, n2, n3, n4].findIdx (fun g => f == g) = 4) : ∃ u, A4.r c H u (x.2.2.2.2) ∧ Fv K f v H u := by
  obtain ⟨a, dx, u0, u1, u2, u3, u4, rfl, k, q, h0, h1, h2, h3, h4⟩ := h
  exact ⟨u4, h4, fun Q z => ⟨a, C, dx, _, u4, rfl, q, cl, na, (look_at l (Nat.le_of_ble_eq_true rfl) rfl).trans rfl, z⟩⟩
theorem meth5 {m : Str} {B : Prop} (h : (tyN5 C n0 n1 n2 n3 n4 A0 A1 A2 A3 A4).r c H v x) (l : [n0, n1, n2, n3, n4].all (fun f => !(m == f)) = true) (b : B) : ∃ a dx fs, v = .ref a ∧ H a = some (.ins C dx fs) ∧ fs.lookup m = none ∧ B := by
  obtain ⟨a, dx, u0, u1, u2, u3, u4, rfl, k, q, h0, h1, h2, h3, h4⟩ := h
  exact ⟨a, dx, _, rfl, q, look_none l, b⟩
theorem OwnI.frz5 {p dx : Addr} {u0 u1 u2 u3 u4 : V} (h : OwnI C c H p dx (List.zip [n0, n1, n2, n3, n4] [u0, u1, u2, u3, u4])) {x0 : α0} (h0 : A0.r c H u0 x0) {x1 : α1} (h1 : A1.r c H u1 x1) {x2 : α2} (h2 : A2.r c H u2 x2) {x3 : α3} (h3 : A3.r c H u3 x3) {x4 : α4} (h4 : A4.r c H u4 x4) : (tyN5 C n0 n1 n2 n3 n4 A0 A1 A2 A3 A4).r (Kb.frz c p) H (.ref p) (x0, x1, x2, x3, x4) := ⟨p, dx, u0, u1, u2, u3, u4, rfl, frz_self h.col, h.obj, A0.up frz_up h0, A1.up frz_up h1, A2.up frz_up h2, A3.up frz_up h3, A4.up frz_up h4⟩
end
/-- a frozen instance of the class at C with the fields n0 .. -/
def tyN6 {α0 : Type} [DecidableEq α0] {α1 : Type} [DecidableEq α1] {α2 : Type} [DecidableEq α2] {α3 : Type} [DecidableEq α3] {α4 : Type} [DecidableEq α4] {α5 : Type} [DecidableEq α5] (C : Addr) (n0 n1 n2 n3 n4 n5 : Str) (A0 : Ty α0) (A1 : Ty α1) (A2 : Ty α2) (A3 : Ty α3) (A4 : Ty α4) (A5 : Ty α5) : Ty (α0 × α1 × α2 × α3 × α4 × α5) where
  r c H v x := ∃ (a dx : Addr) (u0 u1 u2 u3 u4 u5 : V), v = .ref a ∧ c a = none ∧ H a = some (.ins C dx (List.zip [n0, n1, n2, n3, n4, n5] [u0, u1, u2, u3, u4, u5])) ∧ A0.r c H u0 x.1 ∧ A1.r c H u1 x.2.1 ∧ A2.r c H u2 x.2.2.1 ∧ A3.r c H u3 x.2.2.2.1 ∧ A4.r c H u4 x.2.2.2.2.1 ∧ A5.r c H u5 x.2.2.2.2.2
  up := fun g ⟨a, dx, u0, u1, u2, u3, u4, u5, e, k, q, h0, h1, h2, h3, h4, h5⟩ => ⟨a, dx, u0, u1, u2, u3, u4, u5, e, g.col a _ q k, g.obj a _ q k, A0.up g h0, A1.up g h1, A2.up g h2, A3.up g h3, A4.up g h4, A5.up g h5⟩
  enc _ := .none
  dep := 1000
  dp h := absurd h (by decide)
  lay h := absurd h (by decide)
  hdep h := absurd h (by decide)
  eqv h := absurd h (by decide)
section
variable {K : PySem.W.Frag} {C : Addr} {c c' : Cl} {H H' : Hp} {v : V} {n0 n1 n2 n3 n4 n5 : Str} {α0 : Type} [DecidableEq α0] {α1 : Type} [DecidableEq α1] {α2 : Type} [DecidableEq α2] {α3 : Type} [DecidableEq α3] {α4 : Type} [DecidableEq α4] {α5 : Type} [DecidableEq α5] {A0 : Ty α0} {A1 : Ty α1} {A2 : Ty α2} {A3 : Ty α3} {A4 : Ty α4} {A5 : Ty α5} {x : α0 × α1 × α2 × α3 × α4 × α5} {f : Str}
theorem fld6_0 (h : (tyN6 C n0 n1 n2 n3 n4 n5 A0 A1 A2 A3 A4 A5).r c H v x) (cl : Cls K C) (na : NoAttr K C f) (l : [n0, n1, n2, n3, n4, n5].findIdx (fun g => f == g) = 0) : ∃ u, A0.r c H u (x.1) ∧ Fv K f v H u := by
  obtain ⟨a, dx, u0, u1, u2, u3, u4, u5, rfl, k, q, h0, h1, h2, h3, h4, h5⟩ := h
  exact ⟨u0, h0, fun Q z => ⟨a, C, dx, _, u0, rfl, q, cl, na, (look_at l (Nat.le_of_ble_eq_true rfl) rfl).trans rfl, z⟩⟩
theorem fld6_1 (h : (tyN6 C n0 n1 n2 n3 n4 n5 A0 A1 A2 A3 A4 A5).r c H v x) (cl : Cls K C) (na : NoAttr K C f) (l : [n0, n1, n2, n3, n4, n5].findIdx (fun g => f == g) = 1) : ∃ u, A1.r c H u (x.2.1) ∧ Fv K f v H u := by
  obtain ⟨a, dx, u0, u1, u2, u3, u4, u5, rfl, k, q, h0, h1, h2, h3, h4, h5⟩ := h
  exact ⟨u1, h1, fun Q z => ⟨a, C, dx, _, u1, rfl, q, cl, na, (look_at l (Nat.le_of_ble_eq_true rfl) rfl).trans rfl, z⟩⟩
theorem fld6_2 (h : (tyN6 C n0 n1 n2 n3 n4 n5 A0 A1 A2 A3 A4 A5).r c H v x) (cl : Cls K C) (na : NoAttr K C f) (l : [n0, n1, n2, n3, n4, n5].findIdx (fun g => f == g) = 2) : ∃ u, A2.r c H u (x.2.2.1) ∧ Fv K f v H u := by
  obtain ⟨a, dx, u0, u1, u2, u3, u4, u5, rfl, k, q, h0, h1, h2, h3, h4, h5⟩ := h
  exact ⟨u2, h2, fun Q z => ⟨a, C, dx, _, u2, rfl, q, cl, na, (look_at l (Nat.le_of_ble_eq_true rfl) rfl).trans rfl, z⟩⟩
theorem fld6_3 (h : (tyN6 C n0 n1 n2 n3 n4 n5 A0 A1 A2 A3 A4 A5).r c H v x) (cl : Cls K C) (na : NoAttr K C f) (l : [n0, n1, n2, n3, n4, n5].findIdx (fun g => f == g) = 3) : ∃ u, A3.r c H u (x.2.2.2.1) ∧ Fv K f v H u := by
  obtain ⟨a, dx, u0, u1, u2, u3, u4, u5, rfl, k, q, h0, h1, h2, h3, h4, h5⟩ := h
  exact ⟨u3, h3, fun Q z => ⟨a, C, dx, _, u3, rfl, q, cl, na, (look_at l (Nat.le_of_ble_eq_true rfl) rfl).trans rfl, z⟩⟩
theorem fld6_4 (h : (tyN6 C n0 n1 n2 n3 n4 n5 A0 A1 A2 A3 A4 A5).r c H v x) (cl : Cls K C) (na : NoAttr K C f) (l : [n0, n1, n2, n3, n4, n5].findIdx (fun g => f == g) = 4) : ∃ u, A4.r c H u (x.2.2.2.2.1) ∧ Fv K f v H u := by
  obtain ⟨a, dx, u0, u1, u2, u3, u4, u5, rfl, k, q, h0, h1, h2, h3, h4, h5⟩ := h
  exact ⟨u4, h4, fun Q z => ⟨a, C, dx, _, u4, rfl, q, cl, na, (look_at l (Nat.le_of_ble_eq_true rfl) rfl).trans rfl, z⟩⟩
theorem fld6_5 (h : (tyN6 C n0 n1 n2 n3 n4 n5 A0 A1 A2 A3 A4 A5).r c H v x) (cl : Cls K C) (na : NoAttr K C f) (l : [n0, n1, n2, n3, n4, n5].findIdx (fun g => f == g) = 5) : ∃ u, A5.r c H u (x.2.2.2.2.2) ∧ Fv K f v H u := by
  obtain ⟨a, dx, u0, u1, u2, u3, u4, u5, rfl, k, q, h0, h1, h2, h3, h4, h5⟩ := h
  exact ⟨u5, h5, fun Q z => ⟨a, C, dx, _, u5, rfl, q, cl, na, (look_at l (Nat.le_of_ble_eq_true rfl) rfl).trans rfl, z⟩⟩
theorem meth6 {m : Str} {B : Prop} (h : (tyN6 C n0 n1 n2 n3 n4 n5 A0 A1 A2 A3 A4 A5).r c H v x) (l : [n0, n1, n2, n3, n4, n5].all (fun f => !(m == f)) = true) (b : B) : ∃ a dx fs, v = .ref a ∧ H a = some (.ins C dx fs) ∧ fs.lookup m = none ∧ B := by
  obtain ⟨a, dx, u0, u1, u2, u3, u4, u5, rfl, k, q, h0, h1, h2, h3, h4, h5⟩ := h
  exact ⟨a, dx, _, rfl, q, look_none l, b⟩
theorem OwnI.frz6 {p dx : Addr} {u0 u1 u2 u3 u4 u5 : V} (h : OwnI C c H p dx (List.zip [n0, n1, n2, n3, n4, n5] [u0, u1, u2, u3, u4, u5])) {x0 : α0} (h0 : A0.r c H u0 x0) {x1 : α1} (h1 : A1.r c H u1 x1) {x2 : α2} (h2 : A2.r c H u2 x2) {x3 : α3} (h3 : A3.r c H u3 x3) {x4 : α4} (h4 : A4.r c H u4 x4) {x5 : α5} (h5 : A5.r c H u5 x5) : (tyN6 C n0 n1 n2 n3 n4 n5 A0 A1 A2 A3 A4 A5).r (Kb.frz c p) H (.ref p) (x0, x1, x2, x3, x4, x5) := ⟨p, dx, u0, u1, u2, u3, u4, u5, rfl, frz_self h.col, h.obj, A0.up frz_up h0, A1.up frz_up h1, A2.up frz_up h2, A3.up frz_up h3, A4.up frz_up h4, A5.up frz_up h5⟩
end
/-- a frozen instance of the class at C with the fields n0 .. -/
def tyN7 {α0 : Type} [DecidableEq α0] {α1 : Type} [DecidableEq α1] {α2 : Type} [DecidableEq α2] {α3 : Type} [DecidableEq α3] {α4 : Type} [DecidableEq α4] {α5 : Type} [DecidableEq α5] {α6 : Type} [DecidableEq α6] (C : Addr) (n0 n1 n2 n3 n4 n5 n6 : Str) (A0 : Ty α0) (A1 : Ty α1) (A2 : Ty α2) (A3 : Ty α3) (A4 : Ty α4) (A5 : Ty α5) (A6 : Ty α6) : Ty (α0 × α1 × α2 × α3 × α4 × α5 × α6) where
  r c H v x := ∃ (a dx : Addr) (u0 u1 u2 u3 u4 u5 u6 : V), v = .ref a ∧ c a = none ∧ H a = some (.ins C dx (List.zip [n0, n1, n2, n3, n4, n5, n6] [u0, u1, u2, u3, u4, u5, u6])) ∧ A0.r c H u0 x.1 ∧ A1.r c H u1 x.2.1 ∧ A2.r c H u2 x.2.2.1 ∧ A3.r c H u3 x.2.2.2.1 ∧ A4.r c H u4 x.2.2.2.2.1 ∧ A5.r c H u5 x.2.2.2.2.2.1 ∧ A6.r c H u6 x.2.2.2.2.2.2
  up := fun g ⟨a, dx, u0, u1, u2, u3, u4, u5, u6, e, k, q, h0, h1, h2, h3, h4, h5, h6⟩ => ⟨a, dx, u0, u1, u2, u3, u4, u5, u6, e, g.col a _ q k, g.obj a _ q k, A0.up g h0, A1.up g h1, A2.up g h2, A3.up g h3, A4.up g h4, A5.up g h5, A6.up g h6⟩
  enc _ := .none
  dep := 1000
  dp h := absurd h (by decide)
  lay h := absurd h (by decide)
  hdep h := absurd h (by decide)
  eqv h := absurd h (by decide)
section
variable {K : PySem.W.Frag} {C : Addr} {c c' : Cl} {H H' : Hp} {v : V} {n0 n1 n2 n3 n4 n5 n6 : Str} {α0 : Type} [DecidableEq α0] {α1 : Type} [DecidableEq α1] {α2 : Type} [DecidableEq α2] {α3 : Type} [DecidableEq α3] {α4 : Type} [DecidableEq α4] {α5 : Type} [DecidableEq α5] {α6 : Type} [DecidableEq α6] {A0 : Ty α0} {A1 : Ty α1} {A2 : Ty α2} {A3 : Ty α3} {A4 : Ty α4} {A5 : Ty α5} {A6 : Ty α6} {x : α0 × α1 × α2 × α3 × α4 × α5 × α6} {f : Str}
theorem fld7_0 (h : (tyN7 C n0 n1 n2 n3 n4 n5 n6 A0 A1 A2 A3 A4 A5 A6).r c H v x) (cl : Cls K C) (na : NoAttr K C f) (l : [n0, n1, n2, n3, n4, n5, n6].findIdx (fun g => f == g) = 0) : ∃ u, A0.r c H u (x.1) ∧ Fv K f v H u := by
  obtain ⟨a, dx, u0, u1, u2, u3, u4, u5, u6, rfl, k, q, h0, h1, h2, h3, h4, h5, h6⟩ := h
  exact ⟨u0, h0, fun Q z => ⟨a, C, dx, _, u0, rfl, q, cl, na, (look_at l (Nat.le_of_ble_eq_true rfl) rfl).trans rfl, z⟩⟩
theorem fld7_1 (h : (tyN7 C n0 n1 n2 n3 n4 n5 n6 A0 A1 A2 A3 A4 A5 A6).r c H v x) (cl : Cls K C) (na : NoAttr K C f) (l : [n0, n1, n2, n3, n4, n5, n6].findIdx (fun g => f == g) = 1) : ∃ u, A1.r c H u (x.2.1) ∧ Fv K f v H u := by
  obtain ⟨a, dx, u0, u1, u2, u3, u4, u5, u6, rfl, k, q, h0, h1, h2, h3, h4, h5, h6⟩ := h
  exact ⟨u1, h1, fun Q z => ⟨a, C, dx, _, u1, rfl, q, cl, na, (look_at l (Nat.le_of_ble_eq_true rfl) rfl).trans rfl, z⟩⟩
theorem fld7_2 (h : (tyN7 C n0 n1 n2 n3 n4 n5 n6 A0 A1 A2 A3 A4 A5 A6).r c H v x) (cl : Cls K C) (na : NoAttr K C f) (l : [n0, n1, n2, n3, n4, n5, n6].findIdx (fun g => f == g) = 2) : ∃ u, A2.r c H u (x.2.2.1) ∧ Fv K f v H u := by
  obtain ⟨a, dx, u0, u1, u2, u3, u4, u5, u6, rfl, k, q, h0, h1, h2, h3, h4, h5, h6⟩ := h
  exact ⟨u2, h2, fun Q z => ⟨a, C, dx, _, u2, rfl, q, cl, na, (look_at l (Nat.le_of_ble_eq_true rfl) rfl).trans rfl, z⟩⟩
theorem fld7_3 (h : (tyN7 C n0 n1 n2 n3 n4 n5 n6 A0 A1 A2 A3 A4 A5 A6).r c H v x) (cl : Cls K C) (na : NoAttr K C f) (l : [n0, n1, n2, n3, n4, n5, n6].findIdx (fun g => f == g) = 3) : ∃ u, A3.r c H u (x.2.2.2.1) ∧ Fv K f v H u := by
  obtain ⟨a, dx, u0, u1, u2, u3, u4, u5, u6, rfl, k, q, h0, h1, h2, h3, h4, h5, h6⟩ := h
  exact ⟨u3, h3, fun Q z => ⟨a, C, dx, _, u3, rfl, q, cl, na, (look_at l (Nat.le_of_ble_eq_true rfl) rfl).trans rfl, z⟩⟩
theorem fld7_4 (h : (tyN7 C n0 n1 n2 n3 n4 n5 n6 A0 A1 A2 A3 A4 A5 A6).r c H v x) (cl : Cls K C) (na : NoAttr K C f) (l : [n0, n1, n2, n3, n4, n5, n6].findIdx (fun g => f == g) = 4) : ∃ u, A4.r c H u (x.2.2.2.2.1) ∧ Fv K f v H u := by
  obtain ⟨a, dx, u0, u1, u2, u3, u4, u5, u6, rfl, k, q, h0, h1, h2, h3, h4, h5, h6⟩ := h
  exact ⟨u4, h4, fun Q z => ⟨a, C, dx, _, u4, rfl, q, cl, na, (look_at l (Nat.le_of_ble_eq_true rfl) rfl).trans rfl, z⟩⟩
theorem fld7_5 (h : (tyN7 C n0 n1 n2 n3 n4 n5 n6 A0 A1 A2 A3 A4 A5 A6).r c H v x) (cl : Cls K C) (na : NoAttr K C f) (l : [n0, n1, n2, n3, n4, n5, n6].findIdx (fun g => f == g) = 5) : ∃ u, A5.r c H u (x.2.2.2.2.2.1) ∧ Fv K f v H u := by
  obtain ⟨a, dx, u0, u1, u2, u3, u4, u5, u6, rfl, k, q, h0, h1, h2, h3, h4, h5, h6⟩ := h
  exact ⟨u5, h5, fun Q z => ⟨a, C, dx, _, u5, rfl, q, cl, na, (look_at l (Nat.le_of_ble_eq_true rfl) rfl).trans rfl, z⟩⟩
theorem fld7_6 (h : (tyN7 C n0 n1 n2 n3 n4 n5 n6 A0 A1 A2 A3 A4 A5 A6).r c H v x) (cl : Cls K C) (na : NoAttr K C f) (l : [n0, n1, n2, n3, n4, n5, n6].findIdx (fun g => f == g) = 6) : ∃ u, A6.r c H u (x.2.2.2.2.2.2) ∧ Fv K f v H u := by
  obtain ⟨a, dx, u0, u1, u2, u3, u4, u5, u6, rfl, k, q, h0, h1, h2, h3, h4, h5, h6⟩ := h
  exact ⟨u6, h6, fun Q z => ⟨a, C, dx, _, u6, rfl, q, cl, na, (look_at l (Nat.le_of_ble_eq_true rfl) rfl).trans rfl, z⟩⟩
theorem meth7 {m : Str} {B : Prop} (h : (tyN7 C n0 n1 n2 n3 n4 n5 n6 A0 A1 A2 A3 A4 A5 A6).r c H v x) (l : [n0, n1, n2, n3, n4, n5, n6].all (fun f => !(m == f)) = true) (b : B) : ∃ a dx fs, v = .ref a ∧ H a = some (.ins C dx fs) ∧ fs.lookup m = none ∧ B := by
  obtain ⟨a, dx, u0, u1, u2, u3, u4, u5, u6, rfl, k, q, h0, h1, h2, h3, h4, h5, h6⟩ := h
  exact ⟨a, dx, _, rfl, q, look_none l, b⟩
theorem OwnI.frz7 {p dx : Addr} {u0 u1 u2 u3 u4 u5 u6 : V} (h : OwnI C c H p dx (List.zip [n0, n1, n2, n3, n4, n5, n6] [u0, u1, u2, u3, u4, u5, u6])) {x0 : α0} (h0 : A0.r c H u0 x0) {x1 : α1} (h1 : A1.r c H u1 x1) {x2 : α2} (h2 : A2.r c H u2 x2) {x3 : α3} (h3 : A3.r c H u3 x3) {x4 : α4} (h4 : A4.r c H u4 x4) {x5 : α5} (h5 : A5.r c H u5 x5) {x6 : α6} (h6 : A6.r c H u6 x6) : (tyN7 C n0 n1 n2 n3 n4 n5 n6 A0 A1 A2 A3 A4 A5 A6).r (Kb.frz c p) H (.ref p) (x0, x1, x2, x3, x4, x5, x6) := ⟨p, dx, u0, u1, u2, u3, u4, u5, u6, rfl, frz_self h.col, h.obj, A0.up frz_up h0, A1.up frz_up h1, A2.up frz_up h2, A3.up frz_up h3, A4.up frz_up h4, A5.up frz_up h5, A6.up frz_up h6⟩
end
end Kb
/-! Kb20: exceptions whose context is none (L2N), and suites that raise -/
namespace Kb
open PySem PySem.Spec PyProof.Rows L2
/-- a def that lets out exceptions without a context -/
theorem ofN {P : Program} {w : World} {K : PySem.W.Frag} {mg : Str → Option Value} {base : Heap} {k : Nat} {f : Addr} {fd : FuncData} {ps : List Str} {sp : Sp} (F : FnOk P w K mg base (L2N.CX P w) k f fd ps sp) : FnOk P w K mg base (L2.CX P w) k f fd ps sp :=
  ⟨F.len, fun A outer s H args us vs Q E hr he hb hv hs => codeAny_mono (F.run A outer s H args us vs Q E hr he hb hv hs) fun r s' hq => by
    cases r with
    | error e =>
      obtain ⟨a, B, H', cls, d, rfl, fl, hok, ub, na, os, ag, hE⟩ := hq
      exact ⟨a, B, H', cls, d, rfl, L2H.flyingZ_imp (fun _ z => z.zc) fl, hok, ub, na, os, ag, hE⟩
    | ok fl => cases fl <;> exact hq⟩
section
variable {P : Program} {w : World} {K : PySem.W.Frag} {mg : Str → Option Value} {base : Heap}
theorem okN {x qual : Str} {st : Stmt} {f : Addr} {fd : FuncData} {N ps : List Str} {k : Nat} {sp : Sp} (F : Fun K x qual st f fd) (S : FnScope N ps (defScope st)) (len : ∀ vs H Q E, sp vs H Q E → vs.length = ps.length)
    (hbody : ∀ (cdv : Value) (A : Around) (outer : List Env) (s : Shared) (H : Hp) (vs : List V) (Q : VK) (E : XK), Room k (A.deeper (envOfC qual (defScope st) s.heap.objs.size f cdv)) → sp vs H Q E →
      ∃ t, PSs (cxOf (L2N.CX P w) P w K mg base N qual (defScope st) f cdv A outer s H E) (defBody st) t ∧ t { nx := fun _ H' => Q .non H', rt := Q } (start N vs) H) : FnOk P w K mg base (L2N.CX P w) (k + 1) f fd ps sp := by
  obtain ⟨oc, od, kV, doc, pm, an, cdv, ct, osl, rfl, lk, hcd⟩ := F.ex
  exact fn_of lk hcd S len fun A outer s H vs Q E hr hsp => hbody cdv A outer s H vs Q E hr hsp
end
theorem takes0N {X : Cx} : L2N.Takes X (fun _ _ _ _ => False) := fun _ _ x => by
  obtain ⟨_, _, _, _, _, _, _, _, _, _, _, _, _, _, _, _, z⟩ := x
  exact z.elim
section
variable {X : Cx}
/-- X(e) -/
theorem pmkN_own1 {C : Addr} {bmB : List Value} {B newId initId : String} {x : Str} {e : Expr} {ta : TE} {p pos : Pos} (F : ExcBaseFacts B newId initId bmB) (q : PySem.W.excIn X.K C bmB newId = true) (gC : X.mg x = some (.ref C)) (kC : PySem.W.keepIn X.K (.ref C) = true) (r : Raises X (.ref C)) (hg : Gl X x)
    (he : PE X e ta) (hs : starEach [e] X.env = (false, eval e X.env) :: starEach [] X.env := by rfl) (hdb : (x == ("__debug__" : Str)) = false := by decide) :
    L2N.PMk X (.Call (.Name x p) [e] [] pos) (fun σ H Q => ta σ H fun _ H1 => Q (.ref C) none H1) := by
  intro pins s σ H Q I h
  refine wpAny_Call_Name_kw (ld_glob I hg gC ?_ hdb)
  refine PySem.W.callWith_K (h₀ := X.base) I.ok.mod.kin kC ?_ hs (by rfl)
  rw [hs]
  show wpAny _ _ (spliced ((false, eval e X.env) :: backTo pos (starEach [] X.env))) _ _ s
  refine Calls.spliced_cons (thn (he.run pins s σ H _ I h) fun u s1 ⟨v, H1, I1, r1, q1⟩ => ?_)
  refine Calls.spliced_nil ⟨I1.kIn, ?_⟩
  show wpAny _ _ (call (.ref C) [u]) _ _ _
  obtain ⟨bm, N, nm, qn, bs, hdct, sn, sub, ab, col, dd, k0, k1, k2, k3, k5, mN, hC, hN, hni, T⟩ := exc_obj I1.kIn q
  refine wpAny_call_exc_subT F T hC hN hni (fun h' e hm => ?_) (by show 1 ≤ sizeLine; rw [sizeLine_eq]; omega)
  exact L2N.mk_of I1 hm r q1 (I1.hok.gone hm.new)
/-- X('m'), raised in an except suite -/
theorem pmk5_own {C : Addr} {bmB : List Value} {B newId initId : String} {x m : Str} {j : Nat} {p p2 pos : Pos} (F : ExcBaseFacts B newId initId bmB) (q : PySem.W.excIn X.K C bmB newId = true) (gC : X.mg x = some (.ref C)) (kC : PySem.W.keepIn X.K (.ref C) = true) (r : Raises X (.ref C)) (hg : Gl X x)
    (hdb : (x == ("__debug__" : Str)) = false := by decide) : L2H.PMk5 X (.Call (.Name x p) [.Constant (.str m) j p2] [] pos) (fun _ H Q => Q (.ref C) none H) := by
  intro pins s σ H Q I h
  refine wpAny_Call_Name_kw (ld_glob I hg gC ?_ hdb)
  have ha : PA X [.Constant (.str m) j p2] (tCons (tC (.str m)) tNil) := pa_cons pe_str pa_nil
  refine PySem.W.callWith_K (h₀ := X.base) I.ok.mod.kin kC (thn (ha.run pos pins s σ H (fun vs H1 => vs = [V.str m] ∧ H = H1) I ⟨rfl, rfl⟩) fun us s1 hh => ?_)
  obtain ⟨vs, H1, I1, r1, ev, eH⟩ := hh
  subst ev
  rw [← eH] at I1
  refine ⟨I1.kIn, ?_⟩
  cases r1 with
  | cons ru rn =>
    rename_i u us'
    cases rn
    show wpAny _ _ (call (.ref C) [u]) _ _ _
    obtain ⟨bm, N, nm, qn, bs, hdct, sn, sub, ab, col, dd, k0, k1, k2, k3, k5, mN, hC, hN, hni, T⟩ := exc_obj I1.kIn q
    refine wpAny_call_exc_subT F T hC hN hni (fun h' e hm => ?_) (by show 1 ≤ sizeLine; rw [sizeLine_eq]; omega)
    exact L2H.mk_of5 I1 hm r h (I1.hok.gone hm.new)
end
end Kb
/-! Kb21: methods, makers -/
namespace Kb
open PySem L2 PySem.W
/-- a method of the text -/
structure Mt (K : PySem.W.Frag) (C : Addr) (x qual : Str) (st : Stmt) (f : Addr) (fd : FuncData) (ps : List Str) : Prop where
  F : Fun K x qual st f fd
  m : Meth K C x f
  b : Binds K fd ps []
theorem mt_mk {K : PySem.W.Frag} {C : Addr} {x qual : Str} {st : Stmt} {ps : List Str} {f : Addr} {oc : Value} {od an : Option Addr} {sl : Array (Option Value)} {kV dc pm cd ct : Value} (a : findIn K (.ref C) x = some (some (.ref f))) (i : isFn K (.ref f) = true)
    (l : K.lookup f = some ⟨oc, od, .func (fnOf x qual (defArgs st) (defBody st) (defScope st) .none kV dc pm an cd ct), sl⟩) (c : codeIn K cd qual = true) (k : keepIn K (.ref f) = true)
    (hb : ∀ (kV doc pm : Value) (an : Option Addr) (cdv ct : Value) (us : List Value), us.length = ps.length → bindArgs (fnOf x qual (defArgs st) (defBody st) (defScope st) .none kV doc pm an cdv ct) ⟨us, []⟩ = pure (ps.zip us)) :
    Mt K C x qual st f (fnOf x qual (defArgs st) (defBody st) (defScope st) .none kV dc pm an cd ct) ps :=
  ⟨fun_mk l c k, ⟨a, i, k⟩, (fun_mk (st := st) l c k).binds hb⟩
/-- a class of the text -/
structure ClsT (K : PySem.W.Frag) (mg : Str → Option Value) (x : Str) (C fI : Addr) : Prop where
  g : mg x = some (.ref C)
  cl : Cls K C
  maker : Mk K C fI
theorem cls_mk {K : PySem.W.Frag} {mg : Str → Option Value} {h : Heap} {x : Str} {C fI : Addr} (X : K.In h) (G : h.Ns mainGlobals mg) (a : nsIn K mainGlobals x = some (some (.ref C))) (pg : plainGet K C Str.empty = true) (hd : hasDictIn K C = true) (po : plainOver K C = true)
    (sa : findIn K (.ref C) "__setattr__" = some (some (.builtin "object.__setattr__"))) (mk : makesIn K C = true) (kc : keepIn K (.ref C) = true) (a1 : findIn K (.ref C) "__init__" = some (some (.ref fI))) (i1 : isFn K (.ref fI) = true) : ClsT K mg x C fI :=
  ⟨mg_of X G a, ⟨pg, hd, po, sa⟩, ⟨mk, a1, i1, kc⟩⟩
end Kb
/-! Kb22: lists of one's own within a list of one's own -/
namespace Kb
open PySem L2
/-- what is q's becomes p's -/
def recol (c : Cl) (q p : Addr) : Cl := fun a => if c a = some q then some p else c a
section
variable {c c0 c' : Cl} {H H0 H' : Hp} {S T : List Addr} {p q r : Addr}
theorem recol_none {a : Addr} (h : c a = none) : recol c q p a = none := by unfold recol; rw [if_neg (by rw [h]; intro e; cases e)]; exact h
theorem recol_self {a : Addr} (h : c a = some q) : recol c q p a = some p := by unfold recol; rw [if_pos h]
theorem recol_ne {a : Addr} (h : c a = some r) (n : r ≠ q) : recol c q p a = some r := by
  unfold recol; rw [if_neg (by rw [h]; intro e; exact n (Option.some.inj e))]; exact h
theorem recol_up : Up c H (recol c q p) H := ⟨fun _ _ h _ => h, fun _ _ _ h => recol_none h⟩
theorem Step.recol (g : Step S c0 H0 c H) (n : H0 q = none) (hp : ∃ u, H p = some u) : Step S c0 H0 (Kb.recol c q p) H where
  keep := g.keep
  col a o h := by
    have e := g.col a o h
    unfold Kb.recol
    split
    · rename_i z
      rw [e] at z
      obtain ⟨u, y⟩ := g.wf0 a o q h z
      rw [n] at y; cases y
    · exact e
  live := g.live
  wf := fun a o r h e => by
    unfold Kb.recol at e
    split at e
    · cases e; exact hp
    · exact g.wf a o r h e
  wf0 := g.wf0
end
section
variable {α : Type} [DecidableEq α] {A : Ty α} {c c' c0 : Cl} {H H' H0 : Hp} {S T : List Addr} {p q q2 a : Addr} {us vs : List V} {xs : List α} {xss : List (List α)} {v u : V} {x : α} {K : PySem.W.Frag}
theorem liftR (h : A.r c H v x) : A.r (recol c q p) H v x := A.up recol_up h
theorem Fzl.liftR (h : Fzl A c H a us xs) : Fzl A (recol c q p) H a us xs := ⟨recol_none h.col, h.obj, h.rs.up recol_up⟩
theorem Own.otherR (h : Own A H0 c H a us xs) (n : a ≠ q) : Own A H0 (recol c q p) H a us xs := ⟨recol_ne h.col n, h.obj, h.rs.up recol_up, h.new⟩
theorem OwnI.otherR {C dx : Addr} {fs : List (Str × V)} (h : OwnI C c H a dx fs) (n : a ≠ q) : OwnI C (recol c q p) H a dx fs := ⟨recol_ne h.col n, h.obj⟩
theorem liftDR {x : Dyn} (h : rD c H v x) : rD (recol c q p) H v x := upD recol_up h
theorem Fzt.liftR (h : Fzt c H a us) : Fzt (recol c q p) H a us := ⟨recol_none h.col, h.rd⟩
/-- the inner lists -/
def NestR {α : Type} [DecidableEq α] (A : Ty α) (c : Cl) (H : Hp) (p : Addr) : List V → List (List α) → Prop
  | [], [] => True
  | u :: us, x :: xs => (∃ q vs, u = .ref q ∧ c q = some p ∧ q ≠ p ∧ H q = some (.lst vs) ∧ Rs A c H vs x) ∧ NestR A c H p us xs
  | _, _ => False
structure Nest {α : Type} [DecidableEq α] (A : Ty α) (H0 : Hp) (c : Cl) (H : Hp) (p : Addr) (us : List V) (xss : List (List α)) : Prop where
  col : c p = some p
  obj : H p = some (.lst us)
  el : NestR A c H p us xss
  nd : us.Nodup
  new : H0 p = none
theorem NestR.len : ∀ {us : List V} {xss : List (List α)}, NestR A c H p us xss → us.length = xss.length
  | [], [], _ => rfl
  | _ :: _, _ :: _, h => by rw [List.length_cons, List.length_cons, NestR.len h.2]
  | [], _ :: _, h => h.elim
  | _ :: _, [], h => h.elim
theorem NestR.step (g : Step T c H c' H') (n : p ∉ T) : ∀ {us : List V} {xss : List (List α)}, NestR A c H p us xss → NestR A c' H' p us xss
  | [], [], _ => trivial
  | _ :: _, _ :: _, ⟨⟨q, vs, e, k, z, o, r⟩, h⟩ => ⟨⟨q, vs, e, (g.col q _ o).trans k, z, g.keep q _ o (fun s e => by rw [k] at e; cases e; exact n), r.up g.up⟩, NestR.step g n h⟩
  | [], _ :: _, h => h.elim
  | _ :: _, [], h => h.elim
theorem NestR.get : ∀ {us : List V} {xss : List (List α)} {j : Nat} {xs : List α}, NestR A c H p us xss → xss[j]? = some xs → ∃ q vs, us[j]? = some (.ref q) ∧ c q = some p ∧ q ≠ p ∧ H q = some (.lst vs) ∧ Rs A c H vs xs
  | [], [], _, _, _, e => by simp at e
  | u :: us, x :: xss, 0, y, ⟨⟨q, vs, e, k, z, o, r⟩, h⟩, e2 => by
    have : x = y := by simpa using e2
    subst this
    exact ⟨q, vs, by rw [e]; rfl, k, z, o, r⟩
  | u :: us, x :: xss, j + 1, y, h, e2 => by
    obtain ⟨q, vs, a, b⟩ := NestR.get (j := j) (xs := y) h.2 (by simpa using e2)
    exact ⟨q, vs, by simpa using a, b⟩
  | [], _ :: _, _, _, h, _ => h.elim
  | _ :: _, [], _, _, h, _ => h.elim
theorem NestR.recol (n : p ≠ q) : ∀ {us : List V} {xss : List (List α)}, NestR A c H p us xss → NestR A (Kb.recol c q q2) H p us xss
  | [], [], _ => trivial
  | _ :: _, _ :: _, ⟨⟨q', vs, e, k, z, o, r⟩, h⟩ => ⟨⟨q', vs, e, recol_ne k n, z, o, r.up recol_up⟩, NestR.recol n h⟩
  | [], _ :: _, h => h.elim
  | _ :: _, [], h => h.elim
theorem NestR.frz (n : p ≠ q) : ∀ {us : List V} {xss : List (List α)}, NestR A c H p us xss → NestR A (Kb.frz c q) H p us xss
  | [], [], _ => trivial
  | _ :: _, _ :: _, ⟨⟨q', vs, e, k, z, o, r⟩, h⟩ => ⟨⟨q', vs, e, frz_ne k n, z, o, r.up frz_up⟩, NestR.frz n h⟩
  | [], _ :: _, h => h.elim
  | _ :: _, [], h => h.elim
theorem NestR.frzS : ∀ {us : List V} {xss : List (List α)}, NestR A c H p us xss → Rs (tyL A) (Kb.frz c p) H us xss
  | [], [], _ => trivial
  | _ :: _, _ :: _, ⟨⟨q', vs, e, k, z, o, r⟩, h⟩ => ⟨⟨q', vs, e, frz_self k, o, r.up frz_up⟩, NestR.frzS h⟩
  | [], _ :: _, h => h.elim
  | _ :: _, [], h => h.elim
theorem NestR.app : ∀ {us : List V} {xss : List (List α)}, NestR A c H p us xss → NestR A c H p [u] [xs] → NestR A c H p (us ++ [u]) (xss ++ [xs])
  | [], [], _, k => k
  | _ :: _, _ :: _, h, k => ⟨h.1, NestR.app h.2 k⟩
  | [], _ :: _, h, _ => h.elim
  | _ :: _, [], h, _ => h.elim
theorem NestR.mem : ∀ {us : List V} {xss : List (List α)}, NestR A c H p us xss → V.ref q ∈ us → c q = some p
  | [], [], _, m => by cases m
  | u :: us, x :: xss, ⟨⟨q', vs, e, k, z, o, r⟩, h⟩, m => by
    rcases List.mem_cons.mp m with e2 | m
    · rw [e] at e2; cases e2; exact k
    · exact NestR.mem h m
  | [], _ :: _, h, _ => h.elim
  | _ :: _, [], h, _ => h.elim
/-- the outer list's object may change -/
theorem NestR.outer {o : HO} : ∀ {us : List V} {xss : List (List α)}, Up c H c (upd H p o) → NestR A c H p us xss → NestR A c (upd H p o) p us xss
  | [], [], _, _ => trivial
  | _ :: _, _ :: _, g, ⟨⟨q', vs, e, k, z, ob, r⟩, h⟩ => ⟨⟨q', vs, e, k, z, by rw [upd_ne z]; exact ob, r.up g⟩, NestR.outer g h⟩
  | [], _ :: _, _, h => h.elim
  | _ :: _, [], _, h => h.elim
/-- one inner list is changed -/
theorem NestR.inner {vs' : List V} {xs' : List α} (g : Up c H c (upd H q (.lst vs'))) (r' : Rs A c (upd H q (.lst vs')) vs' xs') : ∀ {us : List V} {xss : List (List α)} {j : Nat}, us.Nodup → us[j]? = some (.ref q) → NestR A c H p us xss → NestR A c (upd H q (.lst vs')) p us (xss.set j xs')
  | [], [], _, _, e, _ => by simp at e
  | u :: us, x :: xss, 0, nd, e, ⟨⟨q', vs, e', k, z, ob, r⟩, h⟩ => by
    have : u = .ref q := by simpa using e
    rw [e'] at this; cases this
    refine ⟨⟨q, vs', e', k, z, upd_same, r'⟩, ?_⟩
    have nm : V.ref q ∉ us := by rw [← e']; exact (List.nodup_cons.mp nd).1
    exact go g nm h
  | u :: us, x :: xss, j + 1, nd, e, ⟨⟨q', vs, e', k, z, ob, r⟩, h⟩ => by
    have e2 : us[j]? = some (.ref q) := by simpa using e
    have ne : q' ≠ q := fun y => by
      subst y
      exact (List.nodup_cons.mp nd).1 (by rw [e']; exact List.mem_of_getElem? e2)
    exact ⟨⟨q', vs, e', k, z, by rw [upd_ne ne]; exact ob, r.up g⟩, NestR.inner g r' (List.nodup_cons.mp nd).2 e2 h⟩
  | [], _ :: _, _, _, _, h => h.elim
  | _ :: _, [], _, _, _, h => h.elim
where
  go {vs' : List V} {q' : Addr} (g : Up c H c (upd H q' (.lst vs'))) : ∀ {us : List V} {xss : List (List α)}, V.ref q' ∉ us → NestR A c H p us xss → NestR A c (upd H q' (.lst vs')) p us xss
    | [], [], _, _ => trivial
    | u :: us, x :: xss, nm, ⟨⟨q2, vs, e', k, z, ob, r⟩, h⟩ => ⟨⟨q2, vs, e', k, z, by rw [upd_ne (fun y => nm (by rw [e', y]; exact List.mem_cons_self))]; exact ob, r.up g⟩, go g (fun m => nm (List.mem_cons_of_mem _ m)) h⟩
    | [], _ :: _, _, h => h.elim
    | _ :: _, [], _, h => h.elim
theorem Nest.step (h : Nest A H0 c H p us xss) (g : Step T c H c' H') (n : p ∉ T) : Nest A H0 c' H' p us xss :=
  ⟨(g.col p _ h.obj).trans h.col, g.keep p _ h.obj (fun r e => by rw [h.col] at e; cases e; exact n), h.el.step g n, h.nd, h.new⟩
theorem Nest.step0 (h : Nest A H0 c H p us xss) (g : Step [] c H c' H') : Nest A H0 c' H' p us xss := h.step g (fun z => by cases z)
theorem Nest.step1 (h : Nest A H0 c H p us xss) (g : Step [q] c H c' H') (n : p ≠ q) : Nest A H0 c' H' p us xss := h.step g (fun z => n (List.mem_singleton.mp z))
theorem Nest.other (h : Nest A H0 c H p us xss) (n : p ≠ q) : Nest A H0 (Kb.frz c q) H p us xss := ⟨frz_ne h.col n, h.obj, h.el.frz n, h.nd, h.new⟩
theorem Nest.otherR (h : Nest A H0 c H p us xss) (n : p ≠ q) : Nest A H0 (recol c q q2) H p us xss := ⟨recol_ne h.col n, h.obj, h.el.recol n, h.nd, h.new⟩
/-- it is frozen with all that it holds -/
theorem Nest.frz (h : Nest A H0 c H p us xss) : (tyL (tyL A)).r (Kb.frz c p) H (.ref p) xss := ⟨p, us, rfl, frz_self h.col, h.obj, h.el.frzS⟩
/-- an inner list that is read -/
theorem Nest.elb {j : Nat} (h : Nest A H0 c H p us xss) (hq : us[j]? = some (.ref q)) (hx : xss[j]? = some xs) : rP A c H (.ref q) xs := by
  obtain ⟨q', vs, e, k, z, o, r⟩ := h.el.get hx
  rw [hq] at e
  have e2 : q = q' := V.ref.inj (Option.some.inj e)
  subst e2
  exact ⟨q, vs, rfl, o, r⟩
/-- the outer list's item -/
theorem Nest.ix {i : Int} {j : Nat} (h : Nest A H0 c H p us xss) (e : ixN xss.length i = some j) (hx : xss[j]? = some xs) : ∃ q, us[j]? = some (.ref q) ∧ Rv (rIxL K) (.ref p) (.int i) H (.ref q) := by
  obtain ⟨q', vs, e1, k, z, o, r⟩ := h.el.get hx
  exact ⟨q', e1, fun _ w => ⟨p, us, i, _, rfl, rfl, .inl (.inl h.obj), by unfold atI; rw [h.el.len, e]; exact e1, w⟩⟩
/-- a list with one list of one's own -/
theorem Nest.one (cp : c p = some p) (ob : H p = some (.lst [.ref q])) (o : Own A H0 c H q vs xs) (ne : q ≠ p) (new : H0 p = none) : Nest A H0 (recol c q p) H p [.ref q] [xs] :=
  ⟨recol_ne cp ne.symm, ob, ⟨⟨q, vs, rfl, recol_self o.col, ne, o.obj, o.rs.up recol_up⟩, trivial⟩, by simp, new⟩
/-- a list of one's own is put behind -/
theorem nest_append_end (h : Nest A H0 c H p us xss) (w : Wf c H) (o : Own A H0 c H q vs xs) (ne : q ≠ p) (hl : xss.length < sizeLine) {Q : VK} (k : ∀ H', Step [p] c H c H' → Nest A H0 (recol c q p) H' p (us ++ [.ref q]) (xss ++ [xs]) → Own A H0 c H' q vs xs → Q .non H') : rAppend (.ref p) [.ref q] H Q := by
  have st : Step [p] c H c (upd H p (.lst (us ++ [.ref q]))) := Step.mut w h.obj h.col
  have o' := o.step1 st ne
  refine ⟨p, us, .ref q, rfl, rfl, h.obj, by rw [h.el.len]; exact hl, k _ st ⟨recol_ne h.col ne.symm, upd_same, ?_, ?_, h.new⟩ o'⟩
  · exact ((h.el.outer st.up).recol ne.symm).app ⟨⟨q, vs, rfl, recol_self o'.col, ne, o'.obj, o'.rs.up recol_up⟩, trivial⟩
  · rw [List.nodup_append]
    refine ⟨h.nd, by simp, fun a ha b hb e => ?_⟩
    rw [List.mem_singleton] at hb
    subst e hb
    have := h.el.mem ha
    rw [o.col] at this
    exact ne (Option.some.inj this)
/-- an inner list grows -/
theorem nest_push_end {j : Nat} (h : Nest A H0 c H p us xss) (w : Wf c H) (hq : us[j]? = some (.ref q)) (hx : xss[j]? = some xs) (r : A.r c H u x) (hl : xs.length < sizeLine) {Q : VK} (k : ∀ H', Step [p] c H c H' → Nest A H0 c H' p us (xss.set j (xs ++ [x])) → Q .non H') : rAppend (.ref q) [u] H Q := by
  obtain ⟨q', vs, e, kc, z, o, rs⟩ := h.el.get hx
  rw [hq] at e
  cases e
  have st : Step [p] c H c (upd H q (.lst (vs ++ [u]))) := Step.mut w o kc
  exact ⟨q, vs, u, rfl, rfl, o, by rw [rs.len]; exact hl, k _ st ⟨h.col, by rw [upd_ne z.symm]; exact h.obj, NestR.inner st.up (Rs.app (rs.up st.up) (ys := [x]) ⟨A.up st.up r, trivial⟩) h.nd hq h.el, h.nd, h.new⟩⟩
end
theorem if_cutR {β τ ρ : Type} {P : β → Cl → Hp → Prop} {PE : Err → Cl → Hp → Prop} {S : List Addr} {c0 : Cl} {H H0 : Hp} {σ : L2.St} {m : Res (Ctl τ ρ)} {rest : Ctl τ ρ → Res β} {cc : TT} {t u : TS} {D : Ends} {Rr : Cl → Hp → V → ρ → Prop} (k : Kont P PE S c0 H0 (m.bind rest)) (I : τ → Cl → Hp → L2.St → Prop)
    (hr : ∀ r, Kont P PE S c0 H0 (rest (.ret r)) → ∀ c H, Step S c0 H0 c H → ∀ v, Rr c H v r → D.rt v H) (kk : ∀ s c H σ, I s c H σ → Kont P PE S c0 H0 (rest (.nx s)) → D.nx σ H)
    (h : Kont (fun y c' H' => match y with | .nx s => ∀ σ', I s c' H' σ' → D.nx σ' H' | .ret r => ∀ v, Rr c' H' v r → D.rt v H') PE S c0 H0 m → tIfS cc t u D σ H) : tIfS cc t u D σ H :=
  h (k.turn.imp (fun y c H st q => by
    cases y with
    | nx s => exact fun σ i => kk s c H σ i q
    | ret r => exact fun v hv => hr r q c H st v hv) fun _ _ _ _ q => q)
end Kb
/-! Kb23: methods and makers within a try; fields within a comprehension -/
namespace Kb
open PySem PySem.Spec PyProof.Rows L2
section
variable {X : Cx} {CX : CXT} {k : Nat} {f C : Addr} {fd : FuncData} {ps : List Str} {ds : List Value} {dvs : List V} {sp : Sp} {E : L2.St → XK} {x m : Str} {p pos apos : Pos} {e o : Expr} {es : List Expr} {ta : TE} {t : TA}
def tMethT (C : Addr) (m : Str) (sp : Sp) (E : L2.St → XK) (ta : TE) (t : TA) : TE := fun σ H Q => ta σ H fun x H1 => ∃ a dx fs, x = .ref a ∧ H1 a = some (.ins C dx fs) ∧ fs.lookup m = none ∧ t σ H1 fun vs H2 => sp (x :: vs) H2 Q (E σ)
theorem methT_u {σ : L2.St} {H : Hp} {Q : VK} (h : ta σ H fun x H1 => ∃ a dx fs, x = .ref a ∧ H1 a = some (.ins C dx fs) ∧ fs.lookup m = none ∧ t σ H1 fun vs H2 => sp (x :: vs) H2 Q (E σ)) : tMethT C m sp E ta t σ H Q := h
theorem pe_methT {pl : Sem Bool} (he : PE X o ta) (c : Cls X.K C) (hm : Meth X.K C m f) (F : FnOk X.prog X.w X.K X.mg X.base CX k f fd ps sp) (hr : Room k X.A) (hb : Binds X.K fd ps []) (hx : ∀ σ, PassesAt CX X σ (E σ)) (ha : PA X (e :: es) t)
    (hst : starEach (e :: es) X.env = (false, eval e X.env) :: starEach es X.env := by rfl) (hpl : (backTo pos (starEach es X.env)).any (·.1) = false := by rfl)
    (ht : eval (.Call (.Attribute o m apos) (e :: es) [] pos) X.env = (do
      let ov ← eval o X.env
      standAt apos.atName
      let (f, first) ← holding [ov] (getMethod ov m pl)
      callWith pos f first (backTo pos (starEach (e :: es) X.env)) (backToKw pos (keywordEach [] X.env))) := by rfl) :
    PE X (.Call (.Attribute o m apos) (e :: es) [] pos) (tMethT C m sp E ta t) := by
  refine ⟨fun pins s σ H Q I h => ?_⟩
  refine PySem.W.methodCall_KW (pl := pl) (thn (he.run pins s σ H _ I h) fun u s1 ⟨x, H1, I1, rx, a, dx, fs, ex, ea, l, q⟩ => ?_) ht
  subst ex
  obtain rfl : u = Value.ref a := rx
  refine getmeth_ok I1 ea c hm l ?_
  refine PySem.W.callWith_K (first := [.ref a]) (h₀ := X.base) I.ok.mod.kin hm.kp (thn (ha.run pos pins s1 σ H1 _ I1 q) fun us s2 ⟨vs, H2, I2, r, q2⟩ => ⟨I2.kIn, ?_⟩) hst hpl
  exact run_fnS (us := .ref a :: us) (vs := .ref a :: vs) F hr hb (hx σ) I2 (.cons rfl r) q2
theorem pe_meth0T {pl : Sem Bool} (he : PE X o ta) (c : Cls X.K C) (hm : Meth X.K C m f) (F : FnOk X.prog X.w X.K X.mg X.base CX k f fd ps sp) (hr : Room k X.A) (hb : Binds X.K fd ps []) (hx : ∀ σ, PassesAt CX X σ (E σ))
    (ht : eval (.Call (.Attribute o m apos) [] [] pos) X.env = (do
      let ov ← eval o X.env
      standAt apos.atName
      let (f, first) ← holding [ov] (getMethod ov m pl)
      callWith pos f first (backTo pos (starEach [] X.env)) (backToKw pos (keywordEach [] X.env))) := by rfl) :
    PE X (.Call (.Attribute o m apos) [] [] pos) (tMethT C m sp E ta tNil) := by
  refine ⟨fun pins s σ H Q I h => ?_⟩
  refine PySem.W.methodCall_KW (pl := pl) (thn (he.run pins s σ H _ I h) fun u s1 ⟨x, H1, I1, rx, a, dx, fs, ex, ea, l, q⟩ => ?_) ht
  subst ex
  obtain rfl : u = Value.ref a := rx
  refine getmeth_ok I1 ea c hm l ?_
  exact PySem.W.callWith_K0 (first := [.ref a]) I1.kIn hm.kp (run_fnS (us := [.ref a]) (vs := [.ref a]) F hr hb (hx σ) I1 (.cons rfl .nil) q)
theorem run_makeT {pins : List (Addr × Obj)} {σ : L2.St} {H : Hp} {s : Shared} {Q : VK} {us : List Value} {vs : List V} {E : XK} (M : Mk X.K C f) (F : FnOk X.prog X.w X.K X.mg X.base CX k f fd ps sp) (hr : Room (k + 1) X.A) (hb : Binds X.K fd ps ds) (hd : Vals dvs ds)
    (hx : PassesAt CX X σ E) (I : Inv X pins σ H s) (r : Vals vs us)
    (h : ∀ x dx, H x = none → H dx = none → dx ≠ x → sp (.ref x :: (vs ++ dvs)) (upd (upd H dx (.own x)) x (.ins C dx [])) (fun v H2 => v = .non ∧ Q (.ref x) H2) E) :
    wpAny (model X.prog X.w) X.A (call (.ref C) us) (EP X pins σ Q) X.xe s := by
  have hq := h (s.heap.objs.size + 1) s.heap.objs.size (I.hok.fresh (Nat.le_succ _)) (I.hok.fresh (Nat.le_refl _)) (Nat.ne_of_lt (Nat.lt_succ_self _))
  have I2 := Inv.made (C := C) I
  have r2 : Vals (V.ref (s.heap.objs.size + 1) :: (vs ++ dvs)) (Value.ref (s.heap.objs.size + 1) :: (us ++ ds)) := .cons rfl (r.append hd)
  have hl : (Value.ref (s.heap.objs.size + 1) :: us ++ ds).length = ps.length := by
    have e := r2.length
    rw [F.len _ _ _ _ hq] at e
    exact e.symm
  refine wpAny_call (make_map (f := f) I.kIn M.makes M.init (beq_iff_eq.mp M.fn) (codeAny_mono (F.run _ X.stack _ _ ⟨Value.ref (s.heap.objs.size + 1) :: us, []⟩ (Value.ref (s.heap.objs.size + 1) :: (us ++ ds)) _ _ E (hr.make C us [])
    (I2.env0.make C us []) (hb _ (Value.ref (s.heap.objs.size + 1) :: us) I2.kIn hl) r2 hq) fun r s' hq' => ?_))
  cases r with
  | error e => exact hx pins _ _ e s' I2 hq'
  | ok fl =>
    cases fl with
    | ret u =>
      obtain ⟨v, H', I3, rv, ev, q3⟩ := I2.after hq'
      subst ev
      exact ⟨rv, ⟨V.ref (s.heap.objs.size + 1), H', I3, rfl, q3⟩⟩
    | next => exact False.elim hq'
    | brk => exact False.elim hq'
    | cont => exact False.elim hq'
def tMakeT (C : Addr) (sp : Sp) (E : L2.St → XK) (t : TA) : TE := fun σ H Q => t σ H (MakeK C sp [] (E σ) Q)
theorem makeT_u {σ : L2.St} {H : Hp} {Q : VK} (h : t σ H (MakeK C sp [] (E σ) Q)) : tMakeT C sp E t σ H Q := h
theorem pe_makeT (M : Mk X.K C f) (F : FnOk X.prog X.w X.K X.mg X.base CX k f fd ps sp) (hr : Room (k + 1) X.A) (hg : Gl X x) (hm : X.mg x = some (.ref C)) (hb : Binds X.K fd ps []) (hx : ∀ σ, PassesAt CX X σ (E σ))
    (ha : PA X (e :: es) t) (hdb : (x == ("__debug__" : Str)) = false := by decide) (he : starEach (e :: es) X.env = (false, eval e X.env) :: starEach es X.env := by rfl) (hpl : (backTo pos (starEach es X.env)).any (·.1) = false := by rfl) :
    PE X (.Call (.Name x p) (e :: es) [] pos) (tMakeT C sp E t) := by
  refine ⟨fun pins s σ H Q I h => ?_⟩
  refine wpAny_Call_Name_kw (ld_glob I hg hm ?_ hdb)
  refine PySem.W.callWith_K (h₀ := X.base) I.ok.mod.kin M.kp (thn (ha.run pos pins s σ H _ I h) fun us s1 ⟨vs, H1, I1, r, q⟩ => ⟨I1.kIn, ?_⟩) he hpl
  exact run_makeT M F hr hb .nil (hx σ) I1 r q
theorem pe_make0T (M : Mk X.K C f) (F : FnOk X.prog X.w X.K X.mg X.base CX k f fd ps sp) (hr : Room (k + 1) X.A) (hg : Gl X x) (hm : X.mg x = some (.ref C)) (hb : Binds X.K fd ps []) (hx : ∀ σ, PassesAt CX X σ (E σ))
    (hdb : (x == ("__debug__" : Str)) = false := by decide) : PE X (.Call (.Name x p) [] [] pos) (tMakeT C sp E tNil) := by
  refine ⟨fun pins s σ H Q I h => ?_⟩
  refine wpAny_Call_Name_kw (ld_glob I hg hm ?_ hdb)
  exact PySem.W.callWith_K0 I.kIn M.kp (run_makeT (us := []) M F hr hb .nil (hx σ) I .nil h)
theorem pe_fldK {K : PySem.W.Frag} (hK : X.K = K) {e : Expr} {f : Str} (he : PE X e ta) (hb : attributeBase e f X.env (eval e X.env) = eval e X.env := by rfl) : PE X (.Attribute e f pos) (tFld K ta f) := by
  subst hK
  exact pe_fld he hb
end
end Kb
/-! Kb24: comprehensions over what makes a new tuple at each turn (enumerate) -/
namespace Kb
open PySem L2
structure PItA {α : Type} [DecidableEq α] (J : It) (A : Ty α) (xs : List α) (c : Cl) (H : Hp) : Prop where
  go : ∀ i, i < xs.length → J.go i H
  stop : J.stop xs.length H
  item : ∀ i x v H', xs[i]? = some x → J.yld i H v H' → ∃ c', Step [] c H c' H' ∧ A.r c' H' v x
def enumN {α : Type} : Int → List α → List (Int × α)
  | _, [] => []
  | k, x :: xs => (k, x) :: enumN (k + 1) xs
section
variable {α : Type}
theorem enumN_len : ∀ (k : Int) (xs : List α), (enumN k xs).length = xs.length
  | _, [] => rfl
  | k, x :: xs => congrArg (· + 1) (enumN_len (k + 1) xs)
theorem enumN_get : ∀ (k : Int) (xs : List α) (i : Nat), (enumN k xs)[i]? = (xs[i]?).map fun x => (k + (i : Int), x)
  | _, [], _ => rfl
  | k, x :: xs, 0 => by
    show some (k, x) = some (k + ((0 : Nat) : Int), x)
    rw [show k + ((0 : Nat) : Int) = k by omega]
  | k, x :: xs, i + 1 => by
    show (enumN (k + 1) xs)[i]? = _
    rw [enumN_get (k + 1) xs i]
    show _ = (xs[i]?).map fun x => (k + ((i + 1 : Nat) : Int), x)
    rw [show k + 1 + (i : Int) = k + ((i + 1 : Nat) : Int) by omega]
end
section
variable {α : Type} [DecidableEq α] {A : Ty α} {c : Cl} {H : Hp} {a : Addr} {us : List V} {xs : List α} {K : PySem.W.Frag}
theorem pitA_e (w : Wf c H) (h : SqL K H a us) (r : Rs A c H us xs) : PItA (Ite K a) (tyT2 tyI A) (enumN 0 xs) c H where
  go i hi := by
    rw [enumN_len] at hi
    have hu : i < us.length := by rw [r.len]; exact hi
    exact ⟨us, us[i], h, List.getElem?_eq_getElem hu⟩
  stop := ⟨us, h, by rw [r.len, enumN_len]; exact Nat.le_refl _⟩
  item i x v H' hx hy := by
    obtain ⟨T, y, rfl, n, rfl, q⟩ := hy
    rw [enumN_get] at hx
    cases hx1 : xs[i]? with
    | none => rw [hx1] at hx; cases hx
    | some x1 =>
      rw [hx1] at hx
      have hx2 : ((0 : Int) + (i : Int), x1) = x := Option.some.inj hx
      obtain ⟨u, eu, ru⟩ := r.getX hx1
      have z := q us h
      rw [eu] at z
      have z2 := Option.some.inj z
      subst z2
      have st : Step [] c H (setC c T none) (upd H T (.tup [.int (i : Nat), u])) := Step.new w n fun r e => by cases e
      refine ⟨_, st, T, _, _, rfl, setC_same, .inl upd_same, ?_, ?_⟩
      · rw [← hx2]
        show V.int (i : Int) = V.int (0 + (i : Int))
        rw [Int.zero_add]
      · rw [← hx2]
        exact A.up st.up ru
end
section
variable {γ β α : Type} [DecidableEq α] [DecidableEq β] {A : Ty α} {B : Ty β} {P : γ → Cl → Hp → Prop} {PE : Err → Cl → Hp → Prop} {S : List Addr} {c0 c : Cl} {H0 H : Hp} {σ : L2.St} {g : TG} {tt : TT} {te : TE} {xs : List α} {J : It}
theorem comp_pA {f : α → Res β} {rest : List β → Res γ} {vs : List Nat} {Q : VK} (k : Kont P PE S c0 H0 ((compN xs f).bind rest)) (gs : Step S c0 H0 c H) (hl0 : decide (xs.length ≤ sizeLine) = true)
    (hp : ∀ ci Hi, Step [] c H ci Hi → PItA J A xs ci Hi)
    (hb0 : ∀ x v ci Hi (Qe : VK) (Qn : Hp → Prop), Step [] c H ci Hi → Step S c0 H0 ci Hi → A.r ci Hi v x → Kont (fun y c' H' => ∀ u, B.r c' H' u y → Qe u H') (fun _ _ _ => False) [] ci Hi (f x) → g v (wipe σ vs) Hi fun σ2 H2 => wipe σ2 vs = wipe σ vs ∧ tYes σ2 H2 fun b H3 => if b = true then te σ2 H3 Qe else Qn H3)
    (hd : ∀ ys p us' c' H', H p = none → Step [] c H c' H' → Own B H0 c' H' p us' ys → Kont P PE S c0 H0 (rest ys) → Q (.ref p) H') : LcK g tYes te vs σ Q J H := by
  have hl := of_decide_eq_true hl0
  have hb : ∀ x v ci Hi (Qe : VK) (Qn : Hp → Prop), Step [] c H ci Hi → Step S c0 H0 ci Hi → A.r ci Hi v x → Kont (fun y c' H' => Step [] ci Hi c' H' → ∀ u, B.r c' H' u y → Qe u H') (fun _ _ _ => False) S c0 H0 (f x) → g v (wipe σ vs) Hi fun σ2 H2 => wipe σ2 vs = wipe σ vs ∧ tYes σ2 H2 fun b H3 => if b = true then te σ2 H3 Qe else Qn H3 :=
    fun x v ci Hi Qe Qn st gi r k => hb0 x v ci Hi Qe Qn st gi r ((k.rebase gi).imp (fun y c' H' s q => q s) fun _ _ _ _ q => q)
  intro d nd
  have n0 : H0 d = none := gs.fresh nd
  refine ⟨fun i m Hi => m = xs.length - i ∧ i ≤ xs.length ∧ ∃ ci zs ys, Acc B H0 c H ci Hi d zs ys ∧ ys.length = i ∧ Kont P PE S c0 H0 ((compN (xs.drop i) f).bind fun r => rest (ys ++ r)), ⟨xs.length, by simp, Nat.zero_le _, _, [], [], Acc.start gs.wf nd n0, rfl, k⟩, ?_⟩
  rintro i m Hi ⟨rfl, hi, ci, zs, ys, ac, el, k1⟩
  have p := hp ci Hi ac.st
  by_cases hlt : i < xs.length
  · have hx : xs[i]? = some xs[i] := List.getElem?_eq_getElem hlt
    rw [drop_at hx, compN_cons, bind_assoc] at k1
    refine .inr ⟨p.go i hlt, fun Hi => ∃ ci zs ys, Acc B H0 c H ci Hi d zs ys ∧ ys.length = i + 1 ∧ Kont P PE S c0 H0 ((compN (xs.drop (i + 1)) f).bind fun r => rest (ys ++ r)), fun H' q => ⟨xs.length - (i + 1), by omega, rfl, hlt, q⟩, fun v H' hy => ?_⟩
    obtain ⟨c1, s1, rx⟩ := p.item i _ v H' hx hy
    refine hb _ v c1 _ _ _ (ac.st.tr0 s1) ((gs.tr0 ac.st).tr0 s1) rx (k1.turn.nx.imp (fun y c' H' _ q st u ru => ?_) fun e cc HH _ q => q)
    have ac' := ac.push nd (s1.tr0 st) ru
    refine ⟨zs, (ac.own.step0 (s1.tr0 st)).obj, by rw [ac.own.rs.len]; omega, c', _, _, ac', by rw [List.length_append, el]; rfl, ?_⟩
    rw [bind_assoc] at q
    rw [show (fun r => rest (ys ++ [y] ++ r)) = fun r => rest (ys ++ (y :: r)) from by funext r; rw [List.append_assoc]; rfl]
    exact q
  · have e : i = xs.length := by omega
    subst e
    rw [List.drop_length] at k1
    have k2 : Kont P PE S c0 H0 (rest (ys ++ [])) := k1
    rw [List.append_nil] at k2
    exact .inl ⟨p.stop, hd ys d zs ci Hi nd ac.st ac.own k2⟩
end
section
variable {σ : L2.St} {H : Hp} {a : Addr} {us : List V} {K : PySem.W.Frag} {R : It → Hp → Prop}
def EIt (K : PySem.W.Frag) (R : It → Hp → Prop) (vs : List V) (H1 : Hp) : Prop := ∃ (a : Addr) (xs : List V), vs = [.ref a] ∧ SqL K H1 a xs ∧ R (Ite K a) H1
theorem ienum_u {ta : TA} (h : ta σ H (EIt K R)) : iEnum K ta σ H R := h
theorem ienum_e (hs : SqL K H a us) (q : R (Ite K a) H) : EIt K R [.ref a] H := ⟨a, us, rfl, hs, q⟩
end
end Kb
/-! Kb25: keys of pairs; texts of numbers; int of a truth value -/
namespace Kb
open PySem L2
def keyII (x : Int × Int) : SK := [.inl x.1, .inl x.2]
def shII : Nat → Bool := fun _ => false
theorem sk_II : SKey (tyT2 tyI tyI) keyII shII where
  ok := by
    intro c H v x h
    obtain ⟨a, u0, u1, e, _, q, h1, h2⟩ := h
    have h1' : u0 = V.int x.1 := h1
    have h2' : u1 = V.int x.2 := h2
    subst h1' h2'
    refine ⟨a, _, e, q, by simp, rfl, fun j v hj => ?_⟩
    match j, hj with
    | 0, hj => cases hj; rfl
    | 1, hj => cases hj; rfl
    | j + 2, hj => simp at hj
  inj := by
    rintro ⟨a, b⟩ ⟨a', b'⟩ h
    simp only [keyII, List.cons.injEq, Sum.inl.injEq, and_true] at h
    obtain ⟨h1, h2⟩ := h
    subst h1 h2
    rfl
def keySI (x : Str × Int) : SK := [.inr x.1.cps.toList, .inl x.2]
def shSI : Nat → Bool := fun i => i == 0
theorem sk_SI : SKey (tyT2 tyS tyI) keySI shSI where
  ok := by
    intro c H v x h
    obtain ⟨a, u0, u1, e, _, q, ⟨h0, _⟩, h1⟩ := h
    have h1' : u1 = V.int x.2 := h1
    subst h0 h1'
    refine ⟨a, _, e, q, by simp, rfl, fun j v hj => ?_⟩
    match j, hj with
    | 0, hj => cases hj; rfl
    | 1, hj => cases hj; rfl
    | j + 2, hj => simp at hj
  inj := by
    rintro ⟨⟨⟨a⟩⟩, b⟩ ⟨⟨⟨a'⟩⟩, b'⟩ h
    simp only [keySI, List.cons.injEq, Sum.inr.injEq, Sum.inl.injEq, and_true] at h
    obtain ⟨h1, h2⟩ := h
    subst h2
    have h1' : a = a' := h1
    subst h1'
    rfl
theorem strOk_of (s : String) : PyData.strOk (Str.ofString s) = true := by
  rw [Str.ofString_eq_toList]
  unfold PyData.strOk
  rw [List.all_toArray, List.all_map, List.all_eq_true]
  intro c _
  refine decide_eq_true ?_
  have h := c.valid
  show c.toNat < 0x110000
  rcases h with h | h
  · have : c.val.toNat < 0xD800 := h
    show c.val.toNat < _
    omega
  · exact h.2
def numS (i : Int) : Str := Str.ofString (toString i)
theorem rc_str {i : Int} {H : Hp} (h : decide (i.natAbs.log2 < 1920) = true) : Rc (fun xs H Q => ∃ i, xs = [.int i] ∧ i.natAbs.log2 < 1920 ∧ Q (.str (toString i)) H) [.int i] H (.str (numS i)) := fun _ q => ⟨i, rfl, of_decide_eq_true h, q⟩
theorem rc_intB {k : Bool} {H : Hp} : Rc (fun xs H Q => (∃ i, xs = [.int i] ∧ Q (.int i) H) ∨ ∃ k, xs = [.bl k] ∧ Q (.int (if k then 1 else 0)) H) [.bl k] H (.int (if k then 1 else 0)) := fun _ q => .inr ⟨k, rfl, q⟩
end Kb
/-! Kb26: lists of whatever; lists of one's own in a list; list.index -/
namespace Kb
open PySem L2
/-- whatever: nothing is told of it -/
def tyAny : Ty Unit where
  r _ _ _ _ := True
  up _ _ := trivial
  enc _ := .none
  dep := 1000
  dp h := absurd h (by decide)
  lay h := absurd h (by decide)
  hdep h := absurd h (by decide)
  eqv h := absurd h (by decide)
theorem rs_any {c : Cl} {H : Hp} : ∀ us : List V, Rs tyAny c H us (us.map fun _ => ())
  | [] => trivial
  | _ :: us => ⟨trivial, rs_any us⟩
section
variable {α : Type} [DecidableEq α] {A : Ty α} {H0 H : Hp} {c : Cl} {p : Addr} {us : List V} {xs : List α}
theorem map_unit : ∀ {us : List V} {xs : List α}, Rs A c H us xs → (us.map fun _ => ()) = xs.map fun _ => ()
  | [], [], _ => rfl
  | u :: us, x :: xs, h => by rw [List.map_cons, List.map_cons, map_unit h.2]
  | [], _ :: _, h => h.elim
  | _ :: _, [], h => h.elim
theorem Own.any (o : Own A H0 c H p us xs) : Own tyAny H0 c H p us (xs.map fun _ => ()) :=
  ⟨o.col, o.obj, map_unit o.rs ▸ rs_any us, o.new⟩
end
section
variable {β α : Type} [DecidableEq α] {A : Ty α} {P : β → Cl → Hp → Prop} {PE : Err → Cl → Hp → Prop} {S : List Addr} {c0 c : Cl} {H0 H : Hp} {σ : L2.St} {g : TG} {tb : TS} {D : Ends} {K : PySem.W.Frag} {t : Addr}
theorem for_ownL {ps : List Addr} {xs : List (List α)} {f : Unit → List α → Res Unit} {rest : Unit → Res β} (k : Kont P PE S c0 H0 ((forN xs () f).bind rest)) (I : Unit → Cl → Hp → L2.St → Prop) (h0 : I () c H σ) (ho : OwnL A H0 c H ps xs) (nd : ps.Nodup)
    (hl : ∀ c H σ, I () c H σ → H t = some (.lst (ps.map V.ref)) ∧ Step S c0 H0 c H)
    (hb : ∀ p us x c H σ (N : L2.St → Hp → Prop), I () c H σ → p ∈ ps → Own A H0 c H p us x → Kont (fun _ c' H' => Step [p] c H c' H' → ∀ σ', I () c' H' σ' → N σ' H') PE [p] c H (f () x) → g (.ref p) σ H fun σ2 H2 => tb { D with nx := N, ct := N, bk := D.nx } σ2 H2)
    (hd : ∀ c H σ, I () c H σ → Kont P PE S c0 H0 (rest ()) → D.nx σ H) :
    ∃ W : Nat → Nat → L2.St → Hp → Prop, (∃ m, W 0 m σ H) ∧ ∀ i m σ H, W i m σ H →
      ((Itl K t).stop i H ∧ D.nx σ H) ∨ ((Itl K t).go i H ∧ ∃ N : L2.St → Hp → Prop, (∀ σ' H', N σ' H' → ∃ m', m' < m ∧ W (i + 1) m' σ' H') ∧ ∀ x H', (Itl K t).yld i H x H' → g x σ H' fun σ2 H2 => tb { D with nx := N, ct := N, bk := D.nx } σ2 H2) := by
  refine ⟨fun i m σ H => m = ps.length - i ∧ i ≤ ps.length ∧ ∃ c, I () c H σ ∧ OwnL A H0 c H (ps.drop i) (xs.drop i) ∧ Kont P PE S c0 H0 ((forN (xs.drop i) () f).bind rest), ⟨ps.length, by simp, Nat.zero_le _, c, h0, ho, k⟩, ?_⟩
  rintro i m σ1 H1 ⟨rfl, hi, c1, h, o1, k1⟩
  obtain ⟨ob, gs⟩ := hl c1 H1 σ1 h
  have rd : SqL K H1 t (ps.map V.ref) := .inl (.inl ob)
  by_cases hlt : i < ps.length
  · have e1 : ps.drop i = ps[i] :: ps.drop (i + 1) := List.drop_eq_getElem_cons hlt
    rw [e1] at o1
    have nd' : (ps.drop i).Nodup := nd.sublist (List.drop_sublist i ps)
    rw [e1] at nd'
    cases hx : xs.drop i with
    | nil => rw [hx] at o1; exact o1.elim
    | cons x r =>
      have er : xs.drop (i + 1) = r := by
        have z : (xs.drop i).drop 1 = r := by rw [hx]; rfl
        rw [List.drop_drop] at z
        exact z
      rw [hx] at o1 k1
      obtain ⟨⟨us, ow⟩, o2⟩ := o1
      rw [forN_cons, bind_assoc] at k1
      have hu : i < (ps.map V.ref).length := by rw [List.length_map]; exact hlt
      refine .inr ⟨⟨_, (ps.map V.ref)[i], rd, List.getElem?_eq_getElem hu⟩, fun σ' H' => ∃ c, I () c H' σ' ∧ OwnL A H0 c H' (ps.drop (i + 1)) (xs.drop (i + 1)) ∧ Kont P PE S c0 H0 ((forN (xs.drop (i + 1)) () f).bind rest), fun σ' H' q => ⟨ps.length - (i + 1), by omega, rfl, hlt, q⟩, fun v H' hy => ?_⟩
      obtain ⟨e, q⟩ := hy
      subst e
      have z := q _ rd
      rw [List.getElem?_eq_getElem hu, List.getElem_map] at z
      have ev : V.ref ps[i] = v := Option.some.inj z
      subst ev
      refine hb _ us x c1 _ σ1 _ h (List.getElem_mem hlt) ow ((k1.turn.rebase1 gs ow.new).imp (fun y c' H' st kk s σ' h' => ?_) fun e c' H' st q => q)
      refine ⟨c', h', ?_, ?_⟩
      · rw [er]
        exact o2.step s (List.nodup_cons.mp nd').1
      · rw [er]
        exact kk
  · have e : i = ps.length := by omega
    subst e
    have el : xs.drop ps.length = [] := List.drop_eq_nil_of_le (by have := OwnL.len ho; omega)
    rw [el] at k1
    refine .inl ⟨⟨_, rd, by rw [List.length_map]; exact Nat.le_refl _⟩, hd c1 H1 σ1 h k1⟩
end
/-! list.index -/
def findI {α : Type} [DecidableEq α] (a : α) : List α → Option Int
  | [] => none
  | x :: xs => if x = a then some 0 else (findI a xs).map (· + 1)
section
variable {α : Type} [DecidableEq α] {A : Ty α} {K : PySem.W.Frag} {c : Cl} {H : Hp} {v w : V} {x : α} {xs : List α} {X : Cx}
theorem findI_spec {a : α} : ∀ {xs : List α} {n : Int}, findI a xs = some n → ∃ j : Nat, n = (j : Int) ∧ xs[j]? = some a ∧ ∀ (m : Nat) y, m < j → xs[m]? = some y → y ≠ a
  | [], n, h => by cases h
  | x :: xs, n, h => by
    unfold findI at h
    by_cases e : x = a
    · rw [if_pos e] at h
      exact ⟨0, (Option.some.inj h).symm, by rw [e]; rfl, fun m y hm => absurd hm (Nat.not_lt_zero _)⟩
    · rw [if_neg e] at h
      cases hf : findI a xs with
      | none => rw [hf] at h; cases h
      | some k =>
        rw [hf] at h
        obtain ⟨j, hj, g, no⟩ := findI_spec hf
        have e3 : k + 1 = n := Option.some.inj h
        refine ⟨j + 1, by omega, g, fun m y hm gy => ?_⟩
        cases m with
        | zero => have : x = y := Option.some.inj gy
                  rw [← this]; exact e
        | succ m => exact no m y (by omega) gy
theorem mt_indexDK (e : X.K = K) (hu : X.A.units + 65 < cLine) : MtR X "list.index" (rIndexD K) := e ▸ mt_indexD hu
theorem index_end (h1 : A.r c H v x) (h2 : rB K A c H w xs) (hd : A.dep + 1 ≤ 64) {n : Int} (e : findI x xs = some n) {Q : VK} (q : Q (.int n) H) : rIndexD K w [v] H Q := by
  obtain ⟨j, hj, g, no⟩ := findI_spec e
  have hd' := Nat.le_of_succ_le hd
  have sh := h2.shape (K := K) hd
  obtain ⟨p, us, ew, sq, rs⟩ := h2
  subst ew
  refine ⟨p, v, A.enc x, xs.map A.enc, j, A.enc x, rfl, rfl, sh.1, A.dp hd' h1, sh.2, ?_, ?_, ?_, ?_, ?_⟩
  · unfold SeqAt.shaped; rw [A.lay hd' h1, decide_eq_true (Nat.le_trans (A.hdep hd' x) hd')]; rfl
  · rw [List.getElem?_map, g]; rfl
  · rw [A.eqv hd']; exact decide_eq_true rfl
  · intro m z' hm hz
    rw [List.getElem?_map] at hz
    cases hy : xs[m]? with
    | none => rw [hy] at hz; cases hz
    | some y =>
      rw [hy] at hz
      have ez : A.enc y = z' := Option.some.inj hz
      rw [← ez, A.eqv hd']
      exact decide_eq_false (no m y hm hy)
  · rw [← hj]; exact q
theorem tyB_list (h : rB K A c H w xs) : tyV K "list" w H := by
  obtain ⟨p, us, ew, sq, rs⟩ := h
  subst ew
  exact .inl ⟨rfl, us, sq⟩
end
end Kb
namespace Kb
open PySem L2
theorem rv_pack {K : PySem.W.Frag} {H : Hp} {p : Addr} {us : List V} {i : Int} {u : V} (o : H p = some (.lst us)) (e : atI us i = some u) : Rv (rIxL K) (.ref p) (.int i) H u :=
  fun _ z => ⟨p, us, i, u, rfl, rfl, .inl (.inl o), e, z⟩
end Kb
namespace Lw
open PySem L2 Kb
abbrev M_Route : Type := List (PySem.Str × Int × Int × Bool) × Int × List (Int × (Int × Int))
@[irreducible] def m_check_row (a0 : (PySem.Str × Int × Int)) : Res Unit := br ((decide (a0.2.1 < (0 : Int))) || (decide (a0.2.2 ≤ a0.2.1))) (.err .ground) (.ok ())
@[irreducible] def m_normal (a0 : List (PySem.Str × Int × Int)) : Res (List (PySem.Str × Int × Int)) := (forN a0 () (fun s5 x7 => (m_check_row x7).bind fun y13 => .ok ())).bind fun s5 => (forN (sortK keySII a0) (([] : List (PySem.Str × Int × Int))) (fun s42 x47 => ((andN (.ok (!s42.isEmpty)) (andN (opt (atI s42 (-(1 : Int))) fun x88 => .ok (decide (x88.1 = x47.1))) (opt (atI s42 (-(1 : Int))) fun x96 => .ok (decide (x47.2.1 ≤ x96.2.2))))).bind fun b101 => br b101 (opt (atI s42 (-(1 : Int))) fun x107 => opt (atI s42 (-(1 : Int))) fun x115 => opt (ixN s42.length (-(1 : Int))) fun j131 => .ok ((s42.set j131 (x47.1, x107.2.1, (if x115.2.2 > x47.2.2 then x115.2.2 else x47.2.2))))) (chk (decide (s42.length < sizeLine)) <| .ok ((s42 ++ [(x47.1, x47.2.1, x47.2.2)])))).bind fun s63 => .ok (s63))).bind fun s42 => .ok s42
@[irreducible] def m_size (a0 : List (PySem.Str × Int × Int)) : Res Int := chk (decide (a0.length ≤ sizeLine)) <| (compN a0 (fun x6 => .ok (x6.2.2 - x6.2.1))).bind fun y24 => .ok (List.sum y24)
@[irreducible] def m_greatest_divisor (a0 : Int) (a1 : Int) : Res Int := (whileN ((((if a1 < 0 then -a1 else a1)).toNat + 1)) (((if a0 < 0 then -a0 else a0), (if a1 < 0 then -a1 else a1)) : Int × Int) (fun s1 => br (decide ((0 : Int) < s1.2)) (.ok true) (.ok false)) (fun s1 => chk (decide (0 < s1.2)) <| .ok (s1.2, (s1.1 % s1.2)))).bind fun s1 => .ok s1.1
@[irreducible] def m_is_integer (a0 : Dyn) : Res Bool := .ok ((Dyn.isNum a0) && (!(Dyn.isB a0)))
@[irreducible] def m_ratio (a0 : Dyn) (a1 : Dyn) : Res (Int × Int) := (nx (m_is_integer a0)).bind fun y1 => br y1 ((nx (m_is_integer a1)).bind fun y10 => br y10 (opt (Dyn.int? a1) fun n19 => br (decide (n19 < (1 : Int))) (.err .ratio) (opt (Dyn.int? a0) fun n23 => (nx (m_greatest_divisor n23 n19)).bind fun y26 => chk (divOk y26) <| chk (divOk y26) <| .ok ((n23 / y26), (n19 / y26)))) (.err .ratio)) (.err .ratio)
@[irreducible] def m_add (a0 : (Int × Int)) (a1 : (Int × Int)) : Res (Int × Int) := chk (mulOk a0.1 a1.2) <| chk (mulOk a1.1 a0.2) <| chk (mulOk a0.2 a1.2) <| (m_ratio (Dyn.i ((a0.1 * a1.2) + (a1.1 * a0.2))) (Dyn.i (a0.2 * a1.2))).bind fun y22 => .ok y22
@[irreducible] def m_sub (a0 : (Int × Int)) (a1 : (Int × Int)) : Res (Int × Int) := chk (mulOk a0.1 a1.2) <| chk (mulOk a1.1 a0.2) <| chk (mulOk a0.2 a1.2) <| (m_ratio (Dyn.i ((a0.1 * a1.2) - (a1.1 * a0.2))) (Dyn.i (a0.2 * a1.2))).bind fun y22 => .ok y22
@[irreducible] def m_times (a0 : (Int × Int)) (a1 : (Int × Int)) : Res (Int × Int) := chk (mulOk a0.1 a1.1) <| chk (mulOk a0.2 a1.2) <| (m_ratio (Dyn.i (a0.1 * a1.1)) (Dyn.i (a0.2 * a1.2))).bind fun y15 => .ok y15
@[irreducible] def m_over (a0 : (Int × Int)) (a1 : (Int × Int)) : Res (Int × Int) := br (decide (a1.1 = (0 : Int))) (.err .ratio) (br (decide (a1.1 < (0 : Int))) (chk (mulOk (-a0.1) a1.2) <| chk (mulOk (-a0.2) a1.1) <| (m_ratio (Dyn.i ((-a0.1) * a1.2)) (Dyn.i ((-a0.2) * a1.1))).bind fun y23 => .ok y23) (chk (mulOk a0.1 a1.2) <| chk (mulOk a0.2 a1.1) <| (m_ratio (Dyn.i (a0.1 * a1.2)) (Dyn.i (a0.2 * a1.1))).bind fun y45 => .ok y45))
@[irreducible] def m_less (a0 : (Int × Int)) (a1 : (Int × Int)) : Res Bool := chk (mulOk a0.1 a1.2) <| chk (mulOk a1.1 a0.2) <| .ok (decide ((a0.1 * a1.2) < (a1.1 * a0.2)))
@[irreducible] def m_merged (a0 : (PySem.Str × Int × Int × Bool)) (a1 : (PySem.Str × Int × Int × Bool)) : Res (Option (PySem.Str × Int × Int × Bool)) := br (!decide (a0.1 = a1.1)) (.ok none) (br ((((!a0.2.2.2) || (decide ((a0.2.2.1 - a0.2.1) = (1 : Int)))) && ((!a1.2.2.2) || (decide ((a1.2.2.1 - a1.2.1) = (1 : Int))))) && (decide (a0.2.2.1 = a1.2.1))) (.ok (some (a0.1, a0.2.1, a1.2.2.1, false))) (br (((a0.2.2.2 || (decide ((a0.2.2.1 - a0.2.1) = (1 : Int)))) && (a1.2.2.2 || (decide ((a1.2.2.1 - a1.2.1) = (1 : Int))))) && (decide (a0.2.1 = a1.2.2.1))) (.ok (some (a0.1, a1.2.1, a0.2.2.1, true))) (.ok none)))
@[irreducible] def m_fewest (a0 : List (PySem.Str × Int × Int × Bool)) : Res (List (PySem.Str × Int × Int × Bool)) := (forN a0 (([] : List (PySem.Str × Int × Int × Bool))) (fun s15 x23 => (br (!s15.isEmpty) (opt (atI s15 (-(1 : Int))) fun x62 => (m_merged x62 (x23.1, x23.2.1, x23.2.2.1, (x23.2.2.2 && (decide ((1 : Int) < (x23.2.2.1 - x23.2.1)))))).bind fun y64 => .ok (y64)) (.ok ((none : Option (PySem.Str × Int × Int × Bool))))).bind fun s52 => (br (Option.isNone s52) (chk (decide (s15.length < sizeLine)) <| .ok ((s15 ++ [(x23.1, x23.2.1, x23.2.2.1, (x23.2.2.2 && (decide ((1 : Int) < (x23.2.2.1 - x23.2.1)))))]))) (opt s52 fun n84 => opt (ixN s15.length (-(1 : Int))) fun j87 => .ok ((s15.set j87 n84)))).bind fun s72 => .ok (s72))).bind fun s15 => .ok s15
@[irreducible] def m_check_stretches (a0 : List (PySem.Str × Int × Int × Bool)) : Res Unit := chk (decide (a0.length ≤ sizeLine)) <| (compN a0 (fun x6 => .ok (x6.1, x6.2.1, x6.2.2.1))).bind fun y35 => tryM ((m_normal y35).bind fun y45 => .ok y45) (fun e => match e with | .ground => some (.err .route) | _ => some .stk) (fun y45 => br (!y35.isEmpty) ((nx (m_size y45)).bind fun y60 => (nx (m_size y35)).bind fun y68 => br (!decide (y60 = y68)) (.err .route) (.ok ())) (.err .route))
@[irreducible] def m_check_stones (a0 : List (Int × (Int × Int))) (a1 : Int) : Res Unit := (orN (.ok (decide ((a0.length : Int) < (2 : Int)))) (orN (opt (atI a0 (0 : Int)) fun x20 => .ok (!decide (x20.1 = (0 : Int)))) (opt (atI a0 (-(1 : Int))) fun x28 => .ok (!decide (x28.1 = a1))))).bind fun b33 => br b33 (.err .route) (chk (rngOk (1 : Int)) <| chk (rngOk (a0.length : Int)) <| (forN (rng (1 : Int) ((a0.length : Int) - (1 : Int)).toNat) () (fun s38 x40 => opt (atI a0 x40) fun x81 => opt (atI a0 (x40 - (1 : Int))) fun x89 => br (decide (x81.1 ≤ x89.1)) (.err .route) (opt (atI a0 (x40 - (1 : Int))) fun x98 => opt (atI a0 x40) fun x106 => (nx (m_less x98.2 x106.2)).bind fun y111 => br y111 (.ok ()) (.err .route)))).bind fun s38 => .ok ())
@[irreducible] def m_between (a0 : (Int × Int)) (a1 : (Int × Int)) (a2 : (Int × Int)) (a3 : (Int × Int)) (a4 : (Int × Int)) : Res (Int × Int) := (m_sub a3 a2).bind fun y1 => (m_sub a4 a0).bind fun y9 => (m_times y1 y9).bind fun y17 => (m_sub a1 a0).bind fun y25 => (m_over y17 y25).bind fun y33 => (m_add a2 y33).bind fun y41 => .ok y41
@[irreducible] def m_Route_init (a0 : List (PySem.Str × Int × Int × Bool)) (a1 : List (Int × (Int × Int))) : Res M_Route := (m_check_stretches a0).bind fun y1 => (nx (m_fewest a0)).bind fun y9 => chk (decide (a0.length ≤ sizeLine)) <| (compN a0 (fun x31 => .ok (x31.1, x31.2.1, x31.2.2.1))).bind fun y62 => (nx (m_size y62)).bind fun y71 => (m_check_stones a1 y71).bind fun y83 => .ok (y9, y71, a1)
@[irreducible] def m_Route_size (a0 : M_Route) : Res Int := .ok a0.2.1
@[irreducible] def m_Route_cell (a0 : M_Route) (a1 : Int) : Res (PySem.Str × Int) := (orN (.ok (decide (a1 < (0 : Int)))) (.ok (decide (a0.2.1 ≤ a1)))).bind fun b7 => br b7 (.err .off) ((forR a0.1 (a1) (fun s17 x22 => br (decide (s17 < (x22.2.2.1 - x22.2.1))) (br x22.2.2.2 (.ok (.ret (x22.1, ((x22.2.2.1 - (1 : Int)) - s17)))) (.ok (.ret (x22.1, (x22.2.1 + s17))))) (.ok (.nx ((s17 - (x22.2.2.1 - x22.2.1))))))).bind fun cc => ctl cc (fun s17 => .stk) (fun r => .ok r))
@[irreducible] def m_Route_index (a0 : M_Route) (a1 : PySem.Str) (a2 : Int) : Res (Option Int) := (forR a0.1 ((0 : Int)) (fun s8 x13 => br ((decide (x13.1 = a1)) && ((decide (x13.2.1 ≤ a2)) && (decide (a2 < x13.2.2.1)))) (br x13.2.2.2 (.ok (.ret (some (((s8 + x13.2.2.1) - (1 : Int)) - a2)))) (.ok (.ret (some ((s8 + a2) - x13.2.1))))) (.ok (.nx (((s8 + x13.2.2.1) - x13.2.1)))))).bind fun cc => ctl cc (fun s8 => .ok none) (fun r => .ok r)
@[irreducible] def m_Route_ground (a0 : M_Route) : Res (List (PySem.Str × Int × Int)) := chk (decide (a0.1.length ≤ sizeLine)) <| (compN a0.1 (fun x9 => .ok (x9.1, x9.2.1, x9.2.2.1))).bind fun y36 => (m_normal y36).bind fun y44 => .ok y44
@[irreducible] def m_Route_measure (a0 : M_Route) (a1 : Int) : Res (Int × Int) := (orN (.ok (decide (a1 < (0 : Int)))) (.ok (decide (a0.2.1 < a1)))).bind fun b7 => br b7 (.err .off) ((whileN ((a0.2.2.length + 1)) (((1 : Int)) : Int) (fun s10 => opt (atI a0.2.2 s10) fun x20 => br (decide (x20.1 < a1)) (.ok true) (.ok false)) (fun s10 => .ok ((s10 + (1 : Int))))).bind fun s10 => opt (atI a0.2.2 (s10 - (1 : Int))) fun x32 => opt (atI a0.2.2 s10) fun x47 => (m_ratio (Dyn.i x32.1) (Dyn.i (1 : Int))).bind fun y56 => (m_ratio (Dyn.i x47.1) (Dyn.i (1 : Int))).bind fun y64 => (m_ratio (Dyn.i a1) (Dyn.i (1 : Int))).bind fun y72 => (m_between y56 y64 x32.2 x47.2 y72).bind fun y80 => .ok y80)
@[irreducible] def m_Route_place (a0 : M_Route) (a1 : (Int × Int)) : Res (Int × Int) := opt (atI a0.2.2 (0 : Int)) fun x7 => (nx (m_less a1 x7.2)).bind fun y12 => br y12 (.err .off) (opt (atI a0.2.2 (-(1 : Int))) fun x27 => (nx (m_less x27.2 a1)).bind fun y32 => br y32 (.err .off) ((whileN ((a0.2.2.length + 1)) (((1 : Int)) : Int) (fun s41 => opt (atI a0.2.2 s41) fun x51 => (nx (m_less x51.2 a1)).bind fun y56 => br y56 (.ok true) (.ok false)) (fun s41 => .ok ((s41 + (1 : Int))))).bind fun s41 => opt (atI a0.2.2 (s41 - (1 : Int))) fun x71 => opt (atI a0.2.2 s41) fun x86 => (m_ratio (Dyn.i x71.1) (Dyn.i (1 : Int))).bind fun y95 => (m_ratio (Dyn.i x86.1) (Dyn.i (1 : Int))).bind fun y103 => (m_between x71.2 x86.2 y95 y103 a1).bind fun y111 => .ok y111))
@[irreducible] def m_Route_turned (a0 : M_Route) : Res M_Route := chk (decide (a0.1.reverse.length ≤ sizeLine)) <| (compN a0.1.reverse (fun x9 => .ok (x9.1, x9.2.1, x9.2.2.1, (!x9.2.2.2)))).bind fun y36 => opt (atI a0.2.2 (0 : Int)) fun x52 => opt (atI a0.2.2 (-(1 : Int))) fun x63 => (m_add x52.2 x63.2).bind fun y68 => chk (decide (a0.2.2.reverse.length ≤ sizeLine)) <| (compN a0.2.2.reverse (fun x84 => (m_sub y68 x84.2).bind fun y104 => .ok ((a0.2.1 - x84.1), y104))).bind fun y121 => (m_Route_init y36 y121).bind fun y138 => .ok y138
@[irreducible] def m_common (a0 : List (PySem.Str × Int × Int)) (a1 : List (PySem.Str × Int × Int)) : Res (List (PySem.Str × Int × Int)) := (whileN ((a0.length + a1.length + 1)) ((([] : List (PySem.Str × Int × Int)), (0 : Int), (0 : Int)) : List (PySem.Str × Int × Int) × Int × Int) (fun s11 => br (decide (s11.2.1 < (a0.length : Int))) (br (decide (s11.2.2 < (a1.length : Int))) (.ok true) (.ok false)) (.ok false)) (fun s11 => (opt (atI a0 s11.2.1) fun x32 => opt (atI a1 s11.2.2) fun x40 => br (decide (x32.1 = x40.1)) (opt (atI a0 s11.2.1) fun x49 => opt (atI a1 s11.2.2) fun x57 => opt (atI a0 s11.2.1) fun x65 => opt (atI a1 s11.2.2) fun x73 => (br (decide ((if x57.2.1 > x49.2.1 then x57.2.1 else x49.2.1) < (if x73.2.2 < x65.2.2 then x73.2.2 else x65.2.2))) (opt (atI a0 s11.2.1) fun x88 => chk (decide (s11.1.length < sizeLine)) <| .ok ((s11.1 ++ [(x88.1, (if x57.2.1 > x49.2.1 then x57.2.1 else x49.2.1), (if x73.2.2 < x65.2.2 then x73.2.2 else x65.2.2))]))) (.ok (s11.1))).bind fun s78 => .ok (s78)) (.ok (s11.1))).bind fun s21 => (opt (atI a0 s11.2.1) fun x115 => opt (atI a0 s11.2.1) fun x123 => opt (atI a1 s11.2.2) fun x141 => opt (atI a1 s11.2.2) fun x149 => br (leSI (x115.1, x123.2.2) (x141.1, x149.2.2)) (.ok ((s11.2.1 + (1 : Int)), s11.2.2)) (.ok (s11.2.1, (s11.2.2 + (1 : Int))))).bind fun s108 => .ok (s21, s108.1, s108.2))).bind fun s11 => .ok s11.1
@[irreducible] def m_joined_runs (a0 : List (Int × Int)) : Res (List (Int × Int)) := (forN (sortK keyII a0) (([] : List (Int × Int))) (fun s19 x23 => ((andN (.ok (!s19.isEmpty)) (opt (atI s19 (-(1 : Int))) fun x54 => .ok (decide (x54.2 = x23.1)))).bind fun b59 => br b59 (opt (atI s19 (-(1 : Int))) fun x65 => opt (ixN s19.length (-(1 : Int))) fun j81 => .ok ((s19.set j81 (x65.1, x23.2)))) (chk (decide (s19.length < sizeLine)) <| .ok ((s19 ++ [(x23.1, x23.2)])))).bind fun s37 => .ok (s37))).bind fun s19 => .ok s19
@[irreducible] def m_Route_runs (a0 : M_Route) (a1 : List (PySem.Str × Int × Int)) : Res (List (Int × Int)) := (forN a0.1 (([] : List (Int × Int)), (0 : Int)) (fun s18 x29 => (forN a1 (s18.1) (fun s51 x58 => (br ((decide (x58.1 = x29.1)) && (decide ((if x58.2.1 > x29.2.1 then x58.2.1 else x29.2.1) < (if x58.2.2 < x29.2.2.1 then x58.2.2 else x29.2.2.1)))) ((br x29.2.2.2 (chk (decide (s51.length < sizeLine)) <| .ok ((s51 ++ [(((s18.2 + x29.2.2.1) - (if x58.2.2 < x29.2.2.1 then x58.2.2 else x29.2.2.1)), ((s18.2 + x29.2.2.1) - (if x58.2.1 > x29.2.1 then x58.2.1 else x29.2.1)))]))) (chk (decide (s51.length < sizeLine)) <| .ok ((s51 ++ [(((s18.2 + (if x58.2.1 > x29.2.1 then x58.2.1 else x29.2.1)) - x29.2.1), ((s18.2 + (if x58.2.2 < x29.2.2.1 then x58.2.2 else x29.2.2.1)) - x29.2.1))])))).bind fun s81 => .ok (s81)) (.ok (s51))).bind fun s74 => .ok (s74))).bind fun s51 => .ok (s51, ((s18.2 + x29.2.2.1) - x29.2.1)))).bind fun s18 => (m_joined_runs s18.1).bind fun y126 => .ok y126
@[irreducible] def m_cut_stretches (a0 : List (PySem.Str × Int × Int × Bool)) (a1 : Int) (a2 : Int) : Res (List (PySem.Str × Int × Int × Bool)) := (forN a0 (([] : List (PySem.Str × Int × Int × Bool)), (0 : Int)) (fun s15 x23 => (br (decide ((if (0 : Int) > (a1 - s15.2) then (0 : Int) else (a1 - s15.2)) < (if (x23.2.2.1 - x23.2.1) < (a2 - s15.2) then (x23.2.2.1 - x23.2.1) else (a2 - s15.2)))) ((br x23.2.2.2 (chk (decide (s15.1.length < sizeLine)) <| .ok ((s15.1 ++ [(x23.1, (x23.2.2.1 - (if (x23.2.2.1 - x23.2.1) < (a2 - s15.2) then (x23.2.2.1 - x23.2.1) else (a2 - s15.2))), (x23.2.2.1 - (if (0 : Int) > (a1 - s15.2) then (0 : Int) else (a1 - s15.2))), true)]))) (chk (decide (s15.1.length < sizeLine)) <| .ok ((s15.1 ++ [(x23.1, (x23.2.1 + (if (0 : Int) > (a1 - s15.2) then (0 : Int) else (a1 - s15.2))), (x23.2.1 + (if (x23.2.2.1 - x23.2.1) < (a2 - s15.2) then (x23.2.2.1 - x23.2.1) else (a2 - s15.2))), false)])))).bind fun s48 => .ok (s48)) (.ok (s15.1))).bind fun s41 => .ok (s41, ((s15.2 + x23.2.2.1) - x23.2.1)))).bind fun s15 => .ok s15.1
@[irreducible] def m_Route_part (a0 : M_Route) (a1 : Int) (a2 : Int) : Res M_Route := (orN (.ok (decide (a1 < (0 : Int)))) (orN (.ok (decide (a0.2.1 < a2))) (.ok (decide (a2 ≤ a1))))).bind fun b7 => br b7 (.err .off) ((m_Route_measure a0 a1).bind fun y10 => (forN a0.2.2 (([((0 : Int), y10)] : List (Int × (Int × Int)))) (fun s44 x48 => (br ((decide (a1 < x48.1)) && (decide (x48.1 < a2))) (chk (decide (s44.length < sizeLine)) <| .ok ((s44 ++ [((x48.1 - a1), x48.2)]))) (.ok (s44))).bind fun s62 => .ok (s62))).bind fun s44 => (m_Route_measure a0 a2).bind fun y88 => chk (decide (s44.length < sizeLine)) <| (nx (m_cut_stretches a0.1 a1 a2)).bind fun y114 => (m_Route_init y114 (s44 ++ [((a2 - a1), y88)])).bind fun y132 => .ok y132)
@[irreducible] def m_Route_part_ground (a0 : M_Route) (a1 : Int) (a2 : Int) : Res (List (PySem.Str × Int × Int)) := (orN (.ok (decide (a1 < (0 : Int)))) (orN (.ok (decide (a0.2.1 < a2))) (.ok (decide (a2 < a1))))).bind fun b7 => br b7 (.err .off) ((nx (m_cut_stretches a0.1 a1 a2)).bind fun y13 => chk (decide (y13.length ≤ sizeLine)) <| (compN y13 (fun x30 => .ok (x30.1, x30.2.1, x30.2.2.1))).bind fun y57 => (m_normal y57).bind fun y65 => .ok y65)
@[irreducible] def m_Route_joined (a0 : M_Route) (a1 : M_Route) : Res M_Route := opt (atI a0.2.2 (-(1 : Int))) fun x7 => opt (atI a1.2.2 (0 : Int)) fun x18 => (m_sub x7.2 x18.2).bind fun y23 => (forN (sliceL a1.2.2 (some (1 : Int)) none) (a0.2.2) (fun s52 x56 => (m_add x56.2 y23).bind fun y76 => chk (decide (s52.length < sizeLine)) <| .ok ((s52 ++ [((a0.2.1 + x56.1), y76)])))).bind fun s52 => chk (decide (a0.1.length + a1.1.length ≤ sizeLine)) <| (m_Route_init (a0.1 ++ a1.1) s52).bind fun y126 => .ok y126
@[irreducible] def m_Route_moved (a0 : M_Route) (a1 : List (Int × (Int × Int))) : Res M_Route := (m_Route_init a0.1 a1).bind fun y11 => .ok y11
@[irreducible] def m_union (a0 : List (PySem.Str × Int × Int)) (a1 : List (PySem.Str × Int × Int)) : Res (List (PySem.Str × Int × Int)) := chk (decide (a0.length + a1.length ≤ sizeLine)) <| (m_normal (a0 ++ a1)).bind fun y9 => .ok y9
@[irreducible] def m_without (a0 : List (PySem.Str × Int × Int)) (a1 : List (PySem.Str × Int × Int)) : Res (List (PySem.Str × Int × Int)) := (forN a0 (([] : List (PySem.Str × Int × Int)), (0 : Int)) (fun s15 x22 => (whileN ((a1.length + 1)) ((s15.2) : Int) (fun s38 => br (decide (s38 < (a1.length : Int))) (opt (atI a1 s38) fun x46 => opt (atI a1 s38) fun x54 => br (leSI (x46.1, x54.2.2) (x22.1, x22.2.1)) (.ok true) (.ok false)) (.ok false)) (fun s38 => .ok ((s38 + (1 : Int))))).bind fun s38 => (whileN ((a1.length + 1)) ((s15.1, x22.2.1, s38) : List (PySem.Str × Int × Int) × Int × Int) (fun s214 => br (decide (s214.2.2 < (a1.length : Int))) (opt (atI a1 s214.2.2) fun x224 => opt (atI a1 s214.2.2) fun x232 => br (ltSI (x224.1, x232.2.1) (x22.1, x22.2.2)) (.ok true) (.ok false)) (.ok false)) (fun s214 => (opt (atI a1 s214.2.2) fun x267 => br (decide (s214.2.1 < x267.2.1)) (opt (atI a1 s214.2.2) fun x276 => chk (decide (s214.1.length < sizeLine)) <| .ok ((s214.1 ++ [(x22.1, s214.2.1, x276.2.1)]))) (.ok (s214.1))).bind fun s258 => opt (atI a1 s214.2.2) fun x299 => .ok (s258, (if x299.2.2 > s214.2.1 then x299.2.2 else s214.2.1), (s214.2.2 + (1 : Int))))).bind fun s214 => (br (decide (s214.2.1 < x22.2.2)) (chk (decide (s214.1.length < sizeLine)) <| .ok ((s214.1 ++ [(x22.1, s214.2.1, x22.2.2)]))) (.ok (s214.1))).bind fun s326 => .ok (s326, s38))).bind fun s15 => .ok s15.1
end Lw
namespace Lw
open PySem L2 Kb
@[irreducible] def m_law_cell (a0 : List Int) (a1 : Int) : Res Int := br (decide (a1 < (a0.length : Int))) (opt (atI a0 a1) fun x5 => .ok x5) (chk (mulOk (7 : Int) a1) <| .ok ((7 : Int) * a1))
@[irreducible] def m_law_divisor (a0 : Int) (a1 : Int) : Res Int := chk (rngOk (400 : Int)) <| (forR (rng 0 (400 : Int).toNat) ((if a0 < 0 then -a0 else a0), (if a1 < 0 then -a1 else a1)) (fun s2 x5 => br (decide (s2.1 = (0 : Int))) (.ok (.ret s2.2)) (chk (decide (0 < s2.1)) <| .ok (.nx ((s2.2 % s2.1), s2.1))))).bind fun cc => ctl cc (fun s2 => .ok s2.2) (fun r => .ok r)
@[irreducible] def m_law_is_ratio (a0 : (Int × Int)) : Res Bool := br ((!true) || (!decide ((2 : Int) = (2 : Int)))) (.ok false) ((forR ([a0.1, a0.2] : List Int) () (fun s4 x6 => br ((!true) || false) (.ok (.ret false)) (.ok (.nx ())))).bind fun cc => ctl cc (fun s4 => (br (decide ((1 : Int) ≤ a0.2)) ((m_law_divisor a0.1 a0.2).bind fun y33 => .ok (decide (y33 = (1 : Int)))) (.ok false)).bind fun b41 => .ok b41) (fun r => .ok r))
@[irreducible] def m_law_order (a0 : List Int) (a1 : Int) (a2 : Int) : Res (List (PySem.Str × Int)) := chk (rngOk a2) <| (forN (rng 0 a2.toNat) (([] : List (PySem.Str × Int)), ([] : List Int)) (fun s24 x32 => (m_law_cell a0 (a1 + x32)).bind fun y40 => opt (atI ([("a" : PySem.Str), ("b" : PySem.Str), ("c" : PySem.Str)] : List PySem.Str) (y40 % (3 : Int))) fun x62 => chk (rngOk ((1 : Int) + ((y40 / (90 : Int)) % (8 : Int)))) <| chk (decide ((rng 0 ((1 : Int) + ((y40 / (90 : Int)) % (8 : Int))).toNat).length ≤ sizeLine)) <| (compN (rng 0 ((1 : Int) + ((y40 / (90 : Int)) % (8 : Int))).toNat) (fun x66 => .ok (x62, (((y40 / (3 : Int)) % (30 : Int)) + x66)))).bind fun y84 => chk (decide (y84.length ≤ sizeLine)) <| (compF y84 (fun x100 => br (!memB x100 s24.1) (.ok (some x100)) (.ok none))).bind fun y109 => (br (decide (((y40 / (720 : Int)) % (2 : Int)) = (1 : Int))) (.ok (y109.reverse)) (.ok (y109))).bind fun s120 => chk (decide (s24.1.length + s120.length ≤ sizeLine)) <| chk (decide (s24.2.length < sizeLine)) <| .ok ((s24.1 ++ s120), (s24.2 ++ [(s120.length : Int)])))).bind fun s24 => (br (decide (s24.1 = ([] : List (PySem.Str × Int)))) (.ok (([(("a" : PySem.Str), (5 : Int))] : List (PySem.Str × Int)))) (.ok (s24.1))).bind fun s158 => .ok s158
@[irreducible] def m_law_runs (a0 : List (PySem.Str × Int)) : Res (List (List (PySem.Str × Int))) := opt (atI a0 (0 : Int)) fun x4 => (forN (sliceL a0 (some (1 : Int)) none) ([([x4] : List (PySem.Str × Int))]) (fun s36 x41 => opt (ixN s36.length (-(1 : Int))) fun j48 => opt (s36[j48]?) fun x50 => opt (atI x50 (-(1 : Int))) fun x61 => ((andN (opt (atI x50 (-(1 : Int))) fun x105 => .ok (decide (x41.1 = x105.1))) (andN (orN (.ok (decide ((x41.2 - x61.2) = (1 : Int)))) (.ok (decide ((x41.2 - x61.2) = (-(1 : Int)))))) (orN (.ok (decide ((x50.length : Int) = (1 : Int)))) (opt (atI x50 (1 : Int)) fun x113 => opt (atI x50 (0 : Int)) fun x121 => .ok (decide ((x41.2 - x61.2) = (x113.2 - x121.2))))))).bind fun b126 => br b126 (chk (decide (x50.length < sizeLine)) <| .ok ((s36.set j48 (x50 ++ [x41])))) (chk (decide (s36.length < sizeLine)) <| .ok ((s36 ++ [([x41] : List (PySem.Str × Int))])))).bind fun s66 => .ok (s66))).bind fun s36 => .ok s36
@[irreducible] def m_law_stretches (a0 : List (PySem.Str × Int)) : Res (List (PySem.Str × Int × Int × Bool)) := (m_law_runs a0).bind fun y11 => (forN y11 (([] : List (PySem.Str × Int × Int × Bool))) (fun s23 x27 => chk (decide (x27.length ≤ sizeLine)) <| (compN x27 (fun x39 => .ok x39.2)).bind fun y50 => opt (atI x27 (0 : Int)) fun x72 => opt (List.min? y50) fun m77 => opt (List.max? y50) fun m79 => opt (atI y50 (0 : Int)) fun x84 => opt (atI y50 (-(1 : Int))) fun x89 => chk (decide (s23.length < sizeLine)) <| .ok ((s23 ++ [(x72.1, m77, (m79 + (1 : Int)), (decide (x89 < x84)))])))).bind fun s23 => .ok s23
@[irreducible] def m_law_single (a0 : List (PySem.Str × Int)) (a1 : Int) : Res (List (PySem.Str × Int × Int × Bool)) := chk (rngOk (a0.length : Int)) <| (forN (rng 0 (a0.length : Int).toNat) (([] : List (PySem.Str × Int × Int × Bool))) (fun s12 x15 => opt (atI a0 x15) fun x25 => opt (atI a0 x15) fun x33 => opt (atI a0 x15) fun x41 => chk (divOk (x15 + (1 : Int))) <| chk (decide (s12.length < sizeLine)) <| .ok ((s12 ++ [(x25.1, x33.2, (x41.2 + (1 : Int)), (decide (((a1 / (x15 + (1 : Int))) % (2 : Int)) = (1 : Int))))])))).bind fun s12 => .ok s12
@[irreducible] def m_law_low (a0 : (Int × Int)) : Res (Int × Int) := (m_law_divisor a0.1 a0.2).bind fun y7 => chk (divOk y7) <| chk (divOk y7) <| .ok ((a0.1 / y7), (a0.2 / y7))
@[irreducible] def m_law_stones (a0 : Int) (a1 : Int) : Res (List (Int × (Int × Int))) := chk (rngOk a1) <| (forN (rng 0 a1.toNat) (([] : List (Int × (Int × Int))), (0 : Int), ((a0 % (41 : Int)) - (20 : Int))) (fun s12 x15 => (br (decide (s12.2.1 < a1)) (chk (decide (s12.1.length < sizeLine)) <| chk (divOk (x15 + (2 : Int))) <| chk (decide (0 < ((1 : Int) + ((a0 / (300 : Int)) % (9 : Int))))) <| chk (mulOk (3 : Int) x15) <| chk (divOk (((3 : Int) * x15) + (1 : Int))) <| .ok (((s12.2.1 + (1 : Int)) + ((a0 / (x15 + (2 : Int))) % ((1 : Int) + ((a0 / (300 : Int)) % (9 : Int))))), ((s12.2.2 + (1 : Int)) + ((a0 / (((3 : Int) * x15) + (1 : Int))) % (25 : Int))), (s12.1 ++ [(s12.2.1, (s12.2.2, ((1 : Int) + ((a0 / (41 : Int)) % (6 : Int)))))]))) (.ok (s12.2.1, s12.2.2, s12.1))).bind fun s22 => .ok (s22.2.2, s22.1, s22.2.1))).bind fun s12 => chk (decide (s12.1.length ≤ sizeLine)) <| (compN s12.1 (fun x63 => (m_law_low x63.2).bind fun y77 => .ok (x63.1, y77))).bind fun y95 => (m_law_low (s12.2.2, ((1 : Int) + ((a0 / (41 : Int)) % (6 : Int))))).bind fun y115 => chk (decide (y95.length + ([(a1, y115)] : List (Int × (Int × Int))).length ≤ sizeLine)) <| .ok (y95 ++ ([(a1, y115)] : List (Int × (Int × Int))))
@[irreducible] def m_law_measure (a0 : List (Int × (Int × Int))) (a1 : Int) : Res (Int × Int) := chk (rngOk (1 : Int)) <| chk (rngOk (a0.length : Int)) <| (forR (rng (1 : Int) ((a0.length : Int) - (1 : Int)).toNat) () (fun s3 x10 => opt (atI a0 (x10 - (1 : Int))) fun x19 => opt (atI a0 x10) fun x27 => br ((decide (x19.1 ≤ a1)) && (decide (a1 ≤ x27.1))) (opt (atI a0 (x10 - (1 : Int))) fun x36 => opt (atI a0 x10) fun x48 => chk (mulOk x36.2.1 x48.2.2) <| chk (mulOk (x36.2.1 * x48.2.2) (x48.1 - a1)) <| chk (mulOk x48.2.1 x36.2.2) <| chk (mulOk (x48.2.1 * x36.2.2) (a1 - x36.1)) <| chk (mulOk x36.2.2 x48.2.2) <| chk (mulOk (x36.2.2 * x48.2.2) (x48.1 - x36.1)) <| (m_law_low ((((x36.2.1 * x48.2.2) * (x48.1 - a1)) + ((x48.2.1 * x36.2.2) * (a1 - x36.1))), ((x36.2.2 * x48.2.2) * (x48.1 - x36.1)))).bind fun y90 => .ok (.ret y90)) (.ok (.nx ())))).bind fun cc => ctl cc (fun s3 => .stk) (fun r => .ok r)
end Lw
namespace Lw
open PySem L2 Kb
@[irreducible] def m_law_off (a0 : M_Route) (a1 : Int) : Res Bool := tryM ((m_Route_cell a0 a1).bind fun y1 => .ok ()) (fun e => match e with | .off => some (.ok true) | _ => some .stk) (fun _ => .ok false)
@[irreducible] def m_law (a0 : List Int) : Res Bool := (m_law_cell a0 (0 : Int)).bind fun y1 => (m_law_order a0 (3 : Int) ((1 : Int) + (y1 % (10 : Int)))).bind fun y9 => (m_law_cell a0 (1 : Int)).bind fun y17 => (m_law_stones y17 (y9.length : Int)).bind fun y25 => (m_law_stretches y9).bind fun y37 => (m_law_cell a0 (2 : Int)).bind fun y49 => (m_law_single y9 y49).bind fun y57 => (m_Route_init y37 y25).bind fun y115 => (m_Route_init y57 y25).bind fun y130 => br (!decide ((y37, y57, y25) = (y37, y57, y25))) (.ok false) (br (!decide (y115.1 = y37)) (.ok false) (br (!decide (y130.1 = y37)) (.ok false) (br (!decide (y115.2.2 = y25)) (.ok false) (chk (decide (y115.1.length + y130.1.length ≤ sizeLine)) <| (forR (y115.1 ++ y130.1) () (fun s174 x179 => .ok (.nx ()))).bind fun cc => ctl cc (fun s174 => (m_Route_size y115).bind fun y200 => opt (atI y9 (0 : Int)) fun x212 => opt (atI y9 (0 : Int)) fun x220 => (m_Route_index y115 x212.1 x220.2).bind fun y225 => opt y225 fun n233 => (m_Route_size y115).bind fun y237 => br (!decide (y237 = (y9.length : Int))) (.ok false) (chk (rngOk (y9.length : Int)) <| chk (decide ((rng 0 (y9.length : Int).toNat).length ≤ sizeLine)) <| (compN (rng 0 (y9.length : Int).toNat) (fun x248 => (m_Route_cell y115 x248).bind fun y256 => .ok y256)).bind fun y264 => br (!decide (y264 = y9)) (.ok false) ((forR ([("a" : PySem.Str), ("b" : PySem.Str), ("c" : PySem.Str), ("d" : PySem.Str)] : List PySem.Str) () (fun s282 x286 => chk (rngOk (39 : Int)) <| (forR (rng 0 (39 : Int).toNat) () (fun s293 x296 => (m_Route_index y115 x286 x296).bind fun y302 => (br (memB (x286, x296) y9) (opt (findI (x286, x296) y9) fun x333 => br (!decide (y302 = (some x333))) (.ok (.ret false)) (.ok (.nx ()))) (br (!Option.isNone y302) (.ok (.ret false)) (.ok (.nx ())))).bind fun cc => ctl cc (fun (s310 : Unit) => .ok (.nx ())) (fun r => .ok (.ret r)))).bind fun cc => ctl cc (fun s293 => .ok (.nx ())) (fun r => .ok (.ret r)))).bind fun cc => ctl cc (fun s282 => (m_Route_init y37 y25).bind fun y377 => (forN ([(List.map (fun _ => ()) y37), (List.map (fun _ => ()) y25)] : List (List Unit)) () (fun _ x399 => chk (decide (x399.length < sizeLine)) <| .ok ())).bind fun _ => br (!decide (y377.1 = y37)) (.ok false) (br (!decide (y377.2.2 = y25)) (.ok false) ((m_Route_size y377).bind fun y464 => br (!decide (y464 = (y9.length : Int))) (.ok false) (chk (rngOk ((y9.length : Int) + (1 : Int))) <| chk (decide ((rng 0 ((y9.length : Int) + (1 : Int)).toNat).length ≤ sizeLine)) <| (compN (rng 0 ((y9.length : Int) + (1 : Int)).toNat) (fun x475 => (m_Route_measure y377 x475).bind fun y483 => .ok y483)).bind fun y491 => chk (rngOk ((y9.length : Int) + (1 : Int))) <| chk (decide ((rng 0 ((y9.length : Int) + (1 : Int)).toNat).length ≤ sizeLine)) <| (compN (rng 0 ((y9.length : Int) + (1 : Int)).toNat) (fun x502 => (m_law_measure y25 x502).bind fun y513 => .ok y513)).bind fun y521 => br (!decide (y491 = y521)) (.ok false) ((m_Route_ground y115).bind fun y532 => chk (decide (y9.length ≤ sizeLine)) <| (compN y9 (fun x548 => .ok (x548.1, x548.2, (x548.2 + (1 : Int))))).bind fun y574 => (m_normal y574).bind fun y584 => br (!decide (y532 = y584)) (.ok false) ((m_law_off y115 (-(1 : Int))).bind fun y597 => br y597 ((m_law_off y115 (y9.length : Int)).bind fun y606 => .ok y606) (.ok false))))))) (fun r => .ok r)))) (fun r => .ok r)))))
end Lw
namespace Lw
open PySem L2 Kb
def topS (i : Nat) : Stmt := PySem.Challenge.pw_kerbmark_k25_cells_of_a_route_in_one_for.main.body.getD i (.Pass ⟨0, 0, 0, 0⟩)
abbrev s_check_row : Stmt := topS 8
abbrev s_normal : Stmt := topS 9
abbrev s_size : Stmt := topS 10
abbrev s_greatest_divisor : Stmt := topS 13
abbrev s_is_integer : Stmt := topS 14
abbrev s_ratio : Stmt := topS 15
abbrev s_add : Stmt := topS 16
abbrev s_sub : Stmt := topS 17
abbrev s_times : Stmt := topS 18
abbrev s_over : Stmt := topS 19
abbrev s_less : Stmt := topS 20
abbrev s_merged : Stmt := topS 22
abbrev s_fewest : Stmt := topS 23
abbrev s_check_stretches : Stmt := topS 24
abbrev s_check_stones : Stmt := topS 25
abbrev s_between : Stmt := topS 26
abbrev s_Route_init : Stmt := (inClass (topS 27) 0)
abbrev s_Route_size : Stmt := (inClass (topS 27) 1)
abbrev s_Route_cell : Stmt := (inClass (topS 27) 2)
abbrev s_Route_index : Stmt := (inClass (topS 27) 3)
abbrev s_Route_ground : Stmt := (inClass (topS 27) 4)
abbrev s_Route_measure : Stmt := (inClass (topS 27) 5)
abbrev s_law_cell : Stmt := topS 29
abbrev s_law_divisor : Stmt := topS 30
abbrev s_law_order : Stmt := topS 32
abbrev s_law_runs : Stmt := topS 33
abbrev s_law_stretches : Stmt := topS 34
abbrev s_law_single : Stmt := topS 35
abbrev s_law_low : Stmt := topS 37
abbrev s_law_stones : Stmt := topS 36
abbrev s_law_measure : Stmt := topS 38
abbrev s_law_off : Stmt := topS 39
abbrev s_law : Stmt := topS 40
structure Ad where
  ea : Err → Addr
  kerb : Addr
  C_Route : Addr
  check_row : Addr
  check_row_fd : FuncData
  normal : Addr
  normal_fd : FuncData
  size : Addr
  size_fd : FuncData
  greatest_divisor : Addr
  greatest_divisor_fd : FuncData
  is_integer : Addr
  is_integer_fd : FuncData
  ratio : Addr
  ratio_fd : FuncData
  add : Addr
  add_fd : FuncData
  sub : Addr
  sub_fd : FuncData
  times : Addr
  times_fd : FuncData
  over : Addr
  over_fd : FuncData
  less : Addr
  less_fd : FuncData
  merged : Addr
  merged_fd : FuncData
  fewest : Addr
  fewest_fd : FuncData
  check_stretches : Addr
  check_stretches_fd : FuncData
  check_stones : Addr
  check_stones_fd : FuncData
  between : Addr
  between_fd : FuncData
  Route_init : Addr
  Route_init_fd : FuncData
  Route_size : Addr
  Route_size_fd : FuncData
  Route_cell : Addr
  Route_cell_fd : FuncData
  Route_index : Addr
  Route_index_fd : FuncData
  Route_ground : Addr
  Route_ground_fd : FuncData
  Route_measure : Addr
  Route_measure_fd : FuncData
  law_cell : Addr
  law_cell_fd : FuncData
  law_divisor : Addr
  law_divisor_fd : FuncData
  law_order : Addr
  law_order_fd : FuncData
  law_runs : Addr
  law_runs_fd : FuncData
  law_stretches : Addr
  law_stretches_fd : FuncData
  law_single : Addr
  law_single_fd : FuncData
  law_low : Addr
  law_low_fd : FuncData
  law_stones : Addr
  law_stones_fd : FuncData
  law_measure : Addr
  law_measure_fd : FuncData
  law_off : Addr
  law_off_fd : FuncData
  law : Addr
  law_fd : FuncData
@[reducible] def ty_Route (a : Ad) : Ty M_Route := tyN3 a.C_Route "stretches" "_size" "stones" (tyL (tyT4 tyS tyI tyI tyB)) tyI (tyL (tyT2 tyI (tyT2 tyI tyI)))
structure Txt (K : PySem.W.Frag) (mg : Str → Option Value) (a : Ad) : Prop where
  check_row : Df K mg "check_row" s_check_row a.check_row a.check_row_fd ["row"]
  normal : Df K mg "normal" s_normal a.normal a.normal_fd ["rows"]
  size : Df K mg "size" s_size a.size a.size_fd ["ground"]
  greatest_divisor : Df K mg "greatest_divisor" s_greatest_divisor a.greatest_divisor a.greatest_divisor_fd ["a", "b"]
  is_integer : Df K mg "is_integer" s_is_integer a.is_integer a.is_integer_fd ["value"]
  ratio : DfD K mg "ratio" s_ratio a.ratio a.ratio_fd ["n", "d"] 1
  add : Df K mg "add" s_add a.add a.add_fd ["a", "b"]
  sub : Df K mg "sub" s_sub a.sub a.sub_fd ["a", "b"]
  times : Df K mg "times" s_times a.times a.times_fd ["a", "b"]
  over : Df K mg "over" s_over a.over a.over_fd ["a", "b"]
  less : Df K mg "less" s_less a.less a.less_fd ["a", "b"]
  merged : Df K mg "merged" s_merged a.merged a.merged_fd ["last", "stretch"]
  fewest : Df K mg "fewest" s_fewest a.fewest a.fewest_fd ["stretches"]
  check_stretches : Df K mg "check_stretches" s_check_stretches a.check_stretches a.check_stretches_fd ["stretches"]
  check_stones : Df K mg "check_stones" s_check_stones a.check_stones a.check_stones_fd ["stones", "places"]
  between : Df K mg "between" s_between a.between a.between_fd ["low", "high", "x", "y", "at"]
  Route_init : Mt K a.C_Route "__init__" "Route.__init__" s_Route_init a.Route_init a.Route_init_fd ["self", "stretches", "stones"]
  Route_size : Mt K a.C_Route "size" "Route.size" s_Route_size a.Route_size a.Route_size_fd ["self"]
  Route_cell : Mt K a.C_Route "cell" "Route.cell" s_Route_cell a.Route_cell a.Route_cell_fd ["self", "index"]
  Route_index : Mt K a.C_Route "index" "Route.index" s_Route_index a.Route_index a.Route_index_fd ["self", "piece", "k"]
  Route_ground : Mt K a.C_Route "ground" "Route.ground" s_Route_ground a.Route_ground a.Route_ground_fd ["self"]
  Route_measure : Mt K a.C_Route "measure" "Route.measure" s_Route_measure a.Route_measure a.Route_measure_fd ["self", "place"]
  law_cell : Df K mg "_law_cell" s_law_cell a.law_cell a.law_cell_fd ["_law_script", "_law_k"]
  law_divisor : Df K mg "_law_divisor" s_law_divisor a.law_divisor a.law_divisor_fd ["_law_a", "_law_b"]
  law_order : Df K mg "_law_order" s_law_order a.law_order a.law_order_fd ["_law_script", "_law_at", "_law_count"]
  law_runs : Df K mg "_law_runs" s_law_runs a.law_runs a.law_runs_fd ["_law_cells"]
  law_stretches : Df K mg "_law_stretches" s_law_stretches a.law_stretches a.law_stretches_fd ["_law_cells"]
  law_single : Df K mg "_law_single" s_law_single a.law_single a.law_single_fd ["_law_cells", "_law_cell_here"]
  law_low : Df K mg "_law_low" s_law_low a.law_low a.law_low_fd ["_law_value"]
  law_stones : Df K mg "_law_stones" s_law_stones a.law_stones a.law_stones_fd ["_law_cell_here", "_law_places"]
  law_measure : Df K mg "_law_measure" s_law_measure a.law_measure a.law_measure_fd ["_law_stones_here", "_law_place"]
  law_off : Df K mg "_law_off" s_law_off a.law_off a.law_off_fd ["_law_route", "_law_index"]
  law : Df K mg "law" s_law a.law a.law_fd ["_law_script"]
  k_Route : ClsT K mg "Route" a.C_Route a.Route_init
  na_Route__size : NoAttr K a.C_Route "_size"
  na_Route_stones : NoAttr K a.C_Route "stones"
  na_Route_stretches : NoAttr K a.C_Route "stretches"
  al_size_ground : mg "size_ground" = some (.ref a.size)
  e_ratio : ErrC K mg "InvalidRatio" (a.ea .ratio) [.type "ValueError", .type "Exception", .type "BaseException", .type "object"]
  e_ground : ErrC K mg "InvalidGround" (a.ea .ground) [.type "ValueError", .type "Exception", .type "BaseException", .type "object"]
  e_route : ErrC K mg "InvalidRoute" (a.ea .route) [.type "ValueError", .type "Exception", .type "BaseException", .type "object"]
  e_off : ErrC K mg "OffRoute" (a.ea .off) [.type "ValueError", .type "Exception", .type "BaseException", .type "object"]
  exm_ground_ground : PySem.W.exmOne K (.ref (a.ea .ground)) (.ref (a.ea .ground)) = some true
  exm_off_off : PySem.W.exmOne K (.ref (a.ea .off)) (.ref (a.ea .off)) = some true
  is_off_kerb : PySem.W.kitOne K (.ref (a.ea .off)) (.ref a.kerb) = some true
  kerb_g : mg "KerbError" = some (.ref a.kerb)
  b_abs : mg "abs" = none
  b_bool : mg "bool" = none
  b_int : mg "int" = none
  b_isinstance : mg "isinstance" = none
  b_len : mg "len" = none
  b_list : mg "list" = none
  b_max : mg "max" = none
  b_min : mg "min" = none
  b_range : mg "range" = none
  b_reversed : mg "reversed" = none
  b_sorted : mg "sorted" = none
  b_sum : mg "sum" = none
def sp_check_row (K : PySem.W.Frag) (a : Ad) : Sp := fun vs H Q E => ∃ (c : Cl) (w0 : V) (a0 : (PySem.Str × Int × Int)), vs = [w0] ∧ Wf c H ∧ (tyT3 tyS tyI tyI).r c H w0 a0 ∧ Kont (fun y c' H' => ∀ v, tyU.r c' H' v y → Q v H') (fun e _ H' => E (.ref (a.ea e)) none H') [] c H (m_check_row a0)
theorem ok_check_row {P : Program} {w : World} {K : PySem.W.Frag} {mg : Str → Option Value} {base : Heap} {a : Ad} (T : Txt K mg a) : FnOk P w K mg base (L2N.CX P w) 1 a.check_row a.check_row_fd ["row"] (sp_check_row K a) := by
  have sc : FnScope ["row", "piece", "begin", "end"] ["row"] (defScope s_check_row) := ⟨rfl, rfl, rfl, by decide +kernel, rfl, by decide +kernel, by decide +kernel⟩
  refine okN T.check_row.F sc (fun vs H Q E h => ?_) (fun cdv A outer s H0 vs Q E hr h => ?_)
  · obtain ⟨_, _, _, rfl, _⟩ := h
    rfl
  · obtain ⟨c0, w0, a0, rfl, wf0, h0, k⟩ := h
    refine ⟨_, (pss_cons (ps_asg (pv 0) (pg_tup (n := 3) (by rfl) (pgs_cons (pg_name (i := 1) sc.nd rfl (Or.inl rfl)) (pgs_cons (pg_name (i := 2) sc.nd rfl (Or.inl rfl)) (pgs_cons (pg_name (i := 3) sc.nd rfl (Or.inl rfl)) pgs_nil))))) (pss_one (ps_if (PW.pt (pw_or (pt_cmpR op_lt (pv 2) pe_int (by first | exact nomark _ | rfl)) (pw_or1 (pt_cmpR op_ge (pv 2) (pv 3) (by first | exact nomark _ | rfl))))) (pss_one (L2N.ps_raise rfl (L2N.takes_of rfl rfl rfl rfl) (pmkN_own1 PySem.F.excBase_ValueError T.e_ground.ex T.e_ground.g T.e_ground.kp T.e_ground.raises (by rfl) (pv 1)))) pss_nil))), ?_⟩
    have g0 : Step [] c0 H0 c0 H0 := Step.refl wf0
    unfold m_check_row at k
    refine seq_u ?_
    refine asg_u ?_
    refine Pv.go (pv_v rfl) ?_
    obtain ⟨ad1, u2, u3, u4, e9, rd8, h5, h6, h7⟩ := open3 h0
    subst e9
    refine gtup_u rd8 rfl ?_
    obtain ⟨h5, h5s⟩ := h5
    subst h5
    refine gcons_u ?_
    refine gname_u ?_
    have h6 : u3 = (V.int a0.2.1) := h6
    subst h6
    refine gcons_u ?_
    refine gname_u ?_
    have h7 : u4 = (V.int a0.2.2) := h7
    subst h7
    refine gcons_u ?_
    refine gname_u ?_
    refine gnil_u ?_
    refine nx_go ?_
    refine PvT.ifS (b := ((decide (a0.2.1 < (0 : Int))) || (decide (a0.2.2 ≤ a0.2.1)))) ?_ (fun b10 => ?_) (fun b10 => ?_)
    · exact (show PvT _ _ _ ((decide (a0.2.1 < (0 : Int))) || (decide (a0.2.2 ≤ a0.2.1))) from (pt_or (pt_t (pv_2 (pv_v rfl) pv_c rv_i)) (fun _ => (pt_t (pv_2 (pv_v rfl) (pv_v rfl) rv_i)))))
    · have k := k.brT b10
      refine (pv_v rfl) _ ?_
      exact k.fail g0
    · rw [brF_eq b10] at k
      refine next_u ?_
      refine nx_go ?_
      exact (k.done g0) _ rfl
def sp_normal (K : PySem.W.Frag) (a : Ad) : Sp := fun vs H Q E => ∃ (c : Cl) (w0 : V) (a0 : List (PySem.Str × Int × Int)), vs = [w0] ∧ Wf c H ∧ rP (tyT3 tyS tyI tyI) c H w0 a0 ∧ Kont (fun y c' H' => ∀ v, rO (tyT3 tyS tyI tyI) H c' H' v y → Q v H') (fun e _ H' => E (.ref (a.ea e)) none H') [] c H (m_normal a0)
theorem ok_normal {P : Program} {w : World} {K : PySem.W.Frag} {mg : Str → Option Value} {base : Heap} {a : Ad} (T : Txt K mg a) (G_check_row : FnOk P w K mg base (L2N.CX P w) 1 a.check_row a.check_row_fd ["row"] (sp_check_row K a)) : FnOk P w K mg base (L2N.CX P w) 2 a.normal a.normal_fd ["rows"] (sp_normal K a) := by
  have sc : FnScope ["rows", "row", "ground", "piece", "begin", "end"] ["rows"] (defScope s_normal) := ⟨rfl, rfl, rfl, by decide +kernel, rfl, by decide +kernel, by decide +kernel⟩
  refine okN T.normal.F sc (fun vs H Q E h => ?_) (fun cdv A outer s H0 vs Q E hr h => ?_)
  · obtain ⟨_, _, _, rfl, _⟩ := h
    rfl
  · obtain ⟨c0, w0, a0, rfl, wf0, h0, k⟩ := h
    refine ⟨_, (pss_cons (ps_for (passes_of rfl) rfl (pi_list (pv 0)) (pg_name (i := 1) sc.nd rfl (Or.inl rfl)) (pss_one (ps_expr (pe_call G_check_row hr (by rfl) T.check_row.g T.check_row.F.kp T.check_row.b .nil (L2N.passes_call (L2N.takes_of rfl rfl rfl rfl) (fun _ _ _ _ h => h)) (pa_cons (pv 1) pa_nil))))) (pss_cons (ps_set (i := 2) sc.nd rfl (Or.inl rfl) (pe_lst pa_nil)) (pss_cons (ps_for (passes_of rfl) rfl (pi_list (pe_callB cr_sortT (by rfl) T.b_sorted (by decide +kernel) (pa_cons (pv 0) pa_nil))) (pg_tup (n := 3) (by rfl) (pgs_cons (pg_name (i := 3) sc.nd rfl (Or.inl rfl)) (pgs_cons (pg_name (i := 4) sc.nd rfl (Or.inl rfl)) (pgs_cons (pg_name (i := 5) sc.nd rfl (Or.inl rfl)) pgs_nil)))) (pss_one (ps_if (PW.pt (pw_and (pt_truth (pv 2) (by intro _; rfl)) (pw_and (pt_cmpR op_eq (pe_ix ix_tup (pe_ix ix_list (pv 2) (pe_un un_neg pe_int) (fun _ _ => rfl)) pe_int (fun _ _ => rfl)) (pv 3) (by first | exact nomark _ | rfl)) (pw_and1 (pt_cmpR op_le (pv 4) (pe_ix ix_tup (pe_ix ix_list (pv 2) (pe_un un_neg pe_int) (fun _ _ => rfl)) pe_int (fun _ _ => rfl)) (by first | exact nomark _ | rfl)))))) (pss_one (ps_asg (pe_tup (pa_cons (pv 3) (pa_cons (pe_ix ix_tup (pe_ix ix_list (pv 2) (pe_un un_neg pe_int) (fun _ _ => rfl)) pe_int (fun _ _ => rfl)) (pa_cons (pe_callB (call_max2 rfl) (by rfl) T.b_max (by decide +kernel) (pa_cons (pv 5) (pa_cons (pe_ix ix_tup (pe_ix ix_list (pv 2) (pe_un un_neg pe_int) (fun _ _ => rfl)) pe_int (fun _ _ => rfl)) pa_nil))) pa_nil)))) (pg_sub (pv 2) (pe_un un_neg pe_int) set_list))) (pss_one (ps_expr (pe_bm PySem.F.plainAttrs_list PySem.F.slot_list_append PySem.F.type_list_append mt_append (pv 2) (pa_cons (pe_tup (pa_cons (pv 3) (pa_cons (pv 4) (pa_cons (pv 5) pa_nil)))) pa_nil))))))) (pss_one (ps_ret (pv 2)))))), ?_⟩
    have g0 : Step [] c0 H0 c0 H0 := Step.refl wf0
    unfold m_normal at k
    refine seq_u ?_
    refine for_u ?_
    refine ilist_u ?_
    refine Pv.go (pv_v rfl) ?_
    obtain ⟨ad1, us2, e4, h3⟩ := rB_open h0.b
    subst e4
    refine ilist_e ((h3.at g0).rd) ?_
    refine for_n (A := (tyT3 tyS tyI tyI)) (a := ad1) (us := us2) (s0 := (() : Unit)) k (fun (s5 : Unit) (c : Cl) (H : Hp) (σ : L2.St) => ∃ (y6 : Option V), σ = [some (V.ref ad1), y6, none, none, none, none] ∧ Step [] c0 H0 c H) ⟨_, rfl, g0⟩ ?_ ?_ ?_
    · exact fun s c H σ ⟨y6, _, g⟩ => ⟨(h3.at g).rd, (h3.at g).rs⟩
    · intro s5 x7 v8 c10 H11 σ N i h9 k
      obtain ⟨y6, rfl, g12⟩ := i
      refine gname_u ?_
      refine drop_u ?_
      refine call_u ?_
      refine PvA.go (pa_c (pv_v rfl) pa_n) ?_
      refine ⟨c10, _, x7, rfl, g12.wf, h9, ?_⟩
      refine Kont.call k g12 (fun _ z => by cases z) (fun y13 e14 k c15 H16 st17 g18 v19 r20 => ?_) (fun e e14 c15 H16 st17 g18 pe => ?_)
      rotate_left
      · exact pe
      have r20 : v19 = V.non := r20
      subst r20
      have h9 := lift h9 st17
      refine nx_go ?_
      exact (k.done g18) _ ⟨_, rfl, g18⟩
    · intro s5 c21 H22 σ i k
      obtain ⟨y6, rfl, g23⟩ := i
      refine nx_go ?_
      refine seq_u ?_
      refine asg_u ?_
      refine lst_u ?_
      refine PvA.go pa_n ?_
      refine lst_end (Nat.le_of_ble_eq_true rfl) g23.wf fun p24 c25 H26 st27 cp28 ob29 np30 => ?_
      have w32 := g23.fresh np30
      have g33 := g23.tr0 st27
      have o31 : Own (tyT3 tyS tyI tyI) H0 c25 H26 p24 [] ([] : List (PySem.Str × Int × Int)) := ⟨cp28, ob29, trivial, w32⟩
      refine gname_u ?_
      refine nx_go ?_
      refine seq_u ?_
      refine for_u ?_
      refine ilist_u ?_
      refine cb_u ?_
      refine PvA.go (pa_c (pv_v rfl) pa_n) ?_
      refine sorted_end (H0 := H0) sk_SII (g33.pl0 h0).b g33.wf (fun _ n => g33.fresh n) fun p34 us35 c36 H37 o39_n st38 o39 => ?_
      have n40 : p24 ≠ p34 := ne_of_none o31.obj o39_n
      have g41 := g33.tr0 st38
      have o31 := o31.step0 st38
      refine ilist_e ((.inl (.inl o39.obj))) ?_
      refine for_n (A := (tyT3 tyS tyI tyI)) (a := p34) (us := us35) (s0 := ((([] : List (PySem.Str × Int × Int))) : List (PySem.Str × Int × Int))) k (fun (s42 : List (PySem.Str × Int × Int)) (c : Cl) (H : Hp) (σ : L2.St) => ∃ (us43 : List V) (y44 : Option V) (y45 : Option V) (y46 : Option V), σ = [some (V.ref ad1), y6, some (V.ref p24), y44, y45, y46] ∧ Step [] c0 H0 c H ∧ Own (tyT3 tyS tyI tyI) H0 c H p24 us43 s42 ∧ Own (tyT3 tyS tyI tyI) H0 c H p34 us35 (sortK keySII a0)) ⟨_, _, _, _, rfl, g41, o31, o39⟩ ?_ ?_ ?_
      · exact fun s c H σ ⟨us43, y44, y45, y46, _, g, _, hit⟩ => ⟨.inl (.inl hit.obj), hit.rs⟩
      · intro s42 x47 v48 c50 H51 σ N i h49 k
        obtain ⟨us43, y44, y45, y46, rfl, g52, o53, o39⟩ := i
        obtain ⟨ad54, u55, u56, u57, e62, rd61, h58, h59, h60⟩ := open3 h49
        subst e62
        refine gtup_u rd61 rfl ?_
        obtain ⟨h58, h58s⟩ := h58
        subst h58
        refine gcons_u ?_
        refine gname_u ?_
        have h59 : u56 = (V.int x47.2.1) := h59
        subst h59
        refine gcons_u ?_
        refine gname_u ?_
        have h60 : u57 = (V.int x47.2.2) := h60
        subst h60
        refine gcons_u ?_
        refine gname_u ?_
        refine gnil_u ?_
        refine if_cut k (fun (s63 : List (PySem.Str × Int × Int)) (c : Cl) (H : Hp) (σ : L2.St) => ∃ (us64 : List V), σ = [some (V.ref ad1), y6, some (V.ref p24), some (V.str x47.1), some (V.int x47.2.1), some (V.int x47.2.2)] ∧ Step [] c0 H0 c H ∧ Own (tyT3 tyS tyI tyI) H0 c H p24 us64 s63 ∧ Own (tyT3 tyS tyI tyI) H0 c H p34 us35 (sortK keySII a0)) ?_ ?_
        rotate_left
        · intro k
          obtain ⟨b101, e102, k⟩ := k.bindP (ne_andN ne_ok (ne_andN (ne_opt fun _ => ne_ok) (ne_opt fun _ => ne_ok)))
          refine PvT.ifS (b := b101) ?_ (fun b103 => ?_) (fun b103 => ?_)
          · exact (show PvT _ _ _ b101 from (pt_andN e102 (fun _ h => (by have h := h; exact PvT.is (pt_list o53.b (pv_v rfl)) (Res.ok.inj h))) (fun _ h => (pt_andN h (fun _ h => (by have h := h; obtain ⟨x88, e89, h⟩ := opt_inv h; obtain ⟨u85, h86, q87⟩ := rv_ixB o53.b e89; obtain ⟨u90, h91, q92⟩ := ix3_0 h86; obtain ⟨h91, h91s⟩ := h91; subst h91; exact PvT.is (pt_t (pv_2 (pv_2 (pv_2 (pv_v rfl) (pv_neg pv_c) (q87)) pv_c (q92)) (pv_v rfl) rv_eqs)) (Res.ok.inj h))) (fun _ h => (by have h := h; obtain ⟨x96, e97, h⟩ := opt_inv h; obtain ⟨u93, h94, q95⟩ := rv_ixB o53.b e97; obtain ⟨u98, h99, q100⟩ := ix3_2 h94; have h99 : u98 = (V.int x96.2.2) := h99; subst h99; exact PvT.is (pt_t (pv_2 (pv_v rfl) (pv_2 (pv_2 (pv_v rfl) (pv_neg pv_c) (q95)) pv_c (q100)) rv_i)) (Res.ok.inj h)))))))
          · have k := k.brT b103
            refine asg_u ?_
            refine tup_u ?_
            obtain ⟨x107, e108, k⟩ := k.opt
            obtain ⟨u104, h105, q106⟩ := rv_ixB o53.b e108
            obtain ⟨u109, h110, q111⟩ := ix3_1 h105
            have h110 : u109 = (V.int x107.2.1) := h110
            subst h110
            obtain ⟨x115, e116, k⟩ := k.opt
            obtain ⟨u112, h113, q114⟩ := rv_ixB o53.b e116
            obtain ⟨u117, h118, q119⟩ := ix3_2 h113
            have h118 : u117 = (V.int x115.2.2) := h118
            subst h118
            refine PvA.go (pa_c (pv_v rfl) (pa_c (pv_2 (pv_2 (pv_v rfl) (pv_neg pv_c) (q106)) pv_c (q111)) (pa_c (pv_cb (pa_c (pv_v rfl) (pa_c (pv_2 (pv_2 (pv_v rfl) (pv_neg pv_c) (q114)) pv_c (q119)) pa_n)) rc_max) pa_n))) ?_
            refine tup_end (Nat.le_of_ble_eq_true rfl) g52.wf fun p120 c121 H122 st123 cp124 rd125 np126 => ?_
            have n128 : p24 ≠ p120 := ne_of_none o53.obj np126
            have n129 : p34 ≠ p120 := ne_of_none o39.obj np126
            have g130 := g52.tr0 st123
            have o53 := o53.step0 st123
            have o39 := o39.step0 st123
            have h127 : (tyT3 tyS tyI tyI).r c121 H122 (V.ref p120) (x47.1, x107.2.1, (if x115.2.2 > x47.2.2 then x115.2.2 else x47.2.2)) := ⟨p120, _, _, _, rfl, cp124, rd125, ⟨rfl, h58s⟩, rfl, rfl⟩
            refine gsub_u ?_
            refine Pv.go (pv_v rfl) ?_
            refine Pv.go (pv_neg pv_c) ?_
            obtain ⟨j131, e132, k⟩ := k.opt
            refine set_end o53 g130.wf h127 e132 fun H133 st134 o135 => ?_
            have g136 := g130.tr1 st134 (.inr o135.new)
            have o39 := o39.step1 st134 (Ne.symm n40)
            exact k.done g136 _ ⟨_, rfl, g136, o135, o39⟩
          · rw [brF_eq b103] at k
            refine drop_u ?_
            refine bm_u ?_
            refine Pv.go (pv_v rfl) ?_
            refine ⟨ty_list (.inl o53.obj), ?_⟩
            refine cons_u ?_
            refine tup_u ?_
            refine PvA.go (pa_c (pv_v rfl) (pa_c (pv_v rfl) (pa_c (pv_v rfl) pa_n))) ?_
            refine tup_end (Nat.le_of_ble_eq_true rfl) g52.wf fun p137 c138 H139 st140 cp141 rd142 np143 => ?_
            have n145 : p24 ≠ p137 := ne_of_none o53.obj np143
            have n146 : p34 ≠ p137 := ne_of_none o39.obj np143
            have g147 := g52.tr0 st140
            have o53 := o53.step0 st140
            have o39 := o39.step0 st140
            have h144 : (tyT3 tyS tyI tyI).r c138 H139 (V.ref p137) (x47.1, x47.2.1, x47.2.2) := ⟨p137, _, _, _, rfl, cp141, rd142, ⟨rfl, h58s⟩, rfl, rfl⟩
            refine nil_u ?_
            obtain ⟨e148, k⟩ := k.chk
            refine append_end o53 g147.wf h144 (of_decide_eq_true e148) fun H149 st150 o151 => ?_
            have g152 := g147.tr1 st150 (.inr o151.new)
            have o39 := o39.step1 st150 (Ne.symm n40)
            exact k.done g152 _ ⟨_, rfl, g152, o151, o39⟩
        · intro s63 c65 H66 σ i k
          obtain ⟨us64, rfl, g67, o68, o39⟩ := i
          refine nx_go ?_
          exact (k.done g67) _ ⟨_, _, _, _, rfl, g67, o68, o39⟩
      · intro s42 c153 H154 σ i k
        obtain ⟨us43, y44, y45, y46, rfl, g155, o156, o39⟩ := i
        refine nx_go ?_
        refine ret_u ?_
        refine Pv.go (pv_v rfl) ?_
        exact (k.done g155) _ ⟨_, _, rfl, o156⟩
def sp_size (K : PySem.W.Frag) (a : Ad) : Sp := fun vs H Q E => ∃ (c : Cl) (w0 : V) (a0 : List (PySem.Str × Int × Int)), vs = [w0] ∧ Wf c H ∧ rP (tyT3 tyS tyI tyI) c H w0 a0 ∧ Kont (fun y c' H' => ∀ v, tyI.r c' H' v y → Q v H') (fun _ _ _ => False) [] c H (m_size a0)
theorem ok_size {P : Program} {w : World} {K : PySem.W.Frag} {mg : Str → Option Value} {base : Heap} {a : Ad} (T : Txt K mg a) : FnOk P w K mg base CX0 1 a.size a.size_fd ["ground"] (sp_size K a) := by
  have sc : FnScope ["ground", "piece", "begin", "end"] ["ground"] (defScope s_size) := ⟨rfl, rfl, rfl, by decide +kernel, rfl, by decide +kernel, by decide +kernel⟩
  refine T.size.F.ok sc (fun vs H Q E h => ?_) (fun cdv A outer s H0 vs Q E hr h => ?_)
  · obtain ⟨_, _, _, rfl, _⟩ := h
    rfl
  · obtain ⟨c0, w0, a0, rfl, wf0, h0, k⟩ := h
    refine ⟨_, (pss_one (ps_ret (pe_callB (cr_sum (by rfl)) (by rfl) T.b_sum (by decide +kernel) (pa_cons (pe_lc (by rfl) sc.nd (pi_list (pv 0)) (blkOk_by (own := [("piece", 1), ("begin", 2), ("end", 3)]) (N := ["ground", "piece", "begin", "end"]) (sc := defScope s_size) (by decide +kernel)) (fun _ _ _ _ _ => (pg_tupK (K := K) (n := 3) (by rfl) (by rfl) (pgs_cons (pg_name (i := 1) sc.nd rfl (Or.inl rfl)) (pgs_cons (pg_name (i := 2) sc.nd rfl (Or.inl rfl)) (pgs_cons (pg_name (i := 3) sc.nd rfl (Or.inl rfl)) pgs_nil))))) (fun _ _ _ _ _ => pts_nil) (fun _ _ _ _ _ => (pe_op op_sub (pv 3) (pv 2)))) pa_nil)))), ?_⟩
    have g0 : Step [] c0 H0 c0 H0 := Step.refl wf0
    unfold m_size at k
    refine ret_u ?_
    refine cb_u ?_
    refine cons_u ?_
    refine lc_u ?_
    refine ilist_u ?_
    refine Pv.go (pv_v rfl) ?_
    obtain ⟨ad1, us2, e4, h3⟩ := rB_open h0.b
    subst e4
    refine ilist_e ((h3.at g0).rd) ?_
    obtain ⟨e5, k⟩ := k.chk
    refine comp_pB (A := (tyT3 tyS tyI tyI)) (B := tyI) (xs := a0) k g0 e5 (fun ci Hi st => pit_l (h3.at (g0.tr0 st)).rd (h3.at (g0.tr0 st)).rs) ?_ ?_
    · intro x6 v7 c9 H10 Qe Qn st11 gi_ h8 k
      have h13 := gi_.pl0 h0
      have h14 := h3.at gi_
      have g12 : Step [] c9 H10 c9 H10 := Step.refl gi_.wf
      obtain ⟨ad15, u16, u17, u18, e23, rd22, h19, h20, h21⟩ := open3 h8
      subst e23
      refine gtup_u rd22 rfl ?_
      obtain ⟨h19, h19s⟩ := h19
      subst h19
      refine gcons_u ?_
      refine gname_u ?_
      have h20 : u17 = (V.int x6.2.1) := h20
      subst h20
      refine gcons_u ?_
      refine gname_u ?_
      have h21 : u18 = (V.int x6.2.2) := h21
      subst h21
      refine gcons_u ?_
      refine gname_u ?_
      refine gnil_u ?_
      refine ⟨rfl, yes_u ?_⟩
      refine Pv.go (pv_2 (pv_v rfl) (pv_v rfl) rv_i) ?_
      exact (k.done g12) _ rfl
    intro y24 p25 us26 c27 H28 o30_n st29 o30 k
    have g31 := g0.tr0 st29
    refine nil_u ?_
    refine sum_end o30.b ?_
    exact (k.done g31) _ rfl
def sp_greatest_divisor (K : PySem.W.Frag) (a : Ad) : Sp := fun vs H Q E => ∃ (c : Cl) (w0 : V) (a0 : Int) (w1 : V) (a1 : Int), vs = [w0, w1] ∧ Wf c H ∧ tyI.r c H w0 a0 ∧ tyI.r c H w1 a1 ∧ Kont (fun y c' H' => ∀ v, tyI.r c' H' v y → Q v H') (fun _ _ _ => False) [] c H (m_greatest_divisor a0 a1)
theorem ok_greatest_divisor {P : Program} {w : World} {K : PySem.W.Frag} {mg : Str → Option Value} {base : Heap} {a : Ad} (T : Txt K mg a) : FnOk P w K mg base CX0 1 a.greatest_divisor a.greatest_divisor_fd ["a", "b"] (sp_greatest_divisor K a) := by
  have sc : FnScope ["a", "b"] ["a", "b"] (defScope s_greatest_divisor) := ⟨rfl, rfl, rfl, by decide +kernel, rfl, by decide +kernel, by decide +kernel⟩
  refine T.greatest_divisor.F.ok sc (fun vs H Q E h => ?_) (fun cdv A outer s H0 vs Q E hr h => ?_)
  · obtain ⟨_, _, _, _, _, rfl, _⟩ := h
    rfl
  · obtain ⟨c0, w0, a0, w1, a1, rfl, wf0, h0, h1, k⟩ := h
    refine ⟨_, (pss_cons (ps_set (i := 0) sc.nd rfl (Or.inl rfl) (pe_callB call_abs (by rfl) T.b_abs (by decide +kernel) (pa_cons (pv 0) pa_nil))) (pss_cons (ps_set (i := 1) sc.nd rfl (Or.inl rfl) (pe_callB call_abs (by rfl) T.b_abs (by decide +kernel) (pa_cons (pv 1) pa_nil))) (pss_cons (ps_while PassesOwn.never (pt_cmpR op_gt (pv 1) pe_int (by first | exact nomark _ | rfl)) (pss_one (ps_par (i := 0) (j := 1) (by rfl) sc.nd rfl rfl (by decide) rfl rfl (pa_cons (pv 1) (pa_cons (pe_op op_mod (pv 0) (pv 1)) pa_nil)) (by rfl)))) (pss_one (ps_ret (pv 0)))))), ?_⟩
    have h0 : w0 = (V.int a0) := h0
    subst h0
    have h1 : w1 = (V.int a1) := h1
    subst h1
    have g0 : Step [] c0 H0 c0 H0 := Step.refl wf0
    unfold m_greatest_divisor at k
    refine seq_u ?_
    refine asg_u ?_
    refine Pv.go (pv_cb (pa_c (pv_v rfl) pa_n) rc_abs) ?_
    refine gname_u ?_
    refine nx_go ?_
    refine seq_u ?_
    refine asg_u ?_
    refine Pv.go (pv_cb (pa_c (pv_v rfl) pa_n) rc_abs) ?_
    refine gname_u ?_
    refine nx_go ?_
    refine seq_u ?_
    refine while_m (s0 := (((if a0 < 0 then -a0 else a0), (if a1 < 0 then -a1 else a1)) : Int × Int)) k (fun (s1 : Int × Int) (c : Cl) (H : Hp) (σ : L2.St) => σ = [some (V.int s1.1), some (V.int s1.2)] ∧ Step [] c0 H0 c H) ⟨rfl, g0⟩ ?_
    intro n s1 c2 H3 σ M i hM k
    obtain ⟨rfl, g4⟩ := i
    have hM4 := hM
    have k := k.turn
    refine PvT.go (pt_t (pv_2 (pv_v rfl) pv_c rv_i)) ?_
    refine ite_b (b := (decide ((0 : Int) < s1.2))) (fun b5 => ?_) (fun b5 => ?_)
    · have k := k.brT b5
      have k := ((k.done g4).brT rfl).turn
      refine ⟨_, fun _ _ q => q, ?_⟩
      refine par_u ?_
      obtain ⟨e6, k⟩ := k.chk
      refine PvA.go (pa_c (pv_v rfl) (pa_c (pv_2 (pv_v rfl) (pv_v rfl) (rv_mod e6)) pa_n)) ?_
      refine par_e ?_
      refine nx_go ?_
      exact hM4 _ _ _ _ ⟨rfl, g4⟩ (k.done g4)
    · rw [brF_eq b5] at k
      have k := (k.done g4).brF rfl
      refine nx_go ?_
      refine ret_u ?_
      refine Pv.go (pv_v rfl) ?_
      exact (k.done g4) _ rfl
def sp_is_integer (K : PySem.W.Frag) (a : Ad) : Sp := fun vs H Q E => ∃ (c : Cl) (w0 : V) (a0 : Dyn), vs = [w0] ∧ Wf c H ∧ rD c H w0 a0 ∧ Kont (fun y c' H' => ∀ v, tyB.r c' H' v y → Q v H') (fun _ _ _ => False) [] c H (m_is_integer a0)
theorem ok_is_integer {P : Program} {w : World} {K : PySem.W.Frag} {mg : Str → Option Value} {base : Heap} {a : Ad} (T : Txt K mg a) : FnOk P w K mg base CX0 1 a.is_integer a.is_integer_fd ["value"] (sp_is_integer K a) := by
  have sc : FnScope ["value"] ["value"] (defScope s_is_integer) := ⟨rfl, rfl, rfl, by decide +kernel, rfl, by decide +kernel, by decide +kernel⟩
  refine T.is_integer.F.ok sc (fun vs H Q E h => ?_) (fun cdv A outer s H0 vs Q E hr h => ?_)
  · obtain ⟨_, _, _, rfl, _⟩ := h
    rfl
  · obtain ⟨c0, w0, a0, rfl, wf0, h0, k⟩ := h
    refine ⟨_, (pss_one (ps_ret (pe_and (pe_callB call_isi (by rfl) T.b_isinstance (by decide +kernel) (pa_cons (pv 0) (pa_cons (pe_bltn (v := .ty "int") (by rfl) T.b_int (by decide +kernel) rfl) pa_nil))) (pe_one (pe_not (pe_callB call_isi (by rfl) T.b_isinstance (by decide +kernel) (pa_cons (pv 0) (pa_cons (pe_bltn (v := .ty "bool") (by rfl) T.b_bool (by decide +kernel) rfl) pa_nil)))))))), ?_⟩
    have g0 : Step [] c0 H0 c0 H0 := Step.refl wf0
    unfold m_is_integer at k
    refine ret_u ?_
    refine Pv.go (pv_andV (pv_cb (pa_c (pv_v rfl) (pa_c pv_c pa_n)) (rc_isD_int h0)) (fun _ => (pv_notV (pv_cb (pa_c (pv_v rfl) (pa_c pv_c pa_n)) (rc_isD_bool h0))))) ?_
    exact (k.done g0) _ rfl
def sp_ratio (K : PySem.W.Frag) (a : Ad) : Sp := fun vs H Q E => ∃ (c : Cl) (w0 : V) (a0 : Dyn) (w1 : V) (a1 : Dyn), vs = [w0, w1] ∧ Wf c H ∧ rD c H w0 a0 ∧ rD c H w1 a1 ∧ Kont (fun y c' H' => ∀ v, (tyT2 tyI tyI).r c' H' v y → Q v H') (fun e _ H' => E (.ref (a.ea e)) none H') [] c H (m_ratio a0 a1)
theorem ok_ratio {P : Program} {w : World} {K : PySem.W.Frag} {mg : Str → Option Value} {base : Heap} {a : Ad} (T : Txt K mg a) (G_greatest_divisor : FnOk P w K mg base CX0 1 a.greatest_divisor a.greatest_divisor_fd ["a", "b"] (sp_greatest_divisor K a)) (G_is_integer : FnOk P w K mg base CX0 1 a.is_integer a.is_integer_fd ["value"] (sp_is_integer K a)) : FnOk P w K mg base (L2N.CX P w) 2 a.ratio a.ratio_fd ["n", "d"] (sp_ratio K a) := by
  have sc : FnScope ["n", "d", "divisor"] ["n", "d"] (defScope s_ratio) := ⟨rfl, rfl, rfl, by decide +kernel, rfl, by decide +kernel, by decide +kernel⟩
  have F0 := T.ratio.F
  refine F0.ok (CX := (L2N.CX P w)) sc (fun vs H Q E h => ?_) (fun cdv A outer s H0 vs Q E hr h => ?_)
  · obtain ⟨_, _, _, _, _, rfl, _⟩ := h
    rfl
  · obtain ⟨c0, w0, a0, w1, a1, rfl, wf0, h0, h1, k⟩ := h
    refine ⟨_, (pss_cons (ps_if (PW.pt (pw_or (pt_not (pt_val (pe_call G_is_integer hr (by rfl) T.is_integer.g T.is_integer.F.kp T.is_integer.b .nil pass0 (pa_cons (pv 0) pa_nil)))) (pw_or (pt_not (pt_val (pe_call G_is_integer hr (by rfl) T.is_integer.g T.is_integer.F.kp T.is_integer.b .nil pass0 (pa_cons (pv 1) pa_nil)))) (pw_or1 (pt_cmpR op_lt (pv 1) pe_int (by first | exact nomark _ | rfl)))))) (pss_one (L2N.ps_raise rfl (L2N.takes_of rfl rfl rfl rfl) (L2N.pmk_own PySem.F.excBase_ValueError T.e_ratio.ex T.e_ratio.g T.e_ratio.kp T.e_ratio.raises (by rfl)))) pss_nil) (pss_cons (ps_set (i := 2) sc.nd rfl (Or.inl rfl) (pe_call G_greatest_divisor hr (by rfl) T.greatest_divisor.g T.greatest_divisor.F.kp T.greatest_divisor.b .nil pass0 (pa_cons (pv 0) (pa_cons (pv 1) pa_nil)))) (pss_one (ps_ret (pe_tup (pa_cons (pe_op op_fdivW (pv 0) (pv 2)) (pa_cons (pe_op op_fdivW (pv 1) (pv 2)) pa_nil))))))), ?_⟩
    have g0 : Step [] c0 H0 c0 H0 := Step.refl wf0
    unfold m_ratio at k
    refine seq_u ?_
    refine ifS_u ?_
    refine or_s ?_
    refine not_s ?_
    refine tB_u ?_
    refine call_u ?_
    refine PvA.go (pa_c (pv_v rfl) pa_n) ?_
    refine ⟨c0, _, a0, rfl, g0.wf, h0, ?_⟩
    refine Kont.call0 k g0 (fun _ z => by cases z) (fun y1 e2 k c3 H4 st5 g6 v7 r8 => ?_)
    have r8 : v7 = (V.bl y1) := r8
    subst r8
    have h0 := liftD h0 st5
    have h1 := liftD h1 st5
    refine ⟨_, rfl, ?_⟩
    refine ite_b (b := y1) (fun b9 => ?_) (fun b9 => ?_)
    · have k := k.brT b9
      refine or_s ?_
      refine not_s ?_
      refine tB_u ?_
      refine call_u ?_
      refine PvA.go (pa_c (pv_v rfl) pa_n) ?_
      refine ⟨c3, _, a1, rfl, g6.wf, h1, ?_⟩
      refine Kont.call0 k g6 (fun _ z => by cases z) (fun y10 e11 k c12 H13 st14 g15 v16 r17 => ?_)
      have r17 : v16 = (V.bl y10) := r17
      subst r17
      have h0 := liftD h0 st14
      have h1 := liftD h1 st14
      refine ⟨_, rfl, ?_⟩
      refine ite_b (b := y10) (fun b18 => ?_) (fun b18 => ?_)
      · have k := k.brT b18
        obtain ⟨n19, e20, kk21⟩ := k.opt
        have e20 := Dyn.int_of e20
        subst e20
        have h1 : w1 = V.int n19 := h1
        subst h1
        have k := kk21
        refine PvT.go (pt_t (pv_2 (pv_v rfl) pv_c rv_i)) ?_
        refine ite_b (b := (decide (n19 < (1 : Int)))) (fun b22 => ?_) (fun b22 => ?_)
        · have k := k.brT b22
          exact k.fail g15
        · rw [brF_eq b22] at k
          refine next_u ?_
          refine nx_go ?_
          refine seq_u ?_
          refine asg_u ?_
          obtain ⟨n23, e24, kk25⟩ := k.opt
          have e24 := Dyn.int_of e24
          subst e24
          have h0 : w0 = V.int n23 := h0
          subst h0
          have k := kk25
          refine call_u ?_
          refine PvA.go (pa_c (pv_v rfl) (pa_c (pv_v rfl) pa_n)) ?_
          refine ⟨c12, _, n23, _, n19, rfl, g15.wf, rfl, rfl, ?_⟩
          refine Kont.call0 k g15 (fun _ z => by cases z) (fun y26 e27 k c28 H29 st30 g31 v32 r33 => ?_)
          have r33 : v32 = (V.int y26) := r33
          subst r33
          refine gname_u ?_
          refine nx_go ?_
          refine ret_u ?_
          refine tup_u ?_
          obtain ⟨e34, k⟩ := k.chk
          obtain ⟨e35, k⟩ := k.chk
          refine PvA.go (pa_c (pv_2 (pv_v rfl) (pv_v rfl) (rv_div e34)) (pa_c (pv_2 (pv_v rfl) (pv_v rfl) (rv_div e35)) pa_n)) ?_
          refine tup_end (Nat.le_of_ble_eq_true rfl) g31.wf fun p36 c37 H38 st39 cp40 rd41 np42 => ?_
          have g44 := g31.tr0 st39
          have h43 : (tyT2 tyI tyI).r c37 H38 (V.ref p36) ((n23 / y26), (n19 / y26)) := ⟨p36, _, _, rfl, cp40, rd41, rfl, rfl⟩
          exact (k.done g44) _ h43
      · rw [brF_eq b18] at k
        exact k.fail g15
    · rw [brF_eq b9] at k
      exact k.fail g6
def sp_add (K : PySem.W.Frag) (a : Ad) : Sp := fun vs H Q E => ∃ (c : Cl) (w0 : V) (a0 : (Int × Int)) (w1 : V) (a1 : (Int × Int)), vs = [w0, w1] ∧ Wf c H ∧ (tyT2 tyI tyI).r c H w0 a0 ∧ (tyT2 tyI tyI).r c H w1 a1 ∧ Kont (fun y c' H' => ∀ v, (tyT2 tyI tyI).r c' H' v y → Q v H') (fun e _ H' => E (.ref (a.ea e)) none H') [] c H (m_add a0 a1)
theorem ok_add {P : Program} {w : World} {K : PySem.W.Frag} {mg : Str → Option Value} {base : Heap} {a : Ad} (T : Txt K mg a) (G_ratio : FnOk P w K mg base (L2N.CX P w) 2 a.ratio a.ratio_fd ["n", "d"] (sp_ratio K a)) : FnOk P w K mg base (L2N.CX P w) 3 a.add a.add_fd ["a", "b"] (sp_add K a) := by
  have sc : FnScope ["a", "b"] ["a", "b"] (defScope s_add) := ⟨rfl, rfl, rfl, by decide +kernel, rfl, by decide +kernel, by decide +kernel⟩
  refine okN T.add.F sc (fun vs H Q E h => ?_) (fun cdv A outer s H0 vs Q E hr h => ?_)
  · obtain ⟨_, _, _, _, _, rfl, _⟩ := h
    rfl
  · obtain ⟨c0, w0, a0, w1, a1, rfl, wf0, h0, h1, k⟩ := h
    refine ⟨_, (pss_one (ps_ret (pe_call G_ratio hr (by rfl) T.ratio.g T.ratio.kp T.ratio.b .nil (L2N.passes_call (L2N.takes_of rfl rfl rfl rfl) (fun _ _ _ _ h => h)) (pa_cons (pe_op op_add (pe_op op_mulW (pe_ix ix_tup (pv 0) pe_int (fun _ _ => rfl)) (pe_ix ix_tup (pv 1) pe_int (fun _ _ => rfl))) (pe_op op_mulW (pe_ix ix_tup (pv 1) pe_int (fun _ _ => rfl)) (pe_ix ix_tup (pv 0) pe_int (fun _ _ => rfl)))) (pa_cons (pe_op op_mulW (pe_ix ix_tup (pv 0) pe_int (fun _ _ => rfl)) (pe_ix ix_tup (pv 1) pe_int (fun _ _ => rfl))) pa_nil))))), ?_⟩
    have g0 : Step [] c0 H0 c0 H0 := Step.refl wf0
    unfold m_add at k
    refine ret_u ?_
    refine call_u ?_
    obtain ⟨u1, h2, q3⟩ := ix2_0 h0
    have h2 : u1 = (V.int a0.1) := h2
    subst h2
    obtain ⟨u4, h5, q6⟩ := ix2_1 h1
    have h5 : u4 = (V.int a1.2) := h5
    subst h5
    obtain ⟨e7, k⟩ := k.chk
    obtain ⟨u8, h9, q10⟩ := ix2_0 h1
    have h9 : u8 = (V.int a1.1) := h9
    subst h9
    obtain ⟨u11, h12, q13⟩ := ix2_1 h0
    have h12 : u11 = (V.int a0.2) := h12
    subst h12
    obtain ⟨e14, k⟩ := k.chk
    obtain ⟨u15, h16, q17⟩ := ix2_1 h0
    have h16 : u15 = (V.int a0.2) := h16
    subst h16
    obtain ⟨u18, h19, q20⟩ := ix2_1 h1
    have h19 : u18 = (V.int a1.2) := h19
    subst h19
    obtain ⟨e21, k⟩ := k.chk
    refine PvA.go (pa_c (pv_2 (pv_2 (pv_2 (pv_v rfl) pv_c (q3)) (pv_2 (pv_v rfl) pv_c (q6)) (rv_mul e7)) (pv_2 (pv_2 (pv_v rfl) pv_c (q10)) (pv_2 (pv_v rfl) pv_c (q13)) (rv_mul e14)) rv_i) (pa_c (pv_2 (pv_2 (pv_v rfl) pv_c (q17)) (pv_2 (pv_v rfl) pv_c (q20)) (rv_mul e21)) pa_n)) ?_
    refine ⟨c0, _, (Dyn.i ((a0.1 * a1.2) + (a1.1 * a0.2))), _, (Dyn.i (a0.2 * a1.2)), rfl, g0.wf, rfl, rfl, ?_⟩
    refine Kont.call k g0 (fun _ z => by cases z) (fun y22 e23 k c24 H25 st26 g27 v28 r29 => ?_) (fun e e23 c24 H25 st26 g27 pe => ?_)
    rotate_left
    · exact pe
    have h0 := lift h0 st26
    have h1 := lift h1 st26
    exact (k.done g27) _ r29
def sp_sub (K : PySem.W.Frag) (a : Ad) : Sp := fun vs H Q E => ∃ (c : Cl) (w0 : V) (a0 : (Int × Int)) (w1 : V) (a1 : (Int × Int)), vs = [w0, w1] ∧ Wf c H ∧ (tyT2 tyI tyI).r c H w0 a0 ∧ (tyT2 tyI tyI).r c H w1 a1 ∧ Kont (fun y c' H' => ∀ v, (tyT2 tyI tyI).r c' H' v y → Q v H') (fun e _ H' => E (.ref (a.ea e)) none H') [] c H (m_sub a0 a1)
theorem ok_sub {P : Program} {w : World} {K : PySem.W.Frag} {mg : Str → Option Value} {base : Heap} {a : Ad} (T : Txt K mg a) (G_ratio : FnOk P w K mg base (L2N.CX P w) 2 a.ratio a.ratio_fd ["n", "d"] (sp_ratio K a)) : FnOk P w K mg base (L2N.CX P w) 3 a.sub a.sub_fd ["a", "b"] (sp_sub K a) := by
  have sc : FnScope ["a", "b"] ["a", "b"] (defScope s_sub) := ⟨rfl, rfl, rfl, by decide +kernel, rfl, by decide +kernel, by decide +kernel⟩
  refine okN T.sub.F sc (fun vs H Q E h => ?_) (fun cdv A outer s H0 vs Q E hr h => ?_)
  · obtain ⟨_, _, _, _, _, rfl, _⟩ := h
    rfl
  · obtain ⟨c0, w0, a0, w1, a1, rfl, wf0, h0, h1, k⟩ := h
    refine ⟨_, (pss_one (ps_ret (pe_call G_ratio hr (by rfl) T.ratio.g T.ratio.kp T.ratio.b .nil (L2N.passes_call (L2N.takes_of rfl rfl rfl rfl) (fun _ _ _ _ h => h)) (pa_cons (pe_op op_sub (pe_op op_mulW (pe_ix ix_tup (pv 0) pe_int (fun _ _ => rfl)) (pe_ix ix_tup (pv 1) pe_int (fun _ _ => rfl))) (pe_op op_mulW (pe_ix ix_tup (pv 1) pe_int (fun _ _ => rfl)) (pe_ix ix_tup (pv 0) pe_int (fun _ _ => rfl)))) (pa_cons (pe_op op_mulW (pe_ix ix_tup (pv 0) pe_int (fun _ _ => rfl)) (pe_ix ix_tup (pv 1) pe_int (fun _ _ => rfl))) pa_nil))))), ?_⟩
    have g0 : Step [] c0 H0 c0 H0 := Step.refl wf0
    unfold m_sub at k
    refine ret_u ?_
    refine call_u ?_
    obtain ⟨u1, h2, q3⟩ := ix2_0 h0
    have h2 : u1 = (V.int a0.1) := h2
    subst h2
    obtain ⟨u4, h5, q6⟩ := ix2_1 h1
    have h5 : u4 = (V.int a1.2) := h5
    subst h5
    obtain ⟨e7, k⟩ := k.chk
    obtain ⟨u8, h9, q10⟩ := ix2_0 h1
    have h9 : u8 = (V.int a1.1) := h9
    subst h9
    obtain ⟨u11, h12, q13⟩ := ix2_1 h0
    have h12 : u11 = (V.int a0.2) := h12
    subst h12
    obtain ⟨e14, k⟩ := k.chk
    obtain ⟨u15, h16, q17⟩ := ix2_1 h0
    have h16 : u15 = (V.int a0.2) := h16
    subst h16
    obtain ⟨u18, h19, q20⟩ := ix2_1 h1
    have h19 : u18 = (V.int a1.2) := h19
    subst h19
    obtain ⟨e21, k⟩ := k.chk
    refine PvA.go (pa_c (pv_2 (pv_2 (pv_2 (pv_v rfl) pv_c (q3)) (pv_2 (pv_v rfl) pv_c (q6)) (rv_mul e7)) (pv_2 (pv_2 (pv_v rfl) pv_c (q10)) (pv_2 (pv_v rfl) pv_c (q13)) (rv_mul e14)) rv_i) (pa_c (pv_2 (pv_2 (pv_v rfl) pv_c (q17)) (pv_2 (pv_v rfl) pv_c (q20)) (rv_mul e21)) pa_n)) ?_
    refine ⟨c0, _, (Dyn.i ((a0.1 * a1.2) - (a1.1 * a0.2))), _, (Dyn.i (a0.2 * a1.2)), rfl, g0.wf, rfl, rfl, ?_⟩
    refine Kont.call k g0 (fun _ z => by cases z) (fun y22 e23 k c24 H25 st26 g27 v28 r29 => ?_) (fun e e23 c24 H25 st26 g27 pe => ?_)
    rotate_left
    · exact pe
    have h0 := lift h0 st26
    have h1 := lift h1 st26
    exact (k.done g27) _ r29
def sp_times (K : PySem.W.Frag) (a : Ad) : Sp := fun vs H Q E => ∃ (c : Cl) (w0 : V) (a0 : (Int × Int)) (w1 : V) (a1 : (Int × Int)), vs = [w0, w1] ∧ Wf c H ∧ (tyT2 tyI tyI).r c H w0 a0 ∧ (tyT2 tyI tyI).r c H w1 a1 ∧ Kont (fun y c' H' => ∀ v, (tyT2 tyI tyI).r c' H' v y → Q v H') (fun e _ H' => E (.ref (a.ea e)) none H') [] c H (m_times a0 a1)
theorem ok_times {P : Program} {w : World} {K : PySem.W.Frag} {mg : Str → Option Value} {base : Heap} {a : Ad} (T : Txt K mg a) (G_ratio : FnOk P w K mg base (L2N.CX P w) 2 a.ratio a.ratio_fd ["n", "d"] (sp_ratio K a)) : FnOk P w K mg base (L2N.CX P w) 3 a.times a.times_fd ["a", "b"] (sp_times K a) := by
  have sc : FnScope ["a", "b"] ["a", "b"] (defScope s_times) := ⟨rfl, rfl, rfl, by decide +kernel, rfl, by decide +kernel, by decide +kernel⟩
  refine okN T.times.F sc (fun vs H Q E h => ?_) (fun cdv A outer s H0 vs Q E hr h => ?_)
  · obtain ⟨_, _, _, _, _, rfl, _⟩ := h
    rfl
  · obtain ⟨c0, w0, a0, w1, a1, rfl, wf0, h0, h1, k⟩ := h
    refine ⟨_, (pss_one (ps_ret (pe_call G_ratio hr (by rfl) T.ratio.g T.ratio.kp T.ratio.b .nil (L2N.passes_call (L2N.takes_of rfl rfl rfl rfl) (fun _ _ _ _ h => h)) (pa_cons (pe_op op_mulW (pe_ix ix_tup (pv 0) pe_int (fun _ _ => rfl)) (pe_ix ix_tup (pv 1) pe_int (fun _ _ => rfl))) (pa_cons (pe_op op_mulW (pe_ix ix_tup (pv 0) pe_int (fun _ _ => rfl)) (pe_ix ix_tup (pv 1) pe_int (fun _ _ => rfl))) pa_nil))))), ?_⟩
    have g0 : Step [] c0 H0 c0 H0 := Step.refl wf0
    unfold m_times at k
    refine ret_u ?_
    refine call_u ?_
    obtain ⟨u1, h2, q3⟩ := ix2_0 h0
    have h2 : u1 = (V.int a0.1) := h2
    subst h2
    obtain ⟨u4, h5, q6⟩ := ix2_0 h1
    have h5 : u4 = (V.int a1.1) := h5
    subst h5
    obtain ⟨e7, k⟩ := k.chk
    obtain ⟨u8, h9, q10⟩ := ix2_1 h0
    have h9 : u8 = (V.int a0.2) := h9
    subst h9
    obtain ⟨u11, h12, q13⟩ := ix2_1 h1
    have h12 : u11 = (V.int a1.2) := h12
    subst h12
    obtain ⟨e14, k⟩ := k.chk
    refine PvA.go (pa_c (pv_2 (pv_2 (pv_v rfl) pv_c (q3)) (pv_2 (pv_v rfl) pv_c (q6)) (rv_mul e7)) (pa_c (pv_2 (pv_2 (pv_v rfl) pv_c (q10)) (pv_2 (pv_v rfl) pv_c (q13)) (rv_mul e14)) pa_n)) ?_
    refine ⟨c0, _, (Dyn.i (a0.1 * a1.1)), _, (Dyn.i (a0.2 * a1.2)), rfl, g0.wf, rfl, rfl, ?_⟩
    refine Kont.call k g0 (fun _ z => by cases z) (fun y15 e16 k c17 H18 st19 g20 v21 r22 => ?_) (fun e e16 c17 H18 st19 g20 pe => ?_)
    rotate_left
    · exact pe
    have h0 := lift h0 st19
    have h1 := lift h1 st19
    exact (k.done g20) _ r22
def sp_over (K : PySem.W.Frag) (a : Ad) : Sp := fun vs H Q E => ∃ (c : Cl) (w0 : V) (a0 : (Int × Int)) (w1 : V) (a1 : (Int × Int)), vs = [w0, w1] ∧ Wf c H ∧ (tyT2 tyI tyI).r c H w0 a0 ∧ (tyT2 tyI tyI).r c H w1 a1 ∧ Kont (fun y c' H' => ∀ v, (tyT2 tyI tyI).r c' H' v y → Q v H') (fun e _ H' => E (.ref (a.ea e)) none H') [] c H (m_over a0 a1)
theorem ok_over {P : Program} {w : World} {K : PySem.W.Frag} {mg : Str → Option Value} {base : Heap} {a : Ad} (T : Txt K mg a) (G_ratio : FnOk P w K mg base (L2N.CX P w) 2 a.ratio a.ratio_fd ["n", "d"] (sp_ratio K a)) : FnOk P w K mg base (L2N.CX P w) 3 a.over a.over_fd ["a", "b"] (sp_over K a) := by
  have sc : FnScope ["a", "b"] ["a", "b"] (defScope s_over) := ⟨rfl, rfl, rfl, by decide +kernel, rfl, by decide +kernel, by decide +kernel⟩
  refine okN T.over.F sc (fun vs H Q E h => ?_) (fun cdv A outer s H0 vs Q E hr h => ?_)
  · obtain ⟨_, _, _, _, _, rfl, _⟩ := h
    rfl
  · obtain ⟨c0, w0, a0, w1, a1, rfl, wf0, h0, h1, k⟩ := h
    refine ⟨_, (pss_cons (ps_if (pt_cmpR op_eq (pe_ix ix_tup (pv 1) pe_int (fun _ _ => rfl)) pe_int (by first | exact nomark _ | rfl)) (pss_one (L2N.ps_raise rfl (L2N.takes_of rfl rfl rfl rfl) (L2N.pmk_own PySem.F.excBase_ValueError T.e_ratio.ex T.e_ratio.g T.e_ratio.kp T.e_ratio.raises (by rfl)))) pss_nil) (pss_cons (ps_if (pt_cmpR op_lt (pe_ix ix_tup (pv 1) pe_int (fun _ _ => rfl)) pe_int (by first | exact nomark _ | rfl)) (pss_one (ps_ret (pe_call G_ratio hr (by rfl) T.ratio.g T.ratio.kp T.ratio.b .nil (L2N.passes_call (L2N.takes_of rfl rfl rfl rfl) (fun _ _ _ _ h => h)) (pa_cons (pe_op op_mulW (pe_un un_neg (pe_ix ix_tup (pv 0) pe_int (fun _ _ => rfl))) (pe_ix ix_tup (pv 1) pe_int (fun _ _ => rfl))) (pa_cons (pe_op op_mulW (pe_un un_neg (pe_ix ix_tup (pv 0) pe_int (fun _ _ => rfl))) (pe_ix ix_tup (pv 1) pe_int (fun _ _ => rfl))) pa_nil))))) pss_nil) (pss_one (ps_ret (pe_call G_ratio hr (by rfl) T.ratio.g T.ratio.kp T.ratio.b .nil (L2N.passes_call (L2N.takes_of rfl rfl rfl rfl) (fun _ _ _ _ h => h)) (pa_cons (pe_op op_mulW (pe_ix ix_tup (pv 0) pe_int (fun _ _ => rfl)) (pe_ix ix_tup (pv 1) pe_int (fun _ _ => rfl))) (pa_cons (pe_op op_mulW (pe_ix ix_tup (pv 0) pe_int (fun _ _ => rfl)) (pe_ix ix_tup (pv 1) pe_int (fun _ _ => rfl))) pa_nil))))))), ?_⟩
    have g0 : Step [] c0 H0 c0 H0 := Step.refl wf0
    unfold m_over at k
    refine seq_u ?_
    obtain ⟨u1, h2, q3⟩ := ix2_0 h1
    have h2 : u1 = (V.int a1.1) := h2
    subst h2
    refine PvT.ifS (b := (decide (a1.1 = (0 : Int)))) ?_ (fun b4 => ?_) (fun b4 => ?_)
    · exact (show PvT _ _ _ (decide (a1.1 = (0 : Int))) from (pt_t (pv_2 (pv_2 (pv_v rfl) pv_c (q3)) pv_c rv_eqi)))
    · have k := k.brT b4
      exact k.fail g0
    · rw [brF_eq b4] at k
      refine next_u ?_
      refine nx_go ?_
      refine seq_u ?_
      obtain ⟨u5, h6, q7⟩ := ix2_0 h1
      have h6 : u5 = (V.int a1.1) := h6
      subst h6
      refine PvT.ifS (b := (decide (a1.1 < (0 : Int)))) ?_ (fun b8 => ?_) (fun b8 => ?_)
      · exact (show PvT _ _ _ (decide (a1.1 < (0 : Int))) from (pt_t (pv_2 (pv_2 (pv_v rfl) pv_c (q7)) pv_c rv_i)))
      · have k := k.brT b8
        refine ret_u ?_
        refine call_u ?_
        obtain ⟨u9, h10, q11⟩ := ix2_0 h0
        have h10 : u9 = (V.int a0.1) := h10
        subst h10
        obtain ⟨u12, h13, q14⟩ := ix2_1 h1
        have h13 : u12 = (V.int a1.2) := h13
        subst h13
        obtain ⟨e15, k⟩ := k.chk
        obtain ⟨u16, h17, q18⟩ := ix2_1 h0
        have h17 : u16 = (V.int a0.2) := h17
        subst h17
        obtain ⟨u19, h20, q21⟩ := ix2_0 h1
        have h20 : u19 = (V.int a1.1) := h20
        subst h20
        obtain ⟨e22, k⟩ := k.chk
        refine PvA.go (pa_c (pv_2 (pv_neg (pv_2 (pv_v rfl) pv_c (q11))) (pv_2 (pv_v rfl) pv_c (q14)) (rv_mul e15)) (pa_c (pv_2 (pv_neg (pv_2 (pv_v rfl) pv_c (q18))) (pv_2 (pv_v rfl) pv_c (q21)) (rv_mul e22)) pa_n)) ?_
        refine ⟨c0, _, (Dyn.i ((-a0.1) * a1.2)), _, (Dyn.i ((-a0.2) * a1.1)), rfl, g0.wf, rfl, rfl, ?_⟩
        refine Kont.call k g0 (fun _ z => by cases z) (fun y23 e24 k c25 H26 st27 g28 v29 r30 => ?_) (fun e e24 c25 H26 st27 g28 pe => ?_)
        rotate_left
        · exact pe
        have h0 := lift h0 st27
        have h1 := lift h1 st27
        exact (k.done g28) _ r30
      · rw [brF_eq b8] at k
        refine next_u ?_
        refine nx_go ?_
        refine ret_u ?_
        refine call_u ?_
        obtain ⟨u31, h32, q33⟩ := ix2_0 h0
        have h32 : u31 = (V.int a0.1) := h32
        subst h32
        obtain ⟨u34, h35, q36⟩ := ix2_1 h1
        have h35 : u34 = (V.int a1.2) := h35
        subst h35
        obtain ⟨e37, k⟩ := k.chk
        obtain ⟨u38, h39, q40⟩ := ix2_1 h0
        have h39 : u38 = (V.int a0.2) := h39
        subst h39
        obtain ⟨u41, h42, q43⟩ := ix2_0 h1
        have h42 : u41 = (V.int a1.1) := h42
        subst h42
        obtain ⟨e44, k⟩ := k.chk
        refine PvA.go (pa_c (pv_2 (pv_2 (pv_v rfl) pv_c (q33)) (pv_2 (pv_v rfl) pv_c (q36)) (rv_mul e37)) (pa_c (pv_2 (pv_2 (pv_v rfl) pv_c (q40)) (pv_2 (pv_v rfl) pv_c (q43)) (rv_mul e44)) pa_n)) ?_
        refine ⟨c0, _, (Dyn.i (a0.1 * a1.2)), _, (Dyn.i (a0.2 * a1.1)), rfl, g0.wf, rfl, rfl, ?_⟩
        refine Kont.call k g0 (fun _ z => by cases z) (fun y45 e46 k c47 H48 st49 g50 v51 r52 => ?_) (fun e e46 c47 H48 st49 g50 pe => ?_)
        rotate_left
        · exact pe
        have h0 := lift h0 st49
        have h1 := lift h1 st49
        exact (k.done g50) _ r52
def sp_less (K : PySem.W.Frag) (a : Ad) : Sp := fun vs H Q E => ∃ (c : Cl) (w0 : V) (a0 : (Int × Int)) (w1 : V) (a1 : (Int × Int)), vs = [w0, w1] ∧ Wf c H ∧ (tyT2 tyI tyI).r c H w0 a0 ∧ (tyT2 tyI tyI).r c H w1 a1 ∧ Kont (fun y c' H' => ∀ v, tyB.r c' H' v y → Q v H') (fun _ _ _ => False) [] c H (m_less a0 a1)
theorem ok_less {P : Program} {w : World} {K : PySem.W.Frag} {mg : Str → Option Value} {base : Heap} {a : Ad} (T : Txt K mg a) : FnOk P w K mg base CX0 1 a.less a.less_fd ["a", "b"] (sp_less K a) := by
  have sc : FnScope ["a", "b"] ["a", "b"] (defScope s_less) := ⟨rfl, rfl, rfl, by decide +kernel, rfl, by decide +kernel, by decide +kernel⟩
  refine T.less.F.ok sc (fun vs H Q E h => ?_) (fun cdv A outer s H0 vs Q E hr h => ?_)
  · obtain ⟨_, _, _, _, _, rfl, _⟩ := h
    rfl
  · obtain ⟨c0, w0, a0, w1, a1, rfl, wf0, h0, h1, k⟩ := h
    refine ⟨_, (pss_one (ps_ret (pe_cmpR op_lt (pe_op op_mulW (pe_ix ix_tup (pv 0) pe_int (fun _ _ => rfl)) (pe_ix ix_tup (pv 1) pe_int (fun _ _ => rfl))) (pe_op op_mulW (pe_ix ix_tup (pv 1) pe_int (fun _ _ => rfl)) (pe_ix ix_tup (pv 0) pe_int (fun _ _ => rfl))) (by first | exact nomark _ | rfl)))), ?_⟩
    have g0 : Step [] c0 H0 c0 H0 := Step.refl wf0
    unfold m_less at k
    refine ret_u ?_
    obtain ⟨u1, h2, q3⟩ := ix2_0 h0
    have h2 : u1 = (V.int a0.1) := h2
    subst h2
    obtain ⟨u4, h5, q6⟩ := ix2_1 h1
    have h5 : u4 = (V.int a1.2) := h5
    subst h5
    obtain ⟨e7, k⟩ := k.chk
    obtain ⟨u8, h9, q10⟩ := ix2_0 h1
    have h9 : u8 = (V.int a1.1) := h9
    subst h9
    obtain ⟨u11, h12, q13⟩ := ix2_1 h0
    have h12 : u11 = (V.int a0.2) := h12
    subst h12
    obtain ⟨e14, k⟩ := k.chk
    refine Pv.go (pv_2 (pv_2 (pv_2 (pv_v rfl) pv_c (q3)) (pv_2 (pv_v rfl) pv_c (q6)) (rv_mul e7)) (pv_2 (pv_2 (pv_v rfl) pv_c (q10)) (pv_2 (pv_v rfl) pv_c (q13)) (rv_mul e14)) rv_i) ?_
    exact (k.done g0) _ rfl
def sp_merged (K : PySem.W.Frag) (a : Ad) : Sp := fun vs H Q E => ∃ (c : Cl) (w0 : V) (a0 : (PySem.Str × Int × Int × Bool)) (w1 : V) (a1 : (PySem.Str × Int × Int × Bool)), vs = [w0, w1] ∧ Wf c H ∧ (tyT4 tyS tyI tyI tyB).r c H w0 a0 ∧ (tyT4 tyS tyI tyI tyB).r c H w1 a1 ∧ Kont (fun y c' H' => ∀ v, (tyO_T4 tyS tyI tyI tyB).r c' H' v y → Q v H') (fun _ _ _ => False) [] c H (m_merged a0 a1)
theorem ok_merged {P : Program} {w : World} {K : PySem.W.Frag} {mg : Str → Option Value} {base : Heap} {a : Ad} (T : Txt K mg a) : FnOk P w K mg base CX0 1 a.merged a.merged_fd ["last", "stretch"] (sp_merged K a) := by
  have sc : FnScope ["last", "stretch", "piece", "begin", "end", "turned", "other", "first", "behind", "is_turned", "may_rise", "may_fall"] ["last", "stretch"] (defScope s_merged) := ⟨rfl, rfl, rfl, by decide +kernel, rfl, by decide +kernel, by decide +kernel⟩
  refine T.merged.F.ok sc (fun vs H Q E h => ?_) (fun cdv A outer s H0 vs Q E hr h => ?_)
  · obtain ⟨_, _, _, _, _, rfl, _⟩ := h
    rfl
  · obtain ⟨c0, w0, a0, w1, a1, rfl, wf0, h0, h1, k⟩ := h
    refine ⟨_, (pss_cons (ps_asg (pv 0) (pg_tup (n := 4) (by rfl) (pgs_cons (pg_name (i := 2) sc.nd rfl (Or.inl rfl)) (pgs_cons (pg_name (i := 3) sc.nd rfl (Or.inl rfl)) (pgs_cons (pg_name (i := 4) sc.nd rfl (Or.inl rfl)) (pgs_cons (pg_name (i := 5) sc.nd rfl (Or.inl rfl)) pgs_nil)))))) (pss_cons (ps_asg (pv 1) (pg_tup (n := 4) (by rfl) (pgs_cons (pg_name (i := 6) sc.nd rfl (Or.inl rfl)) (pgs_cons (pg_name (i := 7) sc.nd rfl (Or.inl rfl)) (pgs_cons (pg_name (i := 8) sc.nd rfl (Or.inl rfl)) (pgs_cons (pg_name (i := 9) sc.nd rfl (Or.inl rfl)) pgs_nil)))))) (pss_cons (ps_if (pt_cmpR op_ne (pv 2) (pv 6) (by first | exact nomark _ | rfl)) (pss_one (ps_ret pe_non)) pss_nil) (pss_cons (ps_set (i := 10) sc.nd rfl (Or.inl rfl) (pe_and (pe_or (pe_not (pv 5)) (pe_one (pe_cmpR op_eq (pe_op op_sub (pv 4) (pv 3)) pe_int (by first | exact nomark _ | rfl)))) (pe_one (pe_or (pe_not (pv 9)) (pe_one (pe_cmpR op_eq (pe_op op_sub (pv 8) (pv 7)) pe_int (by first | exact nomark _ | rfl))))))) (pss_cons (ps_set (i := 11) sc.nd rfl (Or.inl rfl) (pe_and (pe_or (pv 5) (pe_one (pe_cmpR op_eq (pe_op op_sub (pv 4) (pv 3)) pe_int (by first | exact nomark _ | rfl)))) (pe_one (pe_or (pv 9) (pe_one (pe_cmpR op_eq (pe_op op_sub (pv 8) (pv 7)) pe_int (by first | exact nomark _ | rfl))))))) (pss_cons (ps_if (PW.pt (pw_and (pt_val (pv 10)) (pw_and1 (pt_cmpR op_eq (pv 4) (pv 7) (by first | exact nomark _ | rfl))))) (pss_one (ps_ret (pe_tup (pa_cons (pv 2) (pa_cons (pv 3) (pa_cons (pv 8) (pa_cons pe_bl pa_nil))))))) pss_nil) (pss_cons (ps_if (PW.pt (pw_and (pt_val (pv 11)) (pw_and1 (pt_cmpR op_eq (pv 3) (pv 8) (by first | exact nomark _ | rfl))))) (pss_one (ps_ret (pe_tup (pa_cons (pv 2) (pa_cons (pv 7) (pa_cons (pv 4) (pa_cons pe_bl pa_nil))))))) pss_nil) (pss_one (ps_ret pe_non))))))))), ?_⟩
    have g0 : Step [] c0 H0 c0 H0 := Step.refl wf0
    unfold m_merged at k
    refine seq_u ?_
    refine asg_u ?_
    refine Pv.go (pv_v rfl) ?_
    obtain ⟨ad1, u2, u3, u4, u5, e11, rd10, h6, h7, h8, h9⟩ := open4 h0
    subst e11
    refine gtup_u rd10 rfl ?_
    obtain ⟨h6, h6s⟩ := h6
    subst h6
    refine gcons_u ?_
    refine gname_u ?_
    have h7 : u3 = (V.int a0.2.1) := h7
    subst h7
    refine gcons_u ?_
    refine gname_u ?_
    have h8 : u4 = (V.int a0.2.2.1) := h8
    subst h8
    refine gcons_u ?_
    refine gname_u ?_
    have h9 : u5 = (V.bl a0.2.2.2) := h9
    subst h9
    refine gcons_u ?_
    refine gname_u ?_
    refine gnil_u ?_
    refine nx_go ?_
    refine seq_u ?_
    refine asg_u ?_
    refine Pv.go (pv_v rfl) ?_
    obtain ⟨ad12, u13, u14, u15, u16, e22, rd21, h17, h18, h19, h20⟩ := open4 h1
    subst e22
    refine gtup_u rd21 rfl ?_
    obtain ⟨h17, h17s⟩ := h17
    subst h17
    refine gcons_u ?_
    refine gname_u ?_
    have h18 : u14 = (V.int a1.2.1) := h18
    subst h18
    refine gcons_u ?_
    refine gname_u ?_
    have h19 : u15 = (V.int a1.2.2.1) := h19
    subst h19
    refine gcons_u ?_
    refine gname_u ?_
    have h20 : u16 = (V.bl a1.2.2.2) := h20
    subst h20
    refine gcons_u ?_
    refine gname_u ?_
    refine gnil_u ?_
    refine nx_go ?_
    refine seq_u ?_
    refine PvT.ifS (b := (!decide (a0.1 = a1.1))) ?_ (fun b23 => ?_) (fun b23 => ?_)
    · exact (show PvT _ _ _ (!decide (a0.1 = a1.1)) from (pt_t (pv_2 (pv_v rfl) (pv_v rfl) rv_nes)))
    · have k := k.brT b23
      refine ret_u ?_
      refine Pv.go pv_c ?_
      exact (k.done g0) _ rfl
    · rw [brF_eq b23] at k
      refine next_u ?_
      refine nx_go ?_
      refine seq_u ?_
      refine asg_u ?_
      refine Pv.go (pv_andV (pv_orV (pv_notV (pv_v rfl)) (fun _ => (pv_2 (pv_2 (pv_v rfl) (pv_v rfl) rv_i) pv_c rv_eqi))) (fun _ => (pv_orV (pv_notV (pv_v rfl)) (fun _ => (pv_2 (pv_2 (pv_v rfl) (pv_v rfl) rv_i) pv_c rv_eqi))))) ?_
      refine gname_u ?_
      refine nx_go ?_
      refine seq_u ?_
      refine asg_u ?_
      refine Pv.go (pv_andV (pv_orV (pv_v rfl) (fun _ => (pv_2 (pv_2 (pv_v rfl) (pv_v rfl) rv_i) pv_c rv_eqi))) (fun _ => (pv_orV (pv_v rfl) (fun _ => (pv_2 (pv_2 (pv_v rfl) (pv_v rfl) rv_i) pv_c rv_eqi))))) ?_
      refine gname_u ?_
      refine nx_go ?_
      refine seq_u ?_
      refine PvT.ifS (b := ((((!a0.2.2.2) || (decide ((a0.2.2.1 - a0.2.1) = (1 : Int)))) && ((!a1.2.2.2) || (decide ((a1.2.2.1 - a1.2.1) = (1 : Int))))) && (decide (a0.2.2.1 = a1.2.1)))) ?_ (fun b24 => ?_) (fun b24 => ?_)
      · exact (show PvT _ _ _ ((((!a0.2.2.2) || (decide ((a0.2.2.1 - a0.2.1) = (1 : Int)))) && ((!a1.2.2.2) || (decide ((a1.2.2.1 - a1.2.1) = (1 : Int))))) && (decide (a0.2.2.1 = a1.2.1))) from (pt_and (pt_b (pv_v rfl)) (fun _ => (pt_t (pv_2 (pv_v rfl) (pv_v rfl) rv_eqi)))))
      · have k := k.brT b24
        refine ret_u ?_
        refine tup_u ?_
        refine PvA.go (pa_c (pv_v rfl) (pa_c (pv_v rfl) (pa_c (pv_v rfl) (pa_c pv_c pa_n)))) ?_
        refine tup_end (Nat.le_of_ble_eq_true rfl) g0.wf fun p25 c26 H27 st28 cp29 rd30 np31 => ?_
        have g33 := g0.tr0 st28
        have h0 := lift h0 st28
        have h1 := lift h1 st28
        have h32 : (tyT4 tyS tyI tyI tyB).r c26 H27 (V.ref p25) (a0.1, a0.2.1, a1.2.2.1, false) := ⟨p25, _, _, _, _, rfl, cp29, rd30, ⟨rfl, h6s⟩, rfl, rfl, rfl⟩
        exact (k.done g33) _ h32
      · rw [brF_eq b24] at k
        refine next_u ?_
        refine nx_go ?_
        refine seq_u ?_
        refine PvT.ifS (b := (((a0.2.2.2 || (decide ((a0.2.2.1 - a0.2.1) = (1 : Int)))) && (a1.2.2.2 || (decide ((a1.2.2.1 - a1.2.1) = (1 : Int))))) && (decide (a0.2.1 = a1.2.2.1)))) ?_ (fun b34 => ?_) (fun b34 => ?_)
        · exact (show PvT _ _ _ (((a0.2.2.2 || (decide ((a0.2.2.1 - a0.2.1) = (1 : Int)))) && (a1.2.2.2 || (decide ((a1.2.2.1 - a1.2.1) = (1 : Int))))) && (decide (a0.2.1 = a1.2.2.1))) from (pt_and (pt_b (pv_v rfl)) (fun _ => (pt_t (pv_2 (pv_v rfl) (pv_v rfl) rv_eqi)))))
        · have k := k.brT b34
          refine ret_u ?_
          refine tup_u ?_
          refine PvA.go (pa_c (pv_v rfl) (pa_c (pv_v rfl) (pa_c (pv_v rfl) (pa_c pv_c pa_n)))) ?_
          refine tup_end (Nat.le_of_ble_eq_true rfl) g0.wf fun p35 c36 H37 st38 cp39 rd40 np41 => ?_
          have g43 := g0.tr0 st38
          have h0 := lift h0 st38
          have h1 := lift h1 st38
          have h42 : (tyT4 tyS tyI tyI tyB).r c36 H37 (V.ref p35) (a0.1, a1.2.1, a0.2.2.1, true) := ⟨p35, _, _, _, _, rfl, cp39, rd40, ⟨rfl, h6s⟩, rfl, rfl, rfl⟩
          exact (k.done g43) _ h42
        · rw [brF_eq b34] at k
          refine next_u ?_
          refine nx_go ?_
          refine ret_u ?_
          refine Pv.go pv_c ?_
          exact (k.done g0) _ rfl
def sp_fewest (K : PySem.W.Frag) (a : Ad) : Sp := fun vs H Q E => ∃ (c : Cl) (w0 : V) (a0 : List (PySem.Str × Int × Int × Bool)), vs = [w0] ∧ Wf c H ∧ rP (tyT4 tyS tyI tyI tyB) c H w0 a0 ∧ Kont (fun y c' H' => ∀ v, rO (tyT4 tyS tyI tyI tyB) H c' H' v y → Q v H') (fun _ _ _ => False) [] c H (m_fewest a0)
theorem ok_fewest {P : Program} {w : World} {K : PySem.W.Frag} {mg : Str → Option Value} {base : Heap} {a : Ad} (T : Txt K mg a) (G_merged : FnOk P w K mg base CX0 1 a.merged a.merged_fd ["last", "stretch"] (sp_merged K a)) : FnOk P w K mg base CX0 2 a.fewest a.fewest_fd ["stretches"] (sp_fewest K a) := by
  have sc : FnScope ["stretches", "rows", "piece", "begin", "end", "turned", "row", "both"] ["stretches"] (defScope s_fewest) := ⟨rfl, rfl, rfl, by decide +kernel, rfl, by decide +kernel, by decide +kernel⟩
  refine T.fewest.F.ok sc (fun vs H Q E h => ?_) (fun cdv A outer s H0 vs Q E hr h => ?_)
  · obtain ⟨_, _, _, rfl, _⟩ := h
    rfl
  · obtain ⟨c0, w0, a0, rfl, wf0, h0, k⟩ := h
    refine ⟨_, (pss_cons (ps_set (i := 1) sc.nd rfl (Or.inl rfl) (pe_lst pa_nil)) (pss_cons (ps_for PassesOwn.never rfl (pi_list (pv 0)) (pg_tup (n := 4) (by rfl) (pgs_cons (pg_name (i := 2) sc.nd rfl (Or.inl rfl)) (pgs_cons (pg_name (i := 3) sc.nd rfl (Or.inl rfl)) (pgs_cons (pg_name (i := 4) sc.nd rfl (Or.inl rfl)) (pgs_cons (pg_name (i := 5) sc.nd rfl (Or.inl rfl)) pgs_nil))))) (pss_cons (ps_set (i := 6) sc.nd rfl (Or.inl rfl) (pe_tup (pa_cons (pv 2) (pa_cons (pv 3) (pa_cons (pv 4) (pa_cons (pe_and (pv 5) (pe_one (pe_cmpR op_gt (pe_op op_sub (pv 4) (pv 3)) pe_int (by first | exact nomark _ | rfl)))) pa_nil)))))) (pss_cons (ps_set (i := 7) sc.nd rfl (Or.inl rfl) pe_non) (pss_cons (ps_if (pt_truth (pv 1) (by intro _; rfl)) (pss_one (ps_set (i := 7) sc.nd rfl (Or.inl rfl) (pe_call G_merged hr (by rfl) T.merged.g T.merged.F.kp T.merged.b .nil pass0 (pa_cons (pe_ix ix_list (pv 1) (pe_un un_neg pe_int) (fun _ _ => rfl)) (pa_cons (pv 6) pa_nil))))) pss_nil) (pss_one (ps_if (pt_cmpR op_isN (pv 7) pe_non (by first | exact nomark _ | rfl)) (pss_one (ps_expr (pe_bm PySem.F.plainAttrs_list PySem.F.slot_list_append PySem.F.type_list_append mt_append (pv 1) (pa_cons (pv 6) pa_nil)))) (pss_one (ps_asg (pv 7) (pg_sub (pv 1) (pe_un un_neg pe_int) set_list))))))))) (pss_one (ps_ret (pv 1))))), ?_⟩
    have g0 : Step [] c0 H0 c0 H0 := Step.refl wf0
    unfold m_fewest at k
    refine seq_u ?_
    refine asg_u ?_
    refine lst_u ?_
    refine PvA.go pa_n ?_
    refine lst_end (Nat.le_of_ble_eq_true rfl) g0.wf fun p1 c2 H3 st4 cp5 ob6 np7 => ?_
    have w9 := g0.fresh np7
    have g10 := g0.tr0 st4
    have o8 : Own (tyT4 tyS tyI tyI tyB) H0 c2 H3 p1 [] ([] : List (PySem.Str × Int × Int × Bool)) := ⟨cp5, ob6, trivial, w9⟩
    refine gname_u ?_
    refine nx_go ?_
    refine seq_u ?_
    refine for_u ?_
    refine ilist_u ?_
    refine Pv.go (pv_v rfl) ?_
    obtain ⟨ad11, us12, e14, h13⟩ := rB_open h0.b
    subst e14
    refine ilist_e ((h13.at g10).rd) ?_
    refine for_n (A := (tyT4 tyS tyI tyI tyB)) (a := ad11) (us := us12) (s0 := ((([] : List (PySem.Str × Int × Int × Bool))) : List (PySem.Str × Int × Int × Bool))) k (fun (s15 : List (PySem.Str × Int × Int × Bool)) (c : Cl) (H : Hp) (σ : L2.St) => ∃ (us16 : List V) (y17 : Option V) (y18 : Option V) (y19 : Option V) (y20 : Option V) (y21 : Option V) (y22 : Option V), σ = [some (V.ref ad11), some (V.ref p1), y17, y18, y19, y20, y21, y22] ∧ Step [] c0 H0 c H ∧ Own (tyT4 tyS tyI tyI tyB) H0 c H p1 us16 s15) ⟨_, _, _, _, _, _, _, rfl, g10, o8⟩ ?_ ?_ ?_
    · exact fun s c H σ ⟨us16, y17, y18, y19, y20, y21, y22, _, g, _⟩ => ⟨(h13.at g).rd, (h13.at g).rs⟩
    · intro s15 x23 v24 c26 H27 σ N i h25 k
      obtain ⟨us16, y17, y18, y19, y20, y21, y22, rfl, g28, o29⟩ := i
      obtain ⟨ad30, u31, u32, u33, u34, e40, rd39, h35, h36, h37, h38⟩ := open4 h25
      subst e40
      refine gtup_u rd39 rfl ?_
      obtain ⟨h35, h35s⟩ := h35
      subst h35
      refine gcons_u ?_
      refine gname_u ?_
      have h36 : u32 = (V.int x23.2.1) := h36
      subst h36
      refine gcons_u ?_
      refine gname_u ?_
      have h37 : u33 = (V.int x23.2.2.1) := h37
      subst h37
      refine gcons_u ?_
      refine gname_u ?_
      have h38 : u34 = (V.bl x23.2.2.2) := h38
      subst h38
      refine gcons_u ?_
      refine gname_u ?_
      refine gnil_u ?_
      refine seq_u ?_
      refine asg_u ?_
      refine tup_u ?_
      refine PvA.go (pa_c (pv_v rfl) (pa_c (pv_v rfl) (pa_c (pv_v rfl) (pa_c (pv_andV (pv_v rfl) (fun _ => (pv_2 (pv_2 (pv_v rfl) (pv_v rfl) rv_i) pv_c rv_i))) pa_n)))) ?_
      refine tup_end (Nat.le_of_ble_eq_true rfl) g28.wf fun p41 c42 H43 st44 cp45 rd46 np47 => ?_
      have n49 : p1 ≠ p41 := ne_of_none o29.obj np47
      have g50 := g28.tr0 st44
      have o29 := o29.step0 st44
      have h48 : (tyT4 tyS tyI tyI tyB).r c42 H43 (V.ref p41) (x23.1, x23.2.1, x23.2.2.1, (x23.2.2.2 && (decide ((1 : Int) < (x23.2.2.1 - x23.2.1))))) := ⟨p41, _, _, _, _, rfl, cp45, rd46, ⟨rfl, h35s⟩, rfl, rfl, rfl⟩
      refine gname_u ?_
      refine nx_go ?_
      refine seq_u ?_
      refine asg_u ?_
      refine Pv.go pv_c ?_
      have h51 : ((tyO_T4 tyS tyI tyI tyB)).r c42 H43 V.non (none : Option (PySem.Str × Int × Int × Bool)) := rfl
      refine gname_u ?_
      refine nx_go ?_
      refine seq_u ?_
      refine if_cut k (fun (s52 : Option (PySem.Str × Int × Int × Bool)) (c : Cl) (H : Hp) (σ : L2.St) => ∃ (v53 : V), σ = [some (V.ref ad11), some (V.ref p1), some (V.str x23.1), some (V.int x23.2.1), some (V.int x23.2.2.1), some (V.bl x23.2.2.2), some (V.ref p41), some v53] ∧ Step [] c0 H0 c H ∧ (tyO_T4 tyS tyI tyI tyB).r c H v53 s52 ∧ Own (tyT4 tyS tyI tyI tyB) H0 c H p1 us16 s15 ∧ (tyT4 tyS tyI tyI tyB).r c H (V.ref p41) (x23.1, x23.2.1, x23.2.2.1, (x23.2.2.2 && (decide ((1 : Int) < (x23.2.2.1 - x23.2.1)))))) ?_ ?_
      rotate_left
      · intro k
        refine PvT.ifS (b := (!s15.isEmpty)) ?_ (fun b58 => ?_) (fun b58 => ?_)
        · exact (show PvT _ _ _ (!s15.isEmpty) from (pt_list o29.b (pv_v rfl)))
        · have k := k.brT b58
          refine asg_u ?_
          refine call_u ?_
          obtain ⟨x62, e63, k⟩ := k.opt
          obtain ⟨u59, h60, q61⟩ := rv_ixB o29.b e63
          refine PvA.go (pa_c (pv_2 (pv_v rfl) (pv_neg pv_c) (q61)) (pa_c (pv_v rfl) pa_n)) ?_
          refine ⟨c42, _, x62, _, (x23.1, x23.2.1, x23.2.2.1, (x23.2.2.2 && (decide ((1 : Int) < (x23.2.2.1 - x23.2.1))))), rfl, g50.wf, h60, h48, ?_⟩
          refine Kont.call k g50 (fun _ z => by cases z) (fun y64 e65 k c66 H67 st68 g69 v70 r71 => ?_) (fun _ _ _ _ _ _ z => z)
          have o29 := o29.step0 st68
          have h48 := lift h48 st68
          have h51 := lift h51 st68
          refine gname_u ?_
          exact k.done g69 _ ⟨_, rfl, g69, r71, o29, h48⟩
        · rw [brF_eq b58] at k
          refine next_u ?_
          exact k.done g50 _ ⟨_, rfl, g50, h51, o29, h48⟩
      · intro s52 c54 H55 σ i k
        obtain ⟨v53, rfl, g56, h57, o29, h48⟩ := i
        refine nx_go ?_
        refine if_cut k (fun (s72 : List (PySem.Str × Int × Int × Bool)) (c : Cl) (H : Hp) (σ : L2.St) => ∃ (us73 : List V), σ = [some (V.ref ad11), some (V.ref p1), some (V.str x23.1), some (V.int x23.2.1), some (V.int x23.2.2.1), some (V.bl x23.2.2.2), some (V.ref p41), some v53] ∧ Step [] c0 H0 c H ∧ Own (tyT4 tyS tyI tyI tyB) H0 c H p1 us73 s72 ∧ (tyT4 tyS tyI tyI tyB).r c H (V.ref p41) (x23.1, x23.2.1, x23.2.2.1, (x23.2.2.2 && (decide ((1 : Int) < (x23.2.2.1 - x23.2.1))))) ∧ (tyO_T4 tyS tyI tyI tyB).r c H v53 s52) ?_ ?_
        rotate_left
        · intro k
          refine PvT.ifS (b := (Option.isNone s52)) ?_ (fun b78 => ?_) (fun b78 => ?_)
          · exact (show PvT _ _ _ (Option.isNone s52) from (pt_t (pv_2 (pv_v rfl) pv_c (rv_isO h57))))
          · have k := k.brT b78
            refine drop_u ?_
            refine bm_u ?_
            refine Pv.go (pv_v rfl) ?_
            refine ⟨ty_list (.inl o29.obj), ?_⟩
            refine PvA.go (pa_c (pv_v rfl) pa_n) ?_
            obtain ⟨e79, k⟩ := k.chk
            refine append_end o29 g56.wf h48 (of_decide_eq_true e79) fun H80 st81 o82 => ?_
            have g83 := g56.tr1 st81 (.inr o82.new)
            have h48 := lift h48 st81
            have h57 := lift h57 st81
            exact k.done g83 _ ⟨_, rfl, g83, o82, h48, h57⟩
          · rw [brF_eq b78] at k
            refine asg_u ?_
            refine Pv.go (pv_v rfl) ?_
            refine gsub_u ?_
            refine Pv.go (pv_v rfl) ?_
            refine Pv.go (pv_neg pv_c) ?_
            obtain ⟨n84, e85, k⟩ := k.opt
            have h86 := some_of h57 e85
            obtain ⟨j87, e88, k⟩ := k.opt
            refine set_end o29 g56.wf h86 e88 fun H89 st90 o91 => ?_
            have g92 := g56.tr1 st90 (.inr o91.new)
            have h48 := lift h48 st90
            have h57 := lift h57 st90
            exact k.done g92 _ ⟨_, rfl, g92, o91, h48, h57⟩
        · intro s72 c74 H75 σ i k
          obtain ⟨us73, rfl, g76, o77, h48, h57⟩ := i
          refine nx_go ?_
          exact (k.done g76) _ ⟨_, _, _, _, _, _, _, rfl, g76, o77⟩
    · intro s15 c93 H94 σ i k
      obtain ⟨us16, y17, y18, y19, y20, y21, y22, rfl, g95, o96⟩ := i
      refine nx_go ?_
      refine ret_u ?_
      refine Pv.go (pv_v rfl) ?_
      exact (k.done g95) _ ⟨_, _, rfl, o96⟩
def sp_check_stretches (K : PySem.W.Frag) (a : Ad) : Sp := fun vs H Q E => ∃ (c : Cl) (w0 : V) (a0 : List (PySem.Str × Int × Int × Bool)), vs = [w0] ∧ Wf c H ∧ rP (tyT4 tyS tyI tyI tyB) c H w0 a0 ∧ Kont (fun y c' H' => ∀ v, tyU.r c' H' v y → Q v H') (fun e _ H' => E (.ref (a.ea e)) none H') [] c H (m_check_stretches a0)
theorem ok_check_stretches {P : Program} {w : World} {K : PySem.W.Frag} {mg : Str → Option Value} {base : Heap} {a : Ad} (T : Txt K mg a) (G_normal : FnOk P w K mg base (L2N.CX P w) 2 a.normal a.normal_fd ["rows"] (sp_normal K a)) (G_size : FnOk P w K mg base CX0 1 a.size a.size_fd ["ground"] (sp_size K a)) : FnOk P w K mg base (L2.CX P w) 3 a.check_stretches a.check_stretches_fd ["stretches"] (sp_check_stretches K a) := by
  have sc : FnScope ["stretches", "rows", "ground", "piece", "begin", "end", "turned"] ["stretches"] (defScope s_check_stretches) := ⟨rfl, rfl, rfl, by decide +kernel, rfl, by decide +kernel, by decide +kernel⟩
  refine T.check_stretches.F.okX sc (fun vs H Q E h => ?_) (fun cdv A outer s H0 vs Q E hr h => ?_)
  · obtain ⟨_, _, _, rfl, _⟩ := h
    rfl
  · obtain ⟨c0, w0, a0, rfl, wf0, h0, k⟩ := h
    refine ⟨_, (pss_cons (ps_setLc (i := 1) (by rfl) sc.nd rfl rfl (sw_true rfl rfl rfl (by decide +kernel)) (pi_list (pv 0)) (blkOk_by (own := [("piece", 3), ("begin", 4), ("end", 5), ("turned", 6)]) (N := ["stretches", "rows", "ground", "piece", "begin", "end", "turned"]) (sc := defScope s_check_stretches) (by decide +kernel)) (fun _ _ _ _ _ => (pg_tupK (K := K) (n := 4) (by rfl) (by rfl) (pgs_cons (pg_name (i := 3) sc.nd rfl (Or.inl rfl)) (pgs_cons (pg_name (i := 4) sc.nd rfl (Or.inl rfl)) (pgs_cons (pg_name (i := 5) sc.nd rfl (Or.inl rfl)) (pgs_cons (pg_name (i := 6) sc.nd rfl (Or.inl rfl)) pgs_nil)))))) (fun _ _ _ _ _ => pts_nil) (fun _ _ _ _ _ => (pe_tup (pa_cons (pv 3) (pa_cons (pv 4) (pa_cons (pv 5) pa_nil)))))) (pss_cons (L2H.ps_try_onlyX (Wout := (fun cls d _ H => E cls d H)) rfl rfl ⟨rfl, by decide, .inl T.e_ground.g⟩ (fun _ => L2H.passesAt_of rfl _) (takes_of rfl rfl rfl rfl) (fun W pn xe tk tkp _ => (pss_one (ps_set (i := 2) sc.nd rfl (Or.inl rfl) (pe_callS G_normal hr (by rfl) T.normal.g T.normal.F.kp T.normal.b (fun σ => L2N.passAt tk σ) (pa_cons (pv 1) pa_nil))))) (fun xa oe cls d pn hz hf tks hot => (pss_one (L2H.ps_raiseHN hot tks (pmk5_own PySem.F.excBase_ValueError T.e_route.ex T.e_route.g T.e_route.kp T.e_route.raises (by rfl)))))) (pss_one (ps_if (PW.pt (pw_or (pt_not (pt_truth (pv 1) (by intro _; rfl))) (pw_or1 (pt_cmpR op_ne (pe_call G_size (hr.mono (by decide)) (by rfl) T.al_size_ground T.size.F.kp T.size.b .nil pass0 (pa_cons (pv 2) pa_nil)) (pe_call G_size (hr.mono (by decide)) (by rfl) T.al_size_ground T.size.F.kp T.size.b .nil pass0 (pa_cons (pv 1) pa_nil)) (by first | exact nomark _ | rfl))))) (pss_one (ps_raise rfl (takes_of rfl rfl rfl rfl) (pmk_own PySem.F.excBase_ValueError T.e_route.ex T.e_route.g T.e_route.kp T.e_route.raises (by rfl)))) pss_nil)))), ?_⟩
    have g0 : Step [] c0 H0 c0 H0 := Step.refl wf0
    unfold m_check_stretches at k
    refine seq_u ?_
    refine asg_u ?_
    refine lc_u ?_
    refine ilist_u ?_
    refine Pv.go (pv_v rfl) ?_
    obtain ⟨ad1, us2, e4, h3⟩ := rB_open h0.b
    subst e4
    refine ilist_e ((h3.at g0).rd) ?_
    obtain ⟨e5, k⟩ := k.chk
    refine comp_pB (A := (tyT4 tyS tyI tyI tyB)) (B := (tyT3 tyS tyI tyI)) (xs := a0) k g0 e5 (fun ci Hi st => pit_l (h3.at (g0.tr0 st)).rd (h3.at (g0.tr0 st)).rs) ?_ ?_
    · intro x6 v7 c9 H10 Qe Qn st11 gi_ h8 k
      have h13 := gi_.pl0 h0
      have h14 := h3.at gi_
      have g12 : Step [] c9 H10 c9 H10 := Step.refl gi_.wf
      obtain ⟨ad15, u16, u17, u18, u19, e25, rd24, h20, h21, h22, h23⟩ := open4 h8
      subst e25
      refine gtup_u rd24 rfl ?_
      obtain ⟨h20, h20s⟩ := h20
      subst h20
      refine gcons_u ?_
      refine gname_u ?_
      have h21 : u17 = (V.int x6.2.1) := h21
      subst h21
      refine gcons_u ?_
      refine gname_u ?_
      have h22 : u18 = (V.int x6.2.2.1) := h22
      subst h22
      refine gcons_u ?_
      refine gname_u ?_
      have h23 : u19 = (V.bl x6.2.2.2) := h23
      subst h23
      refine gcons_u ?_
      refine gname_u ?_
      refine gnil_u ?_
      refine ⟨rfl, yes_u ?_⟩
      refine tup_u ?_
      refine PvA.go (pa_c (pv_v rfl) (pa_c (pv_v rfl) (pa_c (pv_v rfl) pa_n))) ?_
      refine tup_end (Nat.le_of_ble_eq_true rfl) g12.wf fun p26 c27 H28 st29 cp30 rd31 np32 => ?_
      have g34 := g12.tr0 st29
      have h33 : (tyT3 tyS tyI tyI).r c27 H28 (V.ref p26) (x6.1, x6.2.1, x6.2.2.1) := ⟨p26, _, _, _, rfl, cp30, rd31, ⟨rfl, h20s⟩, rfl, rfl⟩
      exact (k.done g34) _ h33
    intro y35 p36 us37 c38 H39 o41_n st40 o41 k
    have g42 := g0.tr0 st40
    have h43 := o41.frz
    have g44 := g42.frz (p := p36) o41.new
    refine gname_u ?_
    refine nx_go ?_
    refine seq_u ?_
    have k := k.tryM
    refine asg_u ?_
    refine callS_u ?_
    refine PvA.go (pa_c (pv_v rfl) pa_n) ?_
    refine ⟨(frz c38 p36), _, y35, rfl, g44.wf, (tyL_p h43), ?_⟩
    refine Kont.call k g44 (fun _ z => by cases z) (fun y45 e46 k c47 H48 st49 g50 v51 r52 => ?_) (fun e e46 c47 H48 st49 g50 pe => ?_)
    rotate_left
    · cases e with
      | ratio =>
        exact pe.elim
      | ground =>
        refine ⟨true, T.exm_ground_ground, fun _ ad53 na54 => ?_, fun z => by cases z⟩
        have k := pe
        have h43 := lift h43 st49
        exact k.fail g50
      | route =>
        exact pe.elim
      | off =>
        exact pe.elim
      | _ => exact pe.elim
    obtain ⟨p55, us56, rfl, r52⟩ := r52
    have r52 := r52.base g44
    have h43 := lift h43 st49
    have h57 := r52.frz
    have g58 := g50.frz (p := p55) r52.new
    have h43 := liftF (p := p55) h43
    refine gname_u ?_
    have k := k.done g58
    refine nx_go ?_
    refine ifS_u ?_
    refine or_s ?_
    refine not_s ?_
    refine PvT.go (pt_list (tyL_b h43) (pv_v rfl)) ?_
    refine ite_b (b := (!y35.isEmpty)) (fun b59 => ?_) (fun b59 => ?_)
    · have k := k.brT b59
      refine test_u ?_
      refine op_u ?_
      refine call_u ?_
      refine PvA.go (pa_c (pv_v rfl) pa_n) ?_
      refine ⟨(frz c47 p55), _, y45, rfl, g58.wf, (tyL_p h57), ?_⟩
      refine Kont.call0 k g58 (fun _ z => by cases z) (fun y60 e61 k c62 H63 st64 g65 v66 r67 => ?_)
      have r67 : v66 = (V.int y60) := r67
      subst r67
      have h43 := lift h43 st64
      have h57 := lift h57 st64
      refine call_u ?_
      refine PvA.go (pa_c (pv_v rfl) pa_n) ?_
      refine ⟨c62, _, y35, rfl, g65.wf, (tyL_p h43), ?_⟩
      refine Kont.call0 k g65 (fun _ z => by cases z) (fun y68 e69 k c70 H71 st72 g73 v74 r75 => ?_)
      have r75 : v74 = (V.int y68) := r75
      subst r75
      have h43 := lift h43 st72
      have h57 := lift h57 st72
      refine rv_nei _ ?_
      refine ⟨_, rfl, ?_⟩
      refine ite_b (b := (!decide (y60 = y68))) (fun b76 => ?_) (fun b76 => ?_)
      · have k := k.brT b76
        exact k.fail g73
      · rw [brF_eq b76] at k
        refine next_u ?_
        refine nx_go ?_
        exact (k.done g73) _ rfl
    · rw [brF_eq b59] at k
      exact k.fail g58
def sp_check_stones (K : PySem.W.Frag) (a : Ad) : Sp := fun vs H Q E => ∃ (c : Cl) (w0 : V) (a0 : List (Int × (Int × Int))) (w1 : V) (a1 : Int), vs = [w0, w1] ∧ Wf c H ∧ rP (tyT2 tyI (tyT2 tyI tyI)) c H w0 a0 ∧ tyI.r c H w1 a1 ∧ Kont (fun y c' H' => ∀ v, tyU.r c' H' v y → Q v H') (fun e _ H' => E (.ref (a.ea e)) none H') [] c H (m_check_stones a0 a1)
theorem ok_check_stones {P : Program} {w : World} {K : PySem.W.Frag} {mg : Str → Option Value} {base : Heap} {a : Ad} (T : Txt K mg a) (G_less : FnOk P w K mg base CX0 1 a.less a.less_fd ["a", "b"] (sp_less K a)) : FnOk P w K mg base (L2N.CX P w) 2 a.check_stones a.check_stones_fd ["stones", "places"] (sp_check_stones K a) := by
  have sc : FnScope ["stones", "places", "k"] ["stones", "places"] (defScope s_check_stones) := ⟨rfl, rfl, rfl, by decide +kernel, rfl, by decide +kernel, by decide +kernel⟩
  refine okN T.check_stones.F sc (fun vs H Q E h => ?_) (fun cdv A outer s H0 vs Q E hr h => ?_)
  · obtain ⟨_, _, _, _, _, rfl, _⟩ := h
    rfl
  · obtain ⟨c0, w0, a0, w1, a1, rfl, wf0, h0, h1, k⟩ := h
    refine ⟨_, (pss_cons (ps_if (PW.pt (pw_or (pt_cmpR op_lt (pe_callB call_len_seq (by rfl) T.b_len PySem.boot_len (pa_cons (pv 0) pa_nil)) pe_int (by first | exact nomark _ | rfl)) (pw_or (pt_cmpR op_ne (pe_ix ix_tup (pe_ix ix_list (pv 0) pe_int (fun _ _ => rfl)) pe_int (fun _ _ => rfl)) pe_int (by first | exact nomark _ | rfl)) (pw_or1 (pt_cmpR op_ne (pe_ix ix_tup (pe_ix ix_list (pv 0) (pe_un un_neg pe_int) (fun _ _ => rfl)) pe_int (fun _ _ => rfl)) (pv 1) (by first | exact nomark _ | rfl)))))) (pss_one (L2N.ps_raise rfl (L2N.takes_of rfl rfl rfl rfl) (L2N.pmk_own PySem.F.excBase_ValueError T.e_route.ex T.e_route.g T.e_route.kp T.e_route.raises (by rfl)))) pss_nil) (pss_one (ps_for (passes_of rfl) rfl (pi_range2 (by rfl) T.b_range (pa_cons pe_int (pa_cons (pe_callB call_len_seq (by rfl) T.b_len PySem.boot_len (pa_cons (pv 0) pa_nil)) pa_nil))) (pg_name (i := 2) sc.nd rfl (Or.inl rfl)) (pss_one (ps_if (PW.pt (pw_or (pt_cmpR op_le (pe_ix ix_tup (pe_ix ix_list (pv 0) (pv 2) (fun _ _ => rfl)) pe_int (fun _ _ => rfl)) (pe_ix ix_tup (pe_ix ix_list (pv 0) (pe_op op_sub (pv 2) pe_int) (fun _ _ => rfl)) pe_int (fun _ _ => rfl)) (by first | exact nomark _ | rfl)) (pw_or1 (pt_not (pt_val (pe_call G_less hr (by rfl) T.less.g T.less.F.kp T.less.b .nil pass0 (pa_cons (pe_ix ix_tup (pe_ix ix_list (pv 0) (pe_op op_sub (pv 2) pe_int) (fun _ _ => rfl)) pe_int (fun _ _ => rfl)) (pa_cons (pe_ix ix_tup (pe_ix ix_list (pv 0) (pv 2) (fun _ _ => rfl)) pe_int (fun _ _ => rfl)) pa_nil)))))))) (pss_one (L2N.ps_raise rfl (L2N.takes_of rfl rfl rfl rfl) (L2N.pmk_own PySem.F.excBase_ValueError T.e_route.ex T.e_route.g T.e_route.kp T.e_route.raises (by rfl)))) pss_nil))))), ?_⟩
    have h1 : w1 = (V.int a1) := h1
    subst h1
    have g0 : Step [] c0 H0 c0 H0 := Step.refl wf0
    unfold m_check_stones at k
    refine seq_u ?_
    obtain ⟨b33, e34, k⟩ := k.bindP (ne_orN ne_ok (ne_orN (ne_opt fun _ => ne_ok) (ne_opt fun _ => ne_ok)))
    refine PvT.ifS (b := b33) ?_ (fun b35 => ?_) (fun b35 => ?_)
    · exact (show PvT _ _ _ b33 from (pt_orN e34 (fun _ h => (by have h := h; exact PvT.is (pt_t (pv_2 (len_B (g0.pl0 h0).b (pv_v rfl)) pv_c rv_i)) (Res.ok.inj h))) (fun _ h => (pt_orN h (fun _ h => (by have h := h; obtain ⟨x20, e21, h⟩ := opt_inv h; obtain ⟨u17, h18, q19⟩ := rv_ixB (g0.pl0 h0).b e21; obtain ⟨u22, h23, q24⟩ := ix2_0 h18; have h23 : u22 = (V.int x20.1) := h23; subst h23; exact PvT.is (pt_t (pv_2 (pv_2 (pv_2 (pv_v rfl) pv_c (q19)) pv_c (q24)) pv_c rv_nei)) (Res.ok.inj h))) (fun _ h => (by have h := h; obtain ⟨x28, e29, h⟩ := opt_inv h; obtain ⟨u25, h26, q27⟩ := rv_ixB (g0.pl0 h0).b e29; obtain ⟨u30, h31, q32⟩ := ix2_0 h26; have h31 : u30 = (V.int x28.1) := h31; subst h31; exact PvT.is (pt_t (pv_2 (pv_2 (pv_2 (pv_v rfl) (pv_neg pv_c) (q27)) pv_c (q32)) (pv_v rfl) rv_nei)) (Res.ok.inj h)))))))
    · have k := k.brT b35
      exact k.fail g0
    · rw [brF_eq b35] at k
      refine next_u ?_
      refine nx_go ?_
      refine for_u ?_
      refine irng2_u ?_
      refine PvA.go (pa_c pv_c (pa_c (len_B (g0.pl0 h0).b (pv_v rfl)) pa_n)) ?_
      obtain ⟨e36, k⟩ := k.chk
      obtain ⟨e37, k⟩ := k.chk
      refine irng2_e e36 e37 ?_
      refine for_rgn (s0 := (() : Unit)) k (fun (s38 : Unit) (c : Cl) (H : Hp) (σ : L2.St) => ∃ (y39 : Option V), σ = [some w0, some (V.int a1), y39] ∧ Step [] c0 H0 c H) ⟨_, rfl, g0⟩ ?_ ?_
      · intro s38 x40 c43 H44 σ N i k
        obtain ⟨y39, rfl, g45⟩ := i
        refine gname_u ?_
        refine ifS_u ?_
        refine or_s ?_
        obtain ⟨x81, e82, k⟩ := k.opt
        obtain ⟨u78, h79, q80⟩ := rv_ixB (g45.pl0 h0).b e82
        obtain ⟨u83, h84, q85⟩ := ix2_0 h79
        have h84 : u83 = (V.int x81.1) := h84
        subst h84
        obtain ⟨x89, e90, k⟩ := k.opt
        obtain ⟨u86, h87, q88⟩ := rv_ixB (g45.pl0 h0).b e90
        obtain ⟨u91, h92, q93⟩ := ix2_0 h87
        have h92 : u91 = (V.int x89.1) := h92
        subst h92
        refine PvT.go (pt_t (pv_2 (pv_2 (pv_2 (pv_v rfl) (pv_v rfl) (q80)) pv_c (q85)) (pv_2 (pv_2 (pv_v rfl) (pv_2 (pv_v rfl) pv_c rv_i) (q88)) pv_c (q93)) rv_i)) ?_
        refine ite_b (b := (decide (x81.1 ≤ x89.1))) (fun b94 => ?_) (fun b94 => ?_)
        · have k := k.brT b94
          exact k.fail g45
        · rw [brF_eq b94] at k
          refine not_s ?_
          refine tB_u ?_
          refine call_u ?_
          obtain ⟨x98, e99, k⟩ := k.opt
          obtain ⟨u95, h96, q97⟩ := rv_ixB (g45.pl0 h0).b e99
          obtain ⟨u100, h101, q102⟩ := ix2_1 h96
          obtain ⟨x106, e107, k⟩ := k.opt
          obtain ⟨u103, h104, q105⟩ := rv_ixB (g45.pl0 h0).b e107
          obtain ⟨u108, h109, q110⟩ := ix2_1 h104
          refine PvA.go (pa_c (pv_2 (pv_2 (pv_v rfl) (pv_2 (pv_v rfl) pv_c rv_i) (q97)) pv_c (q102)) (pa_c (pv_2 (pv_2 (pv_v rfl) (pv_v rfl) (q105)) pv_c (q110)) pa_n)) ?_
          refine ⟨c43, _, x98.2, _, x106.2, rfl, g45.wf, h101, h109, ?_⟩
          refine Kont.call0 k g45 (fun _ z => by cases z) (fun y111 e112 k c113 H114 st115 g116 v117 r118 => ?_)
          have r118 : v117 = (V.bl y111) := r118
          subst r118
          refine ⟨_, rfl, ?_⟩
          refine ite_b (b := y111) (fun b119 => ?_) (fun b119 => ?_)
          · have k := k.brT b119
            refine next_u ?_
            refine nx_go ?_
            exact (k.done g116) _ ⟨_, rfl, g116⟩
          · rw [brF_eq b119] at k
            exact k.fail g116
      · intro s38 c120 H121 σ i k
        obtain ⟨y39, rfl, g122⟩ := i
        refine nx_go ?_
        exact (k.done g122) _ rfl
def sp_between (K : PySem.W.Frag) (a : Ad) : Sp := fun vs H Q E => ∃ (c : Cl) (w0 : V) (a0 : (Int × Int)) (w1 : V) (a1 : (Int × Int)) (w2 : V) (a2 : (Int × Int)) (w3 : V) (a3 : (Int × Int)) (w4 : V) (a4 : (Int × Int)), vs = [w0, w1, w2, w3, w4] ∧ Wf c H ∧ (tyT2 tyI tyI).r c H w0 a0 ∧ (tyT2 tyI tyI).r c H w1 a1 ∧ (tyT2 tyI tyI).r c H w2 a2 ∧ (tyT2 tyI tyI).r c H w3 a3 ∧ (tyT2 tyI tyI).r c H w4 a4 ∧ Kont (fun y c' H' => ∀ v, (tyT2 tyI tyI).r c' H' v y → Q v H') (fun e _ H' => E (.ref (a.ea e)) none H') [] c H (m_between a0 a1 a2 a3 a4)
theorem ok_between {P : Program} {w : World} {K : PySem.W.Frag} {mg : Str → Option Value} {base : Heap} {a : Ad} (T : Txt K mg a) (G_add : FnOk P w K mg base (L2N.CX P w) 3 a.add a.add_fd ["a", "b"] (sp_add K a)) (G_over : FnOk P w K mg base (L2N.CX P w) 3 a.over a.over_fd ["a", "b"] (sp_over K a)) (G_sub : FnOk P w K mg base (L2N.CX P w) 3 a.sub a.sub_fd ["a", "b"] (sp_sub K a)) (G_times : FnOk P w K mg base (L2N.CX P w) 3 a.times a.times_fd ["a", "b"] (sp_times K a)) : FnOk P w K mg base (L2N.CX P w) 4 a.between a.between_fd ["low", "high", "x", "y", "at"] (sp_between K a) := by
  have sc : FnScope ["low", "high", "x", "y", "at"] ["low", "high", "x", "y", "at"] (defScope s_between) := ⟨rfl, rfl, rfl, by decide +kernel, rfl, by decide +kernel, by decide +kernel⟩
  refine okN T.between.F sc (fun vs H Q E h => ?_) (fun cdv A outer s H0 vs Q E hr h => ?_)
  · obtain ⟨_, _, _, _, _, _, _, _, _, _, _, rfl, _⟩ := h
    rfl
  · obtain ⟨c0, w0, a0, w1, a1, w2, a2, w3, a3, w4, a4, rfl, wf0, h0, h1, h2, h3, h4, k⟩ := h
    refine ⟨_, (pss_one (ps_ret (pe_call G_add hr (by rfl) T.add.g T.add.F.kp T.add.b .nil (L2N.passes_call (L2N.takes_of rfl rfl rfl rfl) (fun _ _ _ _ h => h)) (pa_cons (pv 2) (pa_cons (pe_call G_over hr (by rfl) T.over.g T.over.F.kp T.over.b .nil (L2N.passes_call (L2N.takes_of rfl rfl rfl rfl) (fun _ _ _ _ h => h)) (pa_cons (pe_call G_times hr (by rfl) T.times.g T.times.F.kp T.times.b .nil (L2N.passes_call (L2N.takes_of rfl rfl rfl rfl) (fun _ _ _ _ h => h)) (pa_cons (pe_call G_sub hr (by rfl) T.sub.g T.sub.F.kp T.sub.b .nil (L2N.passes_call (L2N.takes_of rfl rfl rfl rfl) (fun _ _ _ _ h => h)) (pa_cons (pv 3) (pa_cons (pv 2) pa_nil))) (pa_cons (pe_call G_sub hr (by rfl) T.sub.g T.sub.F.kp T.sub.b .nil (L2N.passes_call (L2N.takes_of rfl rfl rfl rfl) (fun _ _ _ _ h => h)) (pa_cons (pv 4) (pa_cons (pv 0) pa_nil))) pa_nil))) (pa_cons (pe_call G_sub hr (by rfl) T.sub.g T.sub.F.kp T.sub.b .nil (L2N.passes_call (L2N.takes_of rfl rfl rfl rfl) (fun _ _ _ _ h => h)) (pa_cons (pv 1) (pa_cons (pv 0) pa_nil))) pa_nil))) pa_nil))))), ?_⟩
    have g0 : Step [] c0 H0 c0 H0 := Step.refl wf0
    unfold m_between at k
    refine ret_u ?_
    refine call_u ?_
    refine cons_u ?_
    refine Pv.go (pv_v rfl) ?_
    refine cons_u ?_
    refine call_u ?_
    refine cons_u ?_
    refine call_u ?_
    refine cons_u ?_
    refine call_u ?_
    refine PvA.go (pa_c (pv_v rfl) (pa_c (pv_v rfl) pa_n)) ?_
    refine ⟨c0, _, a3, _, a2, rfl, g0.wf, h3, h2, ?_⟩
    refine Kont.call k g0 (fun _ z => by cases z) (fun y1 e2 k c3 H4 st5 g6 v7 r8 => ?_) (fun e e2 c3 H4 st5 g6 pe => ?_)
    rotate_left
    · exact pe
    have h0 := lift h0 st5
    have h1 := lift h1 st5
    have h2 := lift h2 st5
    have h3 := lift h3 st5
    have h4 := lift h4 st5
    refine cons_u ?_
    refine call_u ?_
    refine PvA.go (pa_c (pv_v rfl) (pa_c (pv_v rfl) pa_n)) ?_
    refine ⟨c3, _, a4, _, a0, rfl, g6.wf, h4, h0, ?_⟩
    refine Kont.call k g6 (fun _ z => by cases z) (fun y9 e10 k c11 H12 st13 g14 v15 r16 => ?_) (fun e e10 c11 H12 st13 g14 pe => ?_)
    rotate_left
    · exact pe
    have h0 := lift h0 st13
    have h1 := lift h1 st13
    have h2 := lift h2 st13
    have h3 := lift h3 st13
    have h4 := lift h4 st13
    have r8 := lift r8 st13
    refine nil_u ?_
    refine ⟨c11, _, y1, _, y9, rfl, g14.wf, r8, r16, ?_⟩
    refine Kont.call k g14 (fun _ z => by cases z) (fun y17 e18 k c19 H20 st21 g22 v23 r24 => ?_) (fun e e18 c19 H20 st21 g22 pe => ?_)
    rotate_left
    · exact pe
    have h0 := lift h0 st21
    have h1 := lift h1 st21
    have h2 := lift h2 st21
    have h3 := lift h3 st21
    have h4 := lift h4 st21
    refine cons_u ?_
    refine call_u ?_
    refine PvA.go (pa_c (pv_v rfl) (pa_c (pv_v rfl) pa_n)) ?_
    refine ⟨c19, _, a1, _, a0, rfl, g22.wf, h1, h0, ?_⟩
    refine Kont.call k g22 (fun _ z => by cases z) (fun y25 e26 k c27 H28 st29 g30 v31 r32 => ?_) (fun e e26 c27 H28 st29 g30 pe => ?_)
    rotate_left
    · exact pe
    have h0 := lift h0 st29
    have h1 := lift h1 st29
    have h2 := lift h2 st29
    have h3 := lift h3 st29
    have h4 := lift h4 st29
    have r24 := lift r24 st29
    refine nil_u ?_
    refine ⟨c27, _, y17, _, y25, rfl, g30.wf, r24, r32, ?_⟩
    refine Kont.call k g30 (fun _ z => by cases z) (fun y33 e34 k c35 H36 st37 g38 v39 r40 => ?_) (fun e e34 c35 H36 st37 g38 pe => ?_)
    rotate_left
    · exact pe
    have h0 := lift h0 st37
    have h1 := lift h1 st37
    have h2 := lift h2 st37
    have h3 := lift h3 st37
    have h4 := lift h4 st37
    refine nil_u ?_
    refine ⟨c35, _, a2, _, y33, rfl, g38.wf, h2, r40, ?_⟩
    refine Kont.call k g38 (fun _ z => by cases z) (fun y41 e42 k c43 H44 st45 g46 v47 r48 => ?_) (fun e e42 c43 H44 st45 g46 pe => ?_)
    rotate_left
    · exact pe
    have h0 := lift h0 st45
    have h1 := lift h1 st45
    have h2 := lift h2 st45
    have h3 := lift h3 st45
    have h4 := lift h4 st45
    exact (k.done g46) _ r48
def sp_Route_init (K : PySem.W.Frag) (a : Ad) : Sp := fun vs H1 Q E => ∃ (c : Cl) (H : Hp) (c1 : Cl) (p dx : Addr) (w0 : V) (a0 : List (PySem.Str × Int × Int × Bool)) (w1 : V) (a1 : List (Int × (Int × Int))), vs = [V.ref p, w0, w1] ∧ Wf c H ∧ Step [] c H c1 H1 ∧ H p = none ∧ OwnI a.C_Route c1 H1 p dx [] ∧ rP (tyT4 tyS tyI tyI tyB) c H w0 a0 ∧ rP (tyT2 tyI (tyT2 tyI tyI)) c H w1 a1 ∧ Kont (fun y c' H' => (ty_Route a).r c' H' (.ref p) y → Q .non H') (fun e _ H' => E (.ref (a.ea e)) none H') [] c H (m_Route_init a0 a1)
theorem ok_Route_init {P : Program} {w : World} {K : PySem.W.Frag} {mg : Str → Option Value} {base : Heap} {a : Ad} (T : Txt K mg a) (G_check_stones : FnOk P w K mg base (L2N.CX P w) 2 a.check_stones a.check_stones_fd ["stones", "places"] (sp_check_stones K a)) (G_check_stretches : FnOk P w K mg base (L2.CX P w) 3 a.check_stretches a.check_stretches_fd ["stretches"] (sp_check_stretches K a)) (G_fewest : FnOk P w K mg base CX0 2 a.fewest a.fewest_fd ["stretches"] (sp_fewest K a)) (G_size : FnOk P w K mg base CX0 1 a.size a.size_fd ["ground"] (sp_size K a)) : FnOk P w K mg base (L2.CX P w) 4 a.Route_init a.Route_init_fd ["self", "stretches", "stones"] (sp_Route_init K a) := by
  have sc : FnScope ["self", "stretches", "stones", "piece", "begin", "end", "turned"] ["self", "stretches", "stones"] (defScope s_Route_init) := ⟨rfl, rfl, rfl, by decide +kernel, rfl, by decide +kernel, by decide +kernel⟩
  refine T.Route_init.F.okX sc (fun vs H Q E h => ?_) (fun cdv A outer s H1 vs Q E hr h => ?_)
  · obtain ⟨_, _, _, _, _, _, _, _, _, rfl, _⟩ := h
    rfl
  · obtain ⟨c0, H0, c1, pS, dxS, w0, a0, w1, a1, rfl, wf0, g0, n0p, ow0, h0, h1, k⟩ := h
    refine ⟨_, (pss_cons (ps_expr (pe_call G_check_stretches hr (by rfl) T.check_stretches.g T.check_stretches.F.kp T.check_stretches.b .nil (passes_call (takes_of rfl rfl rfl rfl) (fun _ _ _ _ h => h)) (pa_cons (pv 1) pa_nil))) (pss_cons (ps_fld (pv 0) (pe_call G_fewest (hr.mono (by decide)) (by rfl) T.fewest.g T.fewest.F.kp T.fewest.b .nil pass0 (pa_cons (pv 1) pa_nil)) rfl) (pss_cons (ps_fld (pv 0) (pe_call G_size (hr.mono (by decide)) (by rfl) T.al_size_ground T.size.F.kp T.size.b .nil pass0 (pa_cons (pe_lc (by rfl) sc.nd (pi_list (pv 1)) (blkOk_by (own := [("piece", 3), ("begin", 4), ("end", 5), ("turned", 6)]) (N := ["self", "stretches", "stones", "piece", "begin", "end", "turned"]) (sc := defScope s_Route_init) (by decide +kernel)) (fun _ _ _ _ _ => (pg_tupK (K := K) (n := 4) (by rfl) (by rfl) (pgs_cons (pg_name (i := 3) sc.nd rfl (Or.inl rfl)) (pgs_cons (pg_name (i := 4) sc.nd rfl (Or.inl rfl)) (pgs_cons (pg_name (i := 5) sc.nd rfl (Or.inl rfl)) (pgs_cons (pg_name (i := 6) sc.nd rfl (Or.inl rfl)) pgs_nil)))))) (fun _ _ _ _ _ => pts_nil) (fun _ _ _ _ _ => (pe_tup (pa_cons (pv 3) (pa_cons (pv 4) (pa_cons (pv 5) pa_nil)))))) pa_nil)) rfl) (pss_cons (ps_expr (pe_call (ofN G_check_stones) (hr.mono (by decide)) (by rfl) T.check_stones.g T.check_stones.F.kp T.check_stones.b .nil (passes_call (takes_of rfl rfl rfl rfl) (fun _ _ _ _ h => h)) (pa_cons (pv 2) (pa_cons (pe_fld (pv 0) rfl) pa_nil)))) (pss_one (ps_fld (pv 0) (pe_callTy cr_list (by rfl) T.b_list (by decide +kernel) (pa_cons (pv 2) pa_nil)) rfl)))))), ?_⟩
    unfold m_Route_init at k
    refine seq_u ?_
    refine drop_u ?_
    refine call_u ?_
    refine PvA.go (pa_c (pv_v rfl) pa_n) ?_
    refine ⟨c1, _, a0, rfl, g0.wf, (g0.pl0 h0), ?_⟩
    refine Kont.call k g0 (fun _ z => by cases z) (fun y1 e2 k c3 H4 st5 g6 v7 r8 => ?_) (fun e e2 c3 H4 st5 g6 pe => ?_)
    rotate_left
    · exact pe
    have r8 : v7 = V.non := r8
    subst r8
    have ow0 := ow0.step0 st5
    refine nx_go ?_
    refine seq_u ?_
    refine setf_u ?_
    refine call_u ?_
    refine PvA.go (pa_c (pv_v rfl) pa_n) ?_
    refine ⟨c3, _, a0, rfl, g6.wf, (g6.pl0 h0), ?_⟩
    refine Kont.call0 k g6 (fun _ z => by cases z) (fun y9 e10 k c11 H12 st13 g14 v15 r16 => ?_)
    obtain ⟨p17, us18, rfl, r16⟩ := r16
    have n19 : pS ≠ p17 := ne_of_none ow0.obj r16.new
    have r16 := r16.base g6
    have ow0 := ow0.step0 st13
    have h20 := r16.frz
    have g21 := g14.frz (p := p17) r16.new
    have ow0 := ow0.other n19
    refine Pv.go (pv_v rfl) ?_
    refine setf_end ow0 g21.wf T.k_Route.cl T.na_Route_stretches (Nat.le_of_ble_eq_true rfl) fun H22 st23 ow24 => ?_
    have g25 := g21.tr1 st23 (.inr n0p)
    have h20 := lift h20 st23
    change OwnI _ _ _ _ _ (List.zip ["stretches"] [(V.ref p17)]) at ow24
    refine nx_go ?_
    refine seq_u ?_
    refine setf_u ?_
    refine call_u ?_
    refine cons_u ?_
    refine lc_u ?_
    refine ilist_u ?_
    refine Pv.go (pv_v rfl) ?_
    obtain ⟨ad26, us27, e29, h28⟩ := rB_open h0.b
    subst e29
    refine ilist_e ((h28.at g25).rd) ?_
    obtain ⟨e30, k⟩ := k.chk
    refine comp_pB (A := (tyT4 tyS tyI tyI tyB)) (B := (tyT3 tyS tyI tyI)) (xs := a0) k g25 e30 (fun ci Hi st => pit_l (h28.at (g25.tr0 st)).rd (h28.at (g25.tr0 st)).rs) ?_ ?_
    · intro x31 v32 c34 H35 Qe Qn st36 gi_ h33 k
      have ow24 := ow24.step0 st36
      have h20 := lift h20 st36
      have h38 := gi_.pl0 h0
      have h39 := gi_.pl0 h1
      have h40 := h28.at gi_
      have g37 : Step [] c34 H35 c34 H35 := Step.refl gi_.wf
      obtain ⟨ad41, u42, u43, u44, u45, e51, rd50, h46, h47, h48, h49⟩ := open4 h33
      subst e51
      refine gtup_u rd50 rfl ?_
      obtain ⟨h46, h46s⟩ := h46
      subst h46
      refine gcons_u ?_
      refine gname_u ?_
      have h47 : u43 = (V.int x31.2.1) := h47
      subst h47
      refine gcons_u ?_
      refine gname_u ?_
      have h48 : u44 = (V.int x31.2.2.1) := h48
      subst h48
      refine gcons_u ?_
      refine gname_u ?_
      have h49 : u45 = (V.bl x31.2.2.2) := h49
      subst h49
      refine gcons_u ?_
      refine gname_u ?_
      refine gnil_u ?_
      refine ⟨rfl, yes_u ?_⟩
      refine tup_u ?_
      refine PvA.go (pa_c (pv_v rfl) (pa_c (pv_v rfl) (pa_c (pv_v rfl) pa_n))) ?_
      refine tup_end (Nat.le_of_ble_eq_true rfl) g37.wf fun p52 c53 H54 st55 cp56 rd57 np58 => ?_
      have n60 : pS ≠ p52 := ne_of_none ow24.obj np58
      have g61 := g37.tr0 st55
      have ow24 := ow24.step0 st55
      have h20 := lift h20 st55
      have h59 : (tyT3 tyS tyI tyI).r c53 H54 (V.ref p52) (x31.1, x31.2.1, x31.2.2.1) := ⟨p52, _, _, _, rfl, cp56, rd57, ⟨rfl, h46s⟩, rfl, rfl⟩
      exact (k.done g61) _ h59
    intro y62 p63 us64 c65 H66 o68_n st67 o68 k
    have n69 : pS ≠ p63 := ne_of_none ow24.obj o68_n
    have g70 := g25.tr0 st67
    have ow24 := ow24.step0 st67
    have h20 := lift h20 st67
    refine nil_u ?_
    refine ⟨c65, _, y62, rfl, g70.wf, o68.pl, ?_⟩
    refine Kont.call0 k g70 (fun _ z => by cases z) (fun y71 e72 k c73 H74 st75 g76 v77 r78 => ?_)
    have r78 : v77 = (V.int y71) := r78
    subst r78
    have ow24 := ow24.step0 st75
    have h20 := lift h20 st75
    refine Pv.go (pv_v rfl) ?_
    refine setf_end ow24 g76.wf T.k_Route.cl T.na_Route__size (Nat.le_of_ble_eq_true rfl) fun H79 st80 ow81 => ?_
    have g82 := g76.tr1 st80 (.inr n0p)
    have h20 := lift h20 st80
    rw [putF_new (ns := ["stretches"]) (us := [(V.ref p17)]) (by decide +kernel) rfl] at ow81
    change OwnI _ _ _ _ _ (List.zip ["stretches", "_size"] [(V.ref p17), (V.int y71)]) at ow81
    refine nx_go ?_
    refine seq_u ?_
    refine drop_u ?_
    refine call_u ?_
    refine PvA.go (pa_c (pv_v rfl) (pa_c (pv_f (pv_v rfl) (ow81.fv T.k_Route.cl T.na_Route__size ((look_at (i := 1) (by decide +kernel) (Nat.le_of_ble_eq_true rfl) rfl).trans rfl))) pa_n)) ?_
    refine ⟨c73, _, a1, _, y71, rfl, g82.wf, (g82.pl0 h1), rfl, ?_⟩
    refine Kont.call k g82 (fun _ z => by cases z) (fun y83 e84 k c85 H86 st87 g88 v89 r90 => ?_) (fun e e84 c85 H86 st87 g88 pe => ?_)
    rotate_left
    · exact pe
    have r90 : v89 = V.non := r90
    subst r90
    have ow81 := ow81.step0 st87
    have h20 := lift h20 st87
    refine nx_go ?_
    refine setf_u ?_
    refine cb_u ?_
    refine PvA.go (pa_c (pv_v rfl) pa_n) ?_
    refine listof_end (H0 := H0) (g88.pl0 h1).b g88.wf (fun _ n => g88.fresh n) fun p91 us92 c93 H94 o96_n st95 o96 => ?_
    have n97 : pS ≠ p91 := ne_of_none ow81.obj o96_n
    have g98 := g88.tr0 st95
    have ow81 := ow81.step0 st95
    have h20 := lift h20 st95
    have h99 := o96.frz
    have g100 := g98.frz (p := p91) o96.new
    have ow81 := ow81.other n97
    have h20 := liftF (p := p91) h20
    refine Pv.go (pv_v rfl) ?_
    refine setf_end ow81 g100.wf T.k_Route.cl T.na_Route_stones (Nat.le_of_ble_eq_true rfl) fun H101 st102 ow103 => ?_
    have g104 := g100.tr1 st102 (.inr n0p)
    have h20 := lift h20 st102
    have h99 := lift h99 st102
    rw [putF_new (ns := ["stretches", "_size"]) (us := [(V.ref p17), (V.int y71)]) (by decide +kernel) rfl] at ow103
    change OwnI _ _ _ _ _ (List.zip ["stretches", "_size", "stones"] [(V.ref p17), (V.int y71), (V.ref p91)]) at ow103
    refine nx_go ?_
    have gz := g104.frz (p := pS) n0p
    exact k.done gz (ow103.frz3 (show (tyL (tyT4 tyS tyI tyI tyB)).r _ _ _ y9 from h20) (show tyI.r _ _ _ y71 from rfl) (show (tyL (tyT2 tyI (tyT2 tyI tyI))).r _ _ _ a1 from h99))
def sp_Route_size (K : PySem.W.Frag) (a : Ad) : Sp := fun vs H Q E => ∃ (c : Cl) (w0 : V) (a0 : M_Route), vs = [w0] ∧ Wf c H ∧ (ty_Route a).r c H w0 a0 ∧ Kont (fun y c' H' => ∀ v, tyI.r c' H' v y → Q v H') (fun _ _ _ => False) [] c H (m_Route_size a0)
theorem ok_Route_size {P : Program} {w : World} {K : PySem.W.Frag} {mg : Str → Option Value} {base : Heap} {a : Ad} (T : Txt K mg a) : FnOk P w K mg base CX0 1 a.Route_size a.Route_size_fd ["self"] (sp_Route_size K a) := by
  have sc : FnScope ["self"] ["self"] (defScope s_Route_size) := ⟨rfl, rfl, rfl, by decide +kernel, rfl, by decide +kernel, by decide +kernel⟩
  refine T.Route_size.F.ok sc (fun vs H Q E h => ?_) (fun cdv A outer s H0 vs Q E hr h => ?_)
  · obtain ⟨_, _, _, rfl, _⟩ := h
    rfl
  · obtain ⟨c0, w0, a0, rfl, wf0, h0, k⟩ := h
    refine ⟨_, (pss_one (ps_ret (pe_fld (pv 0) rfl))), ?_⟩
    have g0 : Step [] c0 H0 c0 H0 := Step.refl wf0
    unfold m_Route_size at k
    refine ret_u ?_
    obtain ⟨u1, h2, q3⟩ := fld3_1 h0 T.k_Route.cl T.na_Route__size (by decide +kernel)
    have h2 : u1 = (V.int a0.2.1) := h2
    subst h2
    refine Pv.go (pv_f (pv_v rfl) q3) ?_
    exact (k.done g0) _ rfl
def sp_Route_cell (K : PySem.W.Frag) (a : Ad) : Sp := fun vs H Q E => ∃ (c : Cl) (w0 : V) (a0 : M_Route) (w1 : V) (a1 : Int), vs = [w0, w1] ∧ Wf c H ∧ (ty_Route a).r c H w0 a0 ∧ tyI.r c H w1 a1 ∧ Kont (fun y c' H' => ∀ v, (tyT2 tyS tyI).r c' H' v y → Q v H') (fun e _ H' => E (.ref (a.ea e)) none H') [] c H (m_Route_cell a0 a1)
theorem ok_Route_cell {P : Program} {w : World} {K : PySem.W.Frag} {mg : Str → Option Value} {base : Heap} {a : Ad} (T : Txt K mg a) : FnOk P w K mg base (L2N.CX P w) 1 a.Route_cell a.Route_cell_fd ["self", "index"] (sp_Route_cell K a) := by
  have sc : FnScope ["self", "index", "left", "piece", "begin", "end", "turned"] ["self", "index"] (defScope s_Route_cell) := ⟨rfl, rfl, rfl, by decide +kernel, rfl, by decide +kernel, by decide +kernel⟩
  refine okN T.Route_cell.F sc (fun vs H Q E h => ?_) (fun cdv A outer s H0 vs Q E hr h => ?_)
  · obtain ⟨_, _, _, _, _, rfl, _⟩ := h
    rfl
  · obtain ⟨c0, w0, a0, w1, a1, rfl, wf0, h0, h1, k⟩ := h
    refine ⟨_, (pss_cons (ps_if (PW.pt (pw_or (pt_cmpR op_lt (pv 1) pe_int (by first | exact nomark _ | rfl)) (pw_or1 (pt_cmpR op_ge (pv 1) (pe_fld (pv 0) rfl) (by first | exact nomark _ | rfl))))) (pss_one (L2N.ps_raise rfl (L2N.takes_of rfl rfl rfl rfl) (L2N.pmk_own PySem.F.excBase_ValueError T.e_off.ex T.e_off.g T.e_off.kp T.e_off.raises (by rfl)))) pss_nil) (pss_cons (ps_set (i := 2) sc.nd rfl (Or.inl rfl) (pv 1)) (pss_cons (ps_for (passes_of rfl) rfl (pi_list (pe_fld (pv 0) rfl)) (pg_tup (n := 4) (by rfl) (pgs_cons (pg_name (i := 3) sc.nd rfl (Or.inl rfl)) (pgs_cons (pg_name (i := 4) sc.nd rfl (Or.inl rfl)) (pgs_cons (pg_name (i := 5) sc.nd rfl (Or.inl rfl)) (pgs_cons (pg_name (i := 6) sc.nd rfl (Or.inl rfl)) pgs_nil))))) (pss_cons (ps_if (pt_cmpR op_lt (pv 2) (pe_op op_sub (pv 5) (pv 4)) (by first | exact nomark _ | rfl)) (pss_cons (ps_if (pt_val (pv 6)) (pss_one (ps_ret (pe_tup (pa_cons (pv 3) (pa_cons (pe_op op_sub (pe_op op_sub (pv 5) pe_int) (pv 2)) pa_nil))))) pss_nil) (pss_one (ps_ret (pe_tup (pa_cons (pv 3) (pa_cons (pe_op op_add (pv 4) (pv 2)) pa_nil)))))) pss_nil) (pss_one (ps_set (i := 2) sc.nd rfl (Or.inl rfl) (pe_op op_sub (pv 2) (pe_op op_sub (pv 5) (pv 4))))))) (pss_one (ps_ret pe_non))))), ?_⟩
    have h1 : w1 = (V.int a1) := h1
    subst h1
    have g0 : Step [] c0 H0 c0 H0 := Step.refl wf0
    unfold m_Route_cell at k
    refine seq_u ?_
    obtain ⟨b7, e8, k⟩ := k.bindP (ne_orN ne_ok ne_ok)
    refine PvT.ifS (b := b7) ?_ (fun b9 => ?_) (fun b9 => ?_)
    · exact (show PvT _ _ _ b7 from (pt_orN e8 (fun _ h => (by have h := h; exact PvT.is (pt_t (pv_2 (pv_v rfl) pv_c rv_i)) (Res.ok.inj h))) (fun _ h => (by have h := h; obtain ⟨u4, h5, q6⟩ := fld3_1 h0 T.k_Route.cl T.na_Route__size (by decide +kernel); have h5 : u4 = (V.int a0.2.1) := h5; subst h5; exact PvT.is (pt_t (pv_2 (pv_v rfl) (pv_f (pv_v rfl) q6) rv_i)) (Res.ok.inj h)))))
    · have k := k.brT b9
      exact k.fail g0
    · rw [brF_eq b9] at k
      refine next_u ?_
      refine nx_go ?_
      refine seq_u ?_
      refine asg_u ?_
      refine Pv.go (pv_v rfl) ?_
      refine gname_u ?_
      refine nx_go ?_
      refine seq_u ?_
      refine for_u ?_
      refine ilist_u ?_
      obtain ⟨u10, h11, q12⟩ := fld3_0 h0 T.k_Route.cl T.na_Route_stretches (by decide +kernel)
      refine Pv.go (pv_f (pv_v rfl) q12) ?_
      obtain ⟨ad13, us14, e16, h15⟩ := tyL_open h11
      subst e16
      refine ilist_e (h15.rd) ?_
      refine for_r (A := (tyT4 tyS tyI tyI tyB)) (a := ad13) (us := us14) (s0 := ((a1) : Int)) (Rr := (tyT2 tyS tyI).r) k (fun (s17 : Int) (c : Cl) (H : Hp) (σ : L2.St) => ∃ (y18 : Option V) (y19 : Option V) (y20 : Option V) (y21 : Option V), σ = [some w0, some (V.int a1), some (V.int s17), y18, y19, y20, y21] ∧ Step [] c0 H0 c H ∧ (ty_Route a).r c H w0 a0 ∧ Fzl (tyT4 tyS tyI tyI tyB) c H ad13 us14 a0.1) ⟨_, _, _, _, rfl, g0, h0, h15⟩ ?_ ?_ (fun r k c H g v hv => (k.done g) v hv) ?_
      · exact fun s c H σ ⟨y18, y19, y20, y21, _, g, _, hit⟩ => ⟨hit.rd, hit.rs⟩
      · intro s17 x22 v23 c25 H26 σ N i h24 k
        obtain ⟨y18, y19, y20, y21, rfl, g27, h0, h15⟩ := i
        obtain ⟨ad28, u29, u30, u31, u32, e38, rd37, h33, h34, h35, h36⟩ := open4 h24
        subst e38
        refine gtup_u rd37 rfl ?_
        obtain ⟨h33, h33s⟩ := h33
        subst h33
        refine gcons_u ?_
        refine gname_u ?_
        have h34 : u30 = (V.int x22.2.1) := h34
        subst h34
        refine gcons_u ?_
        refine gname_u ?_
        have h35 : u31 = (V.int x22.2.2.1) := h35
        subst h35
        refine gcons_u ?_
        refine gname_u ?_
        have h36 : u32 = (V.bl x22.2.2.2) := h36
        subst h36
        refine gcons_u ?_
        refine gname_u ?_
        refine gnil_u ?_
        refine seq_u ?_
        refine PvT.ifS (b := (decide (s17 < (x22.2.2.1 - x22.2.1)))) ?_ (fun b39 => ?_) (fun b39 => ?_)
        · exact (show PvT _ _ _ (decide (s17 < (x22.2.2.1 - x22.2.1))) from (pt_t (pv_2 (pv_v rfl) (pv_2 (pv_v rfl) (pv_v rfl) rv_i) rv_i)))
        · have k := k.brT b39
          refine seq_u ?_
          refine PvT.ifS (b := x22.2.2.2) ?_ (fun b40 => ?_) (fun b40 => ?_)
          · exact (show PvT _ _ _ x22.2.2.2 from (pt_b (pv_v rfl)))
          · have k := k.brT b40
            refine ret_u ?_
            refine tup_u ?_
            refine PvA.go (pa_c (pv_v rfl) (pa_c (pv_2 (pv_2 (pv_v rfl) pv_c rv_i) (pv_v rfl) rv_i) pa_n)) ?_
            refine tup_end (Nat.le_of_ble_eq_true rfl) g27.wf fun p41 c42 H43 st44 cp45 rd46 np47 => ?_
            have g49 := g27.tr0 st44
            have h0 := lift h0 st44
            have h15 := h15.lift st44
            have h48 : (tyT2 tyS tyI).r c42 H43 (V.ref p41) (x22.1, ((x22.2.2.1 - (1 : Int)) - s17)) := ⟨p41, _, _, rfl, cp45, rd46, ⟨rfl, h33s⟩, rfl⟩
            exact (k.done g49) _ h48
          · rw [brF_eq b40] at k
            refine next_u ?_
            refine nx_go ?_
            refine ret_u ?_
            refine tup_u ?_
            refine PvA.go (pa_c (pv_v rfl) (pa_c (pv_2 (pv_v rfl) (pv_v rfl) rv_i) pa_n)) ?_
            refine tup_end (Nat.le_of_ble_eq_true rfl) g27.wf fun p50 c51 H52 st53 cp54 rd55 np56 => ?_
            have g58 := g27.tr0 st53
            have h0 := lift h0 st53
            have h15 := h15.lift st53
            have h57 : (tyT2 tyS tyI).r c51 H52 (V.ref p50) (x22.1, (x22.2.1 + s17)) := ⟨p50, _, _, rfl, cp54, rd55, ⟨rfl, h33s⟩, rfl⟩
            exact (k.done g58) _ h57
        · rw [brF_eq b39] at k
          refine next_u ?_
          refine nx_go ?_
          refine asg_u ?_
          refine Pv.go (pv_2 (pv_v rfl) (pv_2 (pv_v rfl) (pv_v rfl) rv_i) rv_i) ?_
          refine gname_u ?_
          refine nx_go ?_
          exact (k.done g27) _ ⟨_, _, _, _, rfl, g27, h0, h15⟩
      · intro s17 c59 H60 σ i k
        obtain ⟨y18, y19, y20, y21, rfl, g61, h0, h15⟩ := i
        refine nx_go ?_
        refine ret_u ?_
        refine Pv.go pv_c ?_
        exact k.elim
def sp_Route_index (K : PySem.W.Frag) (a : Ad) : Sp := fun vs H Q E => ∃ (c : Cl) (w0 : V) (a0 : M_Route) (w1 : V) (a1 : PySem.Str) (w2 : V) (a2 : Int), vs = [w0, w1, w2] ∧ Wf c H ∧ (ty_Route a).r c H w0 a0 ∧ tyS.r c H w1 a1 ∧ tyI.r c H w2 a2 ∧ Kont (fun y c' H' => ∀ v, tyOI.r c' H' v y → Q v H') (fun _ _ _ => False) [] c H (m_Route_index a0 a1 a2)
theorem ok_Route_index {P : Program} {w : World} {K : PySem.W.Frag} {mg : Str → Option Value} {base : Heap} {a : Ad} (T : Txt K mg a) : FnOk P w K mg base CX0 1 a.Route_index a.Route_index_fd ["self", "piece", "k"] (sp_Route_index K a) := by
  have sc : FnScope ["self", "piece", "k", "passed", "other", "begin", "end", "turned"] ["self", "piece", "k"] (defScope s_Route_index) := ⟨rfl, rfl, rfl, by decide +kernel, rfl, by decide +kernel, by decide +kernel⟩
  refine T.Route_index.F.ok sc (fun vs H Q E h => ?_) (fun cdv A outer s H0 vs Q E hr h => ?_)
  · obtain ⟨_, _, _, _, _, _, _, rfl, _⟩ := h
    rfl
  · obtain ⟨c0, w0, a0, w1, a1, w2, a2, rfl, wf0, h0, h1, h2, k⟩ := h
    refine ⟨_, (pss_cons (ps_set (i := 3) sc.nd rfl (Or.inl rfl) pe_int) (pss_cons (ps_for PassesOwn.never rfl (pi_list (pe_fld (pv 0) rfl)) (pg_tup (n := 4) (by rfl) (pgs_cons (pg_name (i := 4) sc.nd rfl (Or.inl rfl)) (pgs_cons (pg_name (i := 5) sc.nd rfl (Or.inl rfl)) (pgs_cons (pg_name (i := 6) sc.nd rfl (Or.inl rfl)) (pgs_cons (pg_name (i := 7) sc.nd rfl (Or.inl rfl)) pgs_nil))))) (pss_cons (ps_if (PW.pt (pw_and (pt_cmpR op_eq (pv 4) (pv 1) (by first | exact nomark _ | rfl)) (pw_and1 (pt_chain op_le op_lt (pv 5) (pv 2) (pv 6))))) (pss_cons (ps_if (pt_val (pv 7)) (pss_one (ps_ret (pe_op op_sub (pe_op op_sub (pe_op op_add (pv 3) (pv 6)) pe_int) (pv 2)))) pss_nil) (pss_one (ps_ret (pe_op op_sub (pe_op op_add (pv 3) (pv 2)) (pv 5))))) pss_nil) (pss_one (ps_set (i := 3) sc.nd rfl (Or.inl rfl) (pe_op op_sub (pe_op op_add (pv 3) (pv 6)) (pv 5)))))) (pss_one (ps_ret pe_non)))), ?_⟩
    obtain ⟨h1, h1s⟩ := h1
    subst h1
    have h2 : w2 = (V.int a2) := h2
    subst h2
    have g0 : Step [] c0 H0 c0 H0 := Step.refl wf0
    unfold m_Route_index at k
    refine seq_u ?_
    refine asg_u ?_
    refine Pv.go pv_c ?_
    refine gname_u ?_
    refine nx_go ?_
    refine seq_u ?_
    refine for_u ?_
    refine ilist_u ?_
    obtain ⟨u1, h2, q3⟩ := fld3_0 h0 T.k_Route.cl T.na_Route_stretches (by decide +kernel)
    refine Pv.go (pv_f (pv_v rfl) q3) ?_
    obtain ⟨ad4, us5, e7, h6⟩ := tyL_open h2
    subst e7
    refine ilist_e (h6.rd) ?_
    refine for_r (A := (tyT4 tyS tyI tyI tyB)) (a := ad4) (us := us5) (s0 := (((0 : Int)) : Int)) (Rr := tyOI.r) k (fun (s8 : Int) (c : Cl) (H : Hp) (σ : L2.St) => ∃ (y9 : Option V) (y10 : Option V) (y11 : Option V) (y12 : Option V), σ = [some w0, some (V.str a1), some (V.int a2), some (V.int s8), y9, y10, y11, y12] ∧ Step [] c0 H0 c H ∧ (ty_Route a).r c H w0 a0 ∧ Fzl (tyT4 tyS tyI tyI tyB) c H ad4 us5 a0.1) ⟨_, _, _, _, rfl, g0, h0, h6⟩ ?_ ?_ (fun r k c H g v hv => (k.done g) v hv) ?_
    · exact fun s c H σ ⟨y9, y10, y11, y12, _, g, _, hit⟩ => ⟨hit.rd, hit.rs⟩
    · intro s8 x13 v14 c16 H17 σ N i h15 k
      obtain ⟨y9, y10, y11, y12, rfl, g18, h0, h6⟩ := i
      obtain ⟨ad19, u20, u21, u22, u23, e29, rd28, h24, h25, h26, h27⟩ := open4 h15
      subst e29
      refine gtup_u rd28 rfl ?_
      obtain ⟨h24, h24s⟩ := h24
      subst h24
      refine gcons_u ?_
      refine gname_u ?_
      have h25 : u21 = (V.int x13.2.1) := h25
      subst h25
      refine gcons_u ?_
      refine gname_u ?_
      have h26 : u22 = (V.int x13.2.2.1) := h26
      subst h26
      refine gcons_u ?_
      refine gname_u ?_
      have h27 : u23 = (V.bl x13.2.2.2) := h27
      subst h27
      refine gcons_u ?_
      refine gname_u ?_
      refine gnil_u ?_
      refine seq_u ?_
      refine PvT.ifS (b := ((decide (x13.1 = a1)) && ((decide (x13.2.1 ≤ a2)) && (decide (a2 < x13.2.2.1))))) ?_ (fun b30 => ?_) (fun b30 => ?_)
      · exact (show PvT _ _ _ ((decide (x13.1 = a1)) && ((decide (x13.2.1 ≤ a2)) && (decide (a2 < x13.2.2.1)))) from (pt_and (pt_t (pv_2 (pv_v rfl) (pv_v rfl) rv_eqs)) (fun _ => (pt_t (pv_ch (pv_v rfl) (pv_v rfl) rv_i (fun _ => (pv_v rfl)) (fun _ => rv_i))))))
      · have k := k.brT b30
        refine seq_u ?_
        refine PvT.ifS (b := x13.2.2.2) ?_ (fun b31 => ?_) (fun b31 => ?_)
        · exact (show PvT _ _ _ x13.2.2.2 from (pt_b (pv_v rfl)))
        · have k := k.brT b31
          refine ret_u ?_
          refine Pv.go (pv_2 (pv_2 (pv_2 (pv_v rfl) (pv_v rfl) rv_i) pv_c rv_i) (pv_v rfl) rv_i) ?_
          exact (k.done g18) _ rfl
        · rw [brF_eq b31] at k
          refine next_u ?_
          refine nx_go ?_
          refine ret_u ?_
          refine Pv.go (pv_2 (pv_2 (pv_v rfl) (pv_v rfl) rv_i) (pv_v rfl) rv_i) ?_
          exact (k.done g18) _ rfl
      · rw [brF_eq b30] at k
        refine next_u ?_
        refine nx_go ?_
        refine asg_u ?_
        refine Pv.go (pv_2 (pv_2 (pv_v rfl) (pv_v rfl) rv_i) (pv_v rfl) rv_i) ?_
        refine gname_u ?_
        refine nx_go ?_
        exact (k.done g18) _ ⟨_, _, _, _, rfl, g18, h0, h6⟩
    · intro s8 c32 H33 σ i k
      obtain ⟨y9, y10, y11, y12, rfl, g34, h0, h6⟩ := i
      refine nx_go ?_
      refine ret_u ?_
      refine Pv.go pv_c ?_
      exact (k.done g34) _ rfl
def sp_Route_ground (K : PySem.W.Frag) (a : Ad) : Sp := fun vs H Q E => ∃ (c : Cl) (w0 : V) (a0 : M_Route), vs = [w0] ∧ Wf c H ∧ (ty_Route a).r c H w0 a0 ∧ Kont (fun y c' H' => ∀ v, rO (tyT3 tyS tyI tyI) H c' H' v y → Q v H') (fun e _ H' => E (.ref (a.ea e)) none H') [] c H (m_Route_ground a0)
theorem ok_Route_ground {P : Program} {w : World} {K : PySem.W.Frag} {mg : Str → Option Value} {base : Heap} {a : Ad} (T : Txt K mg a) (G_normal : FnOk P w K mg base (L2N.CX P w) 2 a.normal a.normal_fd ["rows"] (sp_normal K a)) : FnOk P w K mg base (L2N.CX P w) 3 a.Route_ground a.Route_ground_fd ["self"] (sp_Route_ground K a) := by
  have sc : FnScope ["self", "piece", "begin", "end", "turned"] ["self"] (defScope s_Route_ground) := ⟨rfl, rfl, rfl, by decide +kernel, rfl, by decide +kernel, by decide +kernel⟩
  refine okN T.Route_ground.F sc (fun vs H Q E h => ?_) (fun cdv A outer s H0 vs Q E hr h => ?_)
  · obtain ⟨_, _, _, rfl, _⟩ := h
    rfl
  · obtain ⟨c0, w0, a0, rfl, wf0, h0, k⟩ := h
    refine ⟨_, (pss_one (ps_ret (pe_call G_normal hr (by rfl) T.normal.g T.normal.F.kp T.normal.b .nil (L2N.passes_call (L2N.takes_of rfl rfl rfl rfl) (fun _ _ _ _ h => h)) (pa_cons (pe_lc (by rfl) sc.nd (pi_list (pe_fld (pv 0) rfl)) (blkOk_by (own := [("piece", 1), ("begin", 2), ("end", 3), ("turned", 4)]) (N := ["self", "piece", "begin", "end", "turned"]) (sc := defScope s_Route_ground) (by decide +kernel)) (fun _ _ _ _ _ => (pg_tupK (K := K) (n := 4) (by rfl) (by rfl) (pgs_cons (pg_name (i := 1) sc.nd rfl (Or.inl rfl)) (pgs_cons (pg_name (i := 2) sc.nd rfl (Or.inl rfl)) (pgs_cons (pg_name (i := 3) sc.nd rfl (Or.inl rfl)) (pgs_cons (pg_name (i := 4) sc.nd rfl (Or.inl rfl)) pgs_nil)))))) (fun _ _ _ _ _ => pts_nil) (fun _ _ _ _ _ => (pe_tup (pa_cons (pv 1) (pa_cons (pv 2) (pa_cons (pv 3) pa_nil)))))) pa_nil)))), ?_⟩
    have g0 : Step [] c0 H0 c0 H0 := Step.refl wf0
    unfold m_Route_ground at k
    refine ret_u ?_
    refine call_u ?_
    refine cons_u ?_
    refine lc_u ?_
    refine ilist_u ?_
    obtain ⟨u1, h2, q3⟩ := fld3_0 h0 T.k_Route.cl T.na_Route_stretches (by decide +kernel)
    refine Pv.go (pv_f (pv_v rfl) q3) ?_
    obtain ⟨ad4, us5, e7, h6⟩ := tyL_open h2
    subst e7
    refine ilist_e (h6.rd) ?_
    obtain ⟨e8, k⟩ := k.chk
    refine comp_pB (A := (tyT4 tyS tyI tyI tyB)) (B := (tyT3 tyS tyI tyI)) (xs := a0.1) k g0 e8 (fun ci Hi st => pit_l (h6.lift st).rd (h6.lift st).rs) ?_ ?_
    · intro x9 v10 c12 H13 Qe Qn st14 gi_ h11 k
      have h0 := lift h0 st14
      have h6 := h6.lift st14
      have g15 : Step [] c12 H13 c12 H13 := Step.refl gi_.wf
      obtain ⟨ad16, u17, u18, u19, u20, e26, rd25, h21, h22, h23, h24⟩ := open4 h11
      subst e26
      refine gtup_u rd25 rfl ?_
      obtain ⟨h21, h21s⟩ := h21
      subst h21
      refine gcons_u ?_
      refine gname_u ?_
      have h22 : u18 = (V.int x9.2.1) := h22
      subst h22
      refine gcons_u ?_
      refine gname_u ?_
      have h23 : u19 = (V.int x9.2.2.1) := h23
      subst h23
      refine gcons_u ?_
      refine gname_u ?_
      have h24 : u20 = (V.bl x9.2.2.2) := h24
      subst h24
      refine gcons_u ?_
      refine gname_u ?_
      refine gnil_u ?_
      refine ⟨rfl, yes_u ?_⟩
      refine tup_u ?_
      refine PvA.go (pa_c (pv_v rfl) (pa_c (pv_v rfl) (pa_c (pv_v rfl) pa_n))) ?_
      refine tup_end (Nat.le_of_ble_eq_true rfl) g15.wf fun p27 c28 H29 st30 cp31 rd32 np33 => ?_
      have g35 := g15.tr0 st30
      have h0 := lift h0 st30
      have h6 := h6.lift st30
      have h34 : (tyT3 tyS tyI tyI).r c28 H29 (V.ref p27) (x9.1, x9.2.1, x9.2.2.1) := ⟨p27, _, _, _, rfl, cp31, rd32, ⟨rfl, h21s⟩, rfl, rfl⟩
      exact (k.done g35) _ h34
    intro y36 p37 us38 c39 H40 o42_n st41 o42 k
    have g43 := g0.tr0 st41
    have h0 := lift h0 st41
    refine nil_u ?_
    refine ⟨c39, _, y36, rfl, g43.wf, o42.pl, ?_⟩
    refine Kont.call k g43 (fun _ z => by cases z) (fun y44 e45 k c46 H47 st48 g49 v50 r51 => ?_) (fun e e45 c46 H47 st48 g49 pe => ?_)
    rotate_left
    · exact pe
    obtain ⟨p52, us53, rfl, r51⟩ := r51
    have r51 := r51.base g43
    have h0 := lift h0 st48
    exact (k.done g49) _ ⟨_, _, rfl, r51⟩
def sp_Route_measure (K : PySem.W.Frag) (a : Ad) : Sp := fun vs H Q E => ∃ (c : Cl) (w0 : V) (a0 : M_Route) (w1 : V) (a1 : Int), vs = [w0, w1] ∧ Wf c H ∧ (ty_Route a).r c H w0 a0 ∧ tyI.r c H w1 a1 ∧ Kont (fun y c' H' => ∀ v, (tyT2 tyI tyI).r c' H' v y → Q v H') (fun e _ H' => E (.ref (a.ea e)) none H') [] c H (m_Route_measure a0 a1)
theorem ok_Route_measure {P : Program} {w : World} {K : PySem.W.Frag} {mg : Str → Option Value} {base : Heap} {a : Ad} (T : Txt K mg a) (G_between : FnOk P w K mg base (L2N.CX P w) 4 a.between a.between_fd ["low", "high", "x", "y", "at"] (sp_between K a)) (G_ratio : FnOk P w K mg base (L2N.CX P w) 2 a.ratio a.ratio_fd ["n", "d"] (sp_ratio K a)) : FnOk P w K mg base (L2N.CX P w) 5 a.Route_measure a.Route_measure_fd ["self", "place"] (sp_Route_measure K a) := by
  have sc : FnScope ["self", "place", "at", "low", "x", "high", "y"] ["self", "place"] (defScope s_Route_measure) := ⟨rfl, rfl, rfl, by decide +kernel, rfl, by decide +kernel, by decide +kernel⟩
  obtain ⟨ds_ratio, hv_ratio, hb_ratio⟩ := T.ratio.d1
  refine okN T.Route_measure.F sc (fun vs H Q E h => ?_) (fun cdv A outer s H0 vs Q E hr h => ?_)
  · obtain ⟨_, _, _, _, _, rfl, _⟩ := h
    rfl
  · obtain ⟨c0, w0, a0, w1, a1, rfl, wf0, h0, h1, k⟩ := h
    refine ⟨_, (pss_cons (ps_if (PW.pt (pw_or (pt_cmpR op_lt (pv 1) pe_int (by first | exact nomark _ | rfl)) (pw_or1 (pt_cmpR op_gt (pv 1) (pe_fld (pv 0) rfl) (by first | exact nomark _ | rfl))))) (pss_one (L2N.ps_raise rfl (L2N.takes_of rfl rfl rfl rfl) (L2N.pmk_own PySem.F.excBase_ValueError T.e_off.ex T.e_off.g T.e_off.kp T.e_off.raises (by rfl)))) pss_nil) (pss_cons (ps_set (i := 2) sc.nd rfl (Or.inl rfl) pe_int) (pss_cons (ps_while (passes_of rfl) (pt_cmpR op_lt (pe_ix ix_tup (pe_ix ix_list (pe_fld (pv 0) rfl) (pv 2) (fun _ _ => rfl)) pe_int (fun _ _ => rfl)) (pv 1) (by first | exact nomark _ | rfl)) (pss_one (ps_set (i := 2) sc.nd rfl (Or.inl rfl) (pe_op op_add (pv 2) pe_int)))) (pss_cons (ps_asg (pe_ix ix_list (pe_fld (pv 0) rfl) (pe_op op_sub (pv 2) pe_int) (fun _ _ => rfl)) (pg_tup (n := 2) (by rfl) (pgs_cons (pg_name (i := 3) sc.nd rfl (Or.inl rfl)) (pgs_cons (pg_name (i := 4) sc.nd rfl (Or.inl rfl)) pgs_nil)))) (pss_cons (ps_asg (pe_ix ix_list (pe_fld (pv 0) rfl) (pv 2) (fun _ _ => rfl)) (pg_tup (n := 2) (by rfl) (pgs_cons (pg_name (i := 5) sc.nd rfl (Or.inl rfl)) (pgs_cons (pg_name (i := 6) sc.nd rfl (Or.inl rfl)) pgs_nil)))) (pss_one (ps_ret (pe_call G_between hr (by rfl) T.between.g T.between.F.kp T.between.b .nil (L2N.passes_call (L2N.takes_of rfl rfl rfl rfl) (fun _ _ _ _ h => h)) (pa_cons (pe_call G_ratio (hr.mono (by decide)) (by rfl) T.ratio.g T.ratio.kp hb_ratio hv_ratio (L2N.passes_call (L2N.takes_of rfl rfl rfl rfl) (fun _ _ _ _ h => h)) (pa_cons (pv 3) pa_nil)) (pa_cons (pe_call G_ratio (hr.mono (by decide)) (by rfl) T.ratio.g T.ratio.kp hb_ratio hv_ratio (L2N.passes_call (L2N.takes_of rfl rfl rfl rfl) (fun _ _ _ _ h => h)) (pa_cons (pv 5) pa_nil)) (pa_cons (pv 4) (pa_cons (pv 6) (pa_cons (pe_call G_ratio (hr.mono (by decide)) (by rfl) T.ratio.g T.ratio.kp hb_ratio hv_ratio (L2N.passes_call (L2N.takes_of rfl rfl rfl rfl) (fun _ _ _ _ h => h)) (pa_cons (pv 1) pa_nil)) pa_nil))))))))))))), ?_⟩
    have h1 : w1 = (V.int a1) := h1
    subst h1
    have g0 : Step [] c0 H0 c0 H0 := Step.refl wf0
    unfold m_Route_measure at k
    refine seq_u ?_
    obtain ⟨b7, e8, k⟩ := k.bindP (ne_orN ne_ok ne_ok)
    refine PvT.ifS (b := b7) ?_ (fun b9 => ?_) (fun b9 => ?_)
    · exact (show PvT _ _ _ b7 from (pt_orN e8 (fun _ h => (by have h := h; exact PvT.is (pt_t (pv_2 (pv_v rfl) pv_c rv_i)) (Res.ok.inj h))) (fun _ h => (by have h := h; obtain ⟨u4, h5, q6⟩ := fld3_1 h0 T.k_Route.cl T.na_Route__size (by decide +kernel); have h5 : u4 = (V.int a0.2.1) := h5; subst h5; exact PvT.is (pt_t (pv_2 (pv_v rfl) (pv_f (pv_v rfl) q6) rv_i)) (Res.ok.inj h)))))
    · have k := k.brT b9
      exact k.fail g0
    · rw [brF_eq b9] at k
      refine next_u ?_
      refine nx_go ?_
      refine seq_u ?_
      refine asg_u ?_
      refine Pv.go pv_c ?_
      refine gname_u ?_
      refine nx_go ?_
      refine seq_u ?_
      refine while_m (s0 := (((1 : Int)) : Int)) k (fun (s10 : Int) (c : Cl) (H : Hp) (σ : L2.St) => σ = [some w0, some (V.int a1), some (V.int s10), none, none, none, none] ∧ Step [] c0 H0 c H ∧ (ty_Route a).r c H w0 a0) ⟨rfl, g0, h0⟩ ?_
      intro n s10 c11 H12 σ M i hM k
      obtain ⟨rfl, g13, h0⟩ := i
      have hM13 := hM
      have k := k.turn
      obtain ⟨u14, h15, q16⟩ := fld3_2 h0 T.k_Route.cl T.na_Route_stones (by decide +kernel)
      obtain ⟨x20, e21, k⟩ := k.opt
      obtain ⟨u17, h18, q19⟩ := rv_ixB (tyL_b h15) e21
      obtain ⟨u22, h23, q24⟩ := ix2_0 h18
      have h23 : u22 = (V.int x20.1) := h23
      subst h23
      refine PvT.go (pt_t (pv_2 (pv_2 (pv_2 (pv_f (pv_v rfl) q16) (pv_v rfl) (q19)) pv_c (q24)) (pv_v rfl) rv_i)) ?_
      refine ite_b (b := (decide (x20.1 < a1))) (fun b25 => ?_) (fun b25 => ?_)
      · have k := k.brT b25
        have k := ((k.done g13).brT rfl).turn
        refine ⟨_, fun _ _ q => q, ?_⟩
        refine asg_u ?_
        refine Pv.go (pv_2 (pv_v rfl) pv_c rv_i) ?_
        refine gname_u ?_
        refine nx_go ?_
        exact hM13 _ _ _ _ ⟨rfl, g13, h0⟩ (k.done g13)
      · rw [brF_eq b25] at k
        have k := (k.done g13).brF rfl
        refine nx_go ?_
        refine seq_u ?_
        refine asg_u ?_
        obtain ⟨u26, h27, q28⟩ := fld3_2 h0 T.k_Route.cl T.na_Route_stones (by decide +kernel)
        obtain ⟨x32, e33, k⟩ := k.opt
        obtain ⟨u29, h30, q31⟩ := rv_ixB (tyL_b h27) e33
        refine Pv.go (pv_2 (pv_f (pv_v rfl) q28) (pv_2 (pv_v rfl) pv_c rv_i) (q31)) ?_
        obtain ⟨ad34, u35, u36, e40, rd39, h37, h38⟩ := open2 h30
        subst e40
        refine gtup_u rd39 rfl ?_
        have h37 : u35 = (V.int x32.1) := h37
        subst h37
        refine gcons_u ?_
        refine gname_u ?_
        refine gcons_u ?_
        refine gname_u ?_
        refine gnil_u ?_
        refine nx_go ?_
        refine seq_u ?_
        refine asg_u ?_
        obtain ⟨u41, h42, q43⟩ := fld3_2 h0 T.k_Route.cl T.na_Route_stones (by decide +kernel)
        obtain ⟨x47, e48, k⟩ := k.opt
        obtain ⟨u44, h45, q46⟩ := rv_ixB (tyL_b h42) e48
        refine Pv.go (pv_2 (pv_f (pv_v rfl) q43) (pv_v rfl) (q46)) ?_
        obtain ⟨ad49, u50, u51, e55, rd54, h52, h53⟩ := open2 h45
        subst e55
        refine gtup_u rd54 rfl ?_
        have h52 : u50 = (V.int x47.1) := h52
        subst h52
        refine gcons_u ?_
        refine gname_u ?_
        refine gcons_u ?_
        refine gname_u ?_
        refine gnil_u ?_
        refine nx_go ?_
        refine ret_u ?_
        refine call_u ?_
        refine cons_u ?_
        refine call_u ?_
        refine PvA.go (pa_c (pv_v rfl) pa_n) ?_
        refine ⟨c11, _, (Dyn.i x32.1), _, (Dyn.i (1 : Int)), rfl, g13.wf, rfl, rfl, ?_⟩
        refine Kont.call k g13 (fun _ z => by cases z) (fun y56 e57 k c58 H59 st60 g61 v62 r63 => ?_) (fun e e57 c58 H59 st60 g61 pe => ?_)
        rotate_left
        · exact pe
        have h0 := lift h0 st60
        have h38 := lift h38 st60
        have h53 := lift h53 st60
        refine cons_u ?_
        refine call_u ?_
        refine PvA.go (pa_c (pv_v rfl) pa_n) ?_
        refine ⟨c58, _, (Dyn.i x47.1), _, (Dyn.i (1 : Int)), rfl, g61.wf, rfl, rfl, ?_⟩
        refine Kont.call k g61 (fun _ z => by cases z) (fun y64 e65 k c66 H67 st68 g69 v70 r71 => ?_) (fun e e65 c66 H67 st68 g69 pe => ?_)
        rotate_left
        · exact pe
        have h0 := lift h0 st68
        have h38 := lift h38 st68
        have h53 := lift h53 st68
        have r63 := lift r63 st68
        refine cons_u ?_
        refine Pv.go (pv_v rfl) ?_
        refine cons_u ?_
        refine Pv.go (pv_v rfl) ?_
        refine cons_u ?_
        refine call_u ?_
        refine PvA.go (pa_c (pv_v rfl) pa_n) ?_
        refine ⟨c66, _, (Dyn.i a1), _, (Dyn.i (1 : Int)), rfl, g69.wf, rfl, rfl, ?_⟩
        refine Kont.call k g69 (fun _ z => by cases z) (fun y72 e73 k c74 H75 st76 g77 v78 r79 => ?_) (fun e e73 c74 H75 st76 g77 pe => ?_)
        rotate_left
        · exact pe
        have h0 := lift h0 st76
        have h38 := lift h38 st76
        have h53 := lift h53 st76
        have r63 := lift r63 st76
        have r71 := lift r71 st76
        refine nil_u ?_
        refine ⟨c74, _, y56, _, y64, _, x32.2, _, x47.2, _, y72, rfl, g77.wf, r63, r71, h38, h53, r79, ?_⟩
        refine Kont.call k g77 (fun _ z => by cases z) (fun y80 e81 k c82 H83 st84 g85 v86 r87 => ?_) (fun e e81 c82 H83 st84 g85 pe => ?_)
        rotate_left
        · exact pe
        have h0 := lift h0 st84
        have h38 := lift h38 st84
        have h53 := lift h53 st84
        exact (k.done g85) _ r87
def sp_law_cell (K : PySem.W.Frag) (a : Ad) : Sp := fun vs H Q E => ∃ (c : Cl) (w0 : V) (a0 : List Int) (w1 : V) (a1 : Int), vs = [w0, w1] ∧ Wf c H ∧ rB K tyI c H w0 a0 ∧ tyI.r c H w1 a1 ∧ Kont (fun y c' H' => ∀ v, tyI.r c' H' v y → Q v H') (fun _ _ _ => False) [] c H (m_law_cell a0 a1)
theorem ok_law_cell {P : Program} {w : World} {K : PySem.W.Frag} {mg : Str → Option Value} {base : Heap} {a : Ad} (T : Txt K mg a) : FnOk P w K mg base CX0 1 a.law_cell a.law_cell_fd ["_law_script", "_law_k"] (sp_law_cell K a) := by
  have sc : FnScope ["_law_script", "_law_k"] ["_law_script", "_law_k"] (defScope s_law_cell) := ⟨rfl, rfl, rfl, by decide +kernel, rfl, by decide +kernel, by decide +kernel⟩
  refine T.law_cell.F.ok sc (fun vs H Q E h => ?_) (fun cdv A outer s H0 vs Q E hr h => ?_)
  · obtain ⟨_, _, _, _, _, rfl, _⟩ := h
    rfl
  · obtain ⟨c0, w0, a0, w1, a1, rfl, wf0, h0, h1, k⟩ := h
    refine ⟨_, (pss_cons (ps_if (pt_cmpR op_lt (pv 1) (pe_callB call_len_seq (by rfl) T.b_len PySem.boot_len (pa_cons (pv 0) pa_nil)) (by first | exact nomark _ | rfl)) (pss_one (ps_ret (pe_callTy call_int1 (by rfl) T.b_int (by decide +kernel) (pa_cons (pe_ix ix_list (pv 0) (pv 1) (fun _ _ => rfl)) pa_nil)))) pss_nil) (pss_one (ps_ret (pe_op op_mulW pe_int (pv 1))))), ?_⟩
    have h1 : w1 = (V.int a1) := h1
    subst h1
    have g0 : Step [] c0 H0 c0 H0 := Step.refl wf0
    unfold m_law_cell at k
    refine seq_u ?_
    refine PvT.ifS (b := (decide (a1 < (a0.length : Int)))) ?_ (fun b1 => ?_) (fun b1 => ?_)
    · exact (show PvT _ _ _ (decide (a1 < (a0.length : Int))) from (pt_t (pv_2 (pv_v rfl) (len_B (g0.b0 h0) (pv_v rfl)) rv_i)))
    · have k := k.brT b1
      refine ret_u ?_
      obtain ⟨x5, e6, k⟩ := k.opt
      obtain ⟨u2, h3, q4⟩ := rv_ixB (g0.b0 h0) e6
      have h3 : u2 = (V.int x5) := h3
      subst h3
      refine Pv.go (pv_cb (pa_c (pv_2 (pv_v rfl) (pv_v rfl) (q4)) pa_n) rc_int) ?_
      exact (k.done g0) _ rfl
    · rw [brF_eq b1] at k
      refine next_u ?_
      refine nx_go ?_
      refine ret_u ?_
      obtain ⟨e7, k⟩ := k.chk
      refine Pv.go (pv_2 pv_c (pv_v rfl) (rv_mul e7)) ?_
      exact (k.done g0) _ rfl
def sp_law_divisor (K : PySem.W.Frag) (a : Ad) : Sp := fun vs H Q E => ∃ (c : Cl) (w0 : V) (a0 : Int) (w1 : V) (a1 : Int), vs = [w0, w1] ∧ Wf c H ∧ tyI.r c H w0 a0 ∧ tyI.r c H w1 a1 ∧ Kont (fun y c' H' => ∀ v, tyI.r c' H' v y → Q v H') (fun _ _ _ => False) [] c H (m_law_divisor a0 a1)
theorem ok_law_divisor {P : Program} {w : World} {K : PySem.W.Frag} {mg : Str → Option Value} {base : Heap} {a : Ad} (T : Txt K mg a) : FnOk P w K mg base CX0 1 a.law_divisor a.law_divisor_fd ["_law_a", "_law_b"] (sp_law_divisor K a) := by
  have sc : FnScope ["_law_a", "_law_b", "_law_low_here", "_law_high", "_law_step", "_law_rest"] ["_law_a", "_law_b"] (defScope s_law_divisor) := ⟨rfl, rfl, rfl, by decide +kernel, rfl, by decide +kernel, by decide +kernel⟩
  refine T.law_divisor.F.ok sc (fun vs H Q E h => ?_) (fun cdv A outer s H0 vs Q E hr h => ?_)
  · obtain ⟨_, _, _, _, _, rfl, _⟩ := h
    rfl
  · obtain ⟨c0, w0, a0, w1, a1, rfl, wf0, h0, h1, k⟩ := h
    refine ⟨_, (pss_cons (ps_set (i := 2) sc.nd rfl (Or.inl rfl) (pe_callB call_abs (by rfl) T.b_abs (by decide +kernel) (pa_cons (pv 0) pa_nil))) (pss_cons (ps_set (i := 3) sc.nd rfl (Or.inl rfl) (pe_callB call_abs (by rfl) T.b_abs (by decide +kernel) (pa_cons (pv 1) pa_nil))) (pss_cons (ps_for PassesOwn.never rfl (pi_range1 (by rfl) T.b_range (pa_cons pe_int pa_nil)) (pg_name (i := 4) sc.nd rfl (Or.inl rfl)) (pss_cons (ps_if (pt_cmpR op_eq (pv 2) pe_int (by first | exact nomark _ | rfl)) (pss_one (ps_ret (pv 3))) pss_nil) (pss_cons (ps_set (i := 5) sc.nd rfl (Or.inl rfl) (pe_op op_mod (pv 3) (pv 2))) (pss_cons (ps_set (i := 3) sc.nd rfl (Or.inl rfl) (pv 2)) (pss_one (ps_set (i := 2) sc.nd rfl (Or.inl rfl) (pv 5))))))) (pss_one (ps_ret (pv 3)))))), ?_⟩
    have h0 : w0 = (V.int a0) := h0
    subst h0
    have h1 : w1 = (V.int a1) := h1
    subst h1
    have g0 : Step [] c0 H0 c0 H0 := Step.refl wf0
    unfold m_law_divisor at k
    refine seq_u ?_
    refine asg_u ?_
    refine Pv.go (pv_cb (pa_c (pv_v rfl) pa_n) rc_abs) ?_
    refine gname_u ?_
    refine nx_go ?_
    refine seq_u ?_
    refine asg_u ?_
    refine Pv.go (pv_cb (pa_c (pv_v rfl) pa_n) rc_abs) ?_
    refine gname_u ?_
    refine nx_go ?_
    refine seq_u ?_
    refine for_u ?_
    refine irng1_u ?_
    refine PvA.go (pa_c pv_c pa_n) ?_
    obtain ⟨e1, k⟩ := k.chk
    refine irng1_e e1 ?_
    refine for_rgr (s0 := (((if a0 < 0 then -a0 else a0), (if a1 < 0 then -a1 else a1)) : Int × Int)) (Rr := tyI.r) k (fun (s2 : Int × Int) (c : Cl) (H : Hp) (σ : L2.St) => ∃ (y3 : Option V) (y4 : Option V), σ = [some (V.int a0), some (V.int a1), some (V.int s2.1), some (V.int s2.2), y3, y4] ∧ Step [] c0 H0 c H) ⟨_, _, rfl, g0⟩ ?_ (fun r k c H g v hv => (k.done g) v hv) ?_
    · intro s2 x5 c8 H9 σ N i k
      obtain ⟨y3, y4, rfl, g10⟩ := i
      refine gname_u ?_
      refine seq_u ?_
      refine PvT.ifS (b := (decide (s2.1 = (0 : Int)))) ?_ (fun b11 => ?_) (fun b11 => ?_)
      · exact (show PvT _ _ _ (decide (s2.1 = (0 : Int))) from (pt_t (pv_2 (pv_v rfl) pv_c rv_eqi)))
      · have k := k.brT b11
        refine ret_u ?_
        refine Pv.go (pv_v rfl) ?_
        exact (k.done g10) _ rfl
      · rw [brF_eq b11] at k
        refine next_u ?_
        refine nx_go ?_
        refine seq_u ?_
        refine asg_u ?_
        obtain ⟨e12, k⟩ := k.chk
        refine Pv.go (pv_2 (pv_v rfl) (pv_v rfl) (rv_mod e12)) ?_
        refine gname_u ?_
        refine nx_go ?_
        refine seq_u ?_
        refine asg_u ?_
        refine Pv.go (pv_v rfl) ?_
        refine gname_u ?_
        refine nx_go ?_
        refine asg_u ?_
        refine Pv.go (pv_v rfl) ?_
        refine gname_u ?_
        refine nx_go ?_
        exact (k.done g10) _ ⟨_, _, rfl, g10⟩
    · intro s2 c13 H14 σ i k
      obtain ⟨y3, y4, rfl, g15⟩ := i
      refine nx_go ?_
      refine ret_u ?_
      refine Pv.go (pv_v rfl) ?_
      exact (k.done g15) _ rfl
def sp_law_order (K : PySem.W.Frag) (a : Ad) : Sp := fun vs H Q E => ∃ (c : Cl) (w0 : V) (a0 : List Int) (w1 : V) (a1 : Int) (w2 : V) (a2 : Int), vs = [w0, w1, w2] ∧ Wf c H ∧ rB K tyI c H w0 a0 ∧ tyI.r c H w1 a1 ∧ tyI.r c H w2 a2 ∧ Kont (fun y c' H' => ∀ v, (tyL (tyT2 tyS tyI)).r c' H' v y → Q v H') (fun _ _ _ => False) [] c H (m_law_order a0 a1 a2)
theorem ok_law_order {P : Program} {w : World} {K : PySem.W.Frag} {mg : Str → Option Value} {base : Heap} {a : Ad} (T : Txt K mg a) (G_law_cell : FnOk P w K mg base CX0 1 a.law_cell a.law_cell_fd ["_law_script", "_law_k"] (sp_law_cell K a)) : FnOk P w K mg base CX0 2 a.law_order a.law_order_fd ["_law_script", "_law_at", "_law_count"] (sp_law_order K a) := by
  have sc : FnScope ["_law_script", "_law_at", "_law_count", "_law_cells", "_law_used", "_law_k", "_law_cell_here", "_law_piece", "_law_begin", "_law_span", "_law_n", "_law_one"] ["_law_script", "_law_at", "_law_count"] (defScope s_law_order) := ⟨rfl, rfl, rfl, by decide +kernel, rfl, by decide +kernel, by decide +kernel⟩
  refine T.law_order.F.ok sc (fun vs H Q E h => ?_) (fun cdv A outer s H0 vs Q E hr h => ?_)
  · obtain ⟨_, _, _, _, _, _, _, rfl, _⟩ := h
    rfl
  · obtain ⟨c0, w0, a0, w1, a1, w2, a2, rfl, wf0, h0, h1, h2, k⟩ := h
    refine ⟨_, (pss_cons (ps_set (i := 3) sc.nd rfl (Or.inr rfl) (pe_lst pa_nil)) (pss_cons (ps_set (i := 4) sc.nd rfl (Or.inl rfl) (pe_lst pa_nil)) (pss_cons (ps_for PassesOwn.never rfl (pi_range1 (by rfl) T.b_range (pa_cons (pv 2) pa_nil)) (pg_name (i := 5) sc.nd rfl (Or.inl rfl)) (pss_cons (ps_set (i := 6) sc.nd rfl (Or.inl rfl) (pe_call G_law_cell hr (by rfl) T.law_cell.g T.law_cell.F.kp T.law_cell.b .nil pass0 (pa_cons (pv 0) (pa_cons (pe_op op_add (pv 1) (pv 5)) pa_nil)))) (pss_cons (ps_set (i := 7) sc.nd rfl (Or.inr rfl) (pe_ix ix_list (pe_lst (pa_cons pe_str (pa_cons pe_str (pa_cons pe_str pa_nil)))) (pe_op op_mod (pv 6) pe_int) (fun _ _ => rfl))) (pss_cons (ps_set (i := 8) sc.nd rfl (Or.inr rfl) (pe_op op_mod (pe_op op_fdiv (pv 6) pe_int) pe_int)) (pss_cons (ps_setLc (i := 9) (by rfl) sc.nd rfl rfl (sw_true rfl rfl rfl (by decide +kernel)) (pi_range1 (by rfl) T.b_range (pa_cons (pe_op op_add pe_int (pe_op op_mod (pe_op op_fdiv (pv 6) pe_int) pe_int)) pa_nil)) (blkOk_by (own := [("_law_n", 10)]) (N := ["_law_script", "_law_at", "_law_count", "_law_cells", "_law_used", "_law_k", "_law_cell_here", "_law_piece", "_law_begin", "_law_span", "_law_n", "_law_one"]) (sc := defScope s_law_order) (by decide +kernel)) (fun _ _ _ _ _ => (pg_name (i := 10) sc.nd rfl (Or.inl rfl))) (fun _ _ _ _ _ => pts_nil) (fun _ _ _ _ _ => (pe_tup (pa_cons (pv 7) (pa_cons (pe_op op_add (pv 8) (pv 10)) pa_nil))))) (pss_cons (ps_setLc (i := 9) (by rfl) sc.nd rfl rfl (sw_true rfl rfl rfl (by decide +kernel)) (pi_list (pv 9)) (blkOk_by (own := [("_law_one", 11)]) (N := ["_law_script", "_law_at", "_law_count", "_law_cells", "_law_used", "_law_k", "_law_cell_here", "_law_piece", "_law_begin", "_law_span", "_law_n", "_law_one"]) (sc := defScope s_law_order) (by decide +kernel)) (fun _ _ _ _ _ => (pg_name (i := 11) sc.nd rfl (Or.inl rfl))) (fun _ _ _ _ _ => (pts_one (pt_cmpR (op_notInDK (K := K) (by rfl) (room65 hr)) (pv 11) (pv 3) (by first | exact nomark _ | rfl)))) (fun _ _ _ _ _ => (pv 11))) (pss_cons (ps_if (pt_cmpR op_eq (pe_op op_mod (pe_op op_fdiv (pv 6) pe_int) pe_int) pe_int (by first | exact nomark _ | rfl)) (pss_one (ps_set (i := 9) sc.nd rfl (Or.inl rfl) (pe_listRev (by rfl) (by rfl) T.b_list (by rfl) T.b_reversed (pv 9)))) pss_nil) (pss_cons (ps_set (i := 3) sc.nd rfl (Or.inr rfl) (pe_op op_cat (pv 3) (pv 9))) (pss_one (ps_expr (pe_bm PySem.F.plainAttrs_list PySem.F.slot_list_append PySem.F.type_list_append mt_append (pv 4) (pa_cons (pe_callB call_len_seq (by rfl) T.b_len PySem.boot_len (pa_cons (pv 9) pa_nil)) pa_nil)))))))))))) (pss_cons (ps_if (pt_cmpR (op_eqD hr.units) (pv 3) (pe_lst pa_nil) (by first | exact nomark _ | rfl)) (pss_one (ps_set (i := 3) sc.nd rfl (Or.inr rfl) (pe_lst (pa_cons (pe_tup (pa_cons pe_str (pa_cons pe_int pa_nil))) pa_nil)))) pss_nil) (pss_one (ps_ret (pv 3))))))), ?_⟩
    have h1 : w1 = (V.int a1) := h1
    subst h1
    have h2 : w2 = (V.int a2) := h2
    subst h2
    have g0 : Step [] c0 H0 c0 H0 := Step.refl wf0
    unfold m_law_order at k
    refine seq_u ?_
    refine asg_u ?_
    refine lst_u ?_
    refine PvA.go pa_n ?_
    refine lst_end (Nat.le_of_ble_eq_true rfl) g0.wf fun p1 c2 H3 st4 cp5 ob6 np7 => ?_
    have w9 := g0.fresh np7
    have g10 := g0.tr0 st4
    have o8 : Own (tyT2 tyS tyI) H0 c2 H3 p1 [] ([] : List (PySem.Str × Int)) := ⟨cp5, ob6, trivial, w9⟩
    have h11 := o8.frz
    have g12 := g10.frz (p := p1) o8.new
    refine gname_u ?_
    refine nx_go ?_
    refine seq_u ?_
    refine asg_u ?_
    refine lst_u ?_
    refine PvA.go pa_n ?_
    refine lst_end (Nat.le_of_ble_eq_true rfl) g12.wf fun p13 c14 H15 st16 cp17 ob18 np19 => ?_
    have w21 := g12.fresh np19
    have g22 := g12.tr0 st16
    have h11 := lift h11 st16
    have o20 : Own tyI H0 c14 H15 p13 [] ([] : List Int) := ⟨cp17, ob18, trivial, w21⟩
    refine gname_u ?_
    refine nx_go ?_
    refine seq_u ?_
    refine for_u ?_
    refine irng1_u ?_
    refine PvA.go (pa_c (pv_v rfl) pa_n) ?_
    obtain ⟨e23, k⟩ := k.chk
    refine irng1_e e23 ?_
    refine for_rgn (s0 := ((([] : List (PySem.Str × Int)), ([] : List Int)) : List (PySem.Str × Int) × List Int)) k (fun (s24 : List (PySem.Str × Int) × List Int) (c : Cl) (H : Hp) (σ : L2.St) => ∃ (v25 : V) (us26 : List V) (y27 : Option V) (y28 : Option V) (y29 : Option V) (y30 : Option V) (y31 : Option V), σ = [some w0, some (V.int a1), some (V.int a2), some v25, some (V.ref p13), y27, y28, y29, y30, y31, none, none] ∧ Step [] c0 H0 c H ∧ (tyL (tyT2 tyS tyI)).r c H v25 s24.1 ∧ Own tyI H0 c H p13 us26 s24.2) ⟨_, _, _, _, _, _, _, rfl, g22, h11, o20⟩ ?_ ?_
    · intro s24 x32 c35 H36 σ N i k
      obtain ⟨v25, us26, y27, y28, y29, y30, y31, rfl, g37, h38, o39⟩ := i
      refine gname_u ?_
      refine seq_u ?_
      refine asg_u ?_
      refine call_u ?_
      refine PvA.go (pa_c (pv_v rfl) (pa_c (pv_2 (pv_v rfl) (pv_v rfl) rv_i) pa_n)) ?_
      refine ⟨c35, _, a0, _, (a1 + x32), rfl, g37.wf, (g37.b0 h0), rfl, ?_⟩
      refine Kont.call k g37 (fun _ z => by cases z) (fun y40 e41 k c42 H43 st44 g45 v46 r47 => ?_) (fun _ _ _ _ _ _ z => z)
      have r47 : v46 = (V.int y40) := r47
      subst r47
      have h38 := lift h38 st44
      have o39 := o39.step0 st44
      refine gname_u ?_
      refine nx_go ?_
      refine seq_u ?_
      refine asg_u ?_
      refine op_u ?_
      refine lst_u ?_
      refine PvA.go (pa_c pv_c (pa_c pv_c (pa_c pv_c pa_n))) ?_
      refine lst_end (Nat.le_of_ble_eq_true rfl) g45.wf fun p48 c49 H50 st51 cp52 ob53 np54 => ?_
      have n56 : p13 ≠ p48 := ne_of_none o39.obj np54
      have w57 := g45.fresh np54
      have g58 := g45.tr0 st51
      have h38 := lift h38 st51
      have o39 := o39.step0 st51
      have o55 : Own tyS H0 c49 H50 p48 [(V.str ("a" : PySem.Str)), (V.str ("b" : PySem.Str)), (V.str ("c" : PySem.Str))] ([("a" : PySem.Str), ("b" : PySem.Str), ("c" : PySem.Str)] : List PySem.Str) := ⟨cp52, ob53, ⟨⟨rfl, (show PyData.strOk ("a" : PySem.Str) = true by decide +kernel)⟩, ⟨⟨rfl, (show PyData.strOk ("b" : PySem.Str) = true by decide +kernel)⟩, ⟨⟨rfl, (show PyData.strOk ("c" : PySem.Str) = true by decide +kernel)⟩, trivial⟩⟩⟩, w57⟩
      refine Pv.go (pv_2 (pv_v rfl) pv_c (rv_modL (by decide))) ?_
      obtain ⟨x62, e63, k⟩ := k.opt
      obtain ⟨u59, h60, q61⟩ := rv_ixB o55.b e63
      obtain ⟨h60, h60s⟩ := h60
      subst h60
      refine q61 _ ?_
      refine gname_u ?_
      refine nx_go ?_
      refine seq_u ?_
      refine asg_u ?_
      refine Pv.go (pv_2 (pv_2 (pv_v rfl) pv_c (rv_divL ⟨by decide, by decide⟩)) pv_c (rv_modL (by decide))) ?_
      refine gname_u ?_
      refine nx_go ?_
      refine seq_u ?_
      refine asg_u ?_
      refine lc_u ?_
      refine irng1_u ?_
      refine PvA.go (pa_c (pv_2 pv_c (pv_2 (pv_2 (pv_v rfl) pv_c (rv_divL ⟨by decide, by decide⟩)) pv_c (rv_modL (by decide))) rv_i) pa_n) ?_
      obtain ⟨e64, k⟩ := k.chk
      refine irng1_e e64 ?_
      obtain ⟨e65, k⟩ := k.chk
      refine comp_pB (A := tyI) (B := (tyT2 tyS tyI)) (xs := (rng 0 ((1 : Int) + ((y40 / (90 : Int)) % (8 : Int))).toNat)) k g58 e65 (fun _ _ _ => pit_r) ?_ ?_
      · intro x66 v67 c69 H70 Qe Qn st71 gi_ h68 k
        have h38 := lift h38 st71
        have o39 := o39.step0 st71
        have h73 := gi_.b0 h0
        have g72 : Step [] c69 H70 c69 H70 := Step.refl gi_.wf
        have h68 : v67 = V.int x66 := h68
        subst h68
        refine gname_u ?_
        refine ⟨rfl, yes_u ?_⟩
        refine tup_u ?_
        refine PvA.go (pa_c (pv_v rfl) (pa_c (pv_2 (pv_v rfl) (pv_v rfl) rv_i) pa_n)) ?_
        refine tup_end (Nat.le_of_ble_eq_true rfl) g72.wf fun p74 c75 H76 st77 cp78 rd79 np80 => ?_
        have n82 : p13 ≠ p74 := ne_of_none o39.obj np80
        have g83 := g72.tr0 st77
        have h38 := lift h38 st77
        have o39 := o39.step0 st77
        have h81 : (tyT2 tyS tyI).r c75 H76 (V.ref p74) (x62, (((y40 / (3 : Int)) % (30 : Int)) + x66)) := ⟨p74, _, _, rfl, cp78, rd79, ⟨rfl, h60s⟩, rfl⟩
        exact (k.done g83) _ h81
      intro y84 p85 us86 c87 H88 o90_n st89 o90 k
      have n91 : p13 ≠ p85 := ne_of_none o39.obj o90_n
      have g92 := g58.tr0 st89
      have h38 := lift h38 st89
      have o39 := o39.step0 st89
      have h93 := o90.frz
      have g94 := g92.frz (p := p85) o90.new
      have h38 := liftF (p := p85) h38
      have o39 := o39.other n91
      refine gname_u ?_
      refine nx_go ?_
      refine seq_u ?_
      refine asg_u ?_
      refine lc_u ?_
      refine ilist_u ?_
      refine Pv.go (pv_v rfl) ?_
      obtain ⟨ad95, us96, e98, h97⟩ := tyL_open h93
      cases e98
      refine ilist_e (h97.rd) ?_
      obtain ⟨e99, k⟩ := k.chk
      refine comp_fB (A := (tyT2 tyS tyI)) (B := (tyT2 tyS tyI)) (xs := y84) k g94 e99 (fun ci Hi st => pit_l (h97.lift st).rd (h97.lift st).rs) ?_ ?_
      · intro x100 v101 c103 H104 Qe Qn st105 gi_ h102 k
        have h38 := lift h38 st105
        have o39 := o39.step0 st105
        have h93 := lift h93 st105
        have h97 := h97.lift st105
        have h107 := gi_.b0 h0
        have g106 : Step [] c103 H104 c103 H104 := Step.refl gi_.wf
        refine gname_u ?_
        refine ⟨rfl, ?_⟩
        refine PvT.go (pt_t (pv_2 (pv_v rfl) (pv_v rfl) (rv_notin (A := (tyT2 tyS tyI)) h102 (tyL_b h38) (by decide)))) ?_
        refine ite_b (b := (!memB x100 s24.1)) (fun b108 => ?_) (fun b108 => ?_)
        · have k := k.brT b108
          refine Pv.go (pv_v rfl) ?_
          exact (k.done g106) _ h102
        · rw [brF_eq b108] at k
          exact k.done g106
      intro y109 p110 us111 c112 H113 o115_n st114 o115 k
      have n116 : p13 ≠ p110 := ne_of_none o39.obj o115_n
      have g117 := g94.tr0 st114
      have h38 := lift h38 st114
      have o39 := o39.step0 st114
      have h93 := lift h93 st114
      have h118 := o115.frz
      have g119 := g117.frz (p := p110) o115.new
      have h38 := liftF (p := p110) h38
      have o39 := o39.other n116
      have h93 := liftF (p := p110) h93
      refine gname_u ?_
      refine nx_go ?_
      refine seq_u ?_
      refine if_cut k (fun (s120 : List (PySem.Str × Int)) (c : Cl) (H : Hp) (σ : L2.St) => ∃ (v121 : V), σ = [some w0, some (V.int a1), some (V.int a2), some v25, some (V.ref p13), some (V.int x32), some (V.int y40), some (V.str x62), some (V.int ((y40 / (3 : Int)) % (30 : Int))), some v121, none, none] ∧ Step [] c0 H0 c H ∧ (tyL (tyT2 tyS tyI)).r c H v121 s120 ∧ (tyL (tyT2 tyS tyI)).r c H v25 s24.1 ∧ Own tyI H0 c H p13 us26 s24.2) ?_ ?_
      rotate_left
      · intro k
        refine PvT.ifS (b := (decide (((y40 / (720 : Int)) % (2 : Int)) = (1 : Int)))) ?_ (fun b126 => ?_) (fun b126 => ?_)
        · exact (show PvT _ _ _ (decide (((y40 / (720 : Int)) % (2 : Int)) = (1 : Int))) from (pt_t (pv_2 (pv_2 (pv_2 (pv_v rfl) pv_c (rv_divL ⟨by decide, by decide⟩)) pv_c (rv_modL (by decide))) pv_c rv_eqi)))
        · have k := k.brT b126
          refine asg_u ?_
          refine lrev_u ?_
          refine Pv.go (pv_v rfl) ?_
          refine lrev_end (H0 := H0) (tyL_b h118) g119.wf (fun _ n => g119.fresh n) fun p127 us128 c129 H130 o132_n st131 o132 => ?_
          have n133 : p13 ≠ p127 := ne_of_none o39.obj o132_n
          have g134 := g119.tr0 st131
          have h38 := lift h38 st131
          have o39 := o39.step0 st131
          have h118 := lift h118 st131
          have h135 := o132.frz
          have g136 := g134.frz (p := p127) o132.new
          have h38 := liftF (p := p127) h38
          have o39 := o39.other n133
          have h118 := liftF (p := p127) h118
          refine gname_u ?_
          exact k.done g136 _ ⟨_, rfl, g136, h135, h38, o39⟩
        · rw [brF_eq b126] at k
          refine next_u ?_
          exact k.done g119 _ ⟨_, rfl, g119, h118, h38, o39⟩
      · intro s120 c122 H123 σ i k
        obtain ⟨v121, rfl, g124, h125, h38, o39⟩ := i
        refine nx_go ?_
        refine seq_u ?_
        refine asg_u ?_
        refine op_u ?_
        refine Pv.go (pv_v rfl) ?_
        refine Pv.go (pv_v rfl) ?_
        obtain ⟨e137, k⟩ := k.chk
        refine cat_B (H0 := H0) (tyL_p h38) (tyL_p h125) g124.wf (fun _ n => g124.fresh n) (of_decide_eq_true e137) fun p138 us139 c140 H141 o143_n st142 o143 => ?_
        have n144 : p13 ≠ p138 := ne_of_none o39.obj o143_n
        have g145 := g124.tr0 st142
        have h38 := lift h38 st142
        have o39 := o39.step0 st142
        have h125 := lift h125 st142
        have h146 := o143.frz
        have g147 := g145.frz (p := p138) o143.new
        have h38 := liftF (p := p138) h38
        have o39 := o39.other n144
        have h125 := liftF (p := p138) h125
        refine gname_u ?_
        refine nx_go ?_
        refine drop_u ?_
        refine bm_u ?_
        refine Pv.go (pv_v rfl) ?_
        refine ⟨ty_list (.inl o39.obj), ?_⟩
        refine PvA.go (pa_c (len_B (tyL_b h125) (pv_v rfl)) pa_n) ?_
        obtain ⟨e148, k⟩ := k.chk
        refine append_end o39 g147.wf (show tyI.r _ _ _ (s120.length : Int) from rfl) (of_decide_eq_true e148) fun H149 st150 o151 => ?_
        have g152 := g147.tr1 st150 (.inr o151.new)
        have h146 := lift h146 st150
        have h125 := lift h125 st150
        refine nx_go ?_
        exact (k.done g152) _ ⟨_, _, _, _, _, _, _, rfl, g152, h146, o151⟩
    · intro s24 c153 H154 σ i k
      obtain ⟨v25, us26, y27, y28, y29, y30, y31, rfl, g155, h156, o157⟩ := i
      refine nx_go ?_
      refine seq_u ?_
      refine if_cut k (fun (s158 : List (PySem.Str × Int)) (c : Cl) (H : Hp) (σ : L2.St) => ∃ (v159 : V), σ = [some w0, some (V.int a1), some (V.int a2), some v159, some (V.ref p13), y27, y28, y29, y30, y31, none, none] ∧ Step [] c0 H0 c H ∧ (tyL (tyT2 tyS tyI)).r c H v159 s158 ∧ Own tyI H0 c H p13 us26 s24.2) ?_ ?_
      rotate_left
      · intro k
        refine ifS_u ?_
        refine test_u ?_
        refine op_u ?_
        refine Pv.go (pv_v rfl) ?_
        refine lst_u ?_
        refine PvA.go pa_n ?_
        refine lst_end (Nat.le_of_ble_eq_true rfl) g155.wf fun p164 c165 H166 st167 cp168 ob169 np170 => ?_
        have n172 : p13 ≠ p164 := ne_of_none o157.obj np170
        have w173 := g155.fresh np170
        have g174 := g155.tr0 st167
        have h156 := lift h156 st167
        have o157 := o157.step0 st167
        have o171 : Own (tyT2 tyS tyI) H0 c165 H166 p164 [] ([] : List (PySem.Str × Int)) := ⟨cp168, ob169, trivial, w173⟩
        refine (rv_eql (tyL_b h156) o171.b (by decide)) _ ?_
        refine ⟨_, rfl, ?_⟩
        refine ite_b (b := (decide (s24.1 = ([] : List (PySem.Str × Int))))) (fun b175 => ?_) (fun b175 => ?_)
        · have k := k.brT b175
          refine asg_u ?_
          refine lst_u ?_
          refine cons_u ?_
          refine tup_u ?_
          refine PvA.go (pa_c pv_c (pa_c pv_c pa_n)) ?_
          refine tup_end (Nat.le_of_ble_eq_true rfl) g174.wf fun p176 c177 H178 st179 cp180 rd181 np182 => ?_
          have n184 : p13 ≠ p176 := ne_of_none o157.obj np182
          have g185 := g174.tr0 st179
          have h156 := lift h156 st179
          have o157 := o157.step0 st179
          have h183 : (tyT2 tyS tyI).r c177 H178 (V.ref p176) (("a" : PySem.Str), (5 : Int)) := ⟨p176, _, _, rfl, cp180, rd181, ⟨rfl, (show PyData.strOk ("a" : PySem.Str) = true by decide +kernel)⟩, rfl⟩
          refine nil_u ?_
          refine lst_end (Nat.le_of_ble_eq_true rfl) g185.wf fun p186 c187 H188 st189 cp190 ob191 np192 => ?_
          have n194 : p13 ≠ p186 := ne_of_none o157.obj np192
          have w195 := g185.fresh np192
          have g196 := g185.tr0 st189
          have h156 := lift h156 st189
          have o157 := o157.step0 st189
          have h183 := lift h183 st189
          have o193 : Own (tyT2 tyS tyI) H0 c187 H188 p186 [(V.ref p176)] ([(("a" : PySem.Str), (5 : Int))] : List (PySem.Str × Int)) := ⟨cp190, ob191, ⟨h183, trivial⟩, w195⟩
          have h197 := o193.frz
          have g198 := g196.frz (p := p186) o193.new
          have h156 := liftF (p := p186) h156
          have o157 := o157.other n194
          refine gname_u ?_
          exact k.done g198 _ ⟨_, rfl, g198, h197, o157⟩
        · rw [brF_eq b175] at k
          refine next_u ?_
          exact k.done g174 _ ⟨_, rfl, g174, h156, o157⟩
      · intro s158 c160 H161 σ i k
        obtain ⟨v159, rfl, g162, h163, o157⟩ := i
        refine nx_go ?_
        refine ret_u ?_
        refine Pv.go (pv_v rfl) ?_
        exact (k.done g162) _ h163
def sp_law_runs (K : PySem.W.Frag) (a : Ad) : Sp := fun vs H Q E => ∃ (c : Cl) (w0 : V) (a0 : List (PySem.Str × Int)), vs = [w0] ∧ Wf c H ∧ rP (tyT2 tyS tyI) c H w0 a0 ∧ Kont (fun y c' H' => ∀ v, (tyL (tyL (tyT2 tyS tyI))).r c' H' v y → Q v H') (fun _ _ _ => False) [] c H (m_law_runs a0)
theorem ok_law_runs {P : Program} {w : World} {K : PySem.W.Frag} {mg : Str → Option Value} {base : Heap} {a : Ad} (T : Txt K mg a) : FnOk P w K mg base CX0 1 a.law_runs a.law_runs_fd ["_law_cells"] (sp_law_runs K a) := by
  have sc : FnScope ["_law_cells", "_law_runs_here", "_law_cell_here", "_law_last", "_law_step"] ["_law_cells"] (defScope s_law_runs) := ⟨rfl, rfl, rfl, by decide +kernel, rfl, by decide +kernel, by decide +kernel⟩
  refine T.law_runs.F.ok sc (fun vs H Q E h => ?_) (fun cdv A outer s H0 vs Q E hr h => ?_)
  · obtain ⟨_, _, _, rfl, _⟩ := h
    rfl
  · obtain ⟨c0, w0, a0, rfl, wf0, h0, k⟩ := h
    refine ⟨_, (pss_cons (ps_set (i := 1) sc.nd rfl (Or.inl rfl) (pe_lst (pa_cons (pe_lst (pa_cons (pe_ix ix_list (pv 0) pe_int (fun _ _ => rfl)) pa_nil)) pa_nil))) (pss_cons (ps_for PassesOwn.never rfl (pi_list (pe_slice sl_list (pv 0) (po_some pe_int) po_none)) (pg_name (i := 2) sc.nd rfl (Or.inl rfl)) (pss_cons (ps_set (i := 3) sc.nd rfl (Or.inl rfl) (pe_ix ix_list (pv 1) (pe_un un_neg pe_int) (fun _ _ => rfl))) (pss_cons (ps_set (i := 4) sc.nd rfl (Or.inl rfl) (pe_op op_sub (pe_ix ix_tup (pv 2) pe_int (fun _ _ => rfl)) (pe_ix ix_tup (pe_ix ix_list (pv 3) (pe_un un_neg pe_int) (fun _ _ => rfl)) pe_int (fun _ _ => rfl)))) (pss_one (ps_if (PW.pt (pw_and (pt_cmpR op_eq (pe_ix ix_tup (pv 2) pe_int (fun _ _ => rfl)) (pe_ix ix_tup (pe_ix ix_list (pv 3) (pe_un un_neg pe_int) (fun _ _ => rfl)) pe_int (fun _ _ => rfl)) (by first | exact nomark _ | rfl)) (pw_and (PW.pt (pw_or (pt_cmpR op_eq (pv 4) pe_int (by first | exact nomark _ | rfl)) (pw_or1 (pt_cmpR op_eq (pv 4) (pe_un un_neg pe_int) (by first | exact nomark _ | rfl))))) (pw_and1 (PW.pt (pw_or (pt_cmpR op_eq (pe_callB call_len_seq (by rfl) T.b_len PySem.boot_len (pa_cons (pv 3) pa_nil)) pe_int (by first | exact nomark _ | rfl)) (pw_or1 (pt_cmpR op_eq (pv 4) (pe_op op_sub (pe_ix ix_tup (pe_ix ix_list (pv 3) pe_int (fun _ _ => rfl)) pe_int (fun _ _ => rfl)) (pe_ix ix_tup (pe_ix ix_list (pv 3) pe_int (fun _ _ => rfl)) pe_int (fun _ _ => rfl))) (by first | exact nomark _ | rfl))))))))) (pss_one (ps_expr (pe_bm PySem.F.plainAttrs_list PySem.F.slot_list_append PySem.F.type_list_append mt_append (pv 3) (pa_cons (pv 2) pa_nil)))) (pss_one (ps_expr (pe_bm PySem.F.plainAttrs_list PySem.F.slot_list_append PySem.F.type_list_append mt_append (pv 1) (pa_cons (pe_lst (pa_cons (pv 2) pa_nil)) pa_nil))))))))) (pss_one (ps_ret (pv 1))))), ?_⟩
    have g0 : Step [] c0 H0 c0 H0 := Step.refl wf0
    unfold m_law_runs at k
    refine seq_u ?_
    refine asg_u ?_
    refine lst_u ?_
    refine cons_u ?_
    refine lst_u ?_
    obtain ⟨x4, e5, k⟩ := k.opt
    obtain ⟨u1, h2, q3⟩ := rv_ixB (g0.pl0 h0).b e5
    refine PvA.go (pa_c (pv_2 (pv_v rfl) pv_c (q3)) pa_n) ?_
    refine lst_end (Nat.le_of_ble_eq_true rfl) g0.wf fun p6 c7 H8 st9 cp10 ob11 np12 => ?_
    have w14 := g0.fresh np12
    have g15 := g0.tr0 st9
    have h2 := lift h2 st9
    have o13 : Own (tyT2 tyS tyI) H0 c7 H8 p6 [u1] ([x4] : List (PySem.Str × Int)) := ⟨cp10, ob11, ⟨h2, trivial⟩, w14⟩
    refine nil_u ?_
    refine lst_end (Nat.le_of_ble_eq_true rfl) g15.wf fun p16 c17 H18 st19 cp20 ob21 np22 => ?_
    have n24 : p6 ≠ p16 := ne_of_none o13.obj np22
    have w25 := g15.fresh np22
    have g26 := g15.tr0 st19
    have o13 := o13.step0 st19
    have o23 := Nest.one cp20 ob21 o13 n24 w25
    have g27 := g26.recol (q := p6) (p := p16) o13.new ⟨_, o23.obj⟩
    refine gname_u ?_
    refine nx_go ?_
    refine seq_u ?_
    refine for_u ?_
    refine ilist_u ?_
    refine sl_u ?_
    refine Pv.go (pv_v rfl) ?_
    refine PvO.go (po_s pv_c) ?_
    refine PvO.go po_n ?_
    refine slice_end (H0 := H0) (g27.pl0 h0).b g27.wf (fun _ n => g27.fresh n) fun p28 us29 c30 H31 o33_n st32 o33 => ?_
    change Own _ H0 _ _ _ _ (sliceL a0 (some (1 : Int)) none) at o33
    have n34 : p16 ≠ p28 := ne_of_none o23.obj o33_n
    have g35 := g27.tr0 st32
    have o23 := o23.step0 st32
    refine ilist_e ((.inl (.inl o33.obj))) ?_
    refine for_n (A := (tyT2 tyS tyI)) (a := p28) (us := us29) (s0 := (([([x4] : List (PySem.Str × Int))]) : List (List (PySem.Str × Int)))) k (fun (s36 : List (List (PySem.Str × Int))) (c : Cl) (H : Hp) (σ : L2.St) => ∃ (us37 : List V) (y38 : Option V) (y39 : Option V) (y40 : Option V), σ = [some w0, some (V.ref p16), y38, y39, y40] ∧ Step [] c0 H0 c H ∧ Nest (tyT2 tyS tyI) H0 c H p16 us37 s36 ∧ Own (tyT2 tyS tyI) H0 c H p28 us29 (sliceL a0 (some (1 : Int)) none)) ⟨_, _, _, _, rfl, g35, o23, o33⟩ ?_ ?_ ?_
    · exact fun s c H σ ⟨us37, y38, y39, y40, _, g, _, hit⟩ => ⟨.inl (.inl hit.obj), hit.rs⟩
    · intro s36 x41 v42 c44 H45 σ N i h43 k
      obtain ⟨us37, y38, y39, y40, rfl, g46, o47, o33⟩ := i
      refine gname_u ?_
      refine seq_u ?_
      refine asg_u ?_
      refine op_u ?_
      refine Pv.go (pv_v rfl) ?_
      refine Pv.go (pv_neg pv_c) ?_
      obtain ⟨j48, e49, k⟩ := k.opt
      obtain ⟨x50, e51, k⟩ := k.opt
      obtain ⟨q52, hq53, rv54⟩ := o47.ix e49 e51
      refine rv54 _ ?_
      refine gname_u ?_
      refine nx_go ?_
      refine seq_u ?_
      refine asg_u ?_
      obtain ⟨u55, h56, q57⟩ := ix2_1 h43
      have h56 : u55 = (V.int x41.2) := h56
      subst h56
      obtain ⟨x61, e62, k⟩ := k.opt
      obtain ⟨u58, h59, q60⟩ := rv_ixB (o47.elb hq53 e51).b e62
      obtain ⟨u63, h64, q65⟩ := ix2_1 h59
      have h64 : u63 = (V.int x61.2) := h64
      subst h64
      refine Pv.go (pv_2 (pv_2 (pv_v rfl) pv_c (q57)) (pv_2 (pv_2 (pv_v rfl) (pv_neg pv_c) (q60)) pv_c (q65)) rv_i) ?_
      refine gname_u ?_
      refine nx_go ?_
      refine if_cut k (fun (s66 : List (List (PySem.Str × Int))) (c : Cl) (H : Hp) (σ : L2.St) => ∃ (us67 : List V), σ = [some w0, some (V.ref p16), some v42, some (V.ref q52), some (V.int (x41.2 - x61.2))] ∧ Step [] c0 H0 c H ∧ Nest (tyT2 tyS tyI) H0 c H p16 us67 s66 ∧ Own (tyT2 tyS tyI) H0 c H p28 us29 (sliceL a0 (some (1 : Int)) none) ∧ (tyT2 tyS tyI).r c H v42 x41) ?_ ?_
      rotate_left
      · intro k
        obtain ⟨b126, e127, k⟩ := k.bindP (ne_andN (ne_opt fun _ => ne_ok) (ne_andN (ne_orN ne_ok ne_ok) (ne_orN ne_ok (ne_opt fun _ => (ne_opt fun _ => ne_ok)))))
        refine PvT.ifS (b := b126) ?_ (fun b128 => ?_) (fun b128 => ?_)
        · exact (show PvT _ _ _ b126 from (pt_andN e127 (fun _ h => (by have h := h; obtain ⟨u99, h100, q101⟩ := ix2_0 h43; obtain ⟨h100, h100s⟩ := h100; subst h100; obtain ⟨x105, e106, h⟩ := opt_inv h; obtain ⟨u102, h103, q104⟩ := rv_ixB (o47.elb hq53 e51).b e106; obtain ⟨u107, h108, q109⟩ := ix2_0 h103; obtain ⟨h108, h108s⟩ := h108; subst h108; exact PvT.is (pt_t (pv_2 (pv_2 (pv_v rfl) pv_c (q101)) (pv_2 (pv_2 (pv_v rfl) (pv_neg pv_c) (q104)) pv_c (q109)) rv_eqs)) (Res.ok.inj h))) (fun _ h => (pt_andN h (fun _ h => (pt_orN h (fun _ h => (by have h := h; exact PvT.is (pt_t (pv_2 (pv_v rfl) pv_c rv_eqi)) (Res.ok.inj h))) (fun _ h => (by have h := h; exact PvT.is (pt_t (pv_2 (pv_v rfl) (pv_neg pv_c) rv_eqi)) (Res.ok.inj h))))) (fun _ h => (pt_orN h (fun _ h => (by have h := h; exact PvT.is (pt_t (pv_2 (len_B (o47.elb hq53 e51).b (pv_v rfl)) pv_c rv_eqi)) (Res.ok.inj h))) (fun _ h => (by have h := h; obtain ⟨x113, e114, h⟩ := opt_inv h; obtain ⟨u110, h111, q112⟩ := rv_ixB (o47.elb hq53 e51).b e114; obtain ⟨u115, h116, q117⟩ := ix2_1 h111; have h116 : u115 = (V.int x113.2) := h116; subst h116; obtain ⟨x121, e122, h⟩ := opt_inv h; obtain ⟨u118, h119, q120⟩ := rv_ixB (o47.elb hq53 e51).b e122; obtain ⟨u123, h124, q125⟩ := ix2_1 h119; have h124 : u123 = (V.int x121.2) := h124; subst h124; exact PvT.is (pt_t (pv_2 (pv_v rfl) (pv_2 (pv_2 (pv_2 (pv_v rfl) pv_c (q112)) pv_c (q117)) (pv_2 (pv_2 (pv_v rfl) pv_c (q120)) pv_c (q125)) rv_i) rv_eqi)) (Res.ok.inj h)))))))))
        · have k := k.brT b128
          refine drop_u ?_
          refine bm_u ?_
          refine Pv.go (pv_v rfl) ?_
          obtain ⟨_, _, ea_, oa_, _⟩ := o47.elb hq53 e51; cases ea_; refine ⟨ty_list (.inl oa_), ?_⟩
          refine PvA.go (pa_c (pv_v rfl) pa_n) ?_
          obtain ⟨e129, k⟩ := k.chk
          refine nest_push_end o47 g46.wf hq53 e51 h43 (of_decide_eq_true e129) fun H130 st131 o132 => ?_
          have g133 := g46.tr1 st131 (.inr o132.new)
          have o33 := o33.step1 st131 (Ne.symm n34)
          have h43 := lift h43 st131
          exact k.done g133 _ ⟨_, rfl, g133, o132, o33, h43⟩
        · rw [brF_eq b128] at k
          refine drop_u ?_
          refine bm_u ?_
          refine Pv.go (pv_v rfl) ?_
          refine ⟨ty_list (.inl o47.obj), ?_⟩
          refine cons_u ?_
          refine lst_u ?_
          refine PvA.go (pa_c (pv_v rfl) pa_n) ?_
          refine lst_end (Nat.le_of_ble_eq_true rfl) g46.wf fun p134 c135 H136 st137 cp138 ob139 np140 => ?_
          have n142 : p16 ≠ p134 := ne_of_none o47.obj np140
          have n143 : p28 ≠ p134 := ne_of_none o33.obj np140
          have w144 := g46.fresh np140
          have g145 := g46.tr0 st137
          have o47 := o47.step0 st137
          have o33 := o33.step0 st137
          have h43 := lift h43 st137
          have o141 : Own (tyT2 tyS tyI) H0 c135 H136 p134 [v42] ([x41] : List (PySem.Str × Int)) := ⟨cp138, ob139, ⟨h43, trivial⟩, w144⟩
          refine nil_u ?_
          obtain ⟨e146, k⟩ := k.chk
          refine nest_append_end o47 g145.wf o141 (Ne.symm n142) (of_decide_eq_true e146) fun H147 st148 o149 o150 => ?_
          have g151 := g145.tr1 st148 (.inr o149.new)
          have o33 := o33.step1 st148 (Ne.symm n34)
          have h43 := lift h43 st148
          have g152 := g151.recol (q := p134) (p := p16) o150.new ⟨_, o149.obj⟩
          have o33 := o33.otherR (p := p16) n143
          have h43 := liftR (q := p134) (p := p16) h43
          exact k.done g152 _ ⟨_, rfl, g152, o149, o33, h43⟩
      · intro s66 c68 H69 σ i k
        obtain ⟨us67, rfl, g70, o71, o33, h43⟩ := i
        refine nx_go ?_
        exact (k.done g70) _ ⟨_, _, _, _, rfl, g70, o71, o33⟩
    · intro s36 c153 H154 σ i k
      obtain ⟨us37, y38, y39, y40, rfl, g155, o156, o33⟩ := i
      refine nx_go ?_
      refine ret_u ?_
      refine Pv.go (pv_v rfl) ?_
      have h157 := o156.frz
      have g158 := g155.frz (p := p16) o156.new
      exact (k.done g158) _ h157
def sp_law_stretches (K : PySem.W.Frag) (a : Ad) : Sp := fun vs H Q E => ∃ (c : Cl) (w0 : V) (a0 : List (PySem.Str × Int)), vs = [w0] ∧ Wf c H ∧ rP (tyT2 tyS tyI) c H w0 a0 ∧ Kont (fun y c' H' => ∀ v, rO (tyT4 tyS tyI tyI tyB) H c' H' v y → Q v H') (fun _ _ _ => False) [] c H (m_law_stretches a0)
theorem ok_law_stretches {P : Program} {w : World} {K : PySem.W.Frag} {mg : Str → Option Value} {base : Heap} {a : Ad} (T : Txt K mg a) (G_law_runs : FnOk P w K mg base CX0 1 a.law_runs a.law_runs_fd ["_law_cells"] (sp_law_runs K a)) : FnOk P w K mg base CX0 2 a.law_stretches a.law_stretches_fd ["_law_cells"] (sp_law_stretches K a) := by
  have sc : FnScope ["_law_cells", "_law_rows", "_law_run", "_law_numbers", "_law_cell_here"] ["_law_cells"] (defScope s_law_stretches) := ⟨rfl, rfl, rfl, by decide +kernel, rfl, by decide +kernel, by decide +kernel⟩
  refine T.law_stretches.F.ok sc (fun vs H Q E h => ?_) (fun cdv A outer s H0 vs Q E hr h => ?_)
  · obtain ⟨_, _, _, rfl, _⟩ := h
    rfl
  · obtain ⟨c0, w0, a0, rfl, wf0, h0, k⟩ := h
    refine ⟨_, (pss_cons (ps_set (i := 1) sc.nd rfl (Or.inl rfl) (pe_lst pa_nil)) (pss_cons (ps_for PassesOwn.never rfl (pi_list (pe_call G_law_runs hr (by rfl) T.law_runs.g T.law_runs.F.kp T.law_runs.b .nil pass0 (pa_cons (pv 0) pa_nil))) (pg_name (i := 2) sc.nd rfl (Or.inl rfl)) (pss_cons (ps_setLc (i := 3) (by rfl) sc.nd rfl rfl (sw_true rfl rfl rfl (by decide +kernel)) (pi_list (pv 2)) (blkOk_by (own := [("_law_cell_here", 4)]) (N := ["_law_cells", "_law_rows", "_law_run", "_law_numbers", "_law_cell_here"]) (sc := defScope s_law_stretches) (by decide +kernel)) (fun _ _ _ _ _ => (pg_name (i := 4) sc.nd rfl (Or.inl rfl))) (fun _ _ _ _ _ => pts_nil) (fun _ _ _ _ _ => (pe_ix (ix_tupK (K := K) (by rfl)) (pv 4) pe_int (fun _ _ => rfl)))) (pss_one (ps_expr (pe_bm PySem.F.plainAttrs_list PySem.F.slot_list_append PySem.F.type_list_append mt_append (pv 1) (pa_cons (pe_tup (pa_cons (pe_ix ix_tup (pe_ix ix_list (pv 2) pe_int (fun _ _ => rfl)) pe_int (fun _ _ => rfl)) (pa_cons (pe_callB (cr_min (by rfl)) (by rfl) T.b_min (by decide +kernel) (pa_cons (pv 3) pa_nil)) (pa_cons (pe_op op_add (pe_callB (cr_max (by rfl)) (by rfl) T.b_max (by decide +kernel) (pa_cons (pv 3) pa_nil)) pe_int) (pa_cons (pe_cmpR op_gt (pe_ix ix_list (pv 3) pe_int (fun _ _ => rfl)) (pe_ix ix_list (pv 3) (pe_un un_neg pe_int) (fun _ _ => rfl)) (by first | exact nomark _ | rfl)) pa_nil))))) pa_nil)))))) (pss_one (ps_ret (pv 1))))), ?_⟩
    have g0 : Step [] c0 H0 c0 H0 := Step.refl wf0
    unfold m_law_stretches at k
    refine seq_u ?_
    refine asg_u ?_
    refine lst_u ?_
    refine PvA.go pa_n ?_
    refine lst_end (Nat.le_of_ble_eq_true rfl) g0.wf fun p1 c2 H3 st4 cp5 ob6 np7 => ?_
    have w9 := g0.fresh np7
    have g10 := g0.tr0 st4
    have o8 : Own (tyT4 tyS tyI tyI tyB) H0 c2 H3 p1 [] ([] : List (PySem.Str × Int × Int × Bool)) := ⟨cp5, ob6, trivial, w9⟩
    refine gname_u ?_
    refine nx_go ?_
    refine seq_u ?_
    refine for_u ?_
    refine ilist_u ?_
    refine call_u ?_
    refine PvA.go (pa_c (pv_v rfl) pa_n) ?_
    refine ⟨c2, _, a0, rfl, g10.wf, (g10.pl0 h0), ?_⟩
    refine Kont.call k g10 (fun _ z => by cases z) (fun y11 e12 k c13 H14 st15 g16 v17 r18 => ?_) (fun _ _ _ _ _ _ z => z)
    have o8 := o8.step0 st15
    obtain ⟨ad19, us20, e22, h21⟩ := tyL_open r18
    subst e22
    refine ilist_e (h21.rd) ?_
    refine for_n (A := (tyL (tyT2 tyS tyI))) (a := ad19) (us := us20) (s0 := ((([] : List (PySem.Str × Int × Int × Bool))) : List (PySem.Str × Int × Int × Bool))) k (fun (s23 : List (PySem.Str × Int × Int × Bool)) (c : Cl) (H : Hp) (σ : L2.St) => ∃ (us24 : List V) (y25 : Option V) (y26 : Option V), σ = [some w0, some (V.ref p1), y25, y26, none] ∧ Step [] c0 H0 c H ∧ Own (tyT4 tyS tyI tyI tyB) H0 c H p1 us24 s23 ∧ Fzl (tyL (tyT2 tyS tyI)) c H ad19 us20 y11) ⟨_, _, _, rfl, g16, o8, h21⟩ ?_ ?_ ?_
    · exact fun s c H σ ⟨us24, y25, y26, _, g, _, hit⟩ => ⟨hit.rd, hit.rs⟩
    · intro s23 x27 v28 c30 H31 σ N i h29 k
      obtain ⟨us24, y25, y26, rfl, g32, o33, h21⟩ := i
      refine gname_u ?_
      refine seq_u ?_
      refine asg_u ?_
      refine lc_u ?_
      refine ilist_u ?_
      refine Pv.go (pv_v rfl) ?_
      obtain ⟨ad34, us35, e37, h36⟩ := tyL_open h29
      subst e37
      refine ilist_e (h36.rd) ?_
      obtain ⟨e38, k⟩ := k.chk
      refine comp_pB (A := (tyT2 tyS tyI)) (B := tyI) (xs := x27) k g32 e38 (fun ci Hi st => pit_l (h36.lift st).rd (h36.lift st).rs) ?_ ?_
      · intro x39 v40 c42 H43 Qe Qn st44 gi_ h41 k
        have o33 := o33.step0 st44
        have h21 := h21.lift st44
        have h29 := lift h29 st44
        have h36 := h36.lift st44
        have h46 := gi_.pl0 h0
        have g45 : Step [] c42 H43 c42 H43 := Step.refl gi_.wf
        refine gname_u ?_
        refine ⟨rfl, yes_u ?_⟩
        obtain ⟨u47, h48, q49⟩ := ix2_1 h41
        have h48 : u47 = (V.int x39.2) := h48
        subst h48
        refine Pv.go (pv_2 (pv_v rfl) pv_c (q49)) ?_
        exact (k.done g45) _ rfl
      intro y50 p51 us52 c53 H54 o56_n st55 o56 k
      have n57 : p1 ≠ p51 := ne_of_none o33.obj o56_n
      have g58 := g32.tr0 st55
      have o33 := o33.step0 st55
      have h21 := h21.lift st55
      have h29 := lift h29 st55
      have h59 := o56.frz
      have g60 := g58.frz (p := p51) o56.new
      have o33 := o33.other n57
      have h21 := h21.liftF (p := p51)
      have h29 := liftF (p := p51) h29
      refine gname_u ?_
      refine nx_go ?_
      refine drop_u ?_
      refine bm_u ?_
      refine Pv.go (pv_v rfl) ?_
      refine ⟨ty_list (.inl o33.obj), ?_⟩
      refine cons_u ?_
      refine tup_u ?_
      refine cons_u ?_
      obtain ⟨x72, e73, k⟩ := k.opt
      obtain ⟨u69, h70, q71⟩ := rv_ixB (tyL_b h29) e73
      obtain ⟨u74, h75, q76⟩ := ix2_0 h70
      obtain ⟨h75, h75s⟩ := h75
      subst h75
      refine Pv.go (pv_2 (pv_2 (pv_v rfl) pv_c (q71)) pv_c (q76)) ?_
      refine cons_u ?_
      refine cb_u ?_
      refine PvA.go (pa_c (pv_v rfl) pa_n) ?_
      obtain ⟨m77, e78, k⟩ := k.opt
      refine min_end (tyL_b h59) e78 ?_
      refine cons_u ?_
      refine op_u ?_
      refine cb_u ?_
      refine PvA.go (pa_c (pv_v rfl) pa_n) ?_
      obtain ⟨m79, e80, k⟩ := k.opt
      refine max_end (tyL_b h59) e80 ?_
      refine Pv.go pv_c ?_
      refine rv_i _ ?_
      refine cons_u ?_
      obtain ⟨x84, e85, k⟩ := k.opt
      obtain ⟨u81, h82, q83⟩ := rv_ixB (tyL_b h59) e85
      have h82 : u81 = (V.int x84) := h82
      subst h82
      obtain ⟨x89, e90, k⟩ := k.opt
      obtain ⟨u86, h87, q88⟩ := rv_ixB (tyL_b h59) e90
      have h87 : u86 = (V.int x89) := h87
      subst h87
      refine Pv.go (pv_2 (pv_2 (pv_v rfl) pv_c (q83)) (pv_2 (pv_v rfl) (pv_neg pv_c) (q88)) rv_i) ?_
      refine nil_u ?_
      refine tup_end (Nat.le_of_ble_eq_true rfl) g60.wf fun p91 c92 H93 st94 cp95 rd96 np97 => ?_
      have n99 : p1 ≠ p91 := ne_of_none o33.obj np97
      have g100 := g60.tr0 st94
      have o33 := o33.step0 st94
      have h21 := h21.lift st94
      have h29 := lift h29 st94
      have h59 := lift h59 st94
      have h98 : (tyT4 tyS tyI tyI tyB).r c92 H93 (V.ref p91) (x72.1, m77, (m79 + (1 : Int)), (decide (x89 < x84))) := ⟨p91, _, _, _, _, rfl, cp95, rd96, ⟨rfl, h75s⟩, rfl, rfl, rfl⟩
      refine nil_u ?_
      obtain ⟨e101, k⟩ := k.chk
      refine append_end o33 g100.wf h98 (of_decide_eq_true e101) fun H102 st103 o104 => ?_
      have g105 := g100.tr1 st103 (.inr o104.new)
      have h21 := h21.lift st103
      have h29 := lift h29 st103
      have h59 := lift h59 st103
      refine nx_go ?_
      exact (k.done g105) _ ⟨_, _, _, rfl, g105, o104, h21⟩
    · intro s23 c106 H107 σ i k
      obtain ⟨us24, y25, y26, rfl, g108, o109, h21⟩ := i
      refine nx_go ?_
      refine ret_u ?_
      refine Pv.go (pv_v rfl) ?_
      exact (k.done g108) _ ⟨_, _, rfl, o109⟩
def sp_law_single (K : PySem.W.Frag) (a : Ad) : Sp := fun vs H Q E => ∃ (c : Cl) (w0 : V) (a0 : List (PySem.Str × Int)) (w1 : V) (a1 : Int), vs = [w0, w1] ∧ Wf c H ∧ rP (tyT2 tyS tyI) c H w0 a0 ∧ tyI.r c H w1 a1 ∧ Kont (fun y c' H' => ∀ v, rO (tyT4 tyS tyI tyI tyB) H c' H' v y → Q v H') (fun _ _ _ => False) [] c H (m_law_single a0 a1)
theorem ok_law_single {P : Program} {w : World} {K : PySem.W.Frag} {mg : Str → Option Value} {base : Heap} {a : Ad} (T : Txt K mg a) : FnOk P w K mg base CX0 1 a.law_single a.law_single_fd ["_law_cells", "_law_cell_here"] (sp_law_single K a) := by
  have sc : FnScope ["_law_cells", "_law_cell_here", "_law_rows", "_law_k"] ["_law_cells", "_law_cell_here"] (defScope s_law_single) := ⟨rfl, rfl, rfl, by decide +kernel, rfl, by decide +kernel, by decide +kernel⟩
  refine T.law_single.F.ok sc (fun vs H Q E h => ?_) (fun cdv A outer s H0 vs Q E hr h => ?_)
  · obtain ⟨_, _, _, _, _, rfl, _⟩ := h
    rfl
  · obtain ⟨c0, w0, a0, w1, a1, rfl, wf0, h0, h1, k⟩ := h
    refine ⟨_, (pss_cons (ps_set (i := 2) sc.nd rfl (Or.inl rfl) (pe_lst pa_nil)) (pss_cons (ps_for PassesOwn.never rfl (pi_range1 (by rfl) T.b_range (pa_cons (pe_callB call_len_seq (by rfl) T.b_len PySem.boot_len (pa_cons (pv 0) pa_nil)) pa_nil)) (pg_name (i := 3) sc.nd rfl (Or.inl rfl)) (pss_one (ps_expr (pe_bm PySem.F.plainAttrs_list PySem.F.slot_list_append PySem.F.type_list_append mt_append (pv 2) (pa_cons (pe_tup (pa_cons (pe_ix ix_tup (pe_ix ix_list (pv 0) (pv 3) (fun _ _ => rfl)) pe_int (fun _ _ => rfl)) (pa_cons (pe_ix ix_tup (pe_ix ix_list (pv 0) (pv 3) (fun _ _ => rfl)) pe_int (fun _ _ => rfl)) (pa_cons (pe_op op_add (pe_ix ix_tup (pe_ix ix_list (pv 0) (pv 3) (fun _ _ => rfl)) pe_int (fun _ _ => rfl)) pe_int) (pa_cons (pe_cmpR op_eq (pe_op op_mod (pe_op op_fdivW (pv 1) (pe_op op_add (pv 3) pe_int)) pe_int) pe_int (by first | exact nomark _ | rfl)) pa_nil))))) pa_nil))))) (pss_one (ps_ret (pv 2))))), ?_⟩
    have h1 : w1 = (V.int a1) := h1
    subst h1
    have g0 : Step [] c0 H0 c0 H0 := Step.refl wf0
    unfold m_law_single at k
    refine seq_u ?_
    refine asg_u ?_
    refine lst_u ?_
    refine PvA.go pa_n ?_
    refine lst_end (Nat.le_of_ble_eq_true rfl) g0.wf fun p1 c2 H3 st4 cp5 ob6 np7 => ?_
    have w9 := g0.fresh np7
    have g10 := g0.tr0 st4
    have o8 : Own (tyT4 tyS tyI tyI tyB) H0 c2 H3 p1 [] ([] : List (PySem.Str × Int × Int × Bool)) := ⟨cp5, ob6, trivial, w9⟩
    refine gname_u ?_
    refine nx_go ?_
    refine seq_u ?_
    refine for_u ?_
    refine irng1_u ?_
    refine PvA.go (pa_c (len_B (g10.pl0 h0).b (pv_v rfl)) pa_n) ?_
    obtain ⟨e11, k⟩ := k.chk
    refine irng1_e e11 ?_
    refine for_rgn (s0 := ((([] : List (PySem.Str × Int × Int × Bool))) : List (PySem.Str × Int × Int × Bool))) k (fun (s12 : List (PySem.Str × Int × Int × Bool)) (c : Cl) (H : Hp) (σ : L2.St) => ∃ (us13 : List V) (y14 : Option V), σ = [some w0, some (V.int a1), some (V.ref p1), y14] ∧ Step [] c0 H0 c H ∧ Own (tyT4 tyS tyI tyI tyB) H0 c H p1 us13 s12) ⟨_, _, rfl, g10, o8⟩ ?_ ?_
    · intro s12 x15 c18 H19 σ N i k
      obtain ⟨us13, y14, rfl, g20, o21⟩ := i
      refine gname_u ?_
      refine drop_u ?_
      refine bm_u ?_
      refine Pv.go (pv_v rfl) ?_
      refine ⟨ty_list (.inl o21.obj), ?_⟩
      refine cons_u ?_
      refine tup_u ?_
      obtain ⟨x25, e26, k⟩ := k.opt
      obtain ⟨u22, h23, q24⟩ := rv_ixB (g20.pl0 h0).b e26
      obtain ⟨u27, h28, q29⟩ := ix2_0 h23
      obtain ⟨h28, h28s⟩ := h28
      subst h28
      obtain ⟨x33, e34, k⟩ := k.opt
      obtain ⟨u30, h31, q32⟩ := rv_ixB (g20.pl0 h0).b e34
      obtain ⟨u35, h36, q37⟩ := ix2_1 h31
      have h36 : u35 = (V.int x33.2) := h36
      subst h36
      obtain ⟨x41, e42, k⟩ := k.opt
      obtain ⟨u38, h39, q40⟩ := rv_ixB (g20.pl0 h0).b e42
      obtain ⟨u43, h44, q45⟩ := ix2_1 h39
      have h44 : u43 = (V.int x41.2) := h44
      subst h44
      obtain ⟨e46, k⟩ := k.chk
      refine PvA.go (pa_c (pv_2 (pv_2 (pv_v rfl) (pv_v rfl) (q24)) pv_c (q29)) (pa_c (pv_2 (pv_2 (pv_v rfl) (pv_v rfl) (q32)) pv_c (q37)) (pa_c (pv_2 (pv_2 (pv_2 (pv_v rfl) (pv_v rfl) (q40)) pv_c (q45)) pv_c rv_i) (pa_c (pv_2 (pv_2 (pv_2 (pv_v rfl) (pv_2 (pv_v rfl) pv_c rv_i) (rv_div e46)) pv_c (rv_modL (by decide))) pv_c rv_eqi) pa_n)))) ?_
      refine tup_end (Nat.le_of_ble_eq_true rfl) g20.wf fun p47 c48 H49 st50 cp51 rd52 np53 => ?_
      have n55 : p1 ≠ p47 := ne_of_none o21.obj np53
      have g56 := g20.tr0 st50
      have o21 := o21.step0 st50
      have h54 : (tyT4 tyS tyI tyI tyB).r c48 H49 (V.ref p47) (x25.1, x33.2, (x41.2 + (1 : Int)), (decide (((a1 / (x15 + (1 : Int))) % (2 : Int)) = (1 : Int)))) := ⟨p47, _, _, _, _, rfl, cp51, rd52, ⟨rfl, h28s⟩, rfl, rfl, rfl⟩
      refine nil_u ?_
      obtain ⟨e57, k⟩ := k.chk
      refine append_end o21 g56.wf h54 (of_decide_eq_true e57) fun H58 st59 o60 => ?_
      have g61 := g56.tr1 st59 (.inr o60.new)
      refine nx_go ?_
      exact (k.done g61) _ ⟨_, _, rfl, g61, o60⟩
    · intro s12 c62 H63 σ i k
      obtain ⟨us13, y14, rfl, g64, o65⟩ := i
      refine nx_go ?_
      refine ret_u ?_
      refine Pv.go (pv_v rfl) ?_
      exact (k.done g64) _ ⟨_, _, rfl, o65⟩
def sp_law_low (K : PySem.W.Frag) (a : Ad) : Sp := fun vs H Q E => ∃ (c : Cl) (w0 : V) (a0 : (Int × Int)), vs = [w0] ∧ Wf c H ∧ (tyT2 tyI tyI).r c H w0 a0 ∧ Kont (fun y c' H' => ∀ v, (tyT2 tyI tyI).r c' H' v y → Q v H') (fun _ _ _ => False) [] c H (m_law_low a0)
theorem ok_law_low {P : Program} {w : World} {K : PySem.W.Frag} {mg : Str → Option Value} {base : Heap} {a : Ad} (T : Txt K mg a) (G_law_divisor : FnOk P w K mg base CX0 1 a.law_divisor a.law_divisor_fd ["_law_a", "_law_b"] (sp_law_divisor K a)) : FnOk P w K mg base CX0 2 a.law_low a.law_low_fd ["_law_value"] (sp_law_low K a) := by
  have sc : FnScope ["_law_value", "_law_shared"] ["_law_value"] (defScope s_law_low) := ⟨rfl, rfl, rfl, by decide +kernel, rfl, by decide +kernel, by decide +kernel⟩
  refine T.law_low.F.ok sc (fun vs H Q E h => ?_) (fun cdv A outer s H0 vs Q E hr h => ?_)
  · obtain ⟨_, _, _, rfl, _⟩ := h
    rfl
  · obtain ⟨c0, w0, a0, rfl, wf0, h0, k⟩ := h
    refine ⟨_, (pss_cons (ps_set (i := 1) sc.nd rfl (Or.inl rfl) (pe_call G_law_divisor hr (by rfl) T.law_divisor.g T.law_divisor.F.kp T.law_divisor.b .nil pass0 (pa_cons (pe_ix ix_tup (pv 0) pe_int (fun _ _ => rfl)) (pa_cons (pe_ix ix_tup (pv 0) pe_int (fun _ _ => rfl)) pa_nil)))) (pss_one (ps_ret (pe_tup (pa_cons (pe_op op_fdivW (pe_ix ix_tup (pv 0) pe_int (fun _ _ => rfl)) (pv 1)) (pa_cons (pe_op op_fdivW (pe_ix ix_tup (pv 0) pe_int (fun _ _ => rfl)) (pv 1)) pa_nil)))))), ?_⟩
    have g0 : Step [] c0 H0 c0 H0 := Step.refl wf0
    unfold m_law_low at k
    refine seq_u ?_
    refine asg_u ?_
    refine call_u ?_
    obtain ⟨u1, h2, q3⟩ := ix2_0 h0
    have h2 : u1 = (V.int a0.1) := h2
    subst h2
    obtain ⟨u4, h5, q6⟩ := ix2_1 h0
    have h5 : u4 = (V.int a0.2) := h5
    subst h5
    refine PvA.go (pa_c (pv_2 (pv_v rfl) pv_c (q3)) (pa_c (pv_2 (pv_v rfl) pv_c (q6)) pa_n)) ?_
    refine ⟨c0, _, a0.1, _, a0.2, rfl, g0.wf, rfl, rfl, ?_⟩
    refine Kont.call k g0 (fun _ z => by cases z) (fun y7 e8 k c9 H10 st11 g12 v13 r14 => ?_) (fun _ _ _ _ _ _ z => z)
    have r14 : v13 = (V.int y7) := r14
    subst r14
    have h0 := lift h0 st11
    refine gname_u ?_
    refine nx_go ?_
    refine ret_u ?_
    refine tup_u ?_
    obtain ⟨u15, h16, q17⟩ := ix2_0 h0
    have h16 : u15 = (V.int a0.1) := h16
    subst h16
    obtain ⟨e18, k⟩ := k.chk
    obtain ⟨u19, h20, q21⟩ := ix2_1 h0
    have h20 : u19 = (V.int a0.2) := h20
    subst h20
    obtain ⟨e22, k⟩ := k.chk
    refine PvA.go (pa_c (pv_2 (pv_2 (pv_v rfl) pv_c (q17)) (pv_v rfl) (rv_div e18)) (pa_c (pv_2 (pv_2 (pv_v rfl) pv_c (q21)) (pv_v rfl) (rv_div e22)) pa_n)) ?_
    refine tup_end (Nat.le_of_ble_eq_true rfl) g12.wf fun p23 c24 H25 st26 cp27 rd28 np29 => ?_
    have g31 := g12.tr0 st26
    have h0 := lift h0 st26
    have h30 : (tyT2 tyI tyI).r c24 H25 (V.ref p23) ((a0.1 / y7), (a0.2 / y7)) := ⟨p23, _, _, rfl, cp27, rd28, rfl, rfl⟩
    exact (k.done g31) _ h30
def sp_law_stones (K : PySem.W.Frag) (a : Ad) : Sp := fun vs H Q E => ∃ (c : Cl) (w0 : V) (a0 : Int) (w1 : V) (a1 : Int), vs = [w0, w1] ∧ Wf c H ∧ tyI.r c H w0 a0 ∧ tyI.r c H w1 a1 ∧ Kont (fun y c' H' => ∀ v, rO (tyT2 tyI (tyT2 tyI tyI)) H c' H' v y → Q v H') (fun _ _ _ => False) [] c H (m_law_stones a0 a1)
theorem ok_law_stones {P : Program} {w : World} {K : PySem.W.Frag} {mg : Str → Option Value} {base : Heap} {a : Ad} (T : Txt K mg a) (G_law_low : FnOk P w K mg base CX0 2 a.law_low a.law_low_fd ["_law_value"] (sp_law_low K a)) : FnOk P w K mg base CX0 3 a.law_stones a.law_stones_fd ["_law_cell_here", "_law_places"] (sp_law_stones K a) := by
  have sc : FnScope ["_law_cell_here", "_law_places", "_law_stones_here", "_law_at", "_law_n", "_law_d", "_law_k", "_law_place", "_law_value"] ["_law_cell_here", "_law_places"] (defScope s_law_stones) := ⟨rfl, rfl, rfl, by decide +kernel, rfl, by decide +kernel, by decide +kernel⟩
  refine T.law_stones.F.ok sc (fun vs H Q E h => ?_) (fun cdv A outer s H0 vs Q E hr h => ?_)
  · obtain ⟨_, _, _, _, _, rfl, _⟩ := h
    rfl
  · obtain ⟨c0, w0, a0, w1, a1, rfl, wf0, h0, h1, k⟩ := h
    refine ⟨_, (pss_cons (ps_set (i := 2) sc.nd rfl (Or.inl rfl) (pe_lst pa_nil)) (pss_cons (ps_set (i := 3) sc.nd rfl (Or.inl rfl) pe_int) (pss_cons (ps_set (i := 4) sc.nd rfl (Or.inl rfl) (pe_op op_sub (pe_op op_mod (pv 0) pe_int) pe_int)) (pss_cons (ps_set (i := 5) sc.nd rfl (Or.inl rfl) (pe_op op_add pe_int (pe_op op_mod (pe_op op_fdiv (pv 0) pe_int) pe_int))) (pss_cons (ps_for PassesOwn.never rfl (pi_range1 (by rfl) T.b_range (pa_cons (pv 1) pa_nil)) (pg_name (i := 6) sc.nd rfl (Or.inl rfl)) (pss_one (ps_if (pt_cmpR op_lt (pv 3) (pv 1) (by first | exact nomark _ | rfl)) (pss_cons (ps_expr (pe_bm PySem.F.plainAttrs_list PySem.F.slot_list_append PySem.F.type_list_append mt_append (pv 2) (pa_cons (pe_tup (pa_cons (pv 3) (pa_cons (pe_tup (pa_cons (pv 4) (pa_cons (pv 5) pa_nil))) pa_nil))) pa_nil))) (pss_cons (ps_set (i := 3) sc.nd rfl (Or.inl rfl) (pe_op op_add (pe_op op_add (pv 3) pe_int) (pe_op op_mod (pe_op op_fdivW (pv 0) (pe_op op_add (pv 6) pe_int)) (pe_op op_add pe_int (pe_op op_mod (pe_op op_fdiv (pv 0) pe_int) pe_int))))) (pss_one (ps_set (i := 4) sc.nd rfl (Or.inl rfl) (pe_op op_add (pe_op op_add (pv 4) pe_int) (pe_op op_mod (pe_op op_fdivW (pv 0) (pe_op op_add (pe_op op_mulW pe_int (pv 6)) pe_int)) pe_int)))))) pss_nil))) (pss_one (ps_ret (pe_op op_cat (pe_lc (by rfl) sc.nd (pi_list (pv 2)) (blkOk_by (own := [("_law_place", 7), ("_law_value", 8)]) (N := ["_law_cell_here", "_law_places", "_law_stones_here", "_law_at", "_law_n", "_law_d", "_law_k", "_law_place", "_law_value"]) (sc := defScope s_law_stones) (by decide +kernel)) (fun _ _ _ _ _ => (pg_tupK (K := K) (n := 2) (by rfl) (by rfl) (pgs_cons (pg_name (i := 7) sc.nd rfl (Or.inl rfl)) (pgs_cons (pg_name (i := 8) sc.nd rfl (Or.inl rfl)) pgs_nil)))) (fun _ _ _ _ _ => pts_nil) (fun _ _ _ _ _ => (pe_tup (pa_cons (pv 7) (pa_cons (pe_call G_law_low hr (by rfl) T.law_low.g T.law_low.F.kp T.law_low.b .nil pass0 (pa_cons (pv 8) pa_nil)) pa_nil))))) (pe_lst (pa_cons (pe_tup (pa_cons (pv 1) (pa_cons (pe_call G_law_low hr (by rfl) T.law_low.g T.law_low.F.kp T.law_low.b .nil pass0 (pa_cons (pe_tup (pa_cons (pv 4) (pa_cons (pv 5) pa_nil))) pa_nil)) pa_nil))) pa_nil)))))))))), ?_⟩
    have h0 : w0 = (V.int a0) := h0
    subst h0
    have h1 : w1 = (V.int a1) := h1
    subst h1
    have g0 : Step [] c0 H0 c0 H0 := Step.refl wf0
    unfold m_law_stones at k
    refine seq_u ?_
    refine asg_u ?_
    refine lst_u ?_
    refine PvA.go pa_n ?_
    refine lst_end (Nat.le_of_ble_eq_true rfl) g0.wf fun p1 c2 H3 st4 cp5 ob6 np7 => ?_
    have w9 := g0.fresh np7
    have g10 := g0.tr0 st4
    have o8 : Own (tyT2 tyI (tyT2 tyI tyI)) H0 c2 H3 p1 [] ([] : List (Int × (Int × Int))) := ⟨cp5, ob6, trivial, w9⟩
    refine gname_u ?_
    refine nx_go ?_
    refine seq_u ?_
    refine asg_u ?_
    refine Pv.go pv_c ?_
    refine gname_u ?_
    refine nx_go ?_
    refine seq_u ?_
    refine asg_u ?_
    refine Pv.go (pv_2 (pv_2 (pv_v rfl) pv_c (rv_modL (by decide))) pv_c rv_i) ?_
    refine gname_u ?_
    refine nx_go ?_
    refine seq_u ?_
    refine asg_u ?_
    refine Pv.go (pv_2 pv_c (pv_2 (pv_2 (pv_v rfl) pv_c (rv_divL ⟨by decide, by decide⟩)) pv_c (rv_modL (by decide))) rv_i) ?_
    refine gname_u ?_
    refine nx_go ?_
    refine seq_u ?_
    refine for_u ?_
    refine irng1_u ?_
    refine PvA.go (pa_c (pv_v rfl) pa_n) ?_
    obtain ⟨e11, k⟩ := k.chk
    refine irng1_e e11 ?_
    refine for_rgn (s0 := ((([] : List (Int × (Int × Int))), (0 : Int), ((a0 % (41 : Int)) - (20 : Int))) : List (Int × (Int × Int)) × Int × Int)) k (fun (s12 : List (Int × (Int × Int)) × Int × Int) (c : Cl) (H : Hp) (σ : L2.St) => ∃ (us13 : List V) (y14 : Option V), σ = [some (V.int a0), some (V.int a1), some (V.ref p1), some (V.int s12.2.1), some (V.int s12.2.2), some (V.int ((1 : Int) + ((a0 / (41 : Int)) % (6 : Int)))), y14, none, none] ∧ Step [] c0 H0 c H ∧ Own (tyT2 tyI (tyT2 tyI tyI)) H0 c H p1 us13 s12.1) ⟨_, _, rfl, g10, o8⟩ ?_ ?_
    · intro s12 x15 c18 H19 σ N i k
      obtain ⟨us13, y14, rfl, g20, o21⟩ := i
      refine gname_u ?_
      refine if_cut k (fun (s22 : Int × Int × List (Int × (Int × Int))) (c : Cl) (H : Hp) (σ : L2.St) => ∃ (us23 : List V), σ = [some (V.int a0), some (V.int a1), some (V.ref p1), some (V.int s22.1), some (V.int s22.2.1), some (V.int ((1 : Int) + ((a0 / (41 : Int)) % (6 : Int)))), some (V.int x15), none, none] ∧ Step [] c0 H0 c H ∧ Own (tyT2 tyI (tyT2 tyI tyI)) H0 c H p1 us23 s22.2.2) ?_ ?_
      rotate_left
      · intro k
        refine PvT.ifS (b := (decide (s12.2.1 < a1))) ?_ (fun b28 => ?_) (fun b28 => ?_)
        · exact (show PvT _ _ _ (decide (s12.2.1 < a1)) from (pt_t (pv_2 (pv_v rfl) (pv_v rfl) rv_i)))
        · have k := k.brT b28
          refine seq_u ?_
          refine drop_u ?_
          refine bm_u ?_
          refine Pv.go (pv_v rfl) ?_
          refine ⟨ty_list (.inl o21.obj), ?_⟩
          refine cons_u ?_
          refine tup_u ?_
          refine cons_u ?_
          refine Pv.go (pv_v rfl) ?_
          refine cons_u ?_
          refine tup_u ?_
          refine PvA.go (pa_c (pv_v rfl) (pa_c (pv_v rfl) pa_n)) ?_
          refine tup_end (Nat.le_of_ble_eq_true rfl) g20.wf fun p29 c30 H31 st32 cp33 rd34 np35 => ?_
          have n37 : p1 ≠ p29 := ne_of_none o21.obj np35
          have g38 := g20.tr0 st32
          have o21 := o21.step0 st32
          have h36 : (tyT2 tyI tyI).r c30 H31 (V.ref p29) (s12.2.2, ((1 : Int) + ((a0 / (41 : Int)) % (6 : Int)))) := ⟨p29, _, _, rfl, cp33, rd34, rfl, rfl⟩
          refine nil_u ?_
          refine tup_end (Nat.le_of_ble_eq_true rfl) g38.wf fun p39 c40 H41 st42 cp43 rd44 np45 => ?_
          have n47 : p1 ≠ p39 := ne_of_none o21.obj np45
          have g48 := g38.tr0 st42
          have o21 := o21.step0 st42
          have h36 := lift h36 st42
          have h46 : (tyT2 tyI (tyT2 tyI tyI)).r c40 H41 (V.ref p39) (s12.2.1, (s12.2.2, ((1 : Int) + ((a0 / (41 : Int)) % (6 : Int))))) := ⟨p39, _, _, rfl, cp43, rd44, rfl, h36⟩
          refine nil_u ?_
          obtain ⟨e49, k⟩ := k.chk
          refine append_end o21 g48.wf h46 (of_decide_eq_true e49) fun H50 st51 o52 => ?_
          have g53 := g48.tr1 st51 (.inr o52.new)
          refine nx_go ?_
          refine seq_u ?_
          refine asg_u ?_
          obtain ⟨e54, k⟩ := k.chk
          obtain ⟨e55, k⟩ := k.chk
          refine Pv.go (pv_2 (pv_2 (pv_v rfl) pv_c rv_i) (pv_2 (pv_2 (pv_v rfl) (pv_2 (pv_v rfl) pv_c rv_i) (rv_div e54)) (pv_2 pv_c (pv_2 (pv_2 (pv_v rfl) pv_c (rv_divL ⟨by decide, by decide⟩)) pv_c (rv_modL (by decide))) rv_i) (rv_mod e55)) rv_i) ?_
          refine gname_u ?_
          refine nx_go ?_
          refine asg_u ?_
          obtain ⟨e56, k⟩ := k.chk
          obtain ⟨e57, k⟩ := k.chk
          refine Pv.go (pv_2 (pv_2 (pv_v rfl) pv_c rv_i) (pv_2 (pv_2 (pv_v rfl) (pv_2 (pv_2 pv_c (pv_v rfl) (rv_mul e56)) pv_c rv_i) (rv_div e57)) pv_c (rv_modL (by decide))) rv_i) ?_
          refine gname_u ?_
          exact k.done g53 _ ⟨_, rfl, g53, o52⟩
        · rw [brF_eq b28] at k
          refine next_u ?_
          exact k.done g20 _ ⟨_, rfl, g20, o21⟩
      · intro s22 c24 H25 σ i k
        obtain ⟨us23, rfl, g26, o27⟩ := i
        refine nx_go ?_
        exact (k.done g26) _ ⟨_, _, rfl, g26, o27⟩
    · intro s12 c58 H59 σ i k
      obtain ⟨us13, y14, rfl, g60, o61⟩ := i
      refine nx_go ?_
      refine ret_u ?_
      refine op_u ?_
      refine lc_u ?_
      refine ilist_u ?_
      refine Pv.go (pv_v rfl) ?_
      refine ilist_e ((.inl (.inl o61.obj))) ?_
      obtain ⟨e62, k⟩ := k.chk
      refine comp_pB (A := (tyT2 tyI (tyT2 tyI tyI))) (B := (tyT2 tyI (tyT2 tyI tyI))) (xs := s12.1) k g60 e62 (fun ci Hi st => pit_l (.inl (.inl (o61.step0 st).obj)) (o61.step0 st).rs) ?_ ?_
      · intro x63 v64 c66 H67 Qe Qn st68 gi_ h65 k
        have o61 := o61.step0 st68
        have g69 : Step [] c66 H67 c66 H67 := Step.refl gi_.wf
        obtain ⟨ad70, u71, u72, e76, rd75, h73, h74⟩ := open2 h65
        subst e76
        refine gtup_u rd75 rfl ?_
        have h73 : u71 = (V.int x63.1) := h73
        subst h73
        refine gcons_u ?_
        refine gname_u ?_
        refine gcons_u ?_
        refine gname_u ?_
        refine gnil_u ?_
        refine ⟨rfl, yes_u ?_⟩
        refine tup_u ?_
        refine cons_u ?_
        refine Pv.go (pv_v rfl) ?_
        refine cons_u ?_
        refine call_u ?_
        refine PvA.go (pa_c (pv_v rfl) pa_n) ?_
        refine ⟨c66, _, x63.2, rfl, g69.wf, h74, ?_⟩
        refine Kont.call k g69 (fun _ z => by cases z) (fun y77 e78 k c79 H80 st81 g82 v83 r84 => ?_) (fun _ _ _ _ _ _ z => z)
        have o61 := o61.step0 st81
        have h74 := lift h74 st81
        refine nil_u ?_
        refine tup_end (Nat.le_of_ble_eq_true rfl) g82.wf fun p85 c86 H87 st88 cp89 rd90 np91 => ?_
        have n93 : p1 ≠ p85 := ne_of_none o61.obj np91
        have g94 := g82.tr0 st88
        have o61 := o61.step0 st88
        have h74 := lift h74 st88
        have r84 := lift r84 st88
        have h92 : (tyT2 tyI (tyT2 tyI tyI)).r c86 H87 (V.ref p85) (x63.1, y77) := ⟨p85, _, _, rfl, cp89, rd90, rfl, r84⟩
        exact (k.done g94) _ h92
      intro y95 p96 us97 c98 H99 o101_n st100 o101 k
      have n102 : p1 ≠ p96 := ne_of_none o61.obj o101_n
      have g103 := g60.tr0 st100
      have o61 := o61.step0 st100
      refine lst_u ?_
      refine cons_u ?_
      refine tup_u ?_
      refine cons_u ?_
      refine Pv.go (pv_v rfl) ?_
      refine cons_u ?_
      refine call_u ?_
      refine cons_u ?_
      refine tup_u ?_
      refine PvA.go (pa_c (pv_v rfl) (pa_c (pv_v rfl) pa_n)) ?_
      refine tup_end (Nat.le_of_ble_eq_true rfl) g103.wf fun p104 c105 H106 st107 cp108 rd109 np110 => ?_
      have n112 : p1 ≠ p104 := ne_of_none o61.obj np110
      have n113 : p96 ≠ p104 := ne_of_none o101.obj np110
      have g114 := g103.tr0 st107
      have o61 := o61.step0 st107
      have o101 := o101.step0 st107
      have h111 : (tyT2 tyI tyI).r c105 H106 (V.ref p104) (s12.2.2, ((1 : Int) + ((a0 / (41 : Int)) % (6 : Int)))) := ⟨p104, _, _, rfl, cp108, rd109, rfl, rfl⟩
      refine nil_u ?_
      refine ⟨c105, _, (s12.2.2, ((1 : Int) + ((a0 / (41 : Int)) % (6 : Int)))), rfl, g114.wf, h111, ?_⟩
      refine Kont.call k g114 (fun _ z => by cases z) (fun y115 e116 k c117 H118 st119 g120 v121 r122 => ?_) (fun _ _ _ _ _ _ z => z)
      have o61 := o61.step0 st119
      have o101 := o101.step0 st119
      refine nil_u ?_
      refine tup_end (Nat.le_of_ble_eq_true rfl) g120.wf fun p123 c124 H125 st126 cp127 rd128 np129 => ?_
      have n131 : p1 ≠ p123 := ne_of_none o61.obj np129
      have n132 : p96 ≠ p123 := ne_of_none o101.obj np129
      have g133 := g120.tr0 st126
      have o61 := o61.step0 st126
      have o101 := o101.step0 st126
      have r122 := lift r122 st126
      have h130 : (tyT2 tyI (tyT2 tyI tyI)).r c124 H125 (V.ref p123) (a1, y115) := ⟨p123, _, _, rfl, cp127, rd128, rfl, r122⟩
      refine nil_u ?_
      refine lst_end (Nat.le_of_ble_eq_true rfl) g133.wf fun p134 c135 H136 st137 cp138 ob139 np140 => ?_
      have n142 : p1 ≠ p134 := ne_of_none o61.obj np140
      have n143 : p96 ≠ p134 := ne_of_none o101.obj np140
      have w144 := g133.fresh np140
      have g145 := g133.tr0 st137
      have o61 := o61.step0 st137
      have o101 := o101.step0 st137
      have h130 := lift h130 st137
      have o141 : Own (tyT2 tyI (tyT2 tyI tyI)) H0 c135 H136 p134 [(V.ref p123)] ([(a1, y115)] : List (Int × (Int × Int))) := ⟨cp138, ob139, ⟨h130, trivial⟩, w144⟩
      obtain ⟨e146, k⟩ := k.chk
      refine cat_B (H0 := H0) o101.pl o141.pl g145.wf (fun _ n => g145.fresh n) (of_decide_eq_true e146) fun p147 us148 c149 H150 o152_n st151 o152 => ?_
      have n153 : p1 ≠ p147 := ne_of_none o61.obj o152_n
      have g154 := g145.tr0 st151
      have o61 := o61.step0 st151
      exact (k.done g154) _ ⟨_, _, rfl, o152⟩
def sp_law_measure (K : PySem.W.Frag) (a : Ad) : Sp := fun vs H Q E => ∃ (c : Cl) (w0 : V) (a0 : List (Int × (Int × Int))) (w1 : V) (a1 : Int), vs = [w0, w1] ∧ Wf c H ∧ rP (tyT2 tyI (tyT2 tyI tyI)) c H w0 a0 ∧ tyI.r c H w1 a1 ∧ Kont (fun y c' H' => ∀ v, (tyT2 tyI tyI).r c' H' v y → Q v H') (fun _ _ _ => False) [] c H (m_law_measure a0 a1)
theorem ok_law_measure {P : Program} {w : World} {K : PySem.W.Frag} {mg : Str → Option Value} {base : Heap} {a : Ad} (T : Txt K mg a) (G_law_low : FnOk P w K mg base CX0 2 a.law_low a.law_low_fd ["_law_value"] (sp_law_low K a)) : FnOk P w K mg base CX0 3 a.law_measure a.law_measure_fd ["_law_stones_here", "_law_place"] (sp_law_measure K a) := by
  have sc : FnScope ["_law_stones_here", "_law_place", "_law_k", "_law_low_here", "_law_x", "_law_high", "_law_y", "_law_n"] ["_law_stones_here", "_law_place"] (defScope s_law_measure) := ⟨rfl, rfl, rfl, by decide +kernel, rfl, by decide +kernel, by decide +kernel⟩
  refine T.law_measure.F.ok sc (fun vs H Q E h => ?_) (fun cdv A outer s H0 vs Q E hr h => ?_)
  · obtain ⟨_, _, _, _, _, rfl, _⟩ := h
    rfl
  · obtain ⟨c0, w0, a0, w1, a1, rfl, wf0, h0, h1, k⟩ := h
    refine ⟨_, (pss_cons (ps_for PassesOwn.never rfl (pi_range2 (by rfl) T.b_range (pa_cons pe_int (pa_cons (pe_callB call_len_seq (by rfl) T.b_len PySem.boot_len (pa_cons (pv 0) pa_nil)) pa_nil))) (pg_name (i := 2) sc.nd rfl (Or.inl rfl)) (pss_one (ps_if (pt_chain op_le op_le (pe_ix ix_tup (pe_ix ix_list (pv 0) (pe_op op_sub (pv 2) pe_int) (fun _ _ => rfl)) pe_int (fun _ _ => rfl)) (pv 1) (pe_ix ix_tup (pe_ix ix_list (pv 0) (pv 2) (fun _ _ => rfl)) pe_int (fun _ _ => rfl))) (pss_cons (ps_asg (pe_ix ix_list (pv 0) (pe_op op_sub (pv 2) pe_int) (fun _ _ => rfl)) (pg_tup (n := 2) (by rfl) (pgs_cons (pg_name (i := 3) sc.nd rfl (Or.inl rfl)) (pgs_cons (pg_name (i := 4) sc.nd rfl (Or.inl rfl)) pgs_nil)))) (pss_cons (ps_asg (pe_ix ix_list (pv 0) (pv 2) (fun _ _ => rfl)) (pg_tup (n := 2) (by rfl) (pgs_cons (pg_name (i := 5) sc.nd rfl (Or.inl rfl)) (pgs_cons (pg_name (i := 6) sc.nd rfl (Or.inl rfl)) pgs_nil)))) (pss_cons (ps_set (i := 7) sc.nd rfl (Or.inl rfl) (pe_op op_add (pe_op op_mulW (pe_op op_mulW (pe_ix ix_tup (pv 4) pe_int (fun _ _ => rfl)) (pe_ix ix_tup (pv 6) pe_int (fun _ _ => rfl))) (pe_op op_sub (pv 5) (pv 1))) (pe_op op_mulW (pe_op op_mulW (pe_ix ix_tup (pv 6) pe_int (fun _ _ => rfl)) (pe_ix ix_tup (pv 4) pe_int (fun _ _ => rfl))) (pe_op op_sub (pv 1) (pv 3))))) (pss_one (ps_ret (pe_call G_law_low hr (by rfl) T.law_low.g T.law_low.F.kp T.law_low.b .nil pass0 (pa_cons (pe_tup (pa_cons (pv 7) (pa_cons (pe_op op_mulW (pe_op op_mulW (pe_ix ix_tup (pv 4) pe_int (fun _ _ => rfl)) (pe_ix ix_tup (pv 6) pe_int (fun _ _ => rfl))) (pe_op op_sub (pv 5) (pv 3))) pa_nil))) pa_nil))))))) pss_nil))) (pss_one (ps_ret pe_non))), ?_⟩
    have h1 : w1 = (V.int a1) := h1
    subst h1
    have g0 : Step [] c0 H0 c0 H0 := Step.refl wf0
    unfold m_law_measure at k
    refine seq_u ?_
    refine for_u ?_
    refine irng2_u ?_
    refine PvA.go (pa_c pv_c (pa_c (len_B (g0.pl0 h0).b (pv_v rfl)) pa_n)) ?_
    obtain ⟨e1, k⟩ := k.chk
    obtain ⟨e2, k⟩ := k.chk
    refine irng2_e e1 e2 ?_
    refine for_rgr (s0 := (() : Unit)) (Rr := (tyT2 tyI tyI).r) k (fun (s3 : Unit) (c : Cl) (H : Hp) (σ : L2.St) => ∃ (y4 : Option V) (y5 : Option V) (y6 : Option V) (y7 : Option V) (y8 : Option V) (y9 : Option V), σ = [some w0, some (V.int a1), y4, y5, y6, y7, y8, y9] ∧ Step [] c0 H0 c H) ⟨_, _, _, _, _, _, rfl, g0⟩ ?_ (fun r k c H g v hv => (k.done g) v hv) ?_
    · intro s3 x10 c13 H14 σ N i k
      obtain ⟨y4, y5, y6, y7, y8, y9, rfl, g15⟩ := i
      refine gname_u ?_
      obtain ⟨x19, e20, k⟩ := k.opt
      obtain ⟨u16, h17, q18⟩ := rv_ixB (g15.pl0 h0).b e20
      obtain ⟨u21, h22, q23⟩ := ix2_0 h17
      have h22 : u21 = (V.int x19.1) := h22
      subst h22
      obtain ⟨x27, e28, k⟩ := k.opt
      obtain ⟨u24, h25, q26⟩ := rv_ixB (g15.pl0 h0).b e28
      obtain ⟨u29, h30, q31⟩ := ix2_0 h25
      have h30 : u29 = (V.int x27.1) := h30
      subst h30
      refine PvT.ifS (b := ((decide (x19.1 ≤ a1)) && (decide (a1 ≤ x27.1)))) ?_ (fun b32 => ?_) (fun b32 => ?_)
      · exact (show PvT _ _ _ ((decide (x19.1 ≤ a1)) && (decide (a1 ≤ x27.1))) from (pt_t (pv_ch (pv_2 (pv_2 (pv_v rfl) (pv_2 (pv_v rfl) pv_c rv_i) (q18)) pv_c (q23)) (pv_v rfl) rv_i (fun _ => (pv_2 (pv_2 (pv_v rfl) (pv_v rfl) (q26)) pv_c (q31))) (fun _ => rv_i))))
      · have k := k.brT b32
        refine seq_u ?_
        refine asg_u ?_
        obtain ⟨x36, e37, k⟩ := k.opt
        obtain ⟨u33, h34, q35⟩ := rv_ixB (g15.pl0 h0).b e37
        refine Pv.go (pv_2 (pv_v rfl) (pv_2 (pv_v rfl) pv_c rv_i) (q35)) ?_
        obtain ⟨ad38, u39, u40, e44, rd43, h41, h42⟩ := open2 h34
        subst e44
        refine gtup_u rd43 rfl ?_
        have h41 : u39 = (V.int x36.1) := h41
        subst h41
        refine gcons_u ?_
        refine gname_u ?_
        refine gcons_u ?_
        refine gname_u ?_
        refine gnil_u ?_
        refine nx_go ?_
        refine seq_u ?_
        refine asg_u ?_
        obtain ⟨x48, e49, k⟩ := k.opt
        obtain ⟨u45, h46, q47⟩ := rv_ixB (g15.pl0 h0).b e49
        refine Pv.go (pv_2 (pv_v rfl) (pv_v rfl) (q47)) ?_
        obtain ⟨ad50, u51, u52, e56, rd55, h53, h54⟩ := open2 h46
        subst e56
        refine gtup_u rd55 rfl ?_
        have h53 : u51 = (V.int x48.1) := h53
        subst h53
        refine gcons_u ?_
        refine gname_u ?_
        refine gcons_u ?_
        refine gname_u ?_
        refine gnil_u ?_
        refine nx_go ?_
        refine seq_u ?_
        refine asg_u ?_
        obtain ⟨u57, h58, q59⟩ := ix2_0 h42
        have h58 : u57 = (V.int x36.2.1) := h58
        subst h58
        obtain ⟨u60, h61, q62⟩ := ix2_1 h54
        have h61 : u60 = (V.int x48.2.2) := h61
        subst h61
        obtain ⟨e63, k⟩ := k.chk
        obtain ⟨e64, k⟩ := k.chk
        obtain ⟨u65, h66, q67⟩ := ix2_0 h54
        have h66 : u65 = (V.int x48.2.1) := h66
        subst h66
        obtain ⟨u68, h69, q70⟩ := ix2_1 h42
        have h69 : u68 = (V.int x36.2.2) := h69
        subst h69
        obtain ⟨e71, k⟩ := k.chk
        obtain ⟨e72, k⟩ := k.chk
        refine Pv.go (pv_2 (pv_2 (pv_2 (pv_2 (pv_v rfl) pv_c (q59)) (pv_2 (pv_v rfl) pv_c (q62)) (rv_mul e63)) (pv_2 (pv_v rfl) (pv_v rfl) rv_i) (rv_mul e64)) (pv_2 (pv_2 (pv_2 (pv_v rfl) pv_c (q67)) (pv_2 (pv_v rfl) pv_c (q70)) (rv_mul e71)) (pv_2 (pv_v rfl) (pv_v rfl) rv_i) (rv_mul e72)) rv_i) ?_
        refine gname_u ?_
        refine nx_go ?_
        refine ret_u ?_
        refine call_u ?_
        refine cons_u ?_
        refine tup_u ?_
        obtain ⟨u73, h74, q75⟩ := ix2_1 h42
        have h74 : u73 = (V.int x36.2.2) := h74
        subst h74
        obtain ⟨u76, h77, q78⟩ := ix2_1 h54
        have h77 : u76 = (V.int x48.2.2) := h77
        subst h77
        obtain ⟨e79, k⟩ := k.chk
        obtain ⟨e80, k⟩ := k.chk
        refine PvA.go (pa_c (pv_v rfl) (pa_c (pv_2 (pv_2 (pv_2 (pv_v rfl) pv_c (q75)) (pv_2 (pv_v rfl) pv_c (q78)) (rv_mul e79)) (pv_2 (pv_v rfl) (pv_v rfl) rv_i) (rv_mul e80)) pa_n)) ?_
        refine tup_end (Nat.le_of_ble_eq_true rfl) g15.wf fun p81 c82 H83 st84 cp85 rd86 np87 => ?_
        have g89 := g15.tr0 st84
        have h42 := lift h42 st84
        have h54 := lift h54 st84
        have h88 : (tyT2 tyI tyI).r c82 H83 (V.ref p81) ((((x36.2.1 * x48.2.2) * (x48.1 - a1)) + ((x48.2.1 * x36.2.2) * (a1 - x36.1))), ((x36.2.2 * x48.2.2) * (x48.1 - x36.1))) := ⟨p81, _, _, rfl, cp85, rd86, rfl, rfl⟩
        refine nil_u ?_
        refine ⟨c82, _, ((((x36.2.1 * x48.2.2) * (x48.1 - a1)) + ((x48.2.1 * x36.2.2) * (a1 - x36.1))), ((x36.2.2 * x48.2.2) * (x48.1 - x36.1))), rfl, g89.wf, h88, ?_⟩
        refine Kont.call k g89 (fun _ z => by cases z) (fun y90 e91 k c92 H93 st94 g95 v96 r97 => ?_) (fun _ _ _ _ _ _ z => z)
        have h42 := lift h42 st94
        have h54 := lift h54 st94
        exact (k.done g95) _ r97
      · rw [brF_eq b32] at k
        refine next_u ?_
        refine nx_go ?_
        exact (k.done g15) _ ⟨_, _, _, _, _, _, rfl, g15⟩
    · intro s3 c98 H99 σ i k
      obtain ⟨y4, y5, y6, y7, y8, y9, rfl, g100⟩ := i
      refine nx_go ?_
      refine ret_u ?_
      refine Pv.go pv_c ?_
      exact k.elim
def sp_law_off (K : PySem.W.Frag) (a : Ad) : Sp := fun vs H Q E => ∃ (c : Cl) (w0 : V) (a0 : M_Route) (w1 : V) (a1 : Int), vs = [w0, w1] ∧ Wf c H ∧ (ty_Route a).r c H w0 a0 ∧ tyI.r c H w1 a1 ∧ Kont (fun y c' H' => ∀ v, tyB.r c' H' v y → Q v H') (fun _ _ _ => False) [] c H (m_law_off a0 a1)
theorem ok_law_off {P : Program} {w : World} {K : PySem.W.Frag} {mg : Str → Option Value} {base : Heap} {a : Ad} (T : Txt K mg a) (G_Route_cell : FnOk P w K mg base (L2N.CX P w) 1 a.Route_cell a.Route_cell_fd ["self", "index"] (sp_Route_cell K a)) : FnOk P w K mg base CX0 2 a.law_off a.law_off_fd ["_law_route", "_law_index"] (sp_law_off K a) := by
  have sc : FnScope ["_law_route", "_law_index", "error"] ["_law_route", "_law_index"] (defScope s_law_off) := ⟨rfl, rfl, rfl, by decide +kernel, rfl, by decide +kernel, by decide +kernel⟩
  refine T.law_off.F.ok sc (fun vs H Q E h => ?_) (fun cdv A outer s H0 vs Q E hr h => ?_)
  · obtain ⟨_, _, _, _, _, rfl, _⟩ := h
    rfl
  · obtain ⟨c0, w0, a0, w1, a1, rfl, wf0, h0, h1, k⟩ := h
    refine ⟨_, (pss_cons (ps_try_as (i := 2) (Wout := (fun _ _ _ _ => False)) rfl rfl sc.nd rfl rfl ⟨rfl, by decide, .inl T.e_off.g⟩ takes0 (fun W pn xe tk _ => (pss_one (ps_expr (pe_methT (pv 0) T.k_Route.cl T.Route_cell.m (ofN G_Route_cell) hr T.Route_cell.b (fun σ => passAt tk σ) (pa_cons (pv 1) pa_nil))))) (fun xa oe cls d pn hz hf => (pss_one (ps_ret (pe_callB (call_isX hz hf) (by rfl) T.b_isinstance (by decide +kernel) (pa_cons (pv 2) (pa_cons (pe_glob (by rfl) T.kerb_g (v := .ref a.kerb) rfl) pa_nil))))))) (pss_one (ps_ret pe_bl))), ?_⟩
    have h1 : w1 = (V.int a1) := h1
    subst h1
    have g0 : Step [] c0 H0 c0 H0 := Step.refl wf0
    unfold m_law_off at k
    refine seq_u ?_
    have k := k.tryM
    refine drop_u ?_
    refine methT_u ?_
    refine Pv.go (pv_v rfl) ?_
    refine meth3 h0 (by decide +kernel) ?_
    refine PvA.go (pa_c (pv_v rfl) pa_n) ?_
    refine ⟨c0, _, a0, _, a1, rfl, g0.wf, h0, rfl, ?_⟩
    refine Kont.call k g0 (fun _ z => by cases z) (fun y1 e2 k c3 H4 st5 g6 v7 r8 => ?_) (fun e e2 c3 H4 st5 g6 pe => ?_)
    rotate_left
    · cases e with
      | ratio =>
        exact pe.elim
      | ground =>
        exact pe.elim
      | route =>
        exact pe.elim
      | off =>
        refine ⟨true, T.exm_off_off, fun _ ad9 na10 => ?_, fun z => by cases z⟩
        have k := pe
        have h0 := lift h0 st5
        refine ret_u ?_
        refine Pv.go (pv_cb (pa_c (pv_v rfl) (pa_c pv_c pa_n)) (rc_isX T.e_off.ec T.is_off_kerb)) ?_
        exact (k.done g6) _ rfl
      | _ => exact pe.elim
    have h0 := lift h0 st5
    have k := k.done g6
    refine nx_go ?_
    refine ret_u ?_
    refine Pv.go pv_c ?_
    exact (k.done g6) _ rfl
def sp_law (K : PySem.W.Frag) : Sp := fun vs H Q E => ∃ (c : Cl) (w0 : V) (a0 : List Int), vs = [w0] ∧ Wf c H ∧ rB K tyI c H w0 a0 ∧ Kont (fun y c' H' => ∀ v, tyB.r c' H' v y → Q v H') (fun _ _ _ => False) [] c H (m_law a0)
theorem ok_law {P : Program} {w : World} {K : PySem.W.Frag} {mg : Str → Option Value} {base : Heap} {a : Ad} (T : Txt K mg a) (G_Route_init : FnOk P w K mg base (L2.CX P w) 4 a.Route_init a.Route_init_fd ["self", "stretches", "stones"] (sp_Route_init K a)) (G_Route_cell : FnOk P w K mg base (L2N.CX P w) 1 a.Route_cell a.Route_cell_fd ["self", "index"] (sp_Route_cell K a)) (G_Route_ground : FnOk P w K mg base (L2N.CX P w) 3 a.Route_ground a.Route_ground_fd ["self"] (sp_Route_ground K a)) (G_Route_index : FnOk P w K mg base CX0 1 a.Route_index a.Route_index_fd ["self", "piece", "k"] (sp_Route_index K a)) (G_Route_measure : FnOk P w K mg base (L2N.CX P w) 5 a.Route_measure a.Route_measure_fd ["self", "place"] (sp_Route_measure K a)) (G_Route_size : FnOk P w K mg base CX0 1 a.Route_size a.Route_size_fd ["self"] (sp_Route_size K a)) (G_law_cell : FnOk P w K mg base CX0 1 a.law_cell a.law_cell_fd ["_law_script", "_law_k"] (sp_law_cell K a)) (G_law_measure : FnOk P w K mg base CX0 3 a.law_measure a.law_measure_fd ["_law_stones_here", "_law_place"] (sp_law_measure K a)) (G_law_off : FnOk P w K mg base CX0 2 a.law_off a.law_off_fd ["_law_route", "_law_index"] (sp_law_off K a)) (G_law_order : FnOk P w K mg base CX0 2 a.law_order a.law_order_fd ["_law_script", "_law_at", "_law_count"] (sp_law_order K a)) (G_law_single : FnOk P w K mg base CX0 1 a.law_single a.law_single_fd ["_law_cells", "_law_cell_here"] (sp_law_single K a)) (G_law_stones : FnOk P w K mg base CX0 3 a.law_stones a.law_stones_fd ["_law_cell_here", "_law_places"] (sp_law_stones K a)) (G_law_stretches : FnOk P w K mg base CX0 2 a.law_stretches a.law_stretches_fd ["_law_cells"] (sp_law_stretches K a)) (G_normal : FnOk P w K mg base (L2N.CX P w) 2 a.normal a.normal_fd ["rows"] (sp_normal K a)) : FnOk P w K mg base CX0 6 a.law a.law_fd ["_law_script"] (sp_law K) := by
  have sc : FnScope ["_law_script", "_law_cells", "_law_stones_here", "_law_due", "_law_single_here", "_law_kept", "_law_route", "_law_other", "_law_piece", "_law_begin", "_law_end", "_law_turned", "_law_k", "_law_index", "_law_passed", "_law_third", "_law_rows"] ["_law_script"] (defScope s_law) := ⟨rfl, rfl, rfl, by decide +kernel, rfl, by decide +kernel, by decide +kernel⟩
  refine T.law.F.ok sc (fun vs H Q E h => ?_) (fun cdv A outer s H0 vs Q E hr h => ?_)
  · obtain ⟨_, _, _, rfl, _⟩ := h
    rfl
  · obtain ⟨c0, w0, a0, rfl, wf0, h0, k⟩ := h
    refine ⟨_, (pss_cons (ps_set (i := 1) sc.nd rfl (Or.inl rfl) (pe_call G_law_order (hr.mono (by decide)) (by rfl) T.law_order.g T.law_order.F.kp T.law_order.b .nil pass0 (pa_cons (pv 0) (pa_cons pe_int (pa_cons (pe_op op_add pe_int (pe_op op_mod (pe_call G_law_cell (hr.mono (by decide)) (by rfl) T.law_cell.g T.law_cell.F.kp T.law_cell.b .nil pass0 (pa_cons (pv 0) (pa_cons pe_int pa_nil))) pe_int)) pa_nil))))) (pss_cons (ps_set (i := 2) sc.nd rfl (Or.inl rfl) (pe_call G_law_stones (hr.mono (by decide)) (by rfl) T.law_stones.g T.law_stones.F.kp T.law_stones.b .nil pass0 (pa_cons (pe_call G_law_cell (hr.mono (by decide)) (by rfl) T.law_cell.g T.law_cell.F.kp T.law_cell.b .nil pass0 (pa_cons (pv 0) (pa_cons pe_int pa_nil))) (pa_cons (pe_callB call_len_seq (by rfl) T.b_len PySem.boot_len (pa_cons (pv 1) pa_nil)) pa_nil)))) (pss_cons (ps_set (i := 3) sc.nd rfl (Or.inl rfl) (pe_call G_law_stretches (hr.mono (by decide)) (by rfl) T.law_stretches.g T.law_stretches.F.kp T.law_stretches.b .nil pass0 (pa_cons (pv 1) pa_nil))) (pss_cons (ps_set (i := 4) sc.nd rfl (Or.inl rfl) (pe_call G_law_single (hr.mono (by decide)) (by rfl) T.law_single.g T.law_single.F.kp T.law_single.b .nil pass0 (pa_cons (pv 1) (pa_cons (pe_call G_law_cell (hr.mono (by decide)) (by rfl) T.law_cell.g T.law_cell.F.kp T.law_cell.b .nil pass0 (pa_cons (pv 0) (pa_cons pe_int pa_nil))) pa_nil)))) (pss_cons (ps_set (i := 5) sc.nd rfl (Or.inr rfl) (pe_tup (pa_cons (pe_callTy cr_list (by rfl) T.b_list (by decide +kernel) (pa_cons (pv 3) pa_nil)) (pa_cons (pe_callTy cr_list (by rfl) T.b_list (by decide +kernel) (pa_cons (pv 4) pa_nil)) (pa_cons (pe_callTy cr_list (by rfl) T.b_list (by decide +kernel) (pa_cons (pv 2) pa_nil)) pa_nil))))) (pss_cons (ps_set (i := 6) sc.nd rfl (Or.inr rfl) (pe_make T.k_Route.maker G_Route_init hr (by rfl) T.k_Route.g T.Route_init.b .nil (passes_call (W := fun _ _ _ _ => False) takes0 (fun _ _ _ _ h => h)) (pa_cons (pv 3) (pa_cons (pv 2) pa_nil)))) (pss_cons (ps_set (i := 7) sc.nd rfl (Or.inl rfl) (pe_make T.k_Route.maker G_Route_init hr (by rfl) T.k_Route.g T.Route_init.b .nil (passes_call (W := fun _ _ _ _ => False) takes0 (fun _ _ _ _ h => h)) (pa_cons (pv 4) (pa_cons (pv 2) pa_nil)))) (pss_cons (ps_if (PW.pt (pw_or (pt_cmpR (op_neD hr.units) (pe_tup (pa_cons (pv 3) (pa_cons (pv 4) (pa_cons (pv 2) pa_nil)))) (pv 5) (by first | exact nomark _ | rfl)) (pw_or (pt_cmpR (op_neD hr.units) (pe_fld (pv 6) rfl) (pv 3) (by first | exact nomark _ | rfl)) (pw_or (pt_cmpR (op_neD hr.units) (pe_fld (pv 7) rfl) (pv 3) (by first | exact nomark _ | rfl)) (pw_or1 (pt_cmpR (op_neD hr.units) (pe_fld (pv 6) rfl) (pv 2) (by first | exact nomark _ | rfl))))))) (pss_one (ps_ret pe_bl)) pss_nil) (pss_cons (ps_for PassesOwn.never rfl (pi_list (pe_op op_cat (pe_fld (pv 6) rfl) (pe_fld (pv 7) rfl))) (pg_tup (n := 4) (by rfl) (pgs_cons (pg_name (i := 8) sc.nd rfl (Or.inl rfl)) (pgs_cons (pg_name (i := 9) sc.nd rfl (Or.inl rfl)) (pgs_cons (pg_name (i := 10) sc.nd rfl (Or.inl rfl)) (pgs_cons (pg_name (i := 11) sc.nd rfl (Or.inl rfl)) pgs_nil))))) (pss_one (ps_if (pt_not (pt_val (pe_callB call_isi (by rfl) T.b_isinstance (by decide +kernel) (pa_cons (pv 11) (pa_cons (pe_bltn (v := .ty "bool") (by rfl) T.b_bool (by decide +kernel) rfl) pa_nil))))) pss_never pss_nil))) (pss_cons (ps_if (PW.pt (pw_or (pt_val (pe_callB call_isi (by rfl) T.b_isinstance (by decide +kernel) (pa_cons (pe_meth0 (pv 6) T.k_Route.cl T.Route_size.m G_Route_size (hr.mono (by decide)) T.Route_size.b .nil pass0) (pa_cons (pe_bltn (v := .ty "bool") (by rfl) T.b_bool (by decide +kernel) rfl) pa_nil)))) (pw_or1 (pt_val (pe_callB call_isi (by rfl) T.b_isinstance (by decide +kernel) (pa_cons (pe_meth (pv 6) T.k_Route.cl T.Route_index.m G_Route_index (hr.mono (by decide)) T.Route_index.b .nil pass0 (pa_cons (pe_ix ix_tup (pe_ix ix_list (pv 1) pe_int (fun _ _ => rfl)) pe_int (fun _ _ => rfl)) (pa_cons (pe_ix ix_tup (pe_ix ix_list (pv 1) pe_int (fun _ _ => rfl)) pe_int (fun _ _ => rfl)) pa_nil))) (pa_cons (pe_bltn (v := .ty "bool") (by rfl) T.b_bool (by decide +kernel) rfl) pa_nil))))))) (pss_one (ps_ret pe_bl)) pss_nil) (pss_cons (ps_if (PW.pt (pw_or (pt_cmpR op_ne (pe_meth0 (pv 6) T.k_Route.cl T.Route_size.m G_Route_size (hr.mono (by decide)) T.Route_size.b .nil pass0) (pe_callB call_len_seq (by rfl) T.b_len PySem.boot_len (pa_cons (pv 1) pa_nil)) (by first | exact nomark _ | rfl)) (pw_or1 (pt_cmpR (op_neD hr.units) (pe_lc (by rfl) sc.nd (pi_range1 (by rfl) T.b_range (pa_cons (pe_callB call_len_seq (by rfl) T.b_len PySem.boot_len (pa_cons (pv 1) pa_nil)) pa_nil)) (blkOk_by (own := [("_law_k", 12)]) (N := ["_law_script", "_law_cells", "_law_stones_here", "_law_due", "_law_single_here", "_law_kept", "_law_route", "_law_other", "_law_piece", "_law_begin", "_law_end", "_law_turned", "_law_k", "_law_index", "_law_passed", "_law_third", "_law_rows"]) (sc := defScope s_law) (by decide +kernel)) (fun _ _ _ _ _ => (pg_name (i := 12) sc.nd rfl (Or.inl rfl))) (fun _ _ _ _ _ => pts_nil) (fun _ _ _ _ _ => (pe_meth (pv 6) T.k_Route.cl T.Route_cell.m G_Route_cell (hr.mono (by decide)) T.Route_cell.b .nil (L2N.passes_call (W := fun _ _ _ _ => False) takes0N (fun _ _ _ _ h => h)) (pa_cons (pv 12) pa_nil)))) (pv 1) (by first | exact nomark _ | rfl))))) (pss_one (ps_ret pe_bl)) pss_nil) (pss_cons (ps_for PassesOwn.never rfl (pi_tup (pe_tup (pa_cons pe_str (pa_cons pe_str (pa_cons pe_str (pa_cons pe_str pa_nil)))))) (pg_name (i := 8) sc.nd rfl (Or.inl rfl)) (pss_one (ps_for PassesOwn.never rfl (pi_range1 (by rfl) T.b_range (pa_cons pe_int pa_nil)) (pg_name (i := 12) sc.nd rfl (Or.inl rfl)) (pss_cons (ps_set (i := 13) sc.nd rfl (Or.inl rfl) (pe_meth (pv 6) T.k_Route.cl T.Route_index.m G_Route_index (hr.mono (by decide)) T.Route_index.b .nil pass0 (pa_cons (pv 8) (pa_cons (pv 12) pa_nil)))) (pss_one (ps_if (pt_cmpR (op_inDK (K := K) (by rfl) (room65 hr)) (pe_tup (pa_cons (pv 8) (pa_cons (pv 12) pa_nil))) (pv 1) (by first | exact nomark _ | rfl)) (pss_one (ps_if (pt_cmpR (op_neD hr.units) (pv 13) (pe_bm PySem.F.plainAttrs_list PySem.F.slot_list_index PySem.F.type_list_index (mt_indexDK (K := K) (by rfl) (room65 hr)) (pv 1) (pa_cons (pe_tup (pa_cons (pv 8) (pa_cons (pv 12) pa_nil))) pa_nil)) (by first | exact nomark _ | rfl)) (pss_one (ps_ret pe_bl)) pss_nil)) (pss_one (ps_if (pt_cmpR op_notN (pv 13) pe_non (by first | exact nomark _ | rfl)) (pss_one (ps_ret pe_bl)) pss_nil)))))))) (pss_cons (ps_set (i := 14) sc.nd rfl (Or.inl rfl) (pe_lst (pa_cons (pe_callTy cr_list (by rfl) T.b_list (by decide +kernel) (pa_cons (pv 3) pa_nil)) (pa_cons (pe_callTy cr_list (by rfl) T.b_list (by decide +kernel) (pa_cons (pv 2) pa_nil)) pa_nil)))) (pss_cons (ps_set (i := 15) sc.nd rfl (Or.inr rfl) (pe_make T.k_Route.maker G_Route_init hr (by rfl) T.k_Route.g T.Route_init.b .nil (passes_call (W := fun _ _ _ _ => False) takes0 (fun _ _ _ _ h => h)) (pa_cons (pe_ix ix_list (pv 14) pe_int (fun _ _ => rfl)) (pa_cons (pe_ix ix_list (pv 14) pe_int (fun _ _ => rfl)) pa_nil)))) (pss_cons (ps_for PassesOwn.never rfl (pi_list (pv 14)) (pg_name (i := 16) sc.nd rfl (Or.inl rfl)) (pss_cons (ps_expr (pe_bm PySem.F.plainAttrs_list PySem.F.slot_list_append PySem.F.type_list_append mt_append (pv 16) (pa_cons (pe_tup (pa_cons pe_str (pa_cons pe_int (pa_cons pe_int (pa_cons pe_bl pa_nil))))) pa_nil))) (pss_one (ps_expr (pe_bm0 PySem.F.plainAttrs_list PySem.F.slot_list_reverse PySem.F.type_list_reverse mt_reverse (pv 16)))))) (pss_cons (ps_if (PW.pt (pw_or (pt_cmpR (op_neD hr.units) (pe_fld (pv 15) rfl) (pe_ix ix_tup (pv 5) pe_int (fun _ _ => rfl)) (by first | exact nomark _ | rfl)) (pw_or (pt_cmpR (op_neD hr.units) (pe_fld (pv 15) rfl) (pe_ix ix_tup (pv 5) pe_int (fun _ _ => rfl)) (by first | exact nomark _ | rfl)) (pw_or1 (pt_cmpR op_ne (pe_meth0 (pv 15) T.k_Route.cl T.Route_size.m G_Route_size (hr.mono (by decide)) T.Route_size.b .nil pass0) (pe_callB call_len_seq (by rfl) T.b_len PySem.boot_len (pa_cons (pv 1) pa_nil)) (by first | exact nomark _ | rfl)))))) (pss_one (ps_ret pe_bl)) pss_nil) (pss_cons (ps_if (pt_cmpR (op_neD hr.units) (pe_lc (by rfl) sc.nd (pi_range1 (by rfl) T.b_range (pa_cons (pe_op op_add (pe_callB call_len_seq (by rfl) T.b_len PySem.boot_len (pa_cons (pv 1) pa_nil)) pe_int) pa_nil)) (blkOk_by (own := [("_law_k", 12)]) (N := ["_law_script", "_law_cells", "_law_stones_here", "_law_due", "_law_single_here", "_law_kept", "_law_route", "_law_other", "_law_piece", "_law_begin", "_law_end", "_law_turned", "_law_k", "_law_index", "_law_passed", "_law_third", "_law_rows"]) (sc := defScope s_law) (by decide +kernel)) (fun _ _ _ _ _ => (pg_name (i := 12) sc.nd rfl (Or.inl rfl))) (fun _ _ _ _ _ => pts_nil) (fun _ _ _ _ _ => (pe_meth (pv 15) T.k_Route.cl T.Route_measure.m G_Route_measure hr T.Route_measure.b .nil (L2N.passes_call (W := fun _ _ _ _ => False) takes0N (fun _ _ _ _ h => h)) (pa_cons (pv 12) pa_nil)))) (pe_lc (by rfl) sc.nd (pi_range1 (by rfl) T.b_range (pa_cons (pe_op op_add (pe_callB call_len_seq (by rfl) T.b_len PySem.boot_len (pa_cons (pv 1) pa_nil)) pe_int) pa_nil)) (blkOk_by (own := [("_law_k", 12)]) (N := ["_law_script", "_law_cells", "_law_stones_here", "_law_due", "_law_single_here", "_law_kept", "_law_route", "_law_other", "_law_piece", "_law_begin", "_law_end", "_law_turned", "_law_k", "_law_index", "_law_passed", "_law_third", "_law_rows"]) (sc := defScope s_law) (by decide +kernel)) (fun _ _ _ _ _ => (pg_name (i := 12) sc.nd rfl (Or.inl rfl))) (fun _ _ _ _ _ => pts_nil) (fun _ _ _ _ _ => (pe_call G_law_measure (hr.mono (by decide)) (by rfl) T.law_measure.g T.law_measure.F.kp T.law_measure.b .nil pass0 (pa_cons (pe_ix (ix_tupK (K := K) (by rfl)) (pv 5) pe_int (fun _ _ => rfl)) (pa_cons (pv 12) pa_nil))))) (by first | exact nomark _ | rfl)) (pss_one (ps_ret pe_bl)) pss_nil) (pss_cons (ps_if (PW.pt (pw_or (pt_cmpR (op_neD hr.units) (pe_meth0 (pv 6) T.k_Route.cl T.Route_ground.m G_Route_ground (hr.mono (by decide)) T.Route_ground.b .nil (L2N.passes_call (W := fun _ _ _ _ => False) takes0N (fun _ _ _ _ h => h))) (pe_call G_normal (hr.mono (by decide)) (by rfl) T.normal.g T.normal.F.kp T.normal.b .nil (L2N.passes_call (W := fun _ _ _ _ => False) takes0N (fun _ _ _ _ h => h)) (pa_cons (pe_lc (by rfl) sc.nd (pi_list (pv 1)) (blkOk_by (own := [("_law_piece", 8), ("_law_k", 12)]) (N := ["_law_script", "_law_cells", "_law_stones_here", "_law_due", "_law_single_here", "_law_kept", "_law_route", "_law_other", "_law_piece", "_law_begin", "_law_end", "_law_turned", "_law_k", "_law_index", "_law_passed", "_law_third", "_law_rows"]) (sc := defScope s_law) (by decide +kernel)) (fun _ _ _ _ _ => (pg_tupK (K := K) (n := 2) (by rfl) (by rfl) (pgs_cons (pg_name (i := 8) sc.nd rfl (Or.inl rfl)) (pgs_cons (pg_name (i := 12) sc.nd rfl (Or.inl rfl)) pgs_nil)))) (fun _ _ _ _ _ => pts_nil) (fun _ _ _ _ _ => (pe_tup (pa_cons (pv 8) (pa_cons (pv 12) (pa_cons (pe_op op_add (pv 12) pe_int) pa_nil)))))) pa_nil)) (by first | exact nomark _ | rfl)) (pw_or1 (pt_not (pt_val (pe_call G_law_off (hr.mono (by decide)) (by rfl) T.law_off.g T.law_off.F.kp T.law_off.b .nil pass0 (pa_cons (pv 6) (pa_cons (pe_un un_neg pe_int) pa_nil)))))))) (pss_one (ps_ret pe_bl)) pss_nil) (pss_one (ps_ret (pe_call G_law_off (hr.mono (by decide)) (by rfl) T.law_off.g T.law_off.F.kp T.law_off.b .nil pass0 (pa_cons (pv 6) (pa_cons (pe_callB call_len_seq (by rfl) T.b_len PySem.boot_len (pa_cons (pv 1) pa_nil)) pa_nil))))))))))))))))))))))), ?_⟩
    have g0 : Step [] c0 H0 c0 H0 := Step.refl wf0
    unfold m_law at k
    refine seq_u ?_
    refine asg_u ?_
    refine call_u ?_
    refine cons_u ?_
    refine Pv.go (pv_v rfl) ?_
    refine cons_u ?_
    refine Pv.go pv_c ?_
    refine cons_u ?_
    refine op_u ?_
    refine Pv.go pv_c ?_
    refine op_u ?_
    refine call_u ?_
    refine PvA.go (pa_c (pv_v rfl) (pa_c pv_c pa_n)) ?_
    refine ⟨c0, _, a0, _, (0 : Int), rfl, g0.wf, (g0.b0 h0), rfl, ?_⟩
    refine Kont.call k g0 (fun _ z => by cases z) (fun y1 e2 k c3 H4 st5 g6 v7 r8 => ?_) (fun _ _ _ _ _ _ z => z)
    have r8 : v7 = (V.int y1) := r8
    subst r8
    refine Pv.go pv_c ?_
    refine (rv_modL (by decide)) _ ?_
    refine rv_i _ ?_
    refine nil_u ?_
    refine ⟨c3, _, a0, _, (3 : Int), _, ((1 : Int) + (y1 % (10 : Int))), rfl, g6.wf, (g6.b0 h0), rfl, rfl, ?_⟩
    refine Kont.call k g6 (fun _ z => by cases z) (fun y9 e10 k c11 H12 st13 g14 v15 r16 => ?_) (fun _ _ _ _ _ _ z => z)
    refine gname_u ?_
    refine nx_go ?_
    refine seq_u ?_
    refine asg_u ?_
    refine call_u ?_
    refine cons_u ?_
    refine call_u ?_
    refine PvA.go (pa_c (pv_v rfl) (pa_c pv_c pa_n)) ?_
    refine ⟨c11, _, a0, _, (1 : Int), rfl, g14.wf, (g14.b0 h0), rfl, ?_⟩
    refine Kont.call k g14 (fun _ z => by cases z) (fun y17 e18 k c19 H20 st21 g22 v23 r24 => ?_) (fun _ _ _ _ _ _ z => z)
    have r24 : v23 = (V.int y17) := r24
    subst r24
    have r16 := lift r16 st21
    refine cons_u ?_
    refine Pv.go (len_B (tyL_b r16) (pv_v rfl)) ?_
    refine nil_u ?_
    refine ⟨c19, _, y17, _, (y9.length : Int), rfl, g22.wf, rfl, rfl, ?_⟩
    refine Kont.call k g22 (fun _ z => by cases z) (fun y25 e26 k c27 H28 st29 g30 v31 r32 => ?_) (fun _ _ _ _ _ _ z => z)
    obtain ⟨p33, us34, rfl, r32⟩ := r32
    have r32 := r32.base g22
    have r16 := lift r16 st29
    have h35 := r32.frz
    have g36 := g30.frz (p := p33) r32.new
    have r16 := liftF (p := p33) r16
    refine gname_u ?_
    refine nx_go ?_
    refine seq_u ?_
    refine asg_u ?_
    refine call_u ?_
    refine PvA.go (pa_c (pv_v rfl) pa_n) ?_
    refine ⟨(frz c27 p33), _, y9, rfl, g36.wf, (tyL_p r16), ?_⟩
    refine Kont.call k g36 (fun _ z => by cases z) (fun y37 e38 k c39 H40 st41 g42 v43 r44 => ?_) (fun _ _ _ _ _ _ z => z)
    obtain ⟨p45, us46, rfl, r44⟩ := r44
    have r44 := r44.base g36
    have r16 := lift r16 st41
    have h35 := lift h35 st41
    have h47 := r44.frz
    have g48 := g42.frz (p := p45) r44.new
    have r16 := liftF (p := p45) r16
    have h35 := liftF (p := p45) h35
    refine gname_u ?_
    refine nx_go ?_
    refine seq_u ?_
    refine asg_u ?_
    refine call_u ?_
    refine cons_u ?_
    refine Pv.go (pv_v rfl) ?_
    refine cons_u ?_
    refine call_u ?_
    refine PvA.go (pa_c (pv_v rfl) (pa_c pv_c pa_n)) ?_
    refine ⟨(frz c39 p45), _, a0, _, (2 : Int), rfl, g48.wf, (g48.b0 h0), rfl, ?_⟩
    refine Kont.call k g48 (fun _ z => by cases z) (fun y49 e50 k c51 H52 st53 g54 v55 r56 => ?_) (fun _ _ _ _ _ _ z => z)
    have r56 : v55 = (V.int y49) := r56
    subst r56
    have r16 := lift r16 st53
    have h35 := lift h35 st53
    have h47 := lift h47 st53
    refine nil_u ?_
    refine ⟨c51, _, y9, _, y49, rfl, g54.wf, (tyL_p r16), rfl, ?_⟩
    refine Kont.call k g54 (fun _ z => by cases z) (fun y57 e58 k c59 H60 st61 g62 v63 r64 => ?_) (fun _ _ _ _ _ _ z => z)
    obtain ⟨p65, us66, rfl, r64⟩ := r64
    have r64 := r64.base g54
    have r16 := lift r16 st61
    have h35 := lift h35 st61
    have h47 := lift h47 st61
    have h67 := r64.frz
    have g68 := g62.frz (p := p65) r64.new
    have r16 := liftF (p := p65) r16
    have h35 := liftF (p := p65) h35
    have h47 := liftF (p := p65) h47
    refine gname_u ?_
    refine nx_go ?_
    refine seq_u ?_
    refine asg_u ?_
    refine tup_u ?_
    refine cons_u ?_
    refine cb_u ?_
    refine PvA.go (pa_c (pv_v rfl) pa_n) ?_
    refine listof_end (H0 := H0) (tyL_b h47) g68.wf (fun _ n => g68.fresh n) fun p69 us70 c71 H72 o74_n st73 o74 => ?_
    have g75 := g68.tr0 st73
    have r16 := lift r16 st73
    have h35 := lift h35 st73
    have h47 := lift h47 st73
    have h67 := lift h67 st73
    refine cons_u ?_
    refine cb_u ?_
    refine PvA.go (pa_c (pv_v rfl) pa_n) ?_
    refine listof_end (H0 := H0) (tyL_b h67) g75.wf (fun _ n => g75.fresh n) fun p76 us77 c78 H79 o81_n st80 o81 => ?_
    have n82 : p69 ≠ p76 := ne_of_none o74.obj o81_n
    have g83 := g75.tr0 st80
    have r16 := lift r16 st80
    have h35 := lift h35 st80
    have h47 := lift h47 st80
    have h67 := lift h67 st80
    have o74 := o74.step0 st80
    refine cons_u ?_
    refine cb_u ?_
    refine PvA.go (pa_c (pv_v rfl) pa_n) ?_
    refine listof_end (H0 := H0) (tyL_b h35) g83.wf (fun _ n => g83.fresh n) fun p84 us85 c86 H87 o89_n st88 o89 => ?_
    have n90 : p69 ≠ p84 := ne_of_none o74.obj o89_n
    have n91 : p76 ≠ p84 := ne_of_none o81.obj o89_n
    have g92 := g83.tr0 st88
    have r16 := lift r16 st88
    have h35 := lift h35 st88
    have h47 := lift h47 st88
    have h67 := lift h67 st88
    have o74 := o74.step0 st88
    have o81 := o81.step0 st88
    refine nil_u ?_
    have h93 := o74.frz
    have g94 := g92.frz (p := p69) o74.new
    have r16 := liftF (p := p69) r16
    have h35 := liftF (p := p69) h35
    have h47 := liftF (p := p69) h47
    have h67 := liftF (p := p69) h67
    have o81 := o81.other (Ne.symm n82)
    have o89 := o89.other (Ne.symm n90)
    have h95 := o81.frz
    have g96 := g94.frz (p := p76) o81.new
    have r16 := liftF (p := p76) r16
    have h35 := liftF (p := p76) h35
    have h47 := liftF (p := p76) h47
    have h67 := liftF (p := p76) h67
    have h93 := liftF (p := p76) h93
    have o89 := o89.other (Ne.symm n91)
    have h97 := o89.frz
    have g98 := g96.frz (p := p84) o89.new
    have r16 := liftF (p := p84) r16
    have h35 := liftF (p := p84) h35
    have h47 := liftF (p := p84) h47
    have h67 := liftF (p := p84) h67
    have h93 := liftF (p := p84) h93
    have h95 := liftF (p := p84) h95
    refine tup_end (Nat.le_of_ble_eq_true rfl) g98.wf fun p99 c100 H101 st102 cp103 rd104 np105 => ?_
    have g107 := g98.tr0 st102
    have r16 := lift r16 st102
    have h35 := lift h35 st102
    have h47 := lift h47 st102
    have h67 := lift h67 st102
    have h93 := lift h93 st102
    have h95 := lift h95 st102
    have h97 := lift h97 st102
    have h106 : (tyT3 (tyL (tyT4 tyS tyI tyI tyB)) (tyL (tyT4 tyS tyI tyI tyB)) (tyL (tyT2 tyI (tyT2 tyI tyI)))).r c100 H101 (V.ref p99) (y37, y57, y25) := ⟨p99, _, _, _, rfl, cp103, rd104, h93, h95, h97⟩
    refine gname_u ?_
    refine nx_go ?_
    refine seq_u ?_
    refine asg_u ?_
    refine make_u ?_
    refine PvA.go (pa_c (pv_v rfl) (pa_c (pv_v rfl) pa_n)) ?_
    refine make_e g107.wf fun x108 dx109 c111 H112 nx110 st113 ow114 => ?_
    refine ⟨c100, H101, c111, x108, dx109, _, y37, _, y25, rfl, g107.wf, st113, nx110, ow114, (tyL_p h47), (tyL_p h35), ?_⟩
    refine Kont.call k g107 (fun _ z => by cases z) (fun y115 e116 k c117 H118 st119 g120 r122 => ?_) (fun e e116 c117 H118 st119 g120 pe => ?_)
    rotate_left
    · exact pe
    refine ⟨rfl, ?_⟩
    have r16 := lift r16 st119
    have h35 := lift h35 st119
    have h47 := lift h47 st119
    have h67 := lift h67 st119
    have h106 := lift h106 st119
    refine gname_u ?_
    refine nx_go ?_
    refine seq_u ?_
    refine asg_u ?_
    refine make_u ?_
    refine PvA.go (pa_c (pv_v rfl) (pa_c (pv_v rfl) pa_n)) ?_
    refine make_e g120.wf fun x123 dx124 c126 H127 nx125 st128 ow129 => ?_
    refine ⟨c117, H118, c126, x123, dx124, _, y57, _, y25, rfl, g120.wf, st128, nx125, ow129, (tyL_p h67), (tyL_p h35), ?_⟩
    refine Kont.call k g120 (fun _ z => by cases z) (fun y130 e131 k c132 H133 st134 g135 r137 => ?_) (fun e e131 c132 H133 st134 g135 pe => ?_)
    rotate_left
    · exact pe
    refine ⟨rfl, ?_⟩
    have r16 := lift r16 st134
    have h35 := lift h35 st134
    have h47 := lift h47 st134
    have h67 := lift h67 st134
    have h106 := lift h106 st134
    have r122 := lift r122 st134
    refine gname_u ?_
    refine nx_go ?_
    refine seq_u ?_
    refine ifS_u ?_
    refine or_s ?_
    refine test_u ?_
    refine op_u ?_
    refine tup_u ?_
    refine PvA.go (pa_c (pv_v rfl) (pa_c (pv_v rfl) (pa_c (pv_v rfl) pa_n))) ?_
    refine tup_end (Nat.le_of_ble_eq_true rfl) g135.wf fun p138 c139 H140 st141 cp142 rd143 np144 => ?_
    have g146 := g135.tr0 st141
    have r16 := lift r16 st141
    have h35 := lift h35 st141
    have h47 := lift h47 st141
    have h67 := lift h67 st141
    have h106 := lift h106 st141
    have r122 := lift r122 st141
    have r137 := lift r137 st141
    have h145 : (tyT3 (tyL (tyT4 tyS tyI tyI tyB)) (tyL (tyT4 tyS tyI tyI tyB)) (tyL (tyT2 tyI (tyT2 tyI tyI)))).r c139 H140 (V.ref p138) (y37, y57, y25) := ⟨p138, _, _, _, rfl, cp142, rd143, h47, h67, h35⟩
    refine Pv.go (pv_v rfl) ?_
    refine (rv_ned h145 h106 (by decide)) _ ?_
    refine ⟨_, rfl, ?_⟩
    refine ite_b (b := (!decide ((y37, y57, y25) = (y37, y57, y25)))) (fun b147 => ?_) (fun b147 => ?_)
    · have k := k.brT b147
      refine ret_u ?_
      refine Pv.go pv_c ?_
      exact (k.done g146) _ rfl
    · rw [brF_eq b147] at k
      refine or_s ?_
      obtain ⟨u148, h149, q150⟩ := fld3_0 r122 T.k_Route.cl T.na_Route_stretches (by decide +kernel)
      refine PvT.go (pt_t (pv_2 (pv_f (pv_v rfl) q150) (pv_v rfl) (rv_nel (tyL_b h149) (tyL_b h47) (by decide)))) ?_
      refine ite_b (b := (!decide (y115.1 = y37))) (fun b151 => ?_) (fun b151 => ?_)
      · have k := k.brT b151
        refine ret_u ?_
        refine Pv.go pv_c ?_
        exact (k.done g146) _ rfl
      · rw [brF_eq b151] at k
        refine or_s ?_
        obtain ⟨u152, h153, q154⟩ := fld3_0 r137 T.k_Route.cl T.na_Route_stretches (by decide +kernel)
        refine PvT.go (pt_t (pv_2 (pv_f (pv_v rfl) q154) (pv_v rfl) (rv_nel (tyL_b h153) (tyL_b h47) (by decide)))) ?_
        refine ite_b (b := (!decide (y130.1 = y37))) (fun b155 => ?_) (fun b155 => ?_)
        · have k := k.brT b155
          refine ret_u ?_
          refine Pv.go pv_c ?_
          exact (k.done g146) _ rfl
        · rw [brF_eq b155] at k
          obtain ⟨u156, h157, q158⟩ := fld3_2 r122 T.k_Route.cl T.na_Route_stones (by decide +kernel)
          refine PvT.go (pt_t (pv_2 (pv_f (pv_v rfl) q158) (pv_v rfl) (rv_nel (tyL_b h157) (tyL_b h35) (by decide)))) ?_
          refine ite_b (b := (!decide (y115.2.2 = y25))) (fun b159 => ?_) (fun b159 => ?_)
          · have k := k.brT b159
            refine ret_u ?_
            refine Pv.go pv_c ?_
            exact (k.done g146) _ rfl
          · rw [brF_eq b159] at k
            refine next_u ?_
            refine nx_go ?_
            refine seq_u ?_
            refine for_u ?_
            refine ilist_u ?_
            refine op_u ?_
            obtain ⟨u160, h161, q162⟩ := fld3_0 r122 T.k_Route.cl T.na_Route_stretches (by decide +kernel)
            refine Pv.go (pv_f (pv_v rfl) q162) ?_
            obtain ⟨u163, h164, q165⟩ := fld3_0 r137 T.k_Route.cl T.na_Route_stretches (by decide +kernel)
            refine Pv.go (pv_f (pv_v rfl) q165) ?_
            obtain ⟨e166, k⟩ := k.chk
            refine cat_B (H0 := H0) (tyL_p h161) (tyL_p h164) g146.wf (fun _ n => g146.fresh n) (of_decide_eq_true e166) fun p167 us168 c169 H170 o172_n st171 o172 => ?_
            have g173 := g146.tr0 st171
            have r16 := lift r16 st171
            have h35 := lift h35 st171
            have h47 := lift h47 st171
            have h67 := lift h67 st171
            have h106 := lift h106 st171
            have r122 := lift r122 st171
            have r137 := lift r137 st171
            refine ilist_e ((.inl (.inl o172.obj))) ?_
            refine for_r (A := (tyT4 tyS tyI tyI tyB)) (a := p167) (us := us168) (s0 := (() : Unit)) (Rr := tyB.r) k (fun (s174 : Unit) (c : Cl) (H : Hp) (σ : L2.St) => ∃ (y175 : Option V) (y176 : Option V) (y177 : Option V) (y178 : Option V), σ = [some w0, some v15, some (V.ref p33), some (V.ref p45), some (V.ref p65), some (V.ref p99), some (V.ref x108), some (V.ref x123), y175, y176, y177, y178, none, none, none, none, none] ∧ Step [] c0 H0 c H ∧ (tyL (tyT2 tyS tyI)).r c H v15 y9 ∧ (tyL (tyT2 tyI (tyT2 tyI tyI))).r c H (V.ref p33) y25 ∧ (tyL (tyT4 tyS tyI tyI tyB)).r c H (V.ref p45) y37 ∧ (tyL (tyT4 tyS tyI tyI tyB)).r c H (V.ref p65) y57 ∧ (tyT3 (tyL (tyT4 tyS tyI tyI tyB)) (tyL (tyT4 tyS tyI tyI tyB)) (tyL (tyT2 tyI (tyT2 tyI tyI)))).r c H (V.ref p99) (y37, y57, y25) ∧ (ty_Route a).r c H (V.ref x108) y115 ∧ (ty_Route a).r c H (V.ref x123) y130 ∧ Own (tyT4 tyS tyI tyI tyB) H0 c H p167 us168 (y115.1 ++ y130.1)) ⟨_, _, _, _, rfl, g173, r16, h35, h47, h67, h106, r122, r137, o172⟩ ?_ ?_ (fun r k c H g v hv => (k.done g) v hv) ?_
            · exact fun s c H σ ⟨y175, y176, y177, y178, _, g, _, _, _, _, _, _, _, hit⟩ => ⟨.inl (.inl hit.obj), hit.rs⟩
            · intro s174 x179 v180 c182 H183 σ N i h181 k
              obtain ⟨y175, y176, y177, y178, rfl, g184, r16, h35, h47, h67, h106, r122, r137, o172⟩ := i
              obtain ⟨ad185, u186, u187, u188, u189, e195, rd194, h190, h191, h192, h193⟩ := open4 h181
              subst e195
              refine gtup_u rd194 rfl ?_
              obtain ⟨h190, h190s⟩ := h190
              subst h190
              refine gcons_u ?_
              refine gname_u ?_
              have h191 : u187 = (V.int x179.2.1) := h191
              subst h191
              refine gcons_u ?_
              refine gname_u ?_
              have h192 : u188 = (V.int x179.2.2.1) := h192
              subst h192
              refine gcons_u ?_
              refine gname_u ?_
              have h193 : u189 = (V.bl x179.2.2.2) := h193
              subst h193
              refine gcons_u ?_
              refine gname_u ?_
              refine gnil_u ?_
              refine PvT.ifS (b := false) ?_ (fun b196 => by cases b196) (fun b196 => ?_)
              · exact (show PvT _ _ _ (!true) from (pt_not (pt_b (pv_cb (pa_c (pv_v rfl) (pa_c pv_c pa_n)) (rc_isi (.ty _) tyx_bl (kit_ty (by decide +kernel)))))))
              refine next_u ?_
              refine nx_go ?_
              exact (k.done g184) _ ⟨_, _, _, _, rfl, g184, r16, h35, h47, h67, h106, r122, r137, o172⟩
            · intro s174 c197 H198 σ i k
              obtain ⟨y175, y176, y177, y178, rfl, g199, r16, h35, h47, h67, h106, r122, r137, o172⟩ := i
              refine nx_go ?_
              refine seq_u ?_
              refine ifS_u ?_
              refine or_s ?_
              refine tB_u ?_
              refine cb_u ?_
              refine cons_u ?_
              refine meth_u ?_
              refine Pv.go (pv_v rfl) ?_
              refine meth3 r122 (by decide +kernel) ?_
              refine nil_u ?_
              refine ⟨c197, _, y115, rfl, g199.wf, r122, ?_⟩
              refine Kont.call k g199 (fun _ z => by cases z) (fun y200 e201 k c202 H203 st204 g205 v206 r207 => ?_) (fun _ _ _ _ _ _ z => z)
              have r207 : v206 = (V.int y200) := r207
              subst r207
              have r16 := lift r16 st204
              have h35 := lift h35 st204
              have h47 := lift h47 st204
              have h67 := lift h67 st204
              have h106 := lift h106 st204
              have r122 := lift r122 st204
              have r137 := lift r137 st204
              refine cons_u ?_
              refine Pv.go pv_c ?_
              refine nil_u ?_
              refine (rc_isi (b := false) (.ty _) tyx_int (kit_ty (by decide +kernel))) _ ?_
              refine ⟨_, rfl, ?_⟩
              refine ite_b (b := false) (fun b208 => by cases b208) (fun b208 => ?_)
              refine tB_u ?_
              refine cb_u ?_
              refine cons_u ?_
              refine meth_u ?_
              refine Pv.go (pv_v rfl) ?_
              refine meth3 r122 (by decide +kernel) ?_
              obtain ⟨x212, e213, k⟩ := k.opt
              obtain ⟨u209, h210, q211⟩ := rv_ixB (tyL_b r16) e213
              obtain ⟨u214, h215, q216⟩ := ix2_0 h210
              obtain ⟨h215, h215s⟩ := h215
              subst h215
              obtain ⟨x220, e221, k⟩ := k.opt
              obtain ⟨u217, h218, q219⟩ := rv_ixB (tyL_b r16) e221
              obtain ⟨u222, h223, q224⟩ := ix2_1 h218
              have h223 : u222 = (V.int x220.2) := h223
              subst h223
              refine PvA.go (pa_c (pv_2 (pv_2 (pv_v rfl) pv_c (q211)) pv_c (q216)) (pa_c (pv_2 (pv_2 (pv_v rfl) pv_c (q219)) pv_c (q224)) pa_n)) ?_
              refine ⟨c202, _, y115, _, x212.1, _, x220.2, rfl, g205.wf, r122, ⟨rfl, h215s⟩, rfl, ?_⟩
              refine Kont.call k g205 (fun _ z => by cases z) (fun y225 e226 k c227 H228 st229 g230 v231 r232 => ?_) (fun _ _ _ _ _ _ z => z)
              have r16 := lift r16 st229
              have h35 := lift h35 st229
              have h47 := lift h47 st229
              have h67 := lift h67 st229
              have h106 := lift h106 st229
              have r122 := lift r122 st229
              have r137 := lift r137 st229
              obtain ⟨n233, e234, k⟩ := k.opt
              have h235 := some_of r232 e234
              have h235 : v231 = (V.int n233) := h235
              subst h235
              refine cons_u ?_
              refine Pv.go pv_c ?_
              refine nil_u ?_
              refine (rc_isi (b := false) (.ty _) tyx_int (kit_ty (by decide +kernel))) _ ?_
              refine ⟨_, rfl, ?_⟩
              refine ite_b (b := false) (fun b236 => by cases b236) (fun b236 => ?_)
              refine next_u ?_
              refine nx_go ?_
              refine seq_u ?_
              refine ifS_u ?_
              refine or_s ?_
              refine test_u ?_
              refine op_u ?_
              refine meth_u ?_
              refine Pv.go (pv_v rfl) ?_
              refine meth3 r122 (by decide +kernel) ?_
              refine nil_u ?_
              refine ⟨c227, _, y115, rfl, g230.wf, r122, ?_⟩
              refine Kont.call k g230 (fun _ z => by cases z) (fun y237 e238 k c239 H240 st241 g242 v243 r244 => ?_) (fun _ _ _ _ _ _ z => z)
              have r244 : v243 = (V.int y237) := r244
              subst r244
              have r16 := lift r16 st241
              have h35 := lift h35 st241
              have h47 := lift h47 st241
              have h67 := lift h67 st241
              have h106 := lift h106 st241
              have r122 := lift r122 st241
              have r137 := lift r137 st241
              refine Pv.go (len_B (tyL_b r16) (pv_v rfl)) ?_
              refine rv_nei _ ?_
              refine ⟨_, rfl, ?_⟩
              refine ite_b (b := (!decide (y237 = (y9.length : Int)))) (fun b245 => ?_) (fun b245 => ?_)
              · have k := k.brT b245
                refine ret_u ?_
                refine Pv.go pv_c ?_
                exact (k.done g242) _ rfl
              · rw [brF_eq b245] at k
                refine test_u ?_
                refine op_u ?_
                refine lc_u ?_
                refine irng1_u ?_
                refine PvA.go (pa_c (len_B (tyL_b r16) (pv_v rfl)) pa_n) ?_
                obtain ⟨e246, k⟩ := k.chk
                refine irng1_e e246 ?_
                obtain ⟨e247, k⟩ := k.chk
                refine comp_pB (A := tyI) (B := (tyT2 tyS tyI)) (xs := (rng 0 (y9.length : Int).toNat)) k g242 e247 (fun _ _ _ => pit_r) ?_ ?_
                · intro x248 v249 c251 H252 Qe Qn st253 gi_ h250 k
                  have r16 := lift r16 st253
                  have h35 := lift h35 st253
                  have h47 := lift h47 st253
                  have h67 := lift h67 st253
                  have h106 := lift h106 st253
                  have r122 := lift r122 st253
                  have r137 := lift r137 st253
                  have h255 := gi_.b0 h0
                  have g254 : Step [] c251 H252 c251 H252 := Step.refl gi_.wf
                  have h250 : v249 = V.int x248 := h250
                  subst h250
                  refine gname_u ?_
                  refine ⟨rfl, yes_u ?_⟩
                  refine meth_u ?_
                  refine Pv.go (pv_v rfl) ?_
                  refine meth3 r122 (by decide +kernel) ?_
                  refine PvA.go (pa_c (pv_v rfl) pa_n) ?_
                  refine ⟨c251, _, y115, _, x248, rfl, g254.wf, r122, rfl, ?_⟩
                  refine Kont.call k g254 (fun _ z => by cases z) (fun y256 e257 k c258 H259 st260 g261 v262 r263 => ?_) (fun e e257 c258 H259 st260 g261 pe => ?_)
                  rotate_left
                  · exact pe
                  have r16 := lift r16 st260
                  have h35 := lift h35 st260
                  have h47 := lift h47 st260
                  have h67 := lift h67 st260
                  have h106 := lift h106 st260
                  have r122 := lift r122 st260
                  have r137 := lift r137 st260
                  exact (k.done g261) _ r263
                intro y264 p265 us266 c267 H268 o270_n st269 o270 k
                have g271 := g242.tr0 st269
                have r16 := lift r16 st269
                have h35 := lift h35 st269
                have h47 := lift h47 st269
                have h67 := lift h67 st269
                have h106 := lift h106 st269
                have r122 := lift r122 st269
                have r137 := lift r137 st269
                refine Pv.go (pv_v rfl) ?_
                refine (rv_nel o270.b (tyL_b r16) (by decide)) _ ?_
                refine ⟨_, rfl, ?_⟩
                refine ite_b (b := (!decide (y264 = y9))) (fun b272 => ?_) (fun b272 => ?_)
                · have k := k.brT b272
                  refine ret_u ?_
                  refine Pv.go pv_c ?_
                  exact (k.done g271) _ rfl
                · rw [brF_eq b272] at k
                  refine next_u ?_
                  refine nx_go ?_
                  refine seq_u ?_
                  refine for_u ?_
                  refine itup_u ?_
                  refine tup_u ?_
                  refine PvA.go (pa_c pv_c (pa_c pv_c (pa_c pv_c (pa_c pv_c pa_n)))) ?_
                  refine tup_end (Nat.le_of_ble_eq_true rfl) g271.wf fun p273 c274 H275 st276 cp277 rd278 np279 => ?_
                  have g281 := g271.tr0 st276
                  have r16 := lift r16 st276
                  have h35 := lift h35 st276
                  have h47 := lift h47 st276
                  have h67 := lift h67 st276
                  have h106 := lift h106 st276
                  have r122 := lift r122 st276
                  have r137 := lift r137 st276
                  have h280 : (tyT4 tyS tyS tyS tyS).r c274 H275 (V.ref p273) (("a" : PySem.Str), ("b" : PySem.Str), ("c" : PySem.Str), ("d" : PySem.Str)) := ⟨p273, _, _, _, _, rfl, cp277, rd278, ⟨rfl, (show PyData.strOk ("a" : PySem.Str) = true by decide +kernel)⟩, ⟨rfl, (show PyData.strOk ("b" : PySem.Str) = true by decide +kernel)⟩, ⟨rfl, (show PyData.strOk ("c" : PySem.Str) = true by decide +kernel)⟩, ⟨rfl, (show PyData.strOk ("d" : PySem.Str) = true by decide +kernel)⟩⟩
                  refine itup_e' (sqT4 h280) ?_
                  refine for_pr (A := tyS) (s0 := (() : Unit)) (Rr := tyB.r) k (fun (s282 : Unit) (c : Cl) (H : Hp) (σ : L2.St) => ∃ (y283 : Option V) (y284 : Option V) (y285 : Option V), σ = [some w0, some v15, some (V.ref p33), some (V.ref p45), some (V.ref p65), some (V.ref p99), some (V.ref x108), some (V.ref x123), y283, y176, y177, y178, y284, y285, none, none, none] ∧ Step [] c0 H0 c H ∧ (tyL (tyT2 tyS tyI)).r c H v15 y9 ∧ (tyL (tyT2 tyI (tyT2 tyI tyI))).r c H (V.ref p33) y25 ∧ (tyL (tyT4 tyS tyI tyI tyB)).r c H (V.ref p45) y37 ∧ (tyL (tyT4 tyS tyI tyI tyB)).r c H (V.ref p65) y57 ∧ (tyT3 (tyL (tyT4 tyS tyI tyI tyB)) (tyL (tyT4 tyS tyI tyI tyB)) (tyL (tyT2 tyI (tyT2 tyI tyI)))).r c H (V.ref p99) (y37, y57, y25) ∧ (ty_Route a).r c H (V.ref x108) y115 ∧ (ty_Route a).r c H (V.ref x123) y130 ∧ (tyT4 tyS tyS tyS tyS).r c H (V.ref p273) (("a" : PySem.Str), ("b" : PySem.Str), ("c" : PySem.Str), ("d" : PySem.Str))) ⟨_, _, _, rfl, g281, r16, h35, h47, h67, h106, r122, r137, h280⟩ ?_ ?_ (fun r k c H g v hv => (k.done g) v hv) ?_
                  · exact fun s c H σ ⟨y283, y284, y285, _, g, _, _, _, _, _, _, _, hit⟩ => pitT4 hit
                  · intro s282 x286 v287 c289 H290 σ N i h288 k
                    obtain ⟨y283, y284, y285, rfl, g291, r16, h35, h47, h67, h106, r122, r137, h280⟩ := i
                    obtain ⟨h288, h288s⟩ := h288
                    subst h288
                    refine gname_u ?_
                    refine for_u ?_
                    refine irng1_u ?_
                    refine PvA.go (pa_c pv_c pa_n) ?_
                    obtain ⟨e292, k⟩ := k.chk
                    refine irng1_e e292 ?_
                    refine for_rgr (s0 := (() : Unit)) (Rr := tyB.r) k (fun (s293 : Unit) (c : Cl) (H : Hp) (σ : L2.St) => ∃ (y294 : Option V) (y295 : Option V), σ = [some w0, some v15, some (V.ref p33), some (V.ref p45), some (V.ref p65), some (V.ref p99), some (V.ref x108), some (V.ref x123), some (V.str x286), y176, y177, y178, y294, y295, none, none, none] ∧ Step [] c0 H0 c H ∧ (tyL (tyT2 tyS tyI)).r c H v15 y9 ∧ (tyL (tyT2 tyI (tyT2 tyI tyI))).r c H (V.ref p33) y25 ∧ (tyL (tyT4 tyS tyI tyI tyB)).r c H (V.ref p45) y37 ∧ (tyL (tyT4 tyS tyI tyI tyB)).r c H (V.ref p65) y57 ∧ (tyT3 (tyL (tyT4 tyS tyI tyI tyB)) (tyL (tyT4 tyS tyI tyI tyB)) (tyL (tyT2 tyI (tyT2 tyI tyI)))).r c H (V.ref p99) (y37, y57, y25) ∧ (ty_Route a).r c H (V.ref x108) y115 ∧ (ty_Route a).r c H (V.ref x123) y130 ∧ (tyT4 tyS tyS tyS tyS).r c H (V.ref p273) (("a" : PySem.Str), ("b" : PySem.Str), ("c" : PySem.Str), ("d" : PySem.Str))) ⟨_, _, rfl, g291, r16, h35, h47, h67, h106, r122, r137, h280⟩ ?_ (fun r k c H g v hv => (k.done g) v hv) ?_
                    · intro s293 x296 c299 H300 σ N i k
                      obtain ⟨y294, y295, rfl, g301, r16, h35, h47, h67, h106, r122, r137, h280⟩ := i
                      refine gname_u ?_
                      refine seq_u ?_
                      refine asg_u ?_
                      refine meth_u ?_
                      refine Pv.go (pv_v rfl) ?_
                      refine meth3 r122 (by decide +kernel) ?_
                      refine PvA.go (pa_c (pv_v rfl) (pa_c (pv_v rfl) pa_n)) ?_
                      refine ⟨c299, _, y115, _, x286, _, x296, rfl, g301.wf, r122, ⟨rfl, h288s⟩, rfl, ?_⟩
                      refine Kont.call k g301 (fun _ z => by cases z) (fun y302 e303 k c304 H305 st306 g307 v308 r309 => ?_) (fun _ _ _ _ _ _ z => z)
                      have r16 := lift r16 st306
                      have h35 := lift h35 st306
                      have h47 := lift h47 st306
                      have h67 := lift h67 st306
                      have h106 := lift h106 st306
                      have r122 := lift r122 st306
                      have r137 := lift r137 st306
                      have h280 := lift h280 st306
                      refine gname_u ?_
                      refine nx_go ?_
                      refine if_cutR (Rr := tyB.r) k (fun (s310 : Unit) (c : Cl) (H : Hp) (σ : L2.St) => σ = [some w0, some v15, some (V.ref p33), some (V.ref p45), some (V.ref p65), some (V.ref p99), some (V.ref x108), some (V.ref x123), some (V.str x286), y176, y177, y178, some (V.int x296), some v308, none, none, none] ∧ Step [] c0 H0 c H ∧ (tyL (tyT2 tyS tyI)).r c H v15 y9 ∧ (tyL (tyT2 tyI (tyT2 tyI tyI))).r c H (V.ref p33) y25 ∧ (tyL (tyT4 tyS tyI tyI tyB)).r c H (V.ref p45) y37 ∧ (tyL (tyT4 tyS tyI tyI tyB)).r c H (V.ref p65) y57 ∧ (tyT3 (tyL (tyT4 tyS tyI tyI tyB)) (tyL (tyT4 tyS tyI tyI tyB)) (tyL (tyT2 tyI (tyT2 tyI tyI)))).r c H (V.ref p99) (y37, y57, y25) ∧ (ty_Route a).r c H (V.ref x108) y115 ∧ (ty_Route a).r c H (V.ref x123) y130 ∧ (tyT4 tyS tyS tyS tyS).r c H (V.ref p273) (("a" : PySem.Str), ("b" : PySem.Str), ("c" : PySem.Str), ("d" : PySem.Str)) ∧ tyOI.r c H v308 y302) (fun r k c H g v hv => (k.done g) v hv) ?_ ?_
                      rotate_left
                      · intro k
                        refine ifS_u ?_
                        refine test_u ?_
                        refine op_u ?_
                        refine tup_u ?_
                        refine PvA.go (pa_c (pv_v rfl) (pa_c (pv_v rfl) pa_n)) ?_
                        refine tup_end (Nat.le_of_ble_eq_true rfl) g307.wf fun p314 c315 H316 st317 cp318 rd319 np320 => ?_
                        have g322 := g307.tr0 st317
                        have r16 := lift r16 st317
                        have h35 := lift h35 st317
                        have h47 := lift h47 st317
                        have h67 := lift h67 st317
                        have h106 := lift h106 st317
                        have r122 := lift r122 st317
                        have r137 := lift r137 st317
                        have h280 := lift h280 st317
                        have r309 := lift r309 st317
                        have h321 : (tyT2 tyS tyI).r c315 H316 (V.ref p314) (x286, x296) := ⟨p314, _, _, rfl, cp318, rd319, ⟨rfl, h288s⟩, rfl⟩
                        refine Pv.go (pv_v rfl) ?_
                        refine (rv_in (A := (tyT2 tyS tyI)) h321 (tyL_b r16) (by decide)) _ ?_
                        refine ⟨_, rfl, ?_⟩
                        refine ite_b (b := (memB (x286, x296) y9)) (fun b323 => ?_) (fun b323 => ?_)
                        · have k := k.brT b323
                          refine ifS_u ?_
                          refine test_u ?_
                          refine op_u ?_
                          refine Pv.go (pv_v rfl) ?_
                          refine bm_u ?_
                          refine Pv.go (pv_v rfl) ?_
                          refine ⟨tyB_list (tyL_b r16), ?_⟩
                          refine cons_u ?_
                          refine tup_u ?_
                          refine PvA.go (pa_c (pv_v rfl) (pa_c (pv_v rfl) pa_n)) ?_
                          refine tup_end (Nat.le_of_ble_eq_true rfl) g322.wf fun p324 c325 H326 st327 cp328 rd329 np330 => ?_
                          have g332 := g322.tr0 st327
                          have r16 := lift r16 st327
                          have h35 := lift h35 st327
                          have h47 := lift h47 st327
                          have h67 := lift h67 st327
                          have h106 := lift h106 st327
                          have r122 := lift r122 st327
                          have r137 := lift r137 st327
                          have h280 := lift h280 st327
                          have r309 := lift r309 st327
                          have h331 : (tyT2 tyS tyI).r c325 H326 (V.ref p324) (x286, x296) := ⟨p324, _, _, rfl, cp328, rd329, ⟨rfl, h288s⟩, rfl⟩
                          refine nil_u ?_
                          obtain ⟨x333, e334, k⟩ := k.opt
                          refine index_end h331 (tyL_b r16) (by decide) e334 ?_
                          refine (rv_ned r309 (show (tyOI).r _ _ (V.int x333) (some x333) from rfl) (by decide)) _ ?_
                          refine ⟨_, rfl, ?_⟩
                          refine ite_b (b := (!decide (y302 = (some x333)))) (fun b335 => ?_) (fun b335 => ?_)
                          · have k := k.brT b335
                            refine ret_u ?_
                            refine Pv.go pv_c ?_
                            exact (k.done g332) _ rfl
                          · rw [brF_eq b335] at k
                            refine next_u ?_
                            exact k.done g332 _ ⟨rfl, g332, r16, h35, h47, h67, h106, r122, r137, h280, r309⟩
                        · rw [brF_eq b323] at k
                          refine PvT.ifS (b := (!Option.isNone y302)) ?_ (fun b336 => ?_) (fun b336 => ?_)
                          · exact (show PvT _ _ _ (!Option.isNone y302) from (pt_t (pv_2 (pv_v rfl) pv_c (rv_isNO r309))))
                          · have k := k.brT b336
                            refine ret_u ?_
                            refine Pv.go pv_c ?_
                            exact (k.done g322) _ rfl
                          · rw [brF_eq b336] at k
                            refine next_u ?_
                            exact k.done g322 _ ⟨rfl, g322, r16, h35, h47, h67, h106, r122, r137, h280, r309⟩
                      · intro s310 c311 H312 σ i k
                        obtain ⟨rfl, g313, r16, h35, h47, h67, h106, r122, r137, h280, r309⟩ := i
                        refine nx_go ?_
                        exact (k.done g313) _ ⟨_, _, rfl, g313, r16, h35, h47, h67, h106, r122, r137, h280⟩
                    · intro s293 c337 H338 σ i k
                      obtain ⟨y294, y295, rfl, g339, r16, h35, h47, h67, h106, r122, r137, h280⟩ := i
                      refine nx_go ?_
                      exact (k.done g339) _ ⟨_, _, _, rfl, g339, r16, h35, h47, h67, h106, r122, r137, h280⟩
                  · intro s282 c340 H341 σ i k
                    obtain ⟨y283, y284, y285, rfl, g342, r16, h35, h47, h67, h106, r122, r137, h280⟩ := i
                    refine nx_go ?_
                    refine seq_u ?_
                    refine asg_u ?_
                    refine lst_u ?_
                    refine cons_u ?_
                    refine cb_u ?_
                    refine PvA.go (pa_c (pv_v rfl) pa_n) ?_
                    refine listof_end (H0 := H0) (tyL_b h47) g342.wf (fun _ n => g342.fresh n) fun p343 us344 c345 H346 o348_n st347 o348 => ?_
                    have g349 := g342.tr0 st347
                    have r16 := lift r16 st347
                    have h35 := lift h35 st347
                    have h47 := lift h47 st347
                    have h67 := lift h67 st347
                    have h106 := lift h106 st347
                    have r122 := lift r122 st347
                    have r137 := lift r137 st347
                    refine cons_u ?_
                    refine cb_u ?_
                    refine PvA.go (pa_c (pv_v rfl) pa_n) ?_
                    refine listof_end (H0 := H0) (tyL_b h35) g349.wf (fun _ n => g349.fresh n) fun p350 us351 c352 H353 o355_n st354 o355 => ?_
                    have n356 : p343 ≠ p350 := ne_of_none o348.obj o355_n
                    have g357 := g349.tr0 st354
                    have r16 := lift r16 st354
                    have h35 := lift h35 st354
                    have h47 := lift h47 st354
                    have h67 := lift h67 st354
                    have h106 := lift h106 st354
                    have r122 := lift r122 st354
                    have r137 := lift r137 st354
                    have o348 := o348.step0 st354
                    refine nil_u ?_
                    refine lst_end (Nat.le_of_ble_eq_true rfl) g357.wf fun p358 c359 H360 st361 cp362 ob363 np364 => ?_
                    have n366 : p343 ≠ p358 := ne_of_none o348.obj np364
                    have n367 : p350 ≠ p358 := ne_of_none o355.obj np364
                    have w368 := g357.fresh np364
                    have g369 := g357.tr0 st361
                    have r16 := lift r16 st361
                    have h35 := lift h35 st361
                    have h47 := lift h47 st361
                    have h67 := lift h67 st361
                    have h106 := lift h106 st361
                    have r122 := lift r122 st361
                    have r137 := lift r137 st361
                    have o348 := o348.step0 st361
                    have o355 := o355.step0 st361
                    have o365 : Own tyAny H0 c359 H360 p358 [(V.ref p343), (V.ref p350)] [(), ()] := ⟨cp362, ob363, rs_any _, w368⟩
                    refine gname_u ?_
                    refine nx_go ?_
                    refine seq_u ?_
                    refine asg_u ?_
                    refine make_u ?_
                    refine PvA.go (pa_c (pv_2 (pv_v rfl) pv_c (rv_pack o365.obj rfl)) (pa_c (pv_2 (pv_v rfl) pv_c (rv_pack o365.obj rfl)) pa_n)) ?_
                    refine make_e g369.wf fun x370 dx371 c373 H374 nx372 st375 ow376 => ?_
                    refine ⟨c359, H360, c373, x370, dx371, _, y37, _, y25, rfl, g369.wf, st375, nx372, ow376, o348.pl, o355.pl, ?_⟩
                    refine Kont.call k g369 (fun _ z => by cases z) (fun y377 e378 k c379 H380 st381 g382 r384 => ?_) (fun e e378 c379 H380 st381 g382 pe => ?_)
                    rotate_left
                    · exact pe
                    refine ⟨rfl, ?_⟩
                    have r16 := lift r16 st381
                    have h35 := lift h35 st381
                    have h47 := lift h47 st381
                    have h67 := lift h67 st381
                    have h106 := lift h106 st381
                    have r122 := lift r122 st381
                    have r137 := lift r137 st381
                    have o348 := o348.step0 st381
                    have o355 := o355.step0 st381
                    have o365 := o365.step0 st381
                    refine gname_u ?_
                    refine nx_go ?_
                    refine seq_u ?_
                    refine for_u ?_
                    refine ilist_u ?_
                    refine Pv.go (pv_v rfl) ?_
                    have o385 := o348.any
                    have o386 := o355.any
                    have o387 : OwnL tyAny H0 c379 H380 [p343, p350] [(List.map (fun _ => ()) y37), (List.map (fun _ => ()) y25)] := ⟨⟨_, o385⟩, ⟨⟨_, o386⟩, trivial⟩⟩
                    have nd388 : List.Nodup [p343, p350] := by
                      have := n356
                      simp only [List.nodup_cons, List.mem_cons, List.not_mem_nil, or_false, not_or, not_false_eq_true, List.nodup_nil, and_true]
                      repeat' (first | assumption | constructor)
                    refine ilist_e (.inl (.inl o365.obj)) ?_
                    refine for_ownL (A := tyAny) (ps := [p343, p350]) (xs := [(List.map (fun _ => ()) y37), (List.map (fun _ => ()) y25)]) k (fun (s389 : Unit) (c : Cl) (H : Hp) (σ : L2.St) => ∃ (y390 : Option V), σ = [some w0, some v15, some (V.ref p33), some (V.ref p45), some (V.ref p65), some (V.ref p99), some (V.ref x108), some (V.ref x123), y283, y176, y177, y178, y284, y285, some (V.ref p358), some (V.ref x370), y390] ∧ Step [] c0 H0 c H ∧ (tyL (tyT2 tyS tyI)).r c H v15 y9 ∧ (tyL (tyT2 tyI (tyT2 tyI tyI))).r c H (V.ref p33) y25 ∧ (tyL (tyT4 tyS tyI tyI tyB)).r c H (V.ref p45) y37 ∧ (tyL (tyT4 tyS tyI tyI tyB)).r c H (V.ref p65) y57 ∧ (tyT3 (tyL (tyT4 tyS tyI tyI tyB)) (tyL (tyT4 tyS tyI tyI tyB)) (tyL (tyT2 tyI (tyT2 tyI tyI)))).r c H (V.ref p99) (y37, y57, y25) ∧ (ty_Route a).r c H (V.ref x108) y115 ∧ (ty_Route a).r c H (V.ref x123) y130 ∧ Own tyAny H0 c H p358 [(V.ref p343), (V.ref p350)] ([(), ()] : List Unit) ∧ (ty_Route a).r c H (V.ref x370) y377) ⟨_, rfl, g382, r16, h35, h47, h67, h106, r122, r137, o365, r384⟩ o387 nd388 ?_ ?_ ?_
                    · intro c391 H392 σ i
                      obtain ⟨y390, rfl, g393, r16, h35, h47, h67, h106, r122, r137, o365, r384⟩ := i
                      exact ⟨o365.obj, g393⟩
                    · intro p397 us398 x399 c394 H395 σ N i hm401 o400 k
                      obtain ⟨y390, rfl, g396, r16, h35, h47, h67, h106, r122, r137, o365, r384⟩ := i
                      have n402 : p358 ≠ p397 := fun z => by rw [← z] at hm401; simp only [List.mem_cons, List.not_mem_nil, or_false] at hm401; rcases hm401 with z | z <;> first | exact (Ne.symm n366) z | exact (Ne.symm n367) z
                      have gb : Step [p397] c394 H395 c394 H395 := Step.refl g396.wf
                      refine gname_u ?_
                      refine seq_u ?_
                      refine drop_u ?_
                      refine bm_u ?_
                      refine Pv.go (pv_v rfl) ?_
                      refine ⟨ty_list (.inl o400.obj), ?_⟩
                      refine cons_u ?_
                      refine tup_u ?_
                      refine PvA.go (pa_c pv_c (pa_c pv_c (pa_c pv_c (pa_c pv_c pa_n)))) ?_
                      refine tup_end (Nat.le_of_ble_eq_true rfl) gb.wf fun p403 c404 H405 st406 cp407 rd408 np409 => ?_
                      have n411 : p358 ≠ p403 := ne_of_none o365.obj np409
                      have n412 : p397 ≠ p403 := ne_of_none o400.obj np409
                      have g413 := gb.tr0 st406
                      have r16 := lift r16 st406
                      have h35 := lift h35 st406
                      have h47 := lift h47 st406
                      have h67 := lift h67 st406
                      have h106 := lift h106 st406
                      have r122 := lift r122 st406
                      have r137 := lift r137 st406
                      have o365 := o365.step0 st406
                      have r384 := lift r384 st406
                      have o400 := o400.step0 st406
                      have h410 : (tyT4 tyS tyI tyI tyB).r c404 H405 (V.ref p403) (("zz" : PySem.Str), (0 : Int), (1 : Int), false) := ⟨p403, _, _, _, _, rfl, cp407, rd408, ⟨rfl, (show PyData.strOk ("zz" : PySem.Str) = true by decide +kernel)⟩, rfl, rfl, rfl⟩
                      refine nil_u ?_
                      obtain ⟨e414, k⟩ := k.chk
                      refine append_end o400 g413.wf (show tyAny.r c404 H405 (V.ref p403) () from trivial) (of_decide_eq_true e414) fun H415 st416 o417 => ?_
                      have g418 := g413.tr1 st416 (.inl List.mem_cons_self)
                      have r16 := lift r16 st416
                      have h35 := lift h35 st416
                      have h47 := lift h47 st416
                      have h67 := lift h67 st416
                      have h106 := lift h106 st416
                      have r122 := lift r122 st416
                      have r137 := lift r137 st416
                      have o365 := o365.step1 st416 n402
                      have r384 := lift r384 st416
                      refine nx_go ?_
                      refine drop_u ?_
                      refine bm0_u ?_
                      refine Pv.go (pv_v rfl) ?_
                      refine ⟨ty_list (.inl o417.obj), ?_⟩
                      refine reverse_end o417 g418.wf fun H419 st420 o421 => ?_
                      have g422 := g418.tr1 st420 (.inl List.mem_cons_self)
                      have r16 := lift r16 st420
                      have h35 := lift h35 st420
                      have h47 := lift h47 st420
                      have h67 := lift h67 st420
                      have h106 := lift h106 st420
                      have r122 := lift r122 st420
                      have r137 := lift r137 st420
                      have o365 := o365.step1 st420 n402
                      have r384 := lift r384 st420
                      refine nx_go ?_
                      have go := g396.tr1 g422 (.inr o421.new)
                      exact k.done g422 g422 _ ⟨_, rfl, go, r16, h35, h47, h67, h106, r122, r137, o365, r384⟩
                    · intro c423 H424 σ i k
                      obtain ⟨y390, rfl, g425, r16, h35, h47, h67, h106, r122, r137, o365, r384⟩ := i
                      refine nx_go ?_
                      refine seq_u ?_
                      refine ifS_u ?_
                      refine or_s ?_
                      obtain ⟨u450, h451, q452⟩ := fld3_0 r384 T.k_Route.cl T.na_Route_stretches (by decide +kernel)
                      obtain ⟨u453, h454, q455⟩ := ix3_0 h106
                      refine PvT.go (pt_t (pv_2 (pv_f (pv_v rfl) q452) (pv_2 (pv_v rfl) pv_c (q455)) (rv_nel (tyL_b h451) (tyL_b h454) (by decide)))) ?_
                      refine ite_b (b := (!decide (y377.1 = y37))) (fun b456 => ?_) (fun b456 => ?_)
                      · have k := k.brT b456
                        refine ret_u ?_
                        refine Pv.go pv_c ?_
                        exact (k.done g425) _ rfl
                      · rw [brF_eq b456] at k
                        refine or_s ?_
                        obtain ⟨u457, h458, q459⟩ := fld3_2 r384 T.k_Route.cl T.na_Route_stones (by decide +kernel)
                        obtain ⟨u460, h461, q462⟩ := ix3_2 h106
                        refine PvT.go (pt_t (pv_2 (pv_f (pv_v rfl) q459) (pv_2 (pv_v rfl) pv_c (q462)) (rv_nel (tyL_b h458) (tyL_b h461) (by decide)))) ?_
                        refine ite_b (b := (!decide (y377.2.2 = y25))) (fun b463 => ?_) (fun b463 => ?_)
                        · have k := k.brT b463
                          refine ret_u ?_
                          refine Pv.go pv_c ?_
                          exact (k.done g425) _ rfl
                        · rw [brF_eq b463] at k
                          refine test_u ?_
                          refine op_u ?_
                          refine meth_u ?_
                          refine Pv.go (pv_v rfl) ?_
                          refine meth3 r384 (by decide +kernel) ?_
                          refine nil_u ?_
                          refine ⟨c423, _, y377, rfl, g425.wf, r384, ?_⟩
                          refine Kont.call k g425 (fun _ z => by cases z) (fun y464 e465 k c466 H467 st468 g469 v470 r471 => ?_) (fun _ _ _ _ _ _ z => z)
                          have r471 : v470 = (V.int y464) := r471
                          subst r471
                          have r16 := lift r16 st468
                          have h35 := lift h35 st468
                          have h47 := lift h47 st468
                          have h67 := lift h67 st468
                          have h106 := lift h106 st468
                          have r122 := lift r122 st468
                          have r137 := lift r137 st468
                          have o365 := o365.step0 st468
                          have r384 := lift r384 st468
                          refine Pv.go (len_B (tyL_b r16) (pv_v rfl)) ?_
                          refine rv_nei _ ?_
                          refine ⟨_, rfl, ?_⟩
                          refine ite_b (b := (!decide (y464 = (y9.length : Int)))) (fun b472 => ?_) (fun b472 => ?_)
                          · have k := k.brT b472
                            refine ret_u ?_
                            refine Pv.go pv_c ?_
                            exact (k.done g469) _ rfl
                          · rw [brF_eq b472] at k
                            refine next_u ?_
                            refine nx_go ?_
                            refine seq_u ?_
                            refine ifS_u ?_
                            refine test_u ?_
                            refine op_u ?_
                            refine lc_u ?_
                            refine irng1_u ?_
                            refine PvA.go (pa_c (pv_2 (len_B (tyL_b r16) (pv_v rfl)) pv_c rv_i) pa_n) ?_
                            obtain ⟨e473, k⟩ := k.chk
                            refine irng1_e e473 ?_
                            obtain ⟨e474, k⟩ := k.chk
                            refine comp_pB (A := tyI) (B := (tyT2 tyI tyI)) (xs := (rng 0 ((y9.length : Int) + (1 : Int)).toNat)) k g469 e474 (fun _ _ _ => pit_r) ?_ ?_
                            · intro x475 v476 c478 H479 Qe Qn st480 gi_ h477 k
                              have r16 := lift r16 st480
                              have h35 := lift h35 st480
                              have h47 := lift h47 st480
                              have h67 := lift h67 st480
                              have h106 := lift h106 st480
                              have r122 := lift r122 st480
                              have r137 := lift r137 st480
                              have o365 := o365.step0 st480
                              have r384 := lift r384 st480
                              have h482 := gi_.b0 h0
                              have g481 : Step [] c478 H479 c478 H479 := Step.refl gi_.wf
                              have h477 : v476 = V.int x475 := h477
                              subst h477
                              refine gname_u ?_
                              refine ⟨rfl, yes_u ?_⟩
                              refine meth_u ?_
                              refine Pv.go (pv_v rfl) ?_
                              refine meth3 r384 (by decide +kernel) ?_
                              refine PvA.go (pa_c (pv_v rfl) pa_n) ?_
                              refine ⟨c478, _, y377, _, x475, rfl, g481.wf, r384, rfl, ?_⟩
                              refine Kont.call k g481 (fun _ z => by cases z) (fun y483 e484 k c485 H486 st487 g488 v489 r490 => ?_) (fun e e484 c485 H486 st487 g488 pe => ?_)
                              rotate_left
                              · exact pe
                              have r16 := lift r16 st487
                              have h35 := lift h35 st487
                              have h47 := lift h47 st487
                              have h67 := lift h67 st487
                              have h106 := lift h106 st487
                              have r122 := lift r122 st487
                              have r137 := lift r137 st487
                              have o365 := o365.step0 st487
                              have r384 := lift r384 st487
                              exact (k.done g488) _ r490
                            intro y491 p492 us493 c494 H495 o497_n st496 o497 k
                            have n498 : p358 ≠ p492 := ne_of_none o365.obj o497_n
                            have g499 := g469.tr0 st496
                            have r16 := lift r16 st496
                            have h35 := lift h35 st496
                            have h47 := lift h47 st496
                            have h67 := lift h67 st496
                            have h106 := lift h106 st496
                            have r122 := lift r122 st496
                            have r137 := lift r137 st496
                            have o365 := o365.step0 st496
                            have r384 := lift r384 st496
                            refine lc_u ?_
                            refine irng1_u ?_
                            refine PvA.go (pa_c (pv_2 (len_B (tyL_b r16) (pv_v rfl)) pv_c rv_i) pa_n) ?_
                            obtain ⟨e500, k⟩ := k.chk
                            refine irng1_e e500 ?_
                            obtain ⟨e501, k⟩ := k.chk
                            refine comp_pB (A := tyI) (B := (tyT2 tyI tyI)) (xs := (rng 0 ((y9.length : Int) + (1 : Int)).toNat)) k g499 e501 (fun _ _ _ => pit_r) ?_ ?_
                            · intro x502 v503 c505 H506 Qe Qn st507 gi_ h504 k
                              have r16 := lift r16 st507
                              have h35 := lift h35 st507
                              have h47 := lift h47 st507
                              have h67 := lift h67 st507
                              have h106 := lift h106 st507
                              have r122 := lift r122 st507
                              have r137 := lift r137 st507
                              have o365 := o365.step0 st507
                              have r384 := lift r384 st507
                              have o497 := o497.step0 st507
                              have h509 := gi_.b0 h0
                              have g508 : Step [] c505 H506 c505 H506 := Step.refl gi_.wf
                              have h504 : v503 = V.int x502 := h504
                              subst h504
                              refine gname_u ?_
                              refine ⟨rfl, yes_u ?_⟩
                              refine call_u ?_
                              obtain ⟨u510, h511, q512⟩ := ix3_2 h106
                              refine PvA.go (pa_c (pv_2 (pv_v rfl) pv_c (q512)) (pa_c (pv_v rfl) pa_n)) ?_
                              refine ⟨c505, _, y25, _, x502, rfl, g508.wf, (tyL_p h511), rfl, ?_⟩
                              refine Kont.call k g508 (fun _ z => by cases z) (fun y513 e514 k c515 H516 st517 g518 v519 r520 => ?_) (fun _ _ _ _ _ _ z => z)
                              have r16 := lift r16 st517
                              have h35 := lift h35 st517
                              have h47 := lift h47 st517
                              have h67 := lift h67 st517
                              have h106 := lift h106 st517
                              have r122 := lift r122 st517
                              have r137 := lift r137 st517
                              have o365 := o365.step0 st517
                              have r384 := lift r384 st517
                              have o497 := o497.step0 st517
                              exact (k.done g518) _ r520
                            intro y521 p522 us523 c524 H525 o527_n st526 o527 k
                            have n528 : p358 ≠ p522 := ne_of_none o365.obj o527_n
                            have n529 : p492 ≠ p522 := ne_of_none o497.obj o527_n
                            have g530 := g499.tr0 st526
                            have r16 := lift r16 st526
                            have h35 := lift h35 st526
                            have h47 := lift h47 st526
                            have h67 := lift h67 st526
                            have h106 := lift h106 st526
                            have r122 := lift r122 st526
                            have r137 := lift r137 st526
                            have o365 := o365.step0 st526
                            have r384 := lift r384 st526
                            have o497 := o497.step0 st526
                            refine (rv_nel o497.b o527.b (by decide)) _ ?_
                            refine ⟨_, rfl, ?_⟩
                            refine ite_b (b := (!decide (y491 = y521))) (fun b531 => ?_) (fun b531 => ?_)
                            · have k := k.brT b531
                              refine ret_u ?_
                              refine Pv.go pv_c ?_
                              exact (k.done g530) _ rfl
                            · rw [brF_eq b531] at k
                              refine next_u ?_
                              refine nx_go ?_
                              refine seq_u ?_
                              refine ifS_u ?_
                              refine or_s ?_
                              refine test_u ?_
                              refine op_u ?_
                              refine meth_u ?_
                              refine Pv.go (pv_v rfl) ?_
                              refine meth3 r122 (by decide +kernel) ?_
                              refine nil_u ?_
                              refine ⟨c524, _, y115, rfl, g530.wf, r122, ?_⟩
                              refine Kont.call k g530 (fun _ z => by cases z) (fun y532 e533 k c534 H535 st536 g537 v538 r539 => ?_) (fun e e533 c534 H535 st536 g537 pe => ?_)
                              rotate_left
                              · exact pe
                              obtain ⟨p540, us541, rfl, r539⟩ := r539
                              have n542 : p358 ≠ p540 := ne_of_none o365.obj r539.new
                              have r539 := r539.base g530
                              have r16 := lift r16 st536
                              have h35 := lift h35 st536
                              have h47 := lift h47 st536
                              have h67 := lift h67 st536
                              have h106 := lift h106 st536
                              have r122 := lift r122 st536
                              have r137 := lift r137 st536
                              have o365 := o365.step0 st536
                              have r384 := lift r384 st536
                              refine call_u ?_
                              refine cons_u ?_
                              refine lc_u ?_
                              refine ilist_u ?_
                              refine Pv.go (pv_v rfl) ?_
                              obtain ⟨ad543, us544, e546, h545⟩ := tyL_open r16
                              subst e546
                              refine ilist_e (h545.rd) ?_
                              obtain ⟨e547, k⟩ := k.chk
                              refine comp_pB (A := (tyT2 tyS tyI)) (B := (tyT3 tyS tyI tyI)) (xs := y9) k g537 e547 (fun ci Hi st => pit_l (h545.lift st).rd (h545.lift st).rs) ?_ ?_
                              · intro x548 v549 c551 H552 Qe Qn st553 gi_ h550 k
                                have r16 := lift r16 st553
                                have h35 := lift h35 st553
                                have h47 := lift h47 st553
                                have h67 := lift h67 st553
                                have h106 := lift h106 st553
                                have r122 := lift r122 st553
                                have r137 := lift r137 st553
                                have o365 := o365.step0 st553
                                have r384 := lift r384 st553
                                have r539 := r539.step0 st553
                                have h545 := h545.lift st553
                                have h555 := gi_.b0 h0
                                have g554 : Step [] c551 H552 c551 H552 := Step.refl gi_.wf
                                obtain ⟨ad556, u557, u558, e562, rd561, h559, h560⟩ := open2 h550
                                subst e562
                                refine gtup_u rd561 rfl ?_
                                obtain ⟨h559, h559s⟩ := h559
                                subst h559
                                refine gcons_u ?_
                                refine gname_u ?_
                                have h560 : u558 = (V.int x548.2) := h560
                                subst h560
                                refine gcons_u ?_
                                refine gname_u ?_
                                refine gnil_u ?_
                                refine ⟨rfl, yes_u ?_⟩
                                refine tup_u ?_
                                refine PvA.go (pa_c (pv_v rfl) (pa_c (pv_v rfl) (pa_c (pv_2 (pv_v rfl) pv_c rv_i) pa_n))) ?_
                                refine tup_end (Nat.le_of_ble_eq_true rfl) g554.wf fun p563 c564 H565 st566 cp567 rd568 np569 => ?_
                                have n571 : p358 ≠ p563 := ne_of_none o365.obj np569
                                have n572 : p540 ≠ p563 := ne_of_none r539.obj np569
                                have g573 := g554.tr0 st566
                                have r16 := lift r16 st566
                                have h35 := lift h35 st566
                                have h47 := lift h47 st566
                                have h67 := lift h67 st566
                                have h106 := lift h106 st566
                                have r122 := lift r122 st566
                                have r137 := lift r137 st566
                                have o365 := o365.step0 st566
                                have r384 := lift r384 st566
                                have r539 := r539.step0 st566
                                have h545 := h545.lift st566
                                have h570 : (tyT3 tyS tyI tyI).r c564 H565 (V.ref p563) (x548.1, x548.2, (x548.2 + (1 : Int))) := ⟨p563, _, _, _, rfl, cp567, rd568, ⟨rfl, h559s⟩, rfl, rfl⟩
                                exact (k.done g573) _ h570
                              intro y574 p575 us576 c577 H578 o580_n st579 o580 k
                              have n581 : p358 ≠ p575 := ne_of_none o365.obj o580_n
                              have n582 : p540 ≠ p575 := ne_of_none r539.obj o580_n
                              have g583 := g537.tr0 st579
                              have r16 := lift r16 st579
                              have h35 := lift h35 st579
                              have h47 := lift h47 st579
                              have h67 := lift h67 st579
                              have h106 := lift h106 st579
                              have r122 := lift r122 st579
                              have r137 := lift r137 st579
                              have o365 := o365.step0 st579
                              have r384 := lift r384 st579
                              have r539 := r539.step0 st579
                              refine nil_u ?_
                              refine ⟨c577, _, y574, rfl, g583.wf, o580.pl, ?_⟩
                              refine Kont.call k g583 (fun _ z => by cases z) (fun y584 e585 k c586 H587 st588 g589 v590 r591 => ?_) (fun e e585 c586 H587 st588 g589 pe => ?_)
                              rotate_left
                              · exact pe
                              obtain ⟨p592, us593, rfl, r591⟩ := r591
                              have n594 : p358 ≠ p592 := ne_of_none o365.obj r591.new
                              have n595 : p540 ≠ p592 := ne_of_none r539.obj r591.new
                              have r591 := r591.base g583
                              have r16 := lift r16 st588
                              have h35 := lift h35 st588
                              have h47 := lift h47 st588
                              have h67 := lift h67 st588
                              have h106 := lift h106 st588
                              have r122 := lift r122 st588
                              have r137 := lift r137 st588
                              have o365 := o365.step0 st588
                              have r384 := lift r384 st588
                              have r539 := r539.step0 st588
                              refine (rv_nel r539.b r591.b (by decide)) _ ?_
                              refine ⟨_, rfl, ?_⟩
                              refine ite_b (b := (!decide (y532 = y584))) (fun b596 => ?_) (fun b596 => ?_)
                              · have k := k.brT b596
                                refine ret_u ?_
                                refine Pv.go pv_c ?_
                                exact (k.done g589) _ rfl
                              · rw [brF_eq b596] at k
                                refine not_s ?_
                                refine tB_u ?_
                                refine call_u ?_
                                refine PvA.go (pa_c (pv_v rfl) (pa_c (pv_neg pv_c) pa_n)) ?_
                                refine ⟨c586, _, y115, _, (-(1 : Int)), rfl, g589.wf, r122, rfl, ?_⟩
                                refine Kont.call k g589 (fun _ z => by cases z) (fun y597 e598 k c599 H600 st601 g602 v603 r604 => ?_) (fun _ _ _ _ _ _ z => z)
                                have r604 : v603 = (V.bl y597) := r604
                                subst r604
                                have r16 := lift r16 st601
                                have h35 := lift h35 st601
                                have h47 := lift h47 st601
                                have h67 := lift h67 st601
                                have h106 := lift h106 st601
                                have r122 := lift r122 st601
                                have r137 := lift r137 st601
                                have o365 := o365.step0 st601
                                have r384 := lift r384 st601
                                refine ⟨_, rfl, ?_⟩
                                refine ite_b (b := y597) (fun b605 => ?_) (fun b605 => ?_)
                                · have k := k.brT b605
                                  refine next_u ?_
                                  refine nx_go ?_
                                  refine ret_u ?_
                                  refine call_u ?_
                                  refine PvA.go (pa_c (pv_v rfl) (pa_c (len_B (tyL_b r16) (pv_v rfl)) pa_n)) ?_
                                  refine ⟨c599, _, y115, _, (y9.length : Int), rfl, g602.wf, r122, rfl, ?_⟩
                                  refine Kont.call k g602 (fun _ z => by cases z) (fun y606 e607 k c608 H609 st610 g611 v612 r613 => ?_) (fun _ _ _ _ _ _ z => z)
                                  have r613 : v612 = (V.bl y606) := r613
                                  subst r613
                                  have r16 := lift r16 st610
                                  have h35 := lift h35 st610
                                  have h47 := lift h47 st610
                                  have h67 := lift h67 st610
                                  have h106 := lift h106 st610
                                  have r122 := lift r122 st610
                                  have r137 := lift r137 st610
                                  have o365 := o365.step0 st610
                                  have r384 := lift r384 st610
                                  exact (k.done g611) _ rfl
                                · rw [brF_eq b605] at k
                                  refine ret_u ?_
                                  refine Pv.go pv_c ?_
                                  exact (k.done g602) _ rfl
theorem all_ok {P : Program} {w : World} {K : PySem.W.Frag} {mg : Str → Option Value} {base : Heap} {a : Ad} (T : Txt K mg a) : FnOk P w K mg base CX0 6 a.law a.law_fd ["_law_script"] (sp_law K) := by
  have G_check_row := ok_check_row (P := P) (w := w) (base := base) T
  have G_normal := ok_normal (P := P) (w := w) (base := base) T G_check_row
  have G_size := ok_size (P := P) (w := w) (base := base) T
  have G_greatest_divisor := ok_greatest_divisor (P := P) (w := w) (base := base) T
  have G_is_integer := ok_is_integer (P := P) (w := w) (base := base) T
  have G_ratio := ok_ratio (P := P) (w := w) (base := base) T G_greatest_divisor G_is_integer
  have G_add := ok_add (P := P) (w := w) (base := base) T G_ratio
  have G_sub := ok_sub (P := P) (w := w) (base := base) T G_ratio
  have G_times := ok_times (P := P) (w := w) (base := base) T G_ratio
  have G_over := ok_over (P := P) (w := w) (base := base) T G_ratio
  have G_less := ok_less (P := P) (w := w) (base := base) T
  have G_merged := ok_merged (P := P) (w := w) (base := base) T
  have G_fewest := ok_fewest (P := P) (w := w) (base := base) T G_merged
  have G_check_stretches := ok_check_stretches (P := P) (w := w) (base := base) T G_normal G_size
  have G_check_stones := ok_check_stones (P := P) (w := w) (base := base) T G_less
  have G_between := ok_between (P := P) (w := w) (base := base) T G_add G_over G_sub G_times
  have G_Route_init := ok_Route_init (P := P) (w := w) (base := base) T G_check_stones G_check_stretches G_fewest G_size
  have G_Route_size := ok_Route_size (P := P) (w := w) (base := base) T
  have G_Route_cell := ok_Route_cell (P := P) (w := w) (base := base) T
  have G_Route_index := ok_Route_index (P := P) (w := w) (base := base) T
  have G_Route_ground := ok_Route_ground (P := P) (w := w) (base := base) T G_normal
  have G_Route_measure := ok_Route_measure (P := P) (w := w) (base := base) T G_between G_ratio
  have G_law_cell := ok_law_cell (P := P) (w := w) (base := base) T
  have G_law_divisor := ok_law_divisor (P := P) (w := w) (base := base) T
  have G_law_order := ok_law_order (P := P) (w := w) (base := base) T G_law_cell
  have G_law_runs := ok_law_runs (P := P) (w := w) (base := base) T
  have G_law_stretches := ok_law_stretches (P := P) (w := w) (base := base) T G_law_runs
  have G_law_single := ok_law_single (P := P) (w := w) (base := base) T
  have G_law_low := ok_law_low (P := P) (w := w) (base := base) T G_law_divisor
  have G_law_stones := ok_law_stones (P := P) (w := w) (base := base) T G_law_low
  have G_law_measure := ok_law_measure (P := P) (w := w) (base := base) T G_law_low
  have G_law_off := ok_law_off (P := P) (w := w) (base := base) T G_Route_cell
  have G_law := ok_law (P := P) (w := w) (base := base) T G_Route_init G_Route_cell G_Route_ground G_Route_index G_Route_measure G_Route_size G_law_cell G_law_measure G_law_off G_law_order G_law_single G_law_stones G_law_stretches G_normal
  exact G_law
theorem all_mk {P : Program} {w : World} {K : PySem.W.Frag} {h : Heap} {mg : Str → Option Value} {fa : Addr} (X : K.In h) (G : h.Ns mainGlobals mg) (hfa : mg "law" = some (.ref fa))
    {KRoute : Addr}
    {f0 : Addr} {od0 an0 : Option Addr} {sl0 : Array (Option Value)} {oc0 kV0 dc0 pm0 cd0 ct0 : Value}
    {f1 : Addr} {od1 an1 : Option Addr} {sl1 : Array (Option Value)} {oc1 kV1 dc1 pm1 cd1 ct1 : Value}
    {f2 : Addr} {od2 an2 : Option Addr} {sl2 : Array (Option Value)} {oc2 kV2 dc2 pm2 cd2 ct2 : Value}
    {f3 : Addr} {od3 an3 : Option Addr} {sl3 : Array (Option Value)} {oc3 kV3 dc3 pm3 cd3 ct3 : Value}
    {f4 : Addr} {od4 an4 : Option Addr} {sl4 : Array (Option Value)} {oc4 kV4 dc4 pm4 cd4 ct4 : Value}
    {f5 : Addr} {od5 an5 : Option Addr} {sl5 : Array (Option Value)} {oc5 kV5 dc5 pm5 cd5 ct5 : Value}
    {D5 : Addr} {Dc5 : Value} {Dd5 : Option Addr} {Ds5 : Array (Option Value)} {Dt5 : Tok} {Dn5 : Nat}
    {f6 : Addr} {od6 an6 : Option Addr} {sl6 : Array (Option Value)} {oc6 kV6 dc6 pm6 cd6 ct6 : Value}
    {f7 : Addr} {od7 an7 : Option Addr} {sl7 : Array (Option Value)} {oc7 kV7 dc7 pm7 cd7 ct7 : Value}
    {f8 : Addr} {od8 an8 : Option Addr} {sl8 : Array (Option Value)} {oc8 kV8 dc8 pm8 cd8 ct8 : Value}
    {f9 : Addr} {od9 an9 : Option Addr} {sl9 : Array (Option Value)} {oc9 kV9 dc9 pm9 cd9 ct9 : Value}
    {f10 : Addr} {od10 an10 : Option Addr} {sl10 : Array (Option Value)} {oc10 kV10 dc10 pm10 cd10 ct10 : Value}
    {f11 : Addr} {od11 an11 : Option Addr} {sl11 : Array (Option Value)} {oc11 kV11 dc11 pm11 cd11 ct11 : Value}
    {f12 : Addr} {od12 an12 : Option Addr} {sl12 : Array (Option Value)} {oc12 kV12 dc12 pm12 cd12 ct12 : Value}
    {f13 : Addr} {od13 an13 : Option Addr} {sl13 : Array (Option Value)} {oc13 kV13 dc13 pm13 cd13 ct13 : Value}
    {f14 : Addr} {od14 an14 : Option Addr} {sl14 : Array (Option Value)} {oc14 kV14 dc14 pm14 cd14 ct14 : Value}
    {f15 : Addr} {od15 an15 : Option Addr} {sl15 : Array (Option Value)} {oc15 kV15 dc15 pm15 cd15 ct15 : Value}
    {f16 : Addr} {od16 an16 : Option Addr} {sl16 : Array (Option Value)} {oc16 kV16 dc16 pm16 cd16 ct16 : Value}
    {f17 : Addr} {od17 an17 : Option Addr} {sl17 : Array (Option Value)} {oc17 kV17 dc17 pm17 cd17 ct17 : Value}
    {f18 : Addr} {od18 an18 : Option Addr} {sl18 : Array (Option Value)} {oc18 kV18 dc18 pm18 cd18 ct18 : Value}
    {f19 : Addr} {od19 an19 : Option Addr} {sl19 : Array (Option Value)} {oc19 kV19 dc19 pm19 cd19 ct19 : Value}
    {f20 : Addr} {od20 an20 : Option Addr} {sl20 : Array (Option Value)} {oc20 kV20 dc20 pm20 cd20 ct20 : Value}
    {f21 : Addr} {od21 an21 : Option Addr} {sl21 : Array (Option Value)} {oc21 kV21 dc21 pm21 cd21 ct21 : Value}
    {f22 : Addr} {od22 an22 : Option Addr} {sl22 : Array (Option Value)} {oc22 kV22 dc22 pm22 cd22 ct22 : Value}
    {f23 : Addr} {od23 an23 : Option Addr} {sl23 : Array (Option Value)} {oc23 kV23 dc23 pm23 cd23 ct23 : Value}
    {f24 : Addr} {od24 an24 : Option Addr} {sl24 : Array (Option Value)} {oc24 kV24 dc24 pm24 cd24 ct24 : Value}
    {f25 : Addr} {od25 an25 : Option Addr} {sl25 : Array (Option Value)} {oc25 kV25 dc25 pm25 cd25 ct25 : Value}
    {f26 : Addr} {od26 an26 : Option Addr} {sl26 : Array (Option Value)} {oc26 kV26 dc26 pm26 cd26 ct26 : Value}
    {f27 : Addr} {od27 an27 : Option Addr} {sl27 : Array (Option Value)} {oc27 kV27 dc27 pm27 cd27 ct27 : Value}
    {f28 : Addr} {od28 an28 : Option Addr} {sl28 : Array (Option Value)} {oc28 kV28 dc28 pm28 cd28 ct28 : Value}
    {f29 : Addr} {od29 an29 : Option Addr} {sl29 : Array (Option Value)} {oc29 kV29 dc29 pm29 cd29 ct29 : Value}
    {f30 : Addr} {od30 an30 : Option Addr} {sl30 : Array (Option Value)} {oc30 kV30 dc30 pm30 cd30 ct30 : Value}
    {f31 : Addr} {od31 an31 : Option Addr} {sl31 : Array (Option Value)} {oc31 kV31 dc31 pm31 cd31 ct31 : Value}
    {f32 : Addr} {od32 an32 : Option Addr} {sl32 : Array (Option Value)} {oc32 kV32 dc32 pm32 cd32 ct32 : Value}
    {Cratio Cground Croute Coff Ckerb : Addr}
    (aK_Route : PySem.W.nsIn K mainGlobals "Route" = some (some (.ref KRoute)))
    (pgK_Route : PySem.W.plainGet K KRoute Str.empty = true)
    (hdK_Route : PySem.W.hasDictIn K KRoute = true)
    (poK_Route : PySem.W.plainOver K KRoute = true)
    (saK_Route : PySem.W.findIn K (.ref KRoute) "__setattr__" = some (some (.builtin "object.__setattr__")))
    (mkK_Route : PySem.W.makesIn K KRoute = true)
    (kcK_Route : PySem.W.keepIn K (.ref KRoute) = true)
    (a0 : PySem.W.nsIn K mainGlobals "check_row" = some (some (.ref f0)))
    (l0 : K.lookup f0 = some ⟨oc0, od0, .func (PySem.W.fnOf "check_row" "check_row" (defArgs s_check_row) (defBody s_check_row) (defScope s_check_row) .none kV0 dc0 pm0 an0 cd0 ct0), sl0⟩)
    (c0 : PySem.W.codeIn K cd0 "check_row" = true)
    (k0 : PySem.W.keepIn K (.ref f0) = true)
    (a1 : PySem.W.nsIn K mainGlobals "normal" = some (some (.ref f1)))
    (l1 : K.lookup f1 = some ⟨oc1, od1, .func (PySem.W.fnOf "normal" "normal" (defArgs s_normal) (defBody s_normal) (defScope s_normal) .none kV1 dc1 pm1 an1 cd1 ct1), sl1⟩)
    (c1 : PySem.W.codeIn K cd1 "normal" = true)
    (k1 : PySem.W.keepIn K (.ref f1) = true)
    (a2 : PySem.W.nsIn K mainGlobals "size" = some (some (.ref f2)))
    (l2 : K.lookup f2 = some ⟨oc2, od2, .func (PySem.W.fnOf "size" "size" (defArgs s_size) (defBody s_size) (defScope s_size) .none kV2 dc2 pm2 an2 cd2 ct2), sl2⟩)
    (c2 : PySem.W.codeIn K cd2 "size" = true)
    (k2 : PySem.W.keepIn K (.ref f2) = true)
    (a3 : PySem.W.nsIn K mainGlobals "greatest_divisor" = some (some (.ref f3)))
    (l3 : K.lookup f3 = some ⟨oc3, od3, .func (PySem.W.fnOf "greatest_divisor" "greatest_divisor" (defArgs s_greatest_divisor) (defBody s_greatest_divisor) (defScope s_greatest_divisor) .none kV3 dc3 pm3 an3 cd3 ct3), sl3⟩)
    (c3 : PySem.W.codeIn K cd3 "greatest_divisor" = true)
    (k3 : PySem.W.keepIn K (.ref f3) = true)
    (a4 : PySem.W.nsIn K mainGlobals "is_integer" = some (some (.ref f4)))
    (l4 : K.lookup f4 = some ⟨oc4, od4, .func (PySem.W.fnOf "is_integer" "is_integer" (defArgs s_is_integer) (defBody s_is_integer) (defScope s_is_integer) .none kV4 dc4 pm4 an4 cd4 ct4), sl4⟩)
    (c4 : PySem.W.codeIn K cd4 "is_integer" = true)
    (k4 : PySem.W.keepIn K (.ref f4) = true)
    (a5 : PySem.W.nsIn K mainGlobals "ratio" = some (some (.ref f5)))
    (l5 : K.lookup f5 = some ⟨oc5, od5, .func (PySem.W.fnOf "ratio" "ratio" (defArgs s_ratio) (defBody s_ratio) (defScope s_ratio) (.ref D5) kV5 dc5 pm5 an5 cd5 ct5), sl5⟩)
    (D_5 : K.lookup D5 = some ⟨Dc5, Dd5, .seq #[.int 1 Dt5] Dn5, Ds5⟩)
    (c5 : PySem.W.codeIn K cd5 "ratio" = true)
    (k5 : PySem.W.keepIn K (.ref f5) = true)
    (a6 : PySem.W.nsIn K mainGlobals "add" = some (some (.ref f6)))
    (l6 : K.lookup f6 = some ⟨oc6, od6, .func (PySem.W.fnOf "add" "add" (defArgs s_add) (defBody s_add) (defScope s_add) .none kV6 dc6 pm6 an6 cd6 ct6), sl6⟩)
    (c6 : PySem.W.codeIn K cd6 "add" = true)
    (k6 : PySem.W.keepIn K (.ref f6) = true)
    (a7 : PySem.W.nsIn K mainGlobals "sub" = some (some (.ref f7)))
    (l7 : K.lookup f7 = some ⟨oc7, od7, .func (PySem.W.fnOf "sub" "sub" (defArgs s_sub) (defBody s_sub) (defScope s_sub) .none kV7 dc7 pm7 an7 cd7 ct7), sl7⟩)
    (c7 : PySem.W.codeIn K cd7 "sub" = true)
    (k7 : PySem.W.keepIn K (.ref f7) = true)
    (a8 : PySem.W.nsIn K mainGlobals "times" = some (some (.ref f8)))
    (l8 : K.lookup f8 = some ⟨oc8, od8, .func (PySem.W.fnOf "times" "times" (defArgs s_times) (defBody s_times) (defScope s_times) .none kV8 dc8 pm8 an8 cd8 ct8), sl8⟩)
    (c8 : PySem.W.codeIn K cd8 "times" = true)
    (k8 : PySem.W.keepIn K (.ref f8) = true)
    (a9 : PySem.W.nsIn K mainGlobals "over" = some (some (.ref f9)))
    (l9 : K.lookup f9 = some ⟨oc9, od9, .func (PySem.W.fnOf "over" "over" (defArgs s_over) (defBody s_over) (defScope s_over) .none kV9 dc9 pm9 an9 cd9 ct9), sl9⟩)
    (c9 : PySem.W.codeIn K cd9 "over" = true)
    (k9 : PySem.W.keepIn K (.ref f9) = true)
    (a10 : PySem.W.nsIn K mainGlobals "less" = some (some (.ref f10)))
    (l10 : K.lookup f10 = some ⟨oc10, od10, .func (PySem.W.fnOf "less" "less" (defArgs s_less) (defBody s_less) (defScope s_less) .none kV10 dc10 pm10 an10 cd10 ct10), sl10⟩)
    (c10 : PySem.W.codeIn K cd10 "less" = true)
    (k10 : PySem.W.keepIn K (.ref f10) = true)
    (a11 : PySem.W.nsIn K mainGlobals "merged" = some (some (.ref f11)))
    (l11 : K.lookup f11 = some ⟨oc11, od11, .func (PySem.W.fnOf "merged" "merged" (defArgs s_merged) (defBody s_merged) (defScope s_merged) .none kV11 dc11 pm11 an11 cd11 ct11), sl11⟩)
    (c11 : PySem.W.codeIn K cd11 "merged" = true)
    (k11 : PySem.W.keepIn K (.ref f11) = true)
    (a12 : PySem.W.nsIn K mainGlobals "fewest" = some (some (.ref f12)))
    (l12 : K.lookup f12 = some ⟨oc12, od12, .func (PySem.W.fnOf "fewest" "fewest" (defArgs s_fewest) (defBody s_fewest) (defScope s_fewest) .none kV12 dc12 pm12 an12 cd12 ct12), sl12⟩)
    (c12 : PySem.W.codeIn K cd12 "fewest" = true)
    (k12 : PySem.W.keepIn K (.ref f12) = true)
    (a13 : PySem.W.nsIn K mainGlobals "check_stretches" = some (some (.ref f13)))
    (l13 : K.lookup f13 = some ⟨oc13, od13, .func (PySem.W.fnOf "check_stretches" "check_stretches" (defArgs s_check_stretches) (defBody s_check_stretches) (defScope s_check_stretches) .none kV13 dc13 pm13 an13 cd13 ct13), sl13⟩)
    (c13 : PySem.W.codeIn K cd13 "check_stretches" = true)
    (k13 : PySem.W.keepIn K (.ref f13) = true)
    (a14 : PySem.W.nsIn K mainGlobals "check_stones" = some (some (.ref f14)))
    (l14 : K.lookup f14 = some ⟨oc14, od14, .func (PySem.W.fnOf "check_stones" "check_stones" (defArgs s_check_stones) (defBody s_check_stones) (defScope s_check_stones) .none kV14 dc14 pm14 an14 cd14 ct14), sl14⟩)
    (c14 : PySem.W.codeIn K cd14 "check_stones" = true)
    (k14 : PySem.W.keepIn K (.ref f14) = true)
    (a15 : PySem.W.nsIn K mainGlobals "between" = some (some (.ref f15)))
    (l15 : K.lookup f15 = some ⟨oc15, od15, .func (PySem.W.fnOf "between" "between" (defArgs s_between) (defBody s_between) (defScope s_between) .none kV15 dc15 pm15 an15 cd15 ct15), sl15⟩)
    (c15 : PySem.W.codeIn K cd15 "between" = true)
    (k15 : PySem.W.keepIn K (.ref f15) = true)
    (a16 : PySem.W.findIn K (.ref KRoute) "__init__" = some (some (.ref f16)))
    (i16 : PySem.W.isFn K (.ref f16) = true)
    (l16 : K.lookup f16 = some ⟨oc16, od16, .func (PySem.W.fnOf "__init__" "Route.__init__" (defArgs s_Route_init) (defBody s_Route_init) (defScope s_Route_init) .none kV16 dc16 pm16 an16 cd16 ct16), sl16⟩)
    (c16 : PySem.W.codeIn K cd16 "Route.__init__" = true)
    (k16 : PySem.W.keepIn K (.ref f16) = true)
    (a17 : PySem.W.findIn K (.ref KRoute) "size" = some (some (.ref f17)))
    (i17 : PySem.W.isFn K (.ref f17) = true)
    (l17 : K.lookup f17 = some ⟨oc17, od17, .func (PySem.W.fnOf "size" "Route.size" (defArgs s_Route_size) (defBody s_Route_size) (defScope s_Route_size) .none kV17 dc17 pm17 an17 cd17 ct17), sl17⟩)
    (c17 : PySem.W.codeIn K cd17 "Route.size" = true)
    (k17 : PySem.W.keepIn K (.ref f17) = true)
    (a18 : PySem.W.findIn K (.ref KRoute) "cell" = some (some (.ref f18)))
    (i18 : PySem.W.isFn K (.ref f18) = true)
    (l18 : K.lookup f18 = some ⟨oc18, od18, .func (PySem.W.fnOf "cell" "Route.cell" (defArgs s_Route_cell) (defBody s_Route_cell) (defScope s_Route_cell) .none kV18 dc18 pm18 an18 cd18 ct18), sl18⟩)
    (c18 : PySem.W.codeIn K cd18 "Route.cell" = true)
    (k18 : PySem.W.keepIn K (.ref f18) = true)
    (a19 : PySem.W.findIn K (.ref KRoute) "index" = some (some (.ref f19)))
    (i19 : PySem.W.isFn K (.ref f19) = true)
    (l19 : K.lookup f19 = some ⟨oc19, od19, .func (PySem.W.fnOf "index" "Route.index" (defArgs s_Route_index) (defBody s_Route_index) (defScope s_Route_index) .none kV19 dc19 pm19 an19 cd19 ct19), sl19⟩)
    (c19 : PySem.W.codeIn K cd19 "Route.index" = true)
    (k19 : PySem.W.keepIn K (.ref f19) = true)
    (a20 : PySem.W.findIn K (.ref KRoute) "ground" = some (some (.ref f20)))
    (i20 : PySem.W.isFn K (.ref f20) = true)
    (l20 : K.lookup f20 = some ⟨oc20, od20, .func (PySem.W.fnOf "ground" "Route.ground" (defArgs s_Route_ground) (defBody s_Route_ground) (defScope s_Route_ground) .none kV20 dc20 pm20 an20 cd20 ct20), sl20⟩)
    (c20 : PySem.W.codeIn K cd20 "Route.ground" = true)
    (k20 : PySem.W.keepIn K (.ref f20) = true)
    (a21 : PySem.W.findIn K (.ref KRoute) "measure" = some (some (.ref f21)))
    (i21 : PySem.W.isFn K (.ref f21) = true)
    (l21 : K.lookup f21 = some ⟨oc21, od21, .func (PySem.W.fnOf "measure" "Route.measure" (defArgs s_Route_measure) (defBody s_Route_measure) (defScope s_Route_measure) .none kV21 dc21 pm21 an21 cd21 ct21), sl21⟩)
    (c21 : PySem.W.codeIn K cd21 "Route.measure" = true)
    (k21 : PySem.W.keepIn K (.ref f21) = true)
    (a22 : PySem.W.nsIn K mainGlobals "_law_cell" = some (some (.ref f22)))
    (l22 : K.lookup f22 = some ⟨oc22, od22, .func (PySem.W.fnOf "_law_cell" "_law_cell" (defArgs s_law_cell) (defBody s_law_cell) (defScope s_law_cell) .none kV22 dc22 pm22 an22 cd22 ct22), sl22⟩)
    (c22 : PySem.W.codeIn K cd22 "_law_cell" = true)
    (k22 : PySem.W.keepIn K (.ref f22) = true)
    (a23 : PySem.W.nsIn K mainGlobals "_law_divisor" = some (some (.ref f23)))
    (l23 : K.lookup f23 = some ⟨oc23, od23, .func (PySem.W.fnOf "_law_divisor" "_law_divisor" (defArgs s_law_divisor) (defBody s_law_divisor) (defScope s_law_divisor) .none kV23 dc23 pm23 an23 cd23 ct23), sl23⟩)
    (c23 : PySem.W.codeIn K cd23 "_law_divisor" = true)
    (k23 : PySem.W.keepIn K (.ref f23) = true)
    (a24 : PySem.W.nsIn K mainGlobals "_law_order" = some (some (.ref f24)))
    (l24 : K.lookup f24 = some ⟨oc24, od24, .func (PySem.W.fnOf "_law_order" "_law_order" (defArgs s_law_order) (defBody s_law_order) (defScope s_law_order) .none kV24 dc24 pm24 an24 cd24 ct24), sl24⟩)
    (c24 : PySem.W.codeIn K cd24 "_law_order" = true)
    (k24 : PySem.W.keepIn K (.ref f24) = true)
    (a25 : PySem.W.nsIn K mainGlobals "_law_runs" = some (some (.ref f25)))
    (l25 : K.lookup f25 = some ⟨oc25, od25, .func (PySem.W.fnOf "_law_runs" "_law_runs" (defArgs s_law_runs) (defBody s_law_runs) (defScope s_law_runs) .none kV25 dc25 pm25 an25 cd25 ct25), sl25⟩)
    (c25 : PySem.W.codeIn K cd25 "_law_runs" = true)
    (k25 : PySem.W.keepIn K (.ref f25) = true)
    (a26 : PySem.W.nsIn K mainGlobals "_law_stretches" = some (some (.ref f26)))
    (l26 : K.lookup f26 = some ⟨oc26, od26, .func (PySem.W.fnOf "_law_stretches" "_law_stretches" (defArgs s_law_stretches) (defBody s_law_stretches) (defScope s_law_stretches) .none kV26 dc26 pm26 an26 cd26 ct26), sl26⟩)
    (c26 : PySem.W.codeIn K cd26 "_law_stretches" = true)
    (k26 : PySem.W.keepIn K (.ref f26) = true)
    (a27 : PySem.W.nsIn K mainGlobals "_law_single" = some (some (.ref f27)))
    (l27 : K.lookup f27 = some ⟨oc27, od27, .func (PySem.W.fnOf "_law_single" "_law_single" (defArgs s_law_single) (defBody s_law_single) (defScope s_law_single) .none kV27 dc27 pm27 an27 cd27 ct27), sl27⟩)
    (c27 : PySem.W.codeIn K cd27 "_law_single" = true)
    (k27 : PySem.W.keepIn K (.ref f27) = true)
    (a28 : PySem.W.nsIn K mainGlobals "_law_low" = some (some (.ref f28)))
    (l28 : K.lookup f28 = some ⟨oc28, od28, .func (PySem.W.fnOf "_law_low" "_law_low" (defArgs s_law_low) (defBody s_law_low) (defScope s_law_low) .none kV28 dc28 pm28 an28 cd28 ct28), sl28⟩)
    (c28 : PySem.W.codeIn K cd28 "_law_low" = true)
    (k28 : PySem.W.keepIn K (.ref f28) = true)
    (a29 : PySem.W.nsIn K mainGlobals "_law_stones" = some (some (.ref f29)))
    (l29 : K.lookup f29 = some ⟨oc29, od29, .func (PySem.W.fnOf "_law_stones" "_law_stones" (defArgs s_law_stones) (defBody s_law_stones) (defScope s_law_stones) .none kV29 dc29 pm29 an29 cd29 ct29), sl29⟩)
    (c29 : PySem.W.codeIn K cd29 "_law_stones" = true)
    (k29 : PySem.W.keepIn K (.ref f29) = true)
    (a30 : PySem.W.nsIn K mainGlobals "_law_measure" = some (some (.ref f30)))
    (l30 : K.lookup f30 = some ⟨oc30, od30, .func (PySem.W.fnOf "_law_measure" "_law_measure" (defArgs s_law_measure) (defBody s_law_measure) (defScope s_law_measure) .none kV30 dc30 pm30 an30 cd30 ct30), sl30⟩)
    (c30 : PySem.W.codeIn K cd30 "_law_measure" = true)
    (k30 : PySem.W.keepIn K (.ref f30) = true)
    (a31 : PySem.W.nsIn K mainGlobals "_law_off" = some (some (.ref f31)))
    (l31 : K.lookup f31 = some ⟨oc31, od31, .func (PySem.W.fnOf "_law_off" "_law_off" (defArgs s_law_off) (defBody s_law_off) (defScope s_law_off) .none kV31 dc31 pm31 an31 cd31 ct31), sl31⟩)
    (c31 : PySem.W.codeIn K cd31 "_law_off" = true)
    (k31 : PySem.W.keepIn K (.ref f31) = true)
    (a32 : PySem.W.nsIn K mainGlobals "law" = some (some (.ref f32)))
    (l32 : K.lookup f32 = some ⟨oc32, od32, .func (PySem.W.fnOf "law" "law" (defArgs s_law) (defBody s_law) (defScope s_law) .none kV32 dc32 pm32 an32 cd32 ct32), sl32⟩)
    (c32 : PySem.W.codeIn K cd32 "law" = true)
    (k32 : PySem.W.keepIn K (.ref f32) = true)
    (na_Route__size : PySem.W.findIn K (.ref KRoute) "_size" = some none)
    (na_Route_stones : PySem.W.findIn K (.ref KRoute) "stones" = some none)
    (na_Route_stretches : PySem.W.findIn K (.ref KRoute) "stretches" = some none)
    (al_size_ground : PySem.W.nsIn K mainGlobals "size_ground" = some (some (.ref f2)))
    (aC_ratio : PySem.W.nsIn K mainGlobals "InvalidRatio" = some (some (.ref Cratio)))
    (ex_ratio : PySem.W.excIn K Cratio [.type "ValueError", .type "Exception", .type "BaseException", .type "object"] "ValueError.__new__" = true)
    (kp_ratio : PySem.W.keepIn K (.ref Cratio) = true)
    (hg_ratio : PySem.W.findIn K (.ref Cratio) "__getattribute__" = some (some (.builtin "BaseException.__getattribute__")))
    (hk_ratio : PySem.W.findIn K (.ref Cratio) "__getattr__" = some none)
    (hac_ratio : PySem.W.findIn K (.ref Cratio) "__class__" = some (some (.builtin "object.__class__")))
    (hm_ratio : PySem.W.mroIn K Cratio (.type "object") = some true)
    (sb_ratio : PySem.W.subIn K (.ref Cratio) (.type "BaseException") = some true)
    (ty_ratio : PySem.W.typeIn K (.ref Cratio) = some (.type "type"))
    (hd_ratio : PySem.W.hasDictIn K Cratio = true)
    (ic_ratio : PySem.W.isClsIn K Cratio = true)
    (sv_ratio : PySem.W.subIn K (.ref Cratio) (.type "ValueError") = some true)
    (aC_ground : PySem.W.nsIn K mainGlobals "InvalidGround" = some (some (.ref Cground)))
    (ex_ground : PySem.W.excIn K Cground [.type "ValueError", .type "Exception", .type "BaseException", .type "object"] "ValueError.__new__" = true)
    (kp_ground : PySem.W.keepIn K (.ref Cground) = true)
    (hg_ground : PySem.W.findIn K (.ref Cground) "__getattribute__" = some (some (.builtin "BaseException.__getattribute__")))
    (hk_ground : PySem.W.findIn K (.ref Cground) "__getattr__" = some none)
    (hac_ground : PySem.W.findIn K (.ref Cground) "__class__" = some (some (.builtin "object.__class__")))
    (hm_ground : PySem.W.mroIn K Cground (.type "object") = some true)
    (sb_ground : PySem.W.subIn K (.ref Cground) (.type "BaseException") = some true)
    (ty_ground : PySem.W.typeIn K (.ref Cground) = some (.type "type"))
    (hd_ground : PySem.W.hasDictIn K Cground = true)
    (ic_ground : PySem.W.isClsIn K Cground = true)
    (sv_ground : PySem.W.subIn K (.ref Cground) (.type "ValueError") = some true)
    (aC_route : PySem.W.nsIn K mainGlobals "InvalidRoute" = some (some (.ref Croute)))
    (ex_route : PySem.W.excIn K Croute [.type "ValueError", .type "Exception", .type "BaseException", .type "object"] "ValueError.__new__" = true)
    (kp_route : PySem.W.keepIn K (.ref Croute) = true)
    (hg_route : PySem.W.findIn K (.ref Croute) "__getattribute__" = some (some (.builtin "BaseException.__getattribute__")))
    (hk_route : PySem.W.findIn K (.ref Croute) "__getattr__" = some none)
    (hac_route : PySem.W.findIn K (.ref Croute) "__class__" = some (some (.builtin "object.__class__")))
    (hm_route : PySem.W.mroIn K Croute (.type "object") = some true)
    (sb_route : PySem.W.subIn K (.ref Croute) (.type "BaseException") = some true)
    (ty_route : PySem.W.typeIn K (.ref Croute) = some (.type "type"))
    (hd_route : PySem.W.hasDictIn K Croute = true)
    (ic_route : PySem.W.isClsIn K Croute = true)
    (sv_route : PySem.W.subIn K (.ref Croute) (.type "ValueError") = some true)
    (aC_off : PySem.W.nsIn K mainGlobals "OffRoute" = some (some (.ref Coff)))
    (ex_off : PySem.W.excIn K Coff [.type "ValueError", .type "Exception", .type "BaseException", .type "object"] "ValueError.__new__" = true)
    (kp_off : PySem.W.keepIn K (.ref Coff) = true)
    (hg_off : PySem.W.findIn K (.ref Coff) "__getattribute__" = some (some (.builtin "BaseException.__getattribute__")))
    (hk_off : PySem.W.findIn K (.ref Coff) "__getattr__" = some none)
    (hac_off : PySem.W.findIn K (.ref Coff) "__class__" = some (some (.builtin "object.__class__")))
    (hm_off : PySem.W.mroIn K Coff (.type "object") = some true)
    (sb_off : PySem.W.subIn K (.ref Coff) (.type "BaseException") = some true)
    (ty_off : PySem.W.typeIn K (.ref Coff) = some (.type "type"))
    (hd_off : PySem.W.hasDictIn K Coff = true)
    (ic_off : PySem.W.isClsIn K Coff = true)
    (sv_off : PySem.W.subIn K (.ref Coff) (.type "ValueError") = some true)
    (aC_kerb : PySem.W.nsIn K mainGlobals "KerbError" = some (some (.ref Ckerb)))
    (sb_kerb : PySem.W.subIn K (.ref Ckerb) (.type "BaseException") = some true)
    (ty_kerb : PySem.W.typeIn K (.ref Ckerb) = some (.type "type"))
    (hd_kerb : PySem.W.hasDictIn K Ckerb = true)
    (ic_kerb : PySem.W.isClsIn K Ckerb = true)
    (sv_kerb : PySem.W.subIn K (.ref Ckerb) (.type "ValueError") = some true)
    (hn : PySem.W.specialIn K (.builtin "object.__class__") "__get__" = some (some (.builtin "getset_descriptor.__get__")))
    (htk : PySem.W.takesIn K (.builtin "object.__class__") = some true)
    (su_ground_ground : PySem.W.subIn K (.ref Cground) (.ref Cground) = some true)
    (su_off_off : PySem.W.subIn K (.ref Coff) (.ref Coff) = some true)
    (su_off_kerb : PySem.W.subIn K (.ref Coff) (.ref Ckerb) = some true)
    (su_kerb_kerb : PySem.W.subIn K (.ref Ckerb) (.ref Ckerb) = some true)
    (z_abs : PySem.W.nsIn K mainGlobals "abs" = some none)
    (z_bool : PySem.W.nsIn K mainGlobals "bool" = some none)
    (z_int : PySem.W.nsIn K mainGlobals "int" = some none)
    (z_isinstance : PySem.W.nsIn K mainGlobals "isinstance" = some none)
    (z_len : PySem.W.nsIn K mainGlobals "len" = some none)
    (z_list : PySem.W.nsIn K mainGlobals "list" = some none)
    (z_max : PySem.W.nsIn K mainGlobals "max" = some none)
    (z_min : PySem.W.nsIn K mainGlobals "min" = some none)
    (z_range : PySem.W.nsIn K mainGlobals "range" = some none)
    (z_reversed : PySem.W.nsIn K mainGlobals "reversed" = some none)
    (z_sorted : PySem.W.nsIn K mainGlobals "sorted" = some none)
    (z_sum : PySem.W.nsIn K mainGlobals "sum" = some none) :
    ∃ fd : FuncData, (∀ (s : Shared) (v : Value), BindsTo s fd ⟨[v], []⟩ [("_law_script", v)]) ∧ ∀ base : Heap, K.In base → base.Ns mainGlobals mg → FnOk P w K mg base CX0 6 fa fd ["_law_script"] (sp_law K) := by
  have e := hfa.symm.trans (PySem.W.mg_of X G a32)
  cases e
  have T : Txt K mg ⟨(fun e => match e with | .ratio => Cratio | .ground => Cground | .route => Croute | .off => Coff | _ => 0), Ckerb, KRoute, f0, (PySem.W.fnOf "check_row" "check_row" (defArgs s_check_row) (defBody s_check_row) (defScope s_check_row) .none kV0 dc0 pm0 an0 cd0 ct0), f1, (PySem.W.fnOf "normal" "normal" (defArgs s_normal) (defBody s_normal) (defScope s_normal) .none kV1 dc1 pm1 an1 cd1 ct1), f2, (PySem.W.fnOf "size" "size" (defArgs s_size) (defBody s_size) (defScope s_size) .none kV2 dc2 pm2 an2 cd2 ct2), f3, (PySem.W.fnOf "greatest_divisor" "greatest_divisor" (defArgs s_greatest_divisor) (defBody s_greatest_divisor) (defScope s_greatest_divisor) .none kV3 dc3 pm3 an3 cd3 ct3), f4, (PySem.W.fnOf "is_integer" "is_integer" (defArgs s_is_integer) (defBody s_is_integer) (defScope s_is_integer) .none kV4 dc4 pm4 an4 cd4 ct4), f5, (PySem.W.fnOf "ratio" "ratio" (defArgs s_ratio) (defBody s_ratio) (defScope s_ratio) (.ref D5) kV5 dc5 pm5 an5 cd5 ct5), f6, (PySem.W.fnOf "add" "add" (defArgs s_add) (defBody s_add) (defScope s_add) .none kV6 dc6 pm6 an6 cd6 ct6), f7, (PySem.W.fnOf "sub" "sub" (defArgs s_sub) (defBody s_sub) (defScope s_sub) .none kV7 dc7 pm7 an7 cd7 ct7), f8, (PySem.W.fnOf "times" "times" (defArgs s_times) (defBody s_times) (defScope s_times) .none kV8 dc8 pm8 an8 cd8 ct8), f9, (PySem.W.fnOf "over" "over" (defArgs s_over) (defBody s_over) (defScope s_over) .none kV9 dc9 pm9 an9 cd9 ct9), f10, (PySem.W.fnOf "less" "less" (defArgs s_less) (defBody s_less) (defScope s_less) .none kV10 dc10 pm10 an10 cd10 ct10), f11, (PySem.W.fnOf "merged" "merged" (defArgs s_merged) (defBody s_merged) (defScope s_merged) .none kV11 dc11 pm11 an11 cd11 ct11), f12, (PySem.W.fnOf "fewest" "fewest" (defArgs s_fewest) (defBody s_fewest) (defScope s_fewest) .none kV12 dc12 pm12 an12 cd12 ct12), f13, (PySem.W.fnOf "check_stretches" "check_stretches" (defArgs s_check_stretches) (defBody s_check_stretches) (defScope s_check_stretches) .none kV13 dc13 pm13 an13 cd13 ct13), f14, (PySem.W.fnOf "check_stones" "check_stones" (defArgs s_check_stones) (defBody s_check_stones) (defScope s_check_stones) .none kV14 dc14 pm14 an14 cd14 ct14), f15, (PySem.W.fnOf "between" "between" (defArgs s_between) (defBody s_between) (defScope s_between) .none kV15 dc15 pm15 an15 cd15 ct15), f16, (PySem.W.fnOf "__init__" "Route.__init__" (defArgs s_Route_init) (defBody s_Route_init) (defScope s_Route_init) .none kV16 dc16 pm16 an16 cd16 ct16), f17, (PySem.W.fnOf "size" "Route.size" (defArgs s_Route_size) (defBody s_Route_size) (defScope s_Route_size) .none kV17 dc17 pm17 an17 cd17 ct17), f18, (PySem.W.fnOf "cell" "Route.cell" (defArgs s_Route_cell) (defBody s_Route_cell) (defScope s_Route_cell) .none kV18 dc18 pm18 an18 cd18 ct18), f19, (PySem.W.fnOf "index" "Route.index" (defArgs s_Route_index) (defBody s_Route_index) (defScope s_Route_index) .none kV19 dc19 pm19 an19 cd19 ct19), f20, (PySem.W.fnOf "ground" "Route.ground" (defArgs s_Route_ground) (defBody s_Route_ground) (defScope s_Route_ground) .none kV20 dc20 pm20 an20 cd20 ct20), f21, (PySem.W.fnOf "measure" "Route.measure" (defArgs s_Route_measure) (defBody s_Route_measure) (defScope s_Route_measure) .none kV21 dc21 pm21 an21 cd21 ct21), f22, (PySem.W.fnOf "_law_cell" "_law_cell" (defArgs s_law_cell) (defBody s_law_cell) (defScope s_law_cell) .none kV22 dc22 pm22 an22 cd22 ct22), f23, (PySem.W.fnOf "_law_divisor" "_law_divisor" (defArgs s_law_divisor) (defBody s_law_divisor) (defScope s_law_divisor) .none kV23 dc23 pm23 an23 cd23 ct23), f24, (PySem.W.fnOf "_law_order" "_law_order" (defArgs s_law_order) (defBody s_law_order) (defScope s_law_order) .none kV24 dc24 pm24 an24 cd24 ct24), f25, (PySem.W.fnOf "_law_runs" "_law_runs" (defArgs s_law_runs) (defBody s_law_runs) (defScope s_law_runs) .none kV25 dc25 pm25 an25 cd25 ct25), f26, (PySem.W.fnOf "_law_stretches" "_law_stretches" (defArgs s_law_stretches) (defBody s_law_stretches) (defScope s_law_stretches) .none kV26 dc26 pm26 an26 cd26 ct26), f27, (PySem.W.fnOf "_law_single" "_law_single" (defArgs s_law_single) (defBody s_law_single) (defScope s_law_single) .none kV27 dc27 pm27 an27 cd27 ct27), f28, (PySem.W.fnOf "_law_low" "_law_low" (defArgs s_law_low) (defBody s_law_low) (defScope s_law_low) .none kV28 dc28 pm28 an28 cd28 ct28), f29, (PySem.W.fnOf "_law_stones" "_law_stones" (defArgs s_law_stones) (defBody s_law_stones) (defScope s_law_stones) .none kV29 dc29 pm29 an29 cd29 ct29), f30, (PySem.W.fnOf "_law_measure" "_law_measure" (defArgs s_law_measure) (defBody s_law_measure) (defScope s_law_measure) .none kV30 dc30 pm30 an30 cd30 ct30), f31, (PySem.W.fnOf "_law_off" "_law_off" (defArgs s_law_off) (defBody s_law_off) (defScope s_law_off) .none kV31 dc31 pm31 an31 cd31 ct31), fa, (PySem.W.fnOf "law" "law" (defArgs s_law) (defBody s_law) (defScope s_law) .none kV32 dc32 pm32 an32 cd32 ct32)⟩ :=
    { check_row := df_mk X G a0 l0 c0 k0 (fun _ _ _ _ _ _ us hl => match us, hl with | [_], _ => rfl),
      normal := df_mk X G a1 l1 c1 k1 (fun _ _ _ _ _ _ us hl => match us, hl with | [_], _ => rfl),
      size := df_mk X G a2 l2 c2 k2 (fun _ _ _ _ _ _ us hl => match us, hl with | [_], _ => rfl),
      greatest_divisor := df_mk X G a3 l3 c3 k3 (fun _ _ _ _ _ _ us hl => match us, hl with | [_, _], _ => rfl),
      is_integer := df_mk X G a4 l4 c4 k4 (fun _ _ _ _ _ _ us hl => match us, hl with | [_], _ => rfl),
      ratio := dfd_mk X G a5 l5 D_5 c5 k5 (fun _ _ _ _ _ _ _ us its hu hi => match us, its, hu, hi with | [_, _], [_], _, _ => ⟨_, rfl, rfl⟩) (fun _ _ _ _ _ _ _ us its hu hi => match us, its, hu, hi with | [_], [_], _, _ => ⟨_, rfl, rfl⟩) (by decide),
      add := df_mk X G a6 l6 c6 k6 (fun _ _ _ _ _ _ us hl => match us, hl with | [_, _], _ => rfl),
      sub := df_mk X G a7 l7 c7 k7 (fun _ _ _ _ _ _ us hl => match us, hl with | [_, _], _ => rfl),
      times := df_mk X G a8 l8 c8 k8 (fun _ _ _ _ _ _ us hl => match us, hl with | [_, _], _ => rfl),
      over := df_mk X G a9 l9 c9 k9 (fun _ _ _ _ _ _ us hl => match us, hl with | [_, _], _ => rfl),
      less := df_mk X G a10 l10 c10 k10 (fun _ _ _ _ _ _ us hl => match us, hl with | [_, _], _ => rfl),
      merged := df_mk X G a11 l11 c11 k11 (fun _ _ _ _ _ _ us hl => match us, hl with | [_, _], _ => rfl),
      fewest := df_mk X G a12 l12 c12 k12 (fun _ _ _ _ _ _ us hl => match us, hl with | [_], _ => rfl),
      check_stretches := df_mk X G a13 l13 c13 k13 (fun _ _ _ _ _ _ us hl => match us, hl with | [_], _ => rfl),
      check_stones := df_mk X G a14 l14 c14 k14 (fun _ _ _ _ _ _ us hl => match us, hl with | [_, _], _ => rfl),
      between := df_mk X G a15 l15 c15 k15 (fun _ _ _ _ _ _ us hl => match us, hl with | [_, _, _, _, _], _ => rfl),
      Route_init := mt_mk a16 i16 l16 c16 k16 (fun _ _ _ _ _ _ us hl => match us, hl with | [_, _, _], _ => rfl),
      Route_size := mt_mk a17 i17 l17 c17 k17 (fun _ _ _ _ _ _ us hl => match us, hl with | [_], _ => rfl),
      Route_cell := mt_mk a18 i18 l18 c18 k18 (fun _ _ _ _ _ _ us hl => match us, hl with | [_, _], _ => rfl),
      Route_index := mt_mk a19 i19 l19 c19 k19 (fun _ _ _ _ _ _ us hl => match us, hl with | [_, _, _], _ => rfl),
      Route_ground := mt_mk a20 i20 l20 c20 k20 (fun _ _ _ _ _ _ us hl => match us, hl with | [_], _ => rfl),
      Route_measure := mt_mk a21 i21 l21 c21 k21 (fun _ _ _ _ _ _ us hl => match us, hl with | [_, _], _ => rfl),
      law_cell := df_mk X G a22 l22 c22 k22 (fun _ _ _ _ _ _ us hl => match us, hl with | [_, _], _ => rfl),
      law_divisor := df_mk X G a23 l23 c23 k23 (fun _ _ _ _ _ _ us hl => match us, hl with | [_, _], _ => rfl),
      law_order := df_mk X G a24 l24 c24 k24 (fun _ _ _ _ _ _ us hl => match us, hl with | [_, _, _], _ => rfl),
      law_runs := df_mk X G a25 l25 c25 k25 (fun _ _ _ _ _ _ us hl => match us, hl with | [_], _ => rfl),
      law_stretches := df_mk X G a26 l26 c26 k26 (fun _ _ _ _ _ _ us hl => match us, hl with | [_], _ => rfl),
      law_single := df_mk X G a27 l27 c27 k27 (fun _ _ _ _ _ _ us hl => match us, hl with | [_, _], _ => rfl),
      law_low := df_mk X G a28 l28 c28 k28 (fun _ _ _ _ _ _ us hl => match us, hl with | [_], _ => rfl),
      law_stones := df_mk X G a29 l29 c29 k29 (fun _ _ _ _ _ _ us hl => match us, hl with | [_, _], _ => rfl),
      law_measure := df_mk X G a30 l30 c30 k30 (fun _ _ _ _ _ _ us hl => match us, hl with | [_, _], _ => rfl),
      law_off := df_mk X G a31 l31 c31 k31 (fun _ _ _ _ _ _ us hl => match us, hl with | [_, _], _ => rfl),
      law := df_mk X G a32 l32 c32 k32 (fun _ _ _ _ _ _ us hl => match us, hl with | [_], _ => rfl),
      k_Route := cls_mk X G aK_Route pgK_Route hdK_Route poK_Route saK_Route mkK_Route kcK_Route a16 i16,
      na_Route__size := na_Route__size,
      na_Route_stones := na_Route_stones,
      na_Route_stretches := na_Route_stretches,
      al_size_ground := PySem.W.mg_of X G al_size_ground,
      e_ratio := err_mk X G aC_ratio ex_ratio kp_ratio sb_ratio ty_ratio hg_ratio hk_ratio hd_ratio hac_ratio hm_ratio hn htk,
      e_ground := err_mk X G aC_ground ex_ground kp_ground sb_ground ty_ground hg_ground hk_ground hd_ground hac_ground hm_ground hn htk,
      e_route := err_mk X G aC_route ex_route kp_route sb_route ty_route hg_route hk_route hd_route hac_route hm_route hn htk,
      e_off := err_mk X G aC_off ex_off kp_off sb_off ty_off hg_off hk_off hd_off hac_off hm_off hn htk,
      exm_ground_ground := PySem.W.exm_ref sb_ground hd_ground ty_ground su_ground_ground,
      exm_off_off := PySem.W.exm_ref sb_off hd_off ty_off su_off_off,
      is_off_kerb := kit_own ic_kerb ty_kerb su_off_kerb su_kerb_kerb,
      kerb_g := PySem.W.mg_of X G aC_kerb,
      b_abs := PySem.W.mg_none_of X G z_abs,
      b_bool := PySem.W.mg_none_of X G z_bool,
      b_int := PySem.W.mg_none_of X G z_int,
      b_isinstance := PySem.W.mg_none_of X G z_isinstance,
      b_len := PySem.W.mg_none_of X G z_len,
      b_list := PySem.W.mg_none_of X G z_list,
      b_max := PySem.W.mg_none_of X G z_max,
      b_min := PySem.W.mg_none_of X G z_min,
      b_range := PySem.W.mg_none_of X G z_range,
      b_reversed := PySem.W.mg_none_of X G z_reversed,
      b_sorted := PySem.W.mg_none_of X G z_sorted,
      b_sum := PySem.W.mg_none_of X G z_sum }
  exact ⟨_, fun s v => .of_eq rfl, fun base _ _ => all_ok (P := P) (w := w) (base := base) T⟩
end Lw
/-! Km: mathematics for mirrors -/
namespace Kb
open PySem L2
theorem sizeLine_big : 1000000 ≤ sizeLine := by decide
theorem forN_inv {α σ : Type} {f : σ → α → Res σ} (I : Nat → σ → Prop) : ∀ {xs : List α} {s0 : σ} {k : Nat}, I k s0 → (∀ i s x, xs[i]? = some x → I (k + i) s → ∃ s', f s x = .ok s' ∧ I (k + i + 1) s') → ∃ s, forN xs s0 f = .ok s ∧ I (k + xs.length) s
  | [], s0, k, h0, _ => ⟨s0, rfl, h0⟩
  | x :: xs, s0, k, h0, st => by
    obtain ⟨s1, e1, h1⟩ := st 0 s0 x rfl h0
    obtain ⟨s2, e2, h2⟩ := forN_inv I (xs := xs) (s0 := s1) (k := k + 1) h1 (fun i s y hy hi => by
      have z := st (i + 1) s y (by simpa using hy) (by rw [show k + (i + 1) = k + 1 + i from by omega]; exact hi)
      rw [show k + 1 + i + 1 = k + (i + 1) + 1 from by omega]
      exact z)
    refine ⟨s2, by rw [forN_cons, e1]; exact e2, ?_⟩
    rw [List.length_cons, show k + (xs.length + 1) = k + 1 + xs.length from by omega]
    exact h2
theorem forN_inv0 {α σ : Type} {f : σ → α → Res σ} {xs : List α} {s0 : σ} (I : Nat → σ → Prop) (h0 : I 0 s0) (st : ∀ i s x, xs[i]? = some x → I i s → ∃ s', f s x = .ok s' ∧ I (i + 1) s') : ∃ s, forN xs s0 f = .ok s ∧ I xs.length s := by
  obtain ⟨s, e, h⟩ := forN_inv I (k := 0) h0 (fun i s x hx hi => by
    rw [Nat.zero_add] at hi ⊢
    exact st i s x hx hi)
  exact ⟨s, e, by rw [Nat.zero_add] at h; exact h⟩
/-- a loop whose turns are a plain function -/
theorem forN_fold {α σ : Type} {f : σ → α → Res σ} (g : σ → α → σ) : ∀ {xs : List α} {s0 : σ}, (∀ s x, x ∈ xs → f s x = .ok (g s x)) → forN xs s0 f = .ok (xs.foldl g s0)
  | [], _, _ => rfl
  | x :: xs, s0, h => by
    rw [forN_cons, h s0 x List.mem_cons_self, bind_ok, forN_fold g fun s y hy => h s y (List.mem_cons_of_mem _ hy)]
    rfl
theorem compN_c {α β : Type} {x : α} {xs : List α} {f : α → Res β} : compN (x :: xs) f = (nx (f x)).bind fun y => (compN xs f).bind fun ys => .ok (y :: ys) := rfl
theorem compN_map {α β : Type} {f : α → Res β} (g : α → β) : ∀ {xs : List α}, (∀ x ∈ xs, f x = .ok (g x)) → compN xs f = .ok (xs.map g)
  | [], _ => rfl
  | x :: xs, h => by
    rw [compN_c, h x List.mem_cons_self, nx_ok, bind_ok, compN_map g fun y hy => h y (List.mem_cons_of_mem _ hy)]
    rfl
theorem atI_of {α : Type} {xs : List α} {i : Int} {x : α} (h0 : 0 ≤ i) (h : xs[i.toNat]? = some x) : atI xs i = some x := by
  have z := atI_nat h
  rw [show ((i.toNat : Nat) : Int) = i from by omega] at z
  exact z
theorem atI_in {α : Type} {xs : List α} {i : Int} (h0 : 0 ≤ i) (h : i < xs.length) : ∃ x, atI xs i = some x ∧ x ∈ xs := by
  have hl : i.toNat < xs.length := by omega
  exact ⟨xs[i.toNat], atI_of h0 (List.getElem?_eq_getElem hl), List.getElem_mem hl⟩
theorem atI_getD {α : Type} {xs : List α} {i : Int} (d : α) (h0 : 0 ≤ i) (h : i < xs.length) : atI xs i = some (xs.getD i.toNat d) := by
  have hl : i.toNat < xs.length := by omega
  rw [List.getD_eq_getElem?_getD, List.getElem?_eq_getElem hl]
  exact atI_of h0 (List.getElem?_eq_getElem hl)
theorem atI_neg1 {α : Type} {xs : List α} {x : α} (h : xs.getLast? = some x) : atI xs (-(1 : Int)) = some x := by
  cases xs with
  | nil => cases h
  | cons y ys =>
    have e : (y :: ys) = (y :: ys).dropLast ++ [x] := by
      rw [List.getLast?_eq_getLast (List.cons_ne_nil y ys)] at h
      have h' := Option.some.inj h
      rw [← h']
      exact (List.dropLast_concat_getLast (List.cons_ne_nil y ys)).symm
    rw [e]
    exact atI_last _ _
theorem ixN_neg1 {n : Nat} (h : 0 < n) : ixN n (-(1 : Int)) = some (n - 1) := by
  unfold ixN
  rw [if_neg (by decide), if_pos (by omega)]
  congr 1
  omega
theorem log2_le_self (n : Nat) : n.log2 ≤ n := by
  cases n with
  | zero => decide
  | succ n => exact Nat.le_of_lt ((Nat.log2_lt (by omega)).mpr (Nat.lt_pow_self (by decide)))
theorem mulOk_of {a b : Int} {m n : Nat} (ha : a.natAbs ≤ m) (hb : b.natAbs ≤ n) (h : m + n < 1000000) : mulOk a b = true := by
  unfold mulOk
  have h1 := log2_le_self a.natAbs
  have h2 := log2_le_self b.natAbs
  exact decide_eq_true (by omega)
theorem rngOk_of {i : Int} (h1 : -4611686018427387904 ≤ i) (h2 : i < 4611686018427387904) : rngOk i = true := by
  unfold rngOk
  rw [decide_eq_true (show -(2 ^ 62) ≤ i from h1), decide_eq_true (show i < 2 ^ 62 from h2)]
  rfl
theorem rng_mem {lo : Int} : ∀ {n : Nat} {x : Int}, x ∈ rng lo n ↔ lo ≤ x ∧ x < lo + n := by
  intro n
  induction n generalizing lo with
  | zero =>
    intro x
    show x ∈ ([] : List Int) ↔ _
    constructor
    · intro h; cases h
    · intro h; omega
  | succ n ih =>
    intro x
    show x ∈ lo :: rng (lo + 1) n ↔ _
    rw [List.mem_cons, ih]
    constructor
    · rintro (h | h) <;> omega
    · intro h
      by_cases e : x = lo
      · exact .inl e
      · exact .inr (by omega)
theorem rng_get {lo : Int} {n i : Nat} {x : Int} (h : (rng lo n)[i]? = some x) : x = lo + i ∧ i < n := by
  have hl : i < n := by
    have z := (List.getElem?_eq_some_iff.mp h).1
    rw [ints_len] at z
    exact z
  have e := ints_at n lo i hl
  rw [h] at e
  exact ⟨Option.some.inj e, hl⟩

/-! #### it ends well, and what it gives -/
def Ok {α : Type} (r : Res α) (P : α → Prop) : Prop := ∃ y, r = .ok y ∧ P y
section
variable {α β σ ρ : Type}
theorem Ok.ret {x : α} {P : α → Prop} (h : P x) : Ok (.ok x) P := ⟨x, rfl, h⟩
theorem Ok.of {r : Res α} {x : α} {P : α → Prop} (e : r = .ok x) (h : P x) : Ok r P := ⟨x, e, h⟩
theorem Ok.imp {r : Res α} {P Q : α → Prop} (h : Ok r P) (q : ∀ x, P x → Q x) : Ok r Q := let ⟨x, e, p⟩ := h; ⟨x, e, q x p⟩
theorem Ok.bind {m : Res α} {f : α → Res β} {R : α → Prop} {P : β → Prop} (h : Ok m R) (q : ∀ y, R y → Ok (f y) P) : Ok (m.bind f) P := by
  obtain ⟨y, rfl, hy⟩ := h
  exact q y hy
/-- with the equation kept -/
theorem Ok.bindE {m : Res α} {f : α → Res β} {R : α → Prop} {P : β → Prop} (h : Ok m R) (q : ∀ y, m = .ok y → R y → Ok (f y) P) : Ok (m.bind f) P := by
  obtain ⟨y, e, hy⟩ := h
  rw [e]
  exact q y e hy
theorem Ok.nx {m : Res α} {P : α → Prop} (h : Ok m P) : Ok (Kb.nx m) P := by
  obtain ⟨y, rfl, hy⟩ := h
  exact ⟨y, rfl, hy⟩
theorem Ok.chk {b : Bool} {r : Res α} {P : α → Prop} (hb : b = true) (h : Ok r P) : Ok (Kb.chk b r) P := by subst hb; exact h
theorem Ok.chkD {c : Prop} [Decidable c] {r : Res α} {P : α → Prop} (hc : c) (h : Ok r P) : Ok (Kb.chk (decide c) r) P := Ok.chk (decide_eq_true hc) h
theorem Ok.opt {o : Option α} {f : α → Res β} {x : α} {P : β → Prop} (e : o = some x) (h : Ok (f x) P) : Ok (Kb.opt o f) P := by subst e; exact h
theorem Ok.br {b : Bool} {x y : Res α} {P : α → Prop} (ht : b = true → Ok x P) (hf : b = false → Ok y P) : Ok (Kb.br b x y) P := by
  cases b with
  | true => exact ht rfl
  | false => exact hf rfl
theorem Ok.brT {b : Bool} {x y : Res α} {P : α → Prop} (hb : b = true) (h : Ok x P) : Ok (Kb.br b x y) P := by subst hb; exact h
theorem Ok.brF {b : Bool} {x y : Res α} {P : α → Prop} (hb : b = false) (h : Ok y P) : Ok (Kb.br b x y) P := by subst hb; exact h
theorem Ok.forN {xs : List α} {s0 : σ} {f : σ → α → Res σ} {rest : σ → Res β} {P : β → Prop} (I : Nat → σ → Prop) (h0 : I 0 s0) (st : ∀ i s x, xs[i]? = some x → I i s → Ok (f s x) (I (i + 1))) (q : ∀ s, I xs.length s → Ok (rest s) P) : Ok ((Kb.forN xs s0 f).bind rest) P := by
  obtain ⟨s, e, h⟩ := forN_inv0 (f := f) (xs := xs) (s0 := s0) I h0 fun i s x hx hi => st i s x hx hi
  rw [e]
  exact q s h
/-- a loop with a return: each turn goes on, or returns what is wanted -/
theorem Ok.forR {xs : List α} {s0 : σ} {f : σ → α → Res (Ctl σ ρ)} {rest : Ctl σ ρ → Res β} {P : β → Prop} (I : Nat → σ → Prop) (R : ρ → Prop) (h0 : I 0 s0) (st : ∀ i s x, xs[i]? = some x → I i s → Ok (f s x) (fun c => match c with | .nx s' => I (i + 1) s' | .ret r => R r)) (q : ∀ s, I xs.length s → Ok (rest (.nx s)) P) (qr : ∀ r, R r → Ok (rest (.ret r)) P) : Ok ((Kb.forR xs s0 f).bind rest) P := by
  have key : ∀ (l : List α) (k : Nat) (s : σ), I k s → (∀ i s x, l[i]? = some x → I (k + i) s → Ok (f s x) (fun c => match c with | .nx s' => I (k + i + 1) s' | .ret r => R r)) → Ok (Kb.forR l s f) (fun c => match c with | .nx s' => I (k + l.length) s' | .ret r => R r) := by
    intro l
    induction l with
    | nil => intro k s h _; exact ⟨_, rfl, h⟩
    | cons x l ih =>
      intro k s h st
      rw [forR_cons]
      obtain ⟨c, e, hc⟩ := st 0 s x rfl h
      rw [e, bind_ok]
      cases c with
      | ret r => exact ⟨_, rfl, hc⟩
      | nx s' =>
        have z := ih (k + 1) s' hc fun i s y hy hi => by
          have z := st (i + 1) s y (by simpa using hy) (by rw [show k + (i + 1) = k + 1 + i from by omega]; exact hi)
          rw [show k + 1 + i + 1 = k + (i + 1) + 1 from by omega]
          exact z
        rw [List.length_cons, show k + (l.length + 1) = k + 1 + l.length from by omega]
        exact z
  obtain ⟨c, e, hc⟩ := key xs 0 s0 h0 fun i s x hx hi => by
    rw [Nat.zero_add] at hi ⊢
    exact st i s x hx hi
  rw [e, bind_ok]
  cases c with
  | ret r => exact qr r hc
  | nx s =>
    rw [Nat.zero_add] at hc
    exact q s hc
theorem Ok.compN {xs : List α} {f : α → Res β} {R : α → β → Prop} (h : ∀ x ∈ xs, Ok (f x) (R x)) : Ok (Kb.compN xs f) (fun ys => ys.length = xs.length ∧ ∀ (i : Nat) x y, xs[i]? = some x → ys[i]? = some y → R x y) := by
  induction xs with
  | nil => exact ⟨[], rfl, rfl, fun i x y e _ => by simp at e⟩
  | cons x xs ih =>
    obtain ⟨y, e, hy⟩ := h x List.mem_cons_self
    obtain ⟨ys, es, hl, hs⟩ := ih fun z hz => h z (List.mem_cons_of_mem _ hz)
    refine ⟨y :: ys, by rw [compN_c, e, nx_ok, bind_ok, es]; rfl, by simp [hl], fun i a b ea eb => ?_⟩
    cases i with
    | zero =>
      have e1 : x = a := by simpa using ea
      have e2 : y = b := by simpa using eb
      rw [← e1, ← e2]; exact hy
    | succ i => exact hs i a b (by simpa using ea) (by simpa using eb)
/-- it is the one value -/
theorem Ok.eq {r : Res α} {x : α} (h : Ok r (fun y => y = x)) : r = .ok x := by
  obtain ⟨y, e, rfl⟩ := h
  exact e
end
theorem mod_lt' (a : Int) {m : Int} (h : 0 < m) : 0 ≤ a % m ∧ a % m < m := ⟨Int.emod_nonneg _ (by omega), Int.emod_lt_of_pos _ h⟩
theorem pick {α : Type} {xs : List α} {a m : Int} (h : 0 < m) (hl : m = xs.length) : ∃ x, atI xs (a % m) = some x ∧ x ∈ xs := atI_in (mod_lt' a h).1 (by have := (mod_lt' a h).2; omega)
theorem sliceL_len {α : Type} (xs : List α) (lo hi : Option Int) : (sliceL xs lo hi).length ≤ xs.length := by
  unfold sliceL
  rw [List.length_take, List.length_drop]
  omega
end Kb
/-! Kg: grounds -/
namespace Kb
open PySem L2
abbrev Rw := PySem.Str × Int × Int
def gd (r : Rw) : Prop := 0 ≤ r.2.1 ∧ r.2.1 < r.2.2
abbrev ltS (x y : PySem.Str) : Prop := x.cps.toList < y.cps.toList
theorem ltS_irr (x : PySem.Str) : ¬ ltS x x := by
  have h := PyProof.Rows.strKind.irrefl x.cps.toList
  exact of_decide_eq_false h
theorem ltS_tr {x y z : PySem.Str} (h1 : ltS x y) (h2 : ltS y z) : ltS x z := by
  have h := PyProof.Rows.strKind.trans x.cps.toList y.cps.toList z.cps.toList (decide_eq_true h1) (decide_eq_true h2)
  exact of_decide_eq_true h
theorem ltS_tot {x y : PySem.Str} (h1 : ¬ ltS x y) (h2 : ¬ ltS y x) : x = y := by
  have h := PyProof.Rows.strKind.total x.cps.toList y.cps.toList (decide_eq_false h1) (decide_eq_false h2)
  cases x with | mk a => cases y with | mk b =>
    have e : a.toList = b.toList := h
    rw [Array.toList_inj.mp e]
/-- sorted rows -/
def Le (a b : Rw) : Prop := ¬ ltS b.1 a.1 ∧ (a.1 = b.1 → a.2.1 ≤ b.2.1)
theorem le_of {a b : Rw} (h : leK (keySII a) (keySII b) = true) : Le a b := by
  unfold leK ltK keySII at h
  rw [Bool.not_eq_true'] at h
  obtain ⟨h1, h2⟩ := PyProof.Rows.lex_false.mp h
  refine ⟨of_decide_eq_false h1, fun e => ?_⟩
  have h3 := h2.resolve_left (by
    rw [show PyProof.Rows.itemOrd.blt (Sum.inr a.1.cps.toList) (Sum.inr b.1.cps.toList) = decide (a.1.cps.toList < b.1.cps.toList) from rfl, e]
    intro z
    exact ltS_irr _ (of_decide_eq_true z))
  obtain ⟨h4, _⟩ := PyProof.Rows.lex_false.mp h3
  have z : ¬ (b.2.1 < a.2.1) := of_decide_eq_false h4
  omega
theorem sorted_le (rows : List Rw) : (sortK keySII rows).Pairwise Le := List.Pairwise.imp (S := Le) (fun {a b} h => le_of (a := a) (b := b) h) (sortK_sorted (key := keySII) rows)
/-- a cell of the rows -/
def cov (g : List Rw) (p : PySem.Str) (k : Int) : Prop := ∃ r ∈ g, r.1 = p ∧ r.2.1 ≤ k ∧ k < r.2.2
def covR (r : Rw) (p : PySem.Str) (k : Int) : Prop := r.1 = p ∧ r.2.1 ≤ k ∧ k < r.2.2
theorem cov_nil {p k} : ¬ cov [] p k := fun ⟨r, h, _⟩ => by cases h
theorem cov_cons {r : Rw} {g p k} : cov (r :: g) p k ↔ covR r p k ∨ cov g p k := by
  constructor
  · rintro ⟨q, h, c⟩
    rcases List.mem_cons.mp h with rfl | h
    · exact .inl c
    · exact .inr ⟨q, h, c⟩
  · rintro (c | ⟨q, h, c⟩)
    · exact ⟨r, List.mem_cons_self, c⟩
    · exact ⟨q, List.mem_cons_of_mem _ h, c⟩
theorem cov_app {a b : List Rw} {p k} : cov (a ++ b) p k ↔ cov a p k ∨ cov b p k := by
  constructor
  · rintro ⟨q, h, c⟩
    rcases List.mem_append.mp h with h | h
    · exact .inl ⟨q, h, c⟩
    · exact .inr ⟨q, h, c⟩
  · rintro (⟨q, h, c⟩ | ⟨q, h, c⟩)
    · exact ⟨q, List.mem_append_left _ h, c⟩
    · exact ⟨q, List.mem_append_right _ h, c⟩
theorem cov_one {r : Rw} {p k} : cov [r] p k ↔ covR r p k := by
  rw [cov_cons]
  exact ⟨fun h => h.resolve_right cov_nil, .inl⟩
theorem cov_perm {a b : List Rw} (h : a.Perm b) {p k} : cov a p k ↔ cov b p k :=
  ⟨fun ⟨r, m, c⟩ => ⟨r, h.mem_iff.mp m, c⟩, fun ⟨r, m, c⟩ => ⟨r, h.mem_iff.mpr m, c⟩⟩
instance {g : List Rw} {p : PySem.Str} {k : Int} : Decidable (cov g p k) := inferInstanceAs (Decidable (∃ r ∈ g, r.1 = p ∧ r.2.1 ≤ k ∧ k < r.2.2))
/-- rows of a ground, one behind the other -/
def GR (a b : Rw) : Prop := ltS a.1 b.1 ∨ (a.1 = b.1 ∧ a.2.2 < b.2.1)
theorem GR.tr {a b c : Rw} (g : gd b) (h1 : GR a b) (h2 : GR b c) : GR a c := by
  unfold gd at g
  rcases h1 with h1 | ⟨e1, h1⟩ <;> rcases h2 with h2 | ⟨e2, h2⟩
  · exact .inl (ltS_tr h1 h2)
  · exact .inl (e2 ▸ h1)
  · exact .inl (e1 ▸ h2)
  · exact .inr ⟨e1.trans e2, by omega⟩
def isG (g : List Rw) : Prop := (∀ r ∈ g, gd r) ∧ g.Pairwise GR
theorem isG.nil : isG [] := ⟨fun r h => (by cases h), List.Pairwise.nil⟩
/-- one row more -/
def mst (g : List Rw) (r : Rw) : List Rw := match g.getLast? with
  | none => [r]
  | some l => if l.1 = r.1 ∧ r.2.1 ≤ l.2.2 then g.set (g.length - 1) (r.1, l.2.1, (if l.2.2 > r.2.2 then l.2.2 else r.2.2)) else g ++ [r]
theorem mst_len (g : List Rw) (r : Rw) : (mst g r).length ≤ g.length + 1 := by
  unfold mst
  split
  · simp
  · split
    · simp
    · simp
theorem set_last (g : List Rw) (l x : Rw) : (g ++ [l]).set ((g ++ [l]).length - 1) x = g ++ [x] := by
  rw [List.length_append, List.length_singleton, Nat.add_sub_cancel]
  rw [List.set_append_right _ _ (Nat.le_refl _), Nat.sub_self]
  rfl
theorem mst_nil (r : Rw) : mst [] r = [r] := rfl
theorem mst_app (g : List Rw) (l r : Rw) : mst (g ++ [l]) r = if l.1 = r.1 ∧ r.2.1 ≤ l.2.2 then g ++ [(r.1, l.2.1, (if l.2.2 > r.2.2 then l.2.2 else r.2.2))] else g ++ [l] ++ [r] := by
  unfold mst
  rw [List.getLast?_append]
  show (match some l with | none => [r] | some l => _) = _
  dsimp only
  rw [set_last]
  rfl
def lastLe (g : List Rw) (r : Rw) : Prop := ∀ l, g.getLast? = some l → Le l r
theorem mst_ok {g : List Rw} {r : Rw} (hg : isG g) (hr : gd r) (hl : lastLe g r) : isG (mst g r) ∧ (∀ p k, cov (mst g r) p k ↔ cov g p k ∨ covR r p k) ∧ ∀ q, Le r q → lastLe (mst g r) q := by
  rcases List.eq_nil_or_concat g with rfl | ⟨g0, l, rfl⟩
  · rw [mst_nil]
    refine ⟨⟨fun q h => by rw [List.mem_singleton.mp h]; exact hr, List.pairwise_singleton _ _⟩, fun p k => ?_, fun q hq l e => ?_⟩
    · rw [cov_one]
      exact ⟨.inr, fun h => h.resolve_left cov_nil⟩
    · cases e
      exact hq
  · have e : g0.concat l = g0 ++ [l] := List.concat_eq_append
    rw [e] at hg hl ⊢
    have le : Le l r := hl l (by rw [List.getLast?_append]; rfl)
    have hgl : gd l := hg.1 l (by simp)
    obtain ⟨p1, _, p3⟩ := List.pairwise_append.mp hg.2
    rw [mst_app]
    unfold gd at hr hgl
    by_cases c : l.1 = r.1 ∧ r.2.1 ≤ l.2.2
    · rw [if_pos c]
      have lb := le.2 c.1
      have hmx : l.2.2 ≤ (if l.2.2 > r.2.2 then l.2.2 else r.2.2) ∧ r.2.2 ≤ (if l.2.2 > r.2.2 then l.2.2 else r.2.2) ∧ ((if l.2.2 > r.2.2 then l.2.2 else r.2.2) = l.2.2 ∨ (if l.2.2 > r.2.2 then l.2.2 else r.2.2) = r.2.2) := by
        split <;> omega
      generalize (if l.2.2 > r.2.2 then l.2.2 else r.2.2) = m at hmx
      refine ⟨⟨fun q h => ?_, List.pairwise_append.mpr ⟨p1, List.pairwise_singleton _ _, fun a ha b hb => ?_⟩⟩, fun p k => ?_, fun q hq x hx => ?_⟩
      · rcases List.mem_append.mp h with h | h
        · exact hg.1 q (List.mem_append_left _ h)
        · rw [List.mem_singleton.mp h]
          exact ⟨hgl.1, by show l.2.1 < m; omega⟩
      · rw [List.mem_singleton.mp hb]
        rcases p3 a ha l List.mem_cons_self with z | ⟨z1, z2⟩
        · exact .inl (by show ltS a.1 r.1; rw [← c.1]; exact z)
        · exact .inr ⟨by show a.1 = r.1; rw [← c.1]; exact z1, z2⟩
      · rw [cov_app, cov_app, cov_one, cov_one]
        unfold covR
        dsimp only
        rw [← c.1]
        constructor
        · rintro (h | ⟨h1, h2, h3⟩)
          · exact .inl (.inl h)
          · by_cases z : k < l.2.2
            · exact .inl (.inr ⟨h1, h2, z⟩)
            · exact .inr ⟨h1, by omega, by omega⟩
        · rintro ((h | ⟨h1, h2, h3⟩) | ⟨h1, h2, h3⟩)
          · exact .inl h
          · exact .inr ⟨h1, h2, by omega⟩
          · exact .inr ⟨h1, by omega, by omega⟩
      · rw [List.getLast?_append] at hx
        have hx' : (r.1, l.2.1, m) = x := Option.some.inj hx
        subst hx'
        exact ⟨hq.1, fun z => by have := hq.2 z; show l.2.1 ≤ q.2.1; omega⟩
    · rw [if_neg c]
      have gr : GR l r := by
        by_cases z : l.1 = r.1
        · exact .inr ⟨z, by
            by_cases y : r.2.1 ≤ l.2.2
            · exact absurd ⟨z, y⟩ c
            · omega⟩
        · refine .inl ?_
          by_cases y : ltS l.1 r.1
          · exact y
          · exact absurd (ltS_tot y le.1) z
      refine ⟨⟨fun q h => ?_, List.pairwise_append.mpr ⟨hg.2, List.pairwise_singleton _ _, fun a ha b hb => ?_⟩⟩, fun p k => ?_, fun q hq x hx => ?_⟩
      · rcases List.mem_append.mp h with h | h
        · exact hg.1 q h
        · rw [List.mem_singleton.mp h]
          exact hr
      · rw [List.mem_singleton.mp hb]
        rcases List.mem_append.mp ha with ha | ha
        · exact GR.tr hgl (p3 a ha l List.mem_cons_self) gr
        · rw [List.mem_singleton.mp ha]
          exact gr
      · rw [cov_app (a := g0 ++ [l]), cov_one]
      · rw [List.getLast?_append] at hx
        have hx' : r = x := Option.some.inj hx
        subst hx'
        exact hq
theorem fold_ok : ∀ {rs : List Rw} {g : List Rw}, isG g → (∀ r ∈ rs, gd r) → rs.Pairwise Le → (∀ r ∈ rs, lastLe g r) → isG (rs.foldl mst g) ∧ ∀ p k, cov (rs.foldl mst g) p k ↔ cov g p k ∨ cov rs p k
  | [], g, hg, _, _, _ => ⟨hg, fun p k => ⟨.inl, fun h => h.resolve_right cov_nil⟩⟩
  | r :: rs, g, hg, hr, hp, hl => by
    obtain ⟨p1, p2⟩ := List.pairwise_cons.mp hp
    obtain ⟨a1, a2, a3⟩ := mst_ok hg (hr r List.mem_cons_self) (hl r List.mem_cons_self)
    obtain ⟨b1, b2⟩ := fold_ok (rs := rs) a1 (fun q h => hr q (List.mem_cons_of_mem _ h)) p2 fun q h => a3 q (p1 q h)
    refine ⟨b1, fun p k => ?_⟩
    rw [show (r :: rs).foldl mst g = rs.foldl mst (mst g r) from rfl, b2, a2, cov_cons, or_assoc]
def nrm (rows : List Rw) : List Rw := (sortK keySII rows).foldl mst []
theorem nrm_ok {rows : List Rw} (h : ∀ r ∈ rows, gd r) : isG (nrm rows) ∧ ∀ p k, cov (nrm rows) p k ↔ cov rows p k := by
  obtain ⟨a, b⟩ := fold_ok (rs := sortK keySII rows) isG.nil (fun r m => h r ((sortK_perm rows).mem_iff.mp m)) (sorted_le rows) fun r _ l e => by cases e
  refine ⟨a, fun p k => ?_⟩
  rw [show nrm rows = (sortK keySII rows).foldl mst [] from rfl, b, cov_perm (sortK_perm rows)]
  exact ⟨fun h => h.resolve_left cov_nil, .inr⟩
theorem foldl_len : ∀ (rs g : List Rw), (rs.foldl mst g).length ≤ g.length + rs.length
  | [], _ => Nat.le_refl _
  | r :: rs, g => by
    have h1 := foldl_len rs (mst g r)
    have h2 := mst_len g r
    show (rs.foldl mst (mst g r)).length ≤ _
    rw [List.length_cons]
    omega
theorem nrm_len (rows : List Rw) : (nrm rows).length ≤ rows.length := by
  have h := foldl_len (sortK keySII rows) []
  rw [(sortK_perm rows).length_eq] at h
  simpa [nrm] using h
/-- behind the last cell of a row, and ahead of its first, there is none -/
theorem isG.ends {g : List Rw} (h : isG g) {r : Rw} (m : r ∈ g) : cov g r.1 r.2.1 ∧ cov g r.1 (r.2.2 - 1) ∧ ¬ cov g r.1 (r.2.1 - 1) ∧ ¬ cov g r.1 r.2.2 := by
  have hr := h.1 r m
  unfold gd at hr
  refine ⟨⟨r, m, rfl, by omega, by omega⟩, ⟨r, m, rfl, by omega, by omega⟩, ?_, ?_⟩
  all_goals
    rintro ⟨q, mq, e, h1, h2⟩
    obtain ⟨i, hi, ei⟩ := List.getElem_of_mem m
    obtain ⟨j, hj, ej⟩ := List.getElem_of_mem mq
    have pw := List.pairwise_iff_getElem.mp h.2
    have hq := h.1 q mq
    unfold gd at hq
    rcases Nat.lt_trichotomy i j with c | c | c
    · have z := pw i j hi hj c
      rw [ei, ej] at z
      rcases z with z | ⟨_, z⟩
      · rw [e] at z; exact ltS_irr _ z
      · omega
    · subst c
      rw [ei] at ej
      subst ej
      omega
    · have z := pw j i hj hi c
      rw [ei, ej] at z
      rcases z with z | ⟨_, z⟩
      · rw [e] at z; exact ltS_irr _ z
      · omega
theorem head_le {a : Rw} {g : List Rw} (h : isG (a :: g)) {p k} (c : cov (a :: g) p k) : ltS a.1 p ∨ (a.1 = p ∧ a.2.1 ≤ k) := by
  obtain ⟨q, mq, e, h1, h2⟩ := c
  rcases List.mem_cons.mp mq with rfl | mq
  · exact .inr ⟨e, h1⟩
  · have z := (List.pairwise_cons.mp h.2).1 q mq
    have ha := h.1 a List.mem_cons_self
    unfold gd at ha
    rcases z with z | ⟨z1, z2⟩
    · exact .inl (e ▸ z)
    · exact .inr ⟨z1.trans e, by omega⟩
theorem head_eq {a b : Rw} {g h : List Rw} (hg : isG (a :: g)) (hh : isG (b :: h)) (e : ∀ p k, cov (a :: g) p k ↔ cov (b :: h) p k) : a.1 = b.1 ∧ a.2.1 = b.2.1 := by
  have ca := (hg.ends List.mem_cons_self).1
  have cb := (hh.ends List.mem_cons_self).1
  have h1 := head_le hh ((e _ _).mp ca)
  have h2 := head_le hg ((e _ _).mpr cb)
  rcases h1 with h1 | ⟨h1, h1'⟩ <;> rcases h2 with h2 | ⟨h2, h2'⟩
  · exact absurd (ltS_tr h1 h2) (ltS_irr _)
  · rw [h2] at h1; exact absurd h1 (ltS_irr _)
  · rw [h1] at h2; exact absurd h2 (ltS_irr _)
  · exact ⟨h2, by omega⟩
theorem end_le {a b : Rw} {g h : List Rw} (hg : isG (a :: g)) (hh : isG (b :: h)) (e : ∀ p k, cov (a :: g) p k ↔ cov (b :: h) p k) (e1 : a.1 = b.1) (e2 : a.2.1 = b.2.1) : b.2.2 ≤ a.2.2 := by
  have ca := (hg.ends List.mem_cons_self).2.2.2
  have ga := hg.1 a List.mem_cons_self
  unfold gd at ga
  by_cases c : b.2.2 ≤ a.2.2
  · exact c
  · exact absurd ((e a.1 a.2.2).mpr ⟨b, List.mem_cons_self, e1.symm, by omega, by omega⟩) ca
theorem ground_uniq : ∀ {g h : List Rw}, isG g → isG h → (∀ p k, cov g p k ↔ cov h p k) → g = h
  | [], [], _, _, _ => rfl
  | [], b :: h, _, hh, e => absurd ((e _ _).mpr (hh.ends List.mem_cons_self).1) cov_nil
  | a :: g, [], hg, _, e => absurd ((e _ _).mp (hg.ends List.mem_cons_self).1) cov_nil
  | a :: g, b :: h, hg, hh, e => by
    obtain ⟨e1, e2⟩ := head_eq hg hh e
    have h1 := end_le hg hh e e1 e2
    have h2 := end_le hh hg (fun p k => (e p k).symm) e1.symm e2.symm
    have ab : a = b := Prod.ext e1 (Prod.ext e2 (Int.le_antisymm h2 h1))
    subst ab
    have tg : isG g := ⟨fun r m => hg.1 r (List.mem_cons_of_mem _ m), (List.pairwise_cons.mp hg.2).2⟩
    have th : isG h := ⟨fun r m => hh.1 r (List.mem_cons_of_mem _ m), (List.pairwise_cons.mp hh.2).2⟩
    have dis : ∀ {g : List Rw}, isG (a :: g) → ∀ p k, cov g p k → ¬ covR a p k := by
      rintro g hg p k ⟨q, mq, e, z1, z2⟩ ⟨e', y1, y2⟩
      rcases (List.pairwise_cons.mp hg.2).1 q mq with z | ⟨_, z⟩
      · rw [e, e'] at z; exact ltS_irr _ z
      · omega
    have key : ∀ p k, cov g p k ↔ cov h p k := fun p k => by
      have z := e p k
      rw [cov_cons, cov_cons] at z
      constructor
      · intro c
        exact (z.mp (.inr c)).resolve_left (dis hg p k c)
      · intro c
        exact (z.mpr (.inr c)).resolve_left (dis hh p k c)
    rw [ground_uniq tg th key]
theorem normal_loop {rows : List Rw} (h : rows.length ≤ 1000000) :
    forN rows ([] : List Rw) (fun s42 x47 => ((andN (.ok (!s42.isEmpty)) (andN (opt (atI s42 (-(1 : Int))) fun x88 => .ok (decide (x88.1 = x47.1))) (opt (atI s42 (-(1 : Int))) fun x96 => .ok (decide (x47.2.1 ≤ x96.2.2))))).bind fun b101 => br b101 (opt (atI s42 (-(1 : Int))) fun x107 => opt (atI s42 (-(1 : Int))) fun x115 => opt (ixN s42.length (-(1 : Int))) fun j131 => .ok ((s42.set j131 (x47.1, x107.2.1, (if x115.2.2 > x47.2.2 then x115.2.2 else x47.2.2))))) (chk (decide (s42.length < sizeLine)) <| .ok ((s42 ++ [(x47.1, x47.2.1, x47.2.2)])))).bind fun s63 => .ok (s63))
      = .ok (rows.foldl mst []) := by
  have key : ∀ (rs : List Rw) (g : List Rw), g.length + rs.length ≤ 1000000 → forN rs g (fun s42 x47 => ((andN (.ok (!s42.isEmpty)) (andN (opt (atI s42 (-(1 : Int))) fun x88 => .ok (decide (x88.1 = x47.1))) (opt (atI s42 (-(1 : Int))) fun x96 => .ok (decide (x47.2.1 ≤ x96.2.2))))).bind fun b101 => br b101 (opt (atI s42 (-(1 : Int))) fun x107 => opt (atI s42 (-(1 : Int))) fun x115 => opt (ixN s42.length (-(1 : Int))) fun j131 => .ok ((s42.set j131 (x47.1, x107.2.1, (if x115.2.2 > x47.2.2 then x115.2.2 else x47.2.2))))) (chk (decide (s42.length < sizeLine)) <| .ok ((s42 ++ [(x47.1, x47.2.1, x47.2.2)])))).bind fun s63 => .ok (s63))
      = .ok (rs.foldl mst g) := by
    intro rs
    induction rs with
    | nil => intro g _; rfl
    | cons r rs ih =>
      intro g hl
      rw [List.length_cons] at hl
      have hz := sizeLine_big
      have hlt : decide (g.length < sizeLine) = true := decide_eq_true (by omega)
      rw [forN_cons]
      have turn : ((andN (.ok (!g.isEmpty)) (andN (opt (atI g (-(1 : Int))) fun x88 => .ok (decide (x88.1 = r.1))) (opt (atI g (-(1 : Int))) fun x96 => .ok (decide (r.2.1 ≤ x96.2.2))))).bind fun b101 => br b101 (opt (atI g (-(1 : Int))) fun x107 => opt (atI g (-(1 : Int))) fun x115 => opt (ixN g.length (-(1 : Int))) fun j131 => .ok ((g.set j131 (r.1, x107.2.1, (if x115.2.2 > r.2.2 then x115.2.2 else r.2.2))))) (chk (decide (g.length < sizeLine)) <| .ok ((g ++ [(r.1, r.2.1, r.2.2)])))) = .ok (mst g r) := by
        unfold mst
        cases hg : g.getLast? with
        | none =>
          have e : g = [] := List.getLast?_eq_none_iff.mp hg
          subst e
          rw [hlt]
          rfl
        | some l =>
          have hne : g ≠ [] := fun z => by rw [z] at hg; cases hg
          have hat := atI_neg1 hg
          have hpos : 0 < g.length := List.length_pos_iff.mpr hne
          have hie : (!g.isEmpty) = true := by cases g with | nil => exact absurd rfl hne | cons _ _ => rfl
          rw [hie, hat, ixN_neg1 hpos, hlt]
          dsimp only
          by_cases h1 : l.1 = r.1
          · by_cases h2 : r.2.1 ≤ l.2.2
            · rw [if_pos ⟨h1, h2⟩]
              simp [andN, h1, h2]
            · rw [if_neg (fun z => h2 z.2)]
              simp [andN, h1, h2]
          · rw [if_neg (fun z => h1 z.1)]
            simp [andN, h1]
      rw [turn, bind_ok]
      exact ih (mst g r) (by have := mst_len g r; omega)
  exact key rows [] (by simpa using h)
theorem any_loop {α : Type} (q : α → Bool) : ∀ xs : List α, forR xs () (fun (_ : Unit) x => br (q x) (.ok (Ctl.ret true)) (.ok (.nx ()))) = .ok (if xs.any q = true then .ret true else .nx ())
  | [] => rfl
  | x :: xs => by
    rw [forR_cons, List.any_cons]
    cases h : q x with
    | true => rfl
    | false =>
      rw [br_false, bind_ok, Bool.false_or]
      exact any_loop q xs
theorem cov_any {g : List Rw} {p : PySem.Str} {k : Int} : (g.any fun x9 => (decide (x9.1 = p)) && ((decide (x9.2.1 ≤ k)) && (decide (k < x9.2.2)))) = decide (cov g p k) := by
  rw [Bool.eq_iff_iff, List.any_eq_true, decide_eq_true_iff]
  unfold cov
  simp only [Bool.and_eq_true, decide_eq_true_iff]
theorem has_loop (g : List Rw) (p : PySem.Str) (k : Int) : (forR g () (fun (_ : Unit) x9 => br ((decide (x9.1 = p)) && ((decide (x9.2.1 ≤ k)) && (decide (k < x9.2.2)))) (.ok (.ret true)) (.ok (.nx ())))).bind (fun cc => ctl cc (fun _ => .ok false) (fun r => .ok r)) = (.ok (decide (cov g p k)) : Res Bool) := by
  rw [any_loop, bind_ok, cov_any]
  by_cases c : cov g p k
  · rw [decide_eq_true c]; rfl
  · rw [decide_eq_false c]; rfl
theorem cutS_len (s : PySem.Str) (lo hi : Option Int) : (cutS s lo hi).length ≤ s.length := by
  unfold cutS PySem.Str.length
  rw [List.size_toArray, List.length_take, List.length_drop, Array.length_toList]
  omega
theorem cat_len (s t : PySem.Str) : (s ++ t).length = s.length + t.length := by
  show (s.cps ++ t.cps).size = _
  rw [Array.size_append]
  rfl
/-- a row in two -/
def cutF (c : Int) (r : Rw) : List Rw := if r.2.1 < r.2.1 + c % (r.2.2 - r.2.1) then [(r.1, r.2.1, r.2.1 + c % (r.2.2 - r.2.1)), (r.1, r.2.1 + c % (r.2.2 - r.2.1), r.2.2)] else [(r.1, r.2.1 + c % (r.2.2 - r.2.1), r.2.2)]
theorem cutF_ok {c : Int} {r : Rw} (h : gd r) : (cutF c r).length ≤ 2 ∧ (∀ q ∈ cutF c r, gd q) ∧ ∀ p k, cov (cutF c r) p k ↔ covR r p k := by
  unfold gd at h
  have m := mod_lt' c (m := r.2.2 - r.2.1) (by omega)
  unfold cutF
  generalize c % (r.2.2 - r.2.1) = d at m
  split
  · refine ⟨Nat.le_refl _, fun q hq => ?_, fun p k => ?_⟩
    · rcases List.mem_cons.mp hq with rfl | hq
      · exact ⟨h.1, by assumption⟩
      · rw [List.mem_singleton.mp hq]
        exact ⟨by show 0 ≤ r.2.1 + d; omega, by show r.2.1 + d < r.2.2; omega⟩
    · rw [cov_cons, cov_one]
      unfold covR
      dsimp only
      constructor
      · rintro (⟨a, b, c⟩ | ⟨a, b, c⟩)
        · exact ⟨a, b, by omega⟩
        · exact ⟨a, by omega, c⟩
      · rintro ⟨a, b, c⟩
        by_cases z : k < r.2.1 + d
        · exact .inl ⟨a, b, z⟩
        · exact .inr ⟨a, by omega, c⟩
  · refine ⟨by simp, fun q hq => ?_, fun p k => ?_⟩
    · rw [List.mem_singleton.mp hq]
      exact ⟨by show 0 ≤ r.2.1 + d; omega, by show r.2.1 + d < r.2.2; omega⟩
    · rw [cov_one]
      unfold covR
      dsimp only
      constructor
      · rintro ⟨a, b, c⟩
        exact ⟨a, by omega, c⟩
      · rintro ⟨a, b, c⟩
        exact ⟨a, by omega, c⟩
theorem isG.pick {g : List Rw} (h : isG g) {i : Nat} {a b : Rw} (ha : g[i]? = some a) (hb : g[i + 1]? = some b) : GR a b := by
  obtain ⟨h1, e1⟩ := List.getElem?_eq_some_iff.mp ha
  obtain ⟨h2, e2⟩ := List.getElem?_eq_some_iff.mp hb
  have z := List.pairwise_iff_getElem.mp h.2 i (i + 1) h1 h2 (Nat.lt_succ_self _)
  rw [e1, e2] at z
  exact z
end Kb
/-! Kh: grounds put together -/
namespace Kb
open PySem L2
theorem isG.tail {a : Rw} {g : List Rw} (h : isG (a :: g)) : isG g := ⟨fun r m => h.1 r (List.mem_cons_of_mem _ m), (List.pairwise_cons.mp h.2).2⟩
theorem isG.snoc {g : List Rw} {r : Rw} (h : isG g) (hr : gd r) (hb : ∀ q ∈ g, GR q r) : isG (g ++ [r]) := by
  refine ⟨fun q m => ?_, List.pairwise_append.mpr ⟨h.2, List.pairwise_singleton _ _, fun a ha b hb' => ?_⟩⟩
  · rcases List.mem_append.mp m with m | m
    · exact h.1 q m
    · rw [List.mem_singleton.mp m]; exact hr
  · rw [List.mem_singleton.mp hb']; exact hb a ha
/-- what is behind a row has none of its cells -/
theorem GR.dis {a x : Rw} (h : GR a x) {p k} (c : covR x p k) : ¬ covR a p k := by
  rintro ⟨e, h1, h2⟩
  obtain ⟨e', g1, g2⟩ := c
  rcases h with h | ⟨_, h⟩
  · rw [e, e'] at h; exact ltS_irr _ h
  · omega
theorem GR.disG {a : Rw} {g : List Rw} (h : ∀ x ∈ g, GR a x) {p k} (c : cov g p k) : ¬ covR a p k := by
  obtain ⟨x, m, c⟩ := c
  exact (h x m).dis c
/-- the common part of two rows of one piece -/
def meet (a b : Rw) : Rw := (a.1, (if b.2.1 > a.2.1 then b.2.1 else a.2.1), (if b.2.2 < a.2.2 then b.2.2 else a.2.2))
theorem meet_cov {a b : Rw} (e : a.1 = b.1) {p k} : covR (meet a b) p k ↔ covR a p k ∧ covR b p k := by
  unfold covR meet
  dsimp only
  constructor
  · rintro ⟨h, h1, h2⟩
    refine ⟨⟨h, ?_, ?_⟩, ⟨e ▸ h, ?_, ?_⟩⟩ <;> (split at h1 <;> split at h2 <;> omega)
  · rintro ⟨⟨h, h1, h2⟩, ⟨_, h3, h4⟩⟩
    refine ⟨h, ?_, ?_⟩ <;> split <;> omega
structure CI (A B : List Rw) (rows A' B' : List Rw) : Prop where
  g : isG rows
  a : isG A'
  b : isG B'
  bef : ∀ r ∈ rows, (∀ x ∈ A', GR r x) ∨ (∀ x ∈ B', GR r x)
  cv : ∀ p k, (cov A p k ∧ cov B p k) ↔ cov rows p k ∨ (cov A' p k ∧ cov B' p k)
theorem GR.right {r a n : Rw} (h : GR r a) (e : n.1 = a.1) (hb : a.2.1 ≤ n.2.1) : GR r n := by
  rcases h with h | ⟨h1, h2⟩
  · exact .inl (e ▸ h)
  · exact .inr ⟨h1.trans e.symm, by omega⟩
theorem GR.left {a n x : Rw} (h : GR a x) (e : n.1 = a.1) (hb : n.2.2 ≤ a.2.2) : GR n x := by
  rcases h with h | ⟨h1, h2⟩
  · exact .inl (by rw [e]; exact h)
  · exact .inr ⟨e.trans h1, by omega⟩
/-- the rows with the common part of the heads -/
def addM (rows : List Rw) (a b : Rw) : List Rw := if a.1 = b.1 then (if (meet a b).2.1 < (meet a b).2.2 then rows ++ [meet a b] else rows) else rows
theorem meet_b (a b : Rw) : a.2.1 ≤ (meet a b).2.1 ∧ b.2.1 ≤ (meet a b).2.1 ∧ (meet a b).2.2 ≤ a.2.2 ∧ (meet a b).2.2 ≤ b.2.2 := by
  unfold meet
  dsimp only
  refine ⟨?_, ?_, ?_, ?_⟩ <;> split <;> omega
theorem addM_cov {rows : List Rw} {a b : Rw} {p k} : cov (addM rows a b) p k ↔ cov rows p k ∨ (covR a p k ∧ covR b p k) := by
  unfold addM
  by_cases e : a.1 = b.1
  · rw [if_pos e]
    by_cases l : (meet a b).2.1 < (meet a b).2.2
    · rw [if_pos l, cov_app, cov_one, meet_cov e]
    · rw [if_neg l]
      refine ⟨.inl, fun h => h.resolve_right fun c => ?_⟩
      obtain ⟨_, h1, h2⟩ := (meet_cov e).mpr c
      omega
  · rw [if_neg e]
    refine ⟨.inl, fun h => h.resolve_right fun ⟨⟨c1, _⟩, ⟨c2, _⟩⟩ => e (c1.trans c2.symm)⟩
theorem addM_isG {A B rows A' B' : List Rw} {a b : Rw} (h : CI A B rows (a :: A') (b :: B')) : isG (addM rows a b) := by
  unfold addM
  by_cases e : a.1 = b.1
  · rw [if_pos e]
    by_cases l : (meet a b).2.1 < (meet a b).2.2
    · rw [if_pos l]
      have ga := h.a.1 a List.mem_cons_self
      unfold gd at ga
      obtain ⟨m1, m2, _, _⟩ := meet_b a b
      refine h.g.snoc ⟨by omega, l⟩ fun q m => ?_
      rcases h.bef q m with z | z
      · exact (z a List.mem_cons_self).right rfl m1
      · exact (z b List.mem_cons_self).right e m2
    · rw [if_neg l]; exact h.g
  · rw [if_neg e]; exact h.g
theorem CI.stepA {A B rows A' B' : List Rw} {a b : Rw} (h : CI A B rows (a :: A') (b :: B')) (le : leSI (a.1, a.2.2) (b.1, b.2.2) = true) : CI A B (addM rows a b) A' (b :: B') := by
  have pa := (List.pairwise_cons.mp h.a.2).1
  have pb := (List.pairwise_cons.mp h.b.2).1
  have far : ∀ p k, covR a p k → cov (b :: B') p k → covR b p k := by
    intro p k ca cb
    rw [cov_cons] at cb
    rcases cb with cb | ⟨x, mx, cx⟩
    · exact cb
    · have z := pb x mx
      unfold leSI at le
      obtain ⟨e1, h1, h2⟩ := ca
      obtain ⟨e2, h3, h4⟩ := cx
      exfalso
      by_cases e : a.1 = b.1
      · rw [if_pos e] at le
        have le' : a.2.2 ≤ b.2.2 := of_decide_eq_true le
        rcases z with z | ⟨_, z⟩
        · rw [← e, e1, e2] at z; exact ltS_irr _ z
        · omega
      · rw [if_neg e] at le
        have nl : ¬ ltS b.1 a.1 := by
          rw [Bool.not_eq_true'] at le
          exact of_decide_eq_false le
        have lt : ltS a.1 b.1 := by
          by_cases y : ltS a.1 b.1
          · exact y
          · exact absurd (ltS_tot y nl) e
        rcases z with z | ⟨z, _⟩
        · have := ltS_tr lt z
          rw [e1, e2] at this; exact ltS_irr _ this
        · rw [z, e2, e1] at lt; exact ltS_irr _ lt
  refine ⟨addM_isG h, h.a.tail, h.b, fun r m => ?_, fun p k => ?_⟩
  · have old : r ∈ rows → (∀ x ∈ A', GR r x) ∨ (∀ x ∈ b :: B', GR r x) := fun m => by
      rcases h.bef r m with z | z
      · exact .inl fun x mx => z x (List.mem_cons_of_mem _ mx)
      · exact .inr z
    unfold addM at m
    split at m
    · split at m
      · rcases List.mem_append.mp m with m | m
        · exact old m
        · rw [List.mem_singleton.mp m]
          exact .inl fun x mx => (pa x mx).left rfl (meet_b a b).2.2.1
      · exact old m
    · exact old m
  · rw [h.cv, addM_cov, cov_cons (r := a)]
    constructor
    · rintro (c | ⟨c | c, c'⟩)
      · exact .inl (.inl c)
      · exact .inl (.inr ⟨c, far p k c c'⟩)
      · exact .inr ⟨c, c'⟩
    · rintro ((c | ⟨c, c'⟩) | ⟨c, c'⟩)
      · exact .inl c
      · exact .inr ⟨.inl c, cov_cons.mpr (.inl c')⟩
      · exact .inr ⟨.inr c, c'⟩
theorem CI.stepB {A B rows A' B' : List Rw} {a b : Rw} (h : CI A B rows (a :: A') (b :: B')) (le : leSI (a.1, a.2.2) (b.1, b.2.2) = false) : CI A B (addM rows a b) (a :: A') B' := by
  have pa := (List.pairwise_cons.mp h.a.2).1
  have pb := (List.pairwise_cons.mp h.b.2).1
  have ord : (a.1 = b.1 ∧ b.2.2 < a.2.2) ∨ ltS b.1 a.1 := by
    unfold leSI at le
    by_cases e : a.1 = b.1
    · rw [if_pos e] at le
      have z : ¬ a.2.2 ≤ b.2.2 := of_decide_eq_false le
      exact .inl ⟨e, by omega⟩
    · rw [if_neg e] at le
      exact .inr (by
        have z : decide (b.1.cps.toList < a.1.cps.toList) = true := by simpa using le
        exact of_decide_eq_true z)
  have far : ∀ p k, covR b p k → cov (a :: A') p k → covR a p k := by
    intro p k cb ca
    rw [cov_cons] at ca
    rcases ca with ca | ⟨x, mx, cx⟩
    · exact ca
    · have z := pa x mx
      obtain ⟨e1, h1, h2⟩ := cb
      obtain ⟨e2, h3, h4⟩ := cx
      exfalso
      rcases ord with ⟨e, l⟩ | l
      · rcases z with z | ⟨_, z⟩
        · rw [e, e1, e2] at z; exact ltS_irr _ z
        · omega
      · rcases z with z | ⟨z, _⟩
        · have := ltS_tr l z
          rw [e1, e2] at this; exact ltS_irr _ this
        · rw [z, e1, e2] at l; exact ltS_irr _ l
  refine ⟨addM_isG h, h.a, h.b.tail, fun r m => ?_, fun p k => ?_⟩
  · have old : r ∈ rows → (∀ x ∈ a :: A', GR r x) ∨ (∀ x ∈ B', GR r x) := fun m => by
      rcases h.bef r m with z | z
      · exact .inl z
      · exact .inr fun x mx => z x (List.mem_cons_of_mem _ mx)
    unfold addM at m
    split at m
    · rename_i e
      split at m
      · rcases List.mem_append.mp m with m | m
        · exact old m
        · rw [List.mem_singleton.mp m]
          exact .inr fun x mx => (pb x mx).left e (meet_b a b).2.2.2
      · exact old m
    · exact old m
  · rw [h.cv, addM_cov, cov_cons (r := b)]
    constructor
    · rintro (c | ⟨c, c' | c'⟩)
      · exact .inl (.inl c)
      · exact .inl (.inr ⟨far p k c' c, c'⟩)
      · exact .inr ⟨c, c'⟩
    · rintro ((c | ⟨c, c'⟩) | ⟨c, c'⟩)
      · exact .inl c
      · exact .inr ⟨cov_cons.mpr (.inl c), .inl c'⟩
      · exact .inr ⟨c, .inr c'⟩
theorem addM_len (rows : List Rw) (a b : Rw) : (addM rows a b).length ≤ rows.length + 1 := by
  unfold addM
  split
  · split
    · simp
    · simp
  · simp
theorem whileN_s' {σ : Type} {n : Nat} {s : σ} {t : σ → Res Bool} {f : σ → Res σ} : whileN (n + 1) s t f = (t s).bind fun b => br b ((f s).bind fun s' => whileN n s' t f) (.ok s) := rfl
theorem common_while {A B : List Rw} {t : List Rw × Int × Int → Res Bool} {f : List Rw × Int × Int → Res (List Rw × Int × Int)}
    (ht : ∀ rows (i j : Nat), t (rows, (i : Int), (j : Int)) = .ok (decide (i < A.length) && decide (j < B.length)))
    (hf : ∀ rows (i j : Nat) a b, A[i]? = some a → B[j]? = some b → rows.length ≤ 1000 → f (rows, (i : Int), (j : Int)) = .ok (if leSI (a.1, a.2.2) (b.1, b.2.2) = true then (addM rows a b, ((i + 1 : Nat) : Int), (j : Int)) else (addM rows a b, (i : Int), ((j + 1 : Nat) : Int)))) :
    ∀ (n : Nat) (rows : List Rw) (i j : Nat), (A.length - i) + (B.length - j) < n → rows.length + ((A.length - i) + (B.length - j)) ≤ 1000 → CI A B rows (A.drop i) (B.drop j) → Ok (whileN n ((rows, (i : Int), (j : Int)) : List Rw × Int × Int) t f) (fun s => isG s.1 ∧ s.1.length ≤ 1000 ∧ ∀ p k, cov s.1 p k ↔ cov A p k ∧ cov B p k) := by
  intro n
  induction n with
  | zero => intro rows i j h; exact absurd h (Nat.not_lt_zero _)
  | succ n ih =>
    intro rows i j h hl ci
    rw [whileN_s', ht, bind_ok]
    by_cases hi : i < A.length
    · by_cases hj : j < B.length
      · rw [decide_eq_true hi, decide_eq_true hj]
        have ea : A.drop i = A[i] :: A.drop (i + 1) := List.drop_eq_getElem_cons hi
        have eb : B.drop j = B[j] :: B.drop (j + 1) := List.drop_eq_getElem_cons hj
        have al := addM_len rows A[i] B[j]
        rw [ea, eb] at ci
        show Ok ((f (rows, (i : Int), (j : Int))).bind _) _
        rw [hf rows i j _ _ (List.getElem?_eq_getElem hi) (List.getElem?_eq_getElem hj) (by omega), bind_ok]
        cases le : leSI (A[i].1, A[i].2.2) (B[j].1, B[j].2.2) with
        | true =>
          rw [if_pos rfl]
          refine ih _ (i + 1) j (by omega) (by omega) ?_
          rw [eb]
          exact ci.stepA le
        | false =>
          rw [if_neg (by decide)]
          refine ih _ i (j + 1) (by omega) (by omega) ?_
          rw [ea]
          exact ci.stepB le
      · rw [decide_eq_false hj, Bool.and_false, br_false]
        have e : B.drop j = [] := List.drop_eq_nil_of_le (by omega)
        rw [e] at ci
        refine Ok.ret ⟨ci.g, by show rows.length ≤ 1000; omega, fun p k => ?_⟩
        rw [ci.cv]
        exact ⟨.inl, fun h => h.resolve_right fun c => cov_nil c.2⟩
    · rw [decide_eq_false hi, Bool.false_and, br_false]
      have e : A.drop i = [] := List.drop_eq_nil_of_le (by omega)
      rw [e] at ci
      refine Ok.ret ⟨ci.g, by show rows.length ≤ 1000; omega, fun p k => ?_⟩
      rw [ci.cv]
      exact ⟨.inl, fun h => h.resolve_right fun c => cov_nil c.1⟩
end Kb
/-! Ki: a ground without another -/
namespace Kb
open PySem L2
/-- b ends ahead of a's begin -/
def Bf (b a : Rw) : Prop := ltS b.1 a.1 ∨ (b.1 = a.1 ∧ b.2.2 ≤ a.2.1)
theorem Bf.nc {b a : Rw} (h : Bf b a) {p x} (c : covR a p x) : ¬ covR b p x := by
  rintro ⟨e, h1, h2⟩
  obtain ⟨e', g1, g2⟩ := c
  rcases h with h | ⟨_, h⟩
  · rw [e, e'] at h; exact ltS_irr _ h
  · omega
theorem Bf.on {b a a' : Rw} (h : Bf b a) (ga : gd a) (g : GR a a') : Bf b a' := by
  unfold gd at ga
  rcases h with h | ⟨e, h⟩ <;> rcases g with g | ⟨e', g⟩
  · exact .inl (ltS_tr h g)
  · exact .inl (e' ▸ h)
  · exact .inl (by rw [e]; exact g)
  · exact .inr ⟨e.trans e', by omega⟩
theorem le_bf {b a : Rw} (h : leSI (b.1, b.2.2) (a.1, a.2.1) = true) : Bf b a := by
  unfold leSI at h
  by_cases e : b.1 = a.1
  · rw [if_pos e] at h
    exact .inr ⟨e, of_decide_eq_true h⟩
  · rw [if_neg e, Bool.not_eq_true'] at h
    have nl : ¬ ltS a.1 b.1 := of_decide_eq_false h
    refine .inl ?_
    by_cases y : ltS b.1 a.1
    · exact y
    · exact absurd (ltS_tot y nl) e
/-- b does not end ahead of a's begin -/
def Nb (b a : Rw) : Prop := ltS a.1 b.1 ∨ (b.1 = a.1 ∧ a.2.1 < b.2.2)
theorem nle_nb {b a : Rw} (h : leSI (b.1, b.2.2) (a.1, a.2.1) = false) : Nb b a := by
  unfold leSI at h
  by_cases e : b.1 = a.1
  · rw [if_pos e] at h
    have z : ¬ b.2.2 ≤ a.2.1 := of_decide_eq_false h
    exact .inr ⟨e, by omega⟩
  · rw [if_neg e] at h
    have z : decide (a.1.cps.toList < b.1.cps.toList) = true := by simpa using h
    exact .inl (of_decide_eq_true z)
theorem Nb.on {b b' a : Rw} (h : Nb b a) (gb : gd b) (gb' : gd b') (g : GR b b') : Nb b' a := by
  unfold gd at gb gb'
  rcases h with h | ⟨e, h⟩ <;> rcases g with g | ⟨e', g⟩
  · exact .inl (ltS_tr h g)
  · exact .inl (e' ▸ h)
  · exact .inl (by rw [← e]; exact g)
  · exact .inr ⟨e'.symm.trans e, by omega⟩
theorem lt_hit {b a : Rw} (n : Nb b a) (h : ltSI (b.1, b.2.1) (a.1, a.2.2) = true) : b.1 = a.1 ∧ b.2.1 < a.2.2 := by
  unfold ltSI at h
  by_cases e : b.1 = a.1
  · rw [if_pos e] at h
    exact ⟨e, of_decide_eq_true h⟩
  · rw [if_neg e] at h
    have z : ltS b.1 a.1 := of_decide_eq_true h
    rcases n with n | ⟨n, _⟩
    · exact absurd (ltS_tr z n) (ltS_irr _)
    · exact absurd n e
theorem nlt_far {b a : Rw} (h : ltSI (b.1, b.2.1) (a.1, a.2.2) = false) {p x} (c : covR a p x) : ¬ covR b p x := by
  unfold ltSI at h
  rintro ⟨e1, h1, h2⟩
  obtain ⟨e2, g1, g2⟩ := c
  have e : b.1 = a.1 := e1.trans e2.symm
  rw [if_pos e] at h
  have z : ¬ b.2.1 < a.2.2 := of_decide_eq_false h
  omega
theorem nlt_far' {b b' a : Rw} (n : Nb b a) (gb : gd b) (h : ltSI (b.1, b.2.1) (a.1, a.2.2) = false) (g : GR b b') {p x} (c : covR a p x) : ¬ covR b' p x := by
  unfold ltSI at h
  unfold gd at gb
  rintro ⟨e1, h1, h2⟩
  obtain ⟨e2, g1, g2⟩ := c
  have e : b'.1 = a.1 := e1.trans e2.symm
  by_cases q : b.1 = a.1
  · rw [if_pos q] at h
    have z : ¬ b.2.1 < a.2.2 := of_decide_eq_false h
    rcases g with g | ⟨_, g⟩
    · rw [q, e] at g; exact ltS_irr _ g
    · omega
  · have lt : ltS a.1 b.1 := n.resolve_right fun z => q z.1
    rcases g with g | ⟨g, _⟩
    · rw [e] at g; exact ltS_irr _ (ltS_tr lt g)
    · rw [g, e] at lt; exact ltS_irr _ lt
/-- the inner loop's invariant: rows0 what stood, rows what stands, at the first cell of a not yet told, B1 ++ B2 = B -/
structure WI (B rows0 A2 : List Rw) (a : Rw) (rows : List Rw) (at_ : Int) (B1 B2 : List Rw) : Prop where
  g : isG rows
  lo : a.2.1 ≤ at_
  bef : ∀ q ∈ rows, ltS q.1 a.1 ∨ (q.1 = a.1 ∧ q.2.2 < at_)
  fut : ∀ q ∈ rows, ∀ a' ∈ A2, GR q a'
  cv : ∀ p x, cov rows p x ↔ cov rows0 p x ∨ (covR a p x ∧ x < at_ ∧ ¬ cov B p x)
  past : ∀ p x, covR a p x → at_ ≤ x → ¬ cov B1 p x
  nb : ∀ b ∈ B2, Nb b a
  gb : isG B2
  eB : ∀ p x, cov B p x ↔ cov B1 p x ∨ cov B2 p x
theorem WI.row {B rows0 A2 rows B1 B2 : List Rw} {a : Rw} {at_ e : Int} (w : WI B rows0 A2 a rows at_ B1 B2) (ga : gd a) (h : at_ < e) : isG (rows ++ [(a.1, at_, e)]) := by
  unfold gd at ga
  have lo := w.lo
  refine w.g.snoc ⟨by show 0 ≤ at_; omega, h⟩ fun q m => ?_
  rcases w.bef q m with z | z
  · exact .inl z
  · exact .inr z
theorem WI.turn {B rows0 A2 rows B1 B2 : List Rw} {a b : Rw} {at_ : Int} (w : WI B rows0 A2 a rows at_ B1 (b :: B2)) (ga : gd a) (ha2 : ∀ a' ∈ A2, GR a a') (hit : ltSI (b.1, b.2.1) (a.1, a.2.2) = true) :
    WI B rows0 A2 a (if at_ < b.2.1 then rows ++ [(a.1, at_, b.2.1)] else rows) (if b.2.2 > at_ then b.2.2 else at_) (B1 ++ [b]) B2 := by
  obtain ⟨eb, hb⟩ := lt_hit (w.nb b List.mem_cons_self) hit
  have gb := w.gb.1 b List.mem_cons_self
  have pb := (List.pairwise_cons.mp w.gb.2).1
  have lo := w.lo
  have hm : at_ ≤ (if b.2.2 > at_ then b.2.2 else at_) ∧ b.2.2 ≤ (if b.2.2 > at_ then b.2.2 else at_) ∧ ((if b.2.2 > at_ then b.2.2 else at_) = at_ ∨ (if b.2.2 > at_ then b.2.2 else at_) = b.2.2) := by
    split <;> omega
  generalize (if b.2.2 > at_ then b.2.2 else at_) = m at hm
  unfold gd at gb
  -- the gap ahead of b is free
  have free : ∀ p x, covR a p x → at_ ≤ x → x < b.2.1 → ¬ cov B p x := by
    intro p x c h1 h2 cb
    rcases (w.eB p x).mp cb with cb | cb
    · exact w.past p x c h1 cb
    · rw [cov_cons] at cb
      rcases cb with ⟨_, z, _⟩ | ⟨y, my, e, z1, z2⟩
      · omega
      · rcases pb y my with z | ⟨_, z⟩
        · rw [eb, e, c.1] at z; exact ltS_irr _ z
        · omega
  have cvn : ∀ p x, (cov rows0 p x ∨ (covR a p x ∧ x < m ∧ ¬ cov B p x)) ↔ (cov rows p x ∨ (covR a p x ∧ at_ ≤ x ∧ x < b.2.1)) := by
    intro p x
    rw [w.cv]
    constructor
    · rintro (c | ⟨c, h1, h2⟩)
      · exact .inl (.inl c)
      · by_cases y : x < at_
        · exact .inl (.inr ⟨c, y, h2⟩)
        · refine .inr ⟨c, by omega, ?_⟩
          by_cases z : x < b.2.1
          · exact z
          · exact absurd ((w.eB p x).mpr (.inr (cov_cons.mpr (.inl ⟨eb.trans c.1, by omega, by omega⟩)))) h2
    · rintro ((c | ⟨c, h1, h2⟩) | ⟨c, h1, h2⟩)
      · exact .inl c
      · exact .inr ⟨c, by omega, h2⟩
      · exact .inr ⟨c, by omega, free p x c h1 h2⟩
  refine ⟨?_, by omega, ?_, ?_, fun p x => ?_, fun p x c h1 => ?_, fun y my => w.nb y (List.mem_cons_of_mem _ my), w.gb.tail, fun p x => ?_⟩
  · split
    · rename_i h; exact w.row ga h
    · exact w.g
  · intro q hq
    have old : q ∈ rows → ltS q.1 a.1 ∨ (q.1 = a.1 ∧ q.2.2 < m) := fun mq => (w.bef q mq).imp id fun z => ⟨z.1, by omega⟩
    split at hq
    · rcases List.mem_append.mp hq with hq | hq
      · exact old hq
      · rw [List.mem_singleton.mp hq]
        exact .inr ⟨rfl, by show b.2.1 < m; omega⟩
    · exact old hq
  · intro q hq a' ma
    split at hq
    · rcases List.mem_append.mp hq with hq | hq
      · exact w.fut q hq a' ma
      · rw [List.mem_singleton.mp hq]
        exact (ha2 a' ma).left rfl (by show b.2.1 ≤ a.2.2; omega)
    · exact w.fut q hq a' ma
  · rw [cvn]
    split
    · rw [cov_app, cov_one]
      constructor
      · rintro (c | ⟨c1, c2, c3⟩)
        · exact .inl c
        · exact .inr ⟨⟨c1, by have : at_ ≤ x := c2; omega, by have : x < b.2.1 := c3; omega⟩, c2, c3⟩
      · rintro (c | ⟨c, h1, h2⟩)
        · exact .inl c
        · exact .inr ⟨c.1, h1, h2⟩
    · rename_i h
      exact ⟨.inl, fun z => z.resolve_right fun ⟨_, h1, h2⟩ => h (by omega)⟩
  · rw [cov_app, cov_one]
    rintro (z | ⟨_, z1, z2⟩)
    · exact w.past p x c (by omega) z
    · omega
  · rw [w.eB, cov_cons, cov_app, cov_one, or_assoc]
theorem WI.stop {B rows0 A2 rows B1 B2 : List Rw} {a : Rw} {at_ : Int} (w : WI B rows0 A2 a rows at_ B1 B2) (ga : gd a) (ha2 : ∀ a' ∈ A2, GR a a') (far : ∀ p x, covR a p x → ¬ cov B2 p x) :
    isG (if at_ < a.2.2 then rows ++ [(a.1, at_, a.2.2)] else rows) ∧ (∀ q ∈ (if at_ < a.2.2 then rows ++ [(a.1, at_, a.2.2)] else rows), ∀ a' ∈ A2, GR q a') ∧ ∀ p x, cov (if at_ < a.2.2 then rows ++ [(a.1, at_, a.2.2)] else rows) p x ↔ cov rows0 p x ∨ (covR a p x ∧ ¬ cov B p x) := by
  have lo := w.lo
  have nc : ∀ p x, covR a p x → at_ ≤ x → ¬ cov B p x := fun p x c h cb => by
    rcases (w.eB p x).mp cb with cb | cb
    · exact w.past p x c h cb
    · exact far p x c cb
  refine ⟨?_, fun q hq a' ma => ?_, fun p x => ?_⟩
  · split
    · rename_i h; exact w.row ga h
    · exact w.g
  · split at hq
    · rcases List.mem_append.mp hq with hq | hq
      · exact w.fut q hq a' ma
      · rw [List.mem_singleton.mp hq]
        exact (ha2 a' ma).left rfl (Int.le_refl _)
    · exact w.fut q hq a' ma
  · have tail : (cov rows p x ∨ (covR a p x ∧ at_ ≤ x)) ↔ cov rows0 p x ∨ (covR a p x ∧ ¬ cov B p x) := by
      rw [w.cv]
      constructor
      · rintro ((c | ⟨c, h1, h2⟩) | ⟨c, h⟩)
        · exact .inl c
        · exact .inr ⟨c, h2⟩
        · exact .inr ⟨c, nc p x c h⟩
      · rintro (c | ⟨c, h⟩)
        · exact .inl (.inl c)
        · by_cases y : x < at_
          · exact .inl (.inr ⟨c, y, h⟩)
          · exact .inr ⟨c, by omega⟩
    rw [← tail]
    split
    · rw [cov_app, cov_one]
      constructor
      · rintro (c | ⟨c1, c2, c3⟩)
        · exact .inl c
        · exact .inr ⟨⟨c1, by have : at_ ≤ x := c2; omega, c3⟩, c2⟩
      · rintro (c | ⟨c, h1⟩)
        · exact .inl c
        · exact .inr ⟨c.1, h1, c.2.2⟩
    · rename_i h
      exact ⟨.inl, fun z => z.resolve_right fun ⟨c, h1⟩ => by have := c.2.2; omega⟩
end Kb
/-! Kj: the loops of `without`; sizes -/
namespace Kb
open PySem L2
theorem isG.drop {g : List Rw} (h : isG g) (i : Nat) : isG (g.drop i) := ⟨fun r m => h.1 r (List.mem_of_mem_drop m), h.2.sublist (List.drop_sublist i g)⟩
theorem skip_while {B : List Rw} {a : Rw} {t : Int → Res Bool} {f : Int → Res Int} (ht : ∀ (j : Nat) b, B[j]? = some b → t (j : Int) = .ok (leSI (b.1, b.2.2) (a.1, a.2.1))) (ht0 : ∀ j : Nat, B.length ≤ j → t (j : Int) = .ok false) (hf : ∀ j : Nat, f (j : Int) = .ok ((j + 1 : Nat) : Int)) :
    ∀ (n j : Nat), B.length - j < n → j ≤ B.length → (∀ b ∈ B.take j, Bf b a) → Ok (whileN n (j : Int) t f) (fun s => ∃ j' : Nat, s = (j' : Int) ∧ j' ≤ B.length ∧ (∀ b ∈ B.take j', Bf b a) ∧ ∀ b, B[j']? = some b → Nb b a) := by
  intro n
  induction n with
  | zero => intro j h; exact absurd h (Nat.not_lt_zero _)
  | succ n ih =>
    intro j h hj hb
    rw [whileN_s']
    by_cases hlt : j < B.length
    · have e := List.getElem?_eq_getElem hlt
      rw [ht j _ e, bind_ok]
      cases le : leSI (B[j].1, B[j].2.2) (a.1, a.2.1) with
      | true =>
        rw [br_true, hf, bind_ok]
        refine ih (j + 1) (by omega) hlt fun b m => ?_
        rw [List.take_add_one, e] at m
        rcases List.mem_append.mp m with m | m
        · exact hb b m
        · rw [List.mem_singleton.mp (show b ∈ [B[j]] from m)]
          exact le_bf le
      | false =>
        rw [br_false]
        exact Ok.ret ⟨j, rfl, hj, hb, fun b eb => by rw [e] at eb; rw [← Option.some.inj eb]; exact nle_nb le⟩
    · rw [ht0 j (by omega), bind_ok, br_false]
      exact Ok.ret ⟨j, rfl, hj, hb, fun b eb => by rw [List.getElem?_eq_none (by omega)] at eb; cases eb⟩
theorem hit_while {B rows0 A2 : List Rw} {a : Rw} (ga : gd a) (ha2 : ∀ a' ∈ A2, GR a a') {t : List Rw × Int × Int → Res Bool} {f : List Rw × Int × Int → Res (List Rw × Int × Int)}
    (ht : ∀ rows at_ (k : Nat) b, B[k]? = some b → t (rows, at_, (k : Int)) = .ok (ltSI (b.1, b.2.1) (a.1, a.2.2))) (ht0 : ∀ rows at_ (k : Nat), B.length ≤ k → t (rows, at_, (k : Int)) = .ok false)
    (hf : ∀ rows at_ (k : Nat) b, B[k]? = some b → rows.length ≤ 100000 → f (rows, at_, (k : Int)) = .ok ((if at_ < b.2.1 then rows ++ [(a.1, at_, b.2.1)] else rows), (if b.2.2 > at_ then b.2.2 else at_), ((k + 1 : Nat) : Int))) :
    ∀ (n : Nat) (rows : List Rw) (at_ : Int) (k : Nat), B.length - k < n → rows.length + (B.length - k) ≤ 100000 → WI B rows0 A2 a rows at_ (B.take k) (B.drop k) →
      Ok (whileN n ((rows, at_, (k : Int)) : List Rw × Int × Int) t f) (fun s => s.1.length ≤ rows.length + (B.length - k) ∧ ∃ B1 B2, WI B rows0 A2 a s.1 s.2.1 B1 B2 ∧ ∀ p x, covR a p x → ¬ cov B2 p x) := by
  intro n
  induction n with
  | zero => intro rows at_ k h; exact absurd h (Nat.not_lt_zero _)
  | succ n ih =>
    intro rows at_ k h hl w
    rw [whileN_s']
    by_cases hlt : k < B.length
    · have e := List.getElem?_eq_getElem hlt
      have ed : B.drop k = B[k] :: B.drop (k + 1) := List.drop_eq_getElem_cons hlt
      rw [ed] at w
      rw [ht _ _ k _ e, bind_ok]
      cases le : ltSI (B[k].1, B[k].2.1) (a.1, a.2.2) with
      | true =>
        have w' := w.turn ga ha2 le
        have et : B.take (k + 1) = B.take k ++ [B[k]] := by rw [List.take_add_one, e]; rfl
        rw [← et] at w'
        rw [br_true, hf _ _ k _ e (by omega), bind_ok]
        have len : (if at_ < B[k].2.1 then rows ++ [(a.1, at_, B[k].2.1)] else rows).length ≤ rows.length + 1 := by split <;> simp
        refine (ih _ _ (k + 1) (by omega) (by omega) w').imp fun s hs => ⟨by have := hs.1; omega, hs.2⟩
      | false =>
        rw [br_false]
        refine Ok.ret ⟨by show rows.length ≤ _; omega, _, _, w, fun p x c z => ?_⟩
        rw [cov_cons] at z
        rcases z with z | ⟨y, my, z⟩
        · exact nlt_far le c z
        · exact nlt_far' (w.nb _ List.mem_cons_self) (w.gb.1 _ List.mem_cons_self) le ((List.pairwise_cons.mp w.gb.2).1 y my) c z
    · rw [ht0 _ _ k (by omega), bind_ok, br_false]
      have e : B.drop k = [] := List.drop_eq_nil_of_le (by omega)
      rw [e] at w
      exact Ok.ret ⟨by show rows.length ≤ _; omega, _, _, w, fun p x _ => cov_nil⟩
theorem WI.start {B rows A2 : List Rw} {a : Rw} {j : Nat} (hB : isG B) (hg : isG rows) (ga : gd a) (h1 : ∀ q ∈ rows, GR q a) (h2 : ∀ q ∈ rows, ∀ a' ∈ A2, GR q a') (hb : ∀ b ∈ B.take j, Bf b a) (hn : ∀ b, B[j]? = some b → Nb b a) : WI B rows A2 a rows a.2.1 (B.take j) (B.drop j) where
  g := hg
  lo := Int.le_refl _
  bef q m := h1 q m
  fut := h2
  cv p x := ⟨.inl, fun h => h.resolve_right fun ⟨c, z, _⟩ => by have := c.2.1; omega⟩
  past p x c _ := fun ⟨b, m, cb⟩ => (hb b m).nc c cb
  nb := by
    intro b m
    by_cases hj : j < B.length
    · have ed : B.drop j = B[j] :: B.drop (j + 1) := List.drop_eq_getElem_cons hj
      have hG := hB.drop j
      rw [ed] at m hG
      have h0 := hn _ (List.getElem?_eq_getElem hj)
      rcases List.mem_cons.mp m with rfl | m
      · exact h0
      · exact h0.on (hG.1 _ List.mem_cons_self) (hG.1 b (List.mem_cons_of_mem _ m)) ((List.pairwise_cons.mp hG.2).1 b m)
    · rw [List.drop_eq_nil_of_le (by omega)] at m; cases m
  gb := hB.drop j
  eB p x := by rw [← cov_app, List.take_append_drop]
/-! #### sizes -/
def sz (g : List Rw) : Int := List.sum (g.map fun r => r.2.2 - r.2.1)
/-- how many of the cells are covered -/
def ind (c : Prop) [Decidable c] : Int := if c then 1 else 0
theorem ind_iff {c d : Prop} [Decidable c] [Decidable d] (h : c ↔ d) : ind c = ind d := by
  unfold ind
  by_cases y : d
  · rw [if_pos (h.mpr y), if_pos y]
  · rw [if_neg (fun z => y (h.mp z)), if_neg y]
instance {r : Rw} {p : PySem.Str} {x : Int} : Decidable (covR r p x) := inferInstanceAs (Decidable (r.1 = p ∧ r.2.1 ≤ x ∧ x < r.2.2))
def cnt (U : List (PySem.Str × Int)) (q : PySem.Str × Int → Int) : Int := List.sum (U.map q)
theorem cnt_add {U : List (PySem.Str × Int)} {q r : PySem.Str × Int → Int} : cnt U (fun u => q u + r u) = cnt U q + cnt U r := by
  unfold cnt
  induction U with
  | nil => rfl
  | cons u U ih => simp only [List.map_cons, List.sum_cons]; omega
theorem cnt_eq {U : List (PySem.Str × Int)} {q r : PySem.Str × Int → Int} (h : ∀ u ∈ U, q u = r u) : cnt U q = cnt U r := by
  unfold cnt
  rw [List.map_congr_left h]
theorem cnt_app {U V : List (PySem.Str × Int)} {q : PySem.Str × Int → Int} : cnt (U ++ V) q = cnt U q + cnt V q := by
  unfold cnt
  rw [List.map_append, List.sum_append]
theorem cnt_zero {U : List (PySem.Str × Int)} {q : PySem.Str × Int → Int} (h : ∀ u ∈ U, q u = 0) : cnt U q = 0 := by
  unfold cnt
  induction U with
  | nil => rfl
  | cons u U ih =>
    rw [List.map_cons, List.sum_cons, h u List.mem_cons_self, ih fun v m => h v (List.mem_cons_of_mem _ m)]
    rfl
/-- the cells of the pieces up to M -/
def univ (ps : List PySem.Str) (M : Nat) : List (PySem.Str × Int) := ps.flatMap fun p => (List.range M).map fun k : Nat => (p, (k : Int))
theorem cnt_line {p : PySem.Str} {b e : Int} (h0 : 0 ≤ b) (h1 : b < e) : ∀ M : Nat, cnt ((List.range M).map fun k : Nat => (p, (k : Int))) (fun u => ind (b ≤ u.2 ∧ u.2 < e)) = (if (M : Int) ≤ b then 0 else if (M : Int) ≤ e then M - b else e - b)
  | 0 => by
    rw [if_pos (by omega)]
    rfl
  | M + 1 => by
    rw [List.range_succ, List.map_append, cnt_app, cnt_line h0 h1 M]
    have e1 : cnt ([M].map fun k => (p, ((k : Nat) : Int))) (fun u => ind (b ≤ u.2 ∧ u.2 < e)) = ind (b ≤ (M : Int) ∧ (M : Int) < e) := by
      unfold cnt
      simp
    rw [e1]
    unfold ind
    split <;> split <;> (try split) <;> (try split) <;> (try split) <;> omega
theorem cnt_row {r : Rw} {ps : List PySem.Str} {M : Nat} (hr : gd r) (hM : r.2.2 ≤ M) (hp : r.1 ∈ ps) (nd : ps.Nodup) : cnt (univ ps M) (fun u => ind (covR r u.1 u.2)) = r.2.2 - r.2.1 := by
  unfold gd at hr
  induction ps with
  | nil => cases hp
  | cons p ps ih =>
    obtain ⟨n1, n2⟩ := List.nodup_cons.mp nd
    have split' : univ (p :: ps) M = ((List.range M).map fun k : Nat => (p, (k : Int))) ++ univ ps M := rfl
    rw [split', cnt_app]
    by_cases e : r.1 = p
    · have z : cnt (univ ps M) (fun u => ind (covR r u.1 u.2)) = 0 := cnt_zero fun u mu => by
        obtain ⟨q, mq, mu⟩ := List.mem_flatMap.mp mu
        obtain ⟨k, _, rfl⟩ := List.mem_map.mp mu
        unfold ind
        rw [if_neg]
        rintro ⟨c, _⟩
        rw [e] at c
        exact n1 (c ▸ mq)
      rw [z]
      have l := cnt_line (p := p) (b := r.2.1) (e := r.2.2) hr.1 hr.2 M
      rw [cnt_eq (r := fun u => ind (r.2.1 ≤ u.2 ∧ u.2 < r.2.2)) fun u mu => by
        obtain ⟨k, _, rfl⟩ := List.mem_map.mp mu
        exact ind_iff ⟨fun y => y.2, fun y => ⟨e, y⟩⟩, l]
      rw [if_neg (by omega)]
      split <;> omega
    · have z : cnt ((List.range M).map fun k : Nat => (p, (k : Int))) (fun u => ind (covR r u.1 u.2)) = 0 := cnt_zero fun u mu => by
        obtain ⟨k, _, rfl⟩ := List.mem_map.mp mu
        unfold ind
        rw [if_neg]
        rintro ⟨c, _⟩
        exact e c
      rw [z, ih ((List.mem_cons.mp hp).resolve_left e) n2]
      omega
theorem cnt_ground {ps : List PySem.Str} {M : Nat} (nd : ps.Nodup) : ∀ {g : List Rw}, isG g → (∀ r ∈ g, r.2.2 ≤ M ∧ r.1 ∈ ps) → cnt (univ ps M) (fun u => ind (cov g u.1 u.2)) = sz g
  | [], _, _ => cnt_zero fun u _ => by unfold ind; rw [if_neg cov_nil]
  | r :: g, hg, hb => by
    have ih := cnt_ground nd (g := g) hg.tail fun q m => hb q (List.mem_cons_of_mem _ m)
    have hr := cnt_row (hg.1 r List.mem_cons_self) (hb r List.mem_cons_self).1 (hb r List.mem_cons_self).2 nd
    have e : sz (r :: g) = (r.2.2 - r.2.1) + sz g := by unfold sz; rw [List.map_cons, List.sum_cons]
    rw [e, ← hr, ← ih, ← cnt_add]
    refine cnt_eq fun u _ => ?_
    unfold ind
    by_cases c : covR r u.1 u.2
    · have n : ¬ cov g u.1 u.2 := fun z => GR.disG (List.pairwise_cons.mp hg.2).1 z c
      rw [if_pos (cov_cons.mpr (.inl c)), if_pos c, if_neg n]
      rfl
    · by_cases d : cov g u.1 u.2
      · rw [if_pos (cov_cons.mpr (.inr d)), if_neg c, if_pos d]
        rfl
      · rw [if_neg (fun z => (cov_cons.mp z).elim c d), if_neg c, if_neg d]
        rfl
/-- a bound for the cells of many rows -/
theorem bounds (g : List Rw) : ∃ (M : Nat) (ps : List PySem.Str), ps.Nodup ∧ ∀ r ∈ g, r.2.2 ≤ M ∧ r.1 ∈ ps := by
  induction g with
  | nil => exact ⟨0, [], .nil, fun r m => (by cases m)⟩
  | cons r g ih =>
    obtain ⟨M, ps, nd, h⟩ := ih
    by_cases m : r.1 ∈ ps
    · refine ⟨max M r.2.2.toNat, ps, nd, fun q mq => ?_⟩
      rcases List.mem_cons.mp mq with rfl | mq
      · exact ⟨by omega, m⟩
      · exact ⟨by have := (h q mq).1; omega, (h q mq).2⟩
    · refine ⟨max M r.2.2.toNat, r.1 :: ps, List.nodup_cons.mpr ⟨m, nd⟩, fun q mq => ?_⟩
      rcases List.mem_cons.mp mq with rfl | mq
      · exact ⟨by omega, List.mem_cons_self⟩
      · exact ⟨by have := (h q mq).1; omega, List.mem_cons_of_mem _ (h q mq).2⟩
/-- sizes add up where the cells do -/
theorem sz_add {a b c d : List Rw} (ha : isG a) (hb : isG b) (hc : isG c) (hd : isG d) (h : ∀ p x, ind (cov a p x) + ind (cov b p x) = ind (cov c p x) + ind (cov d p x)) : sz a + sz b = sz c + sz d := by
  obtain ⟨M, ps, nd, hm⟩ := bounds (a ++ b ++ c ++ d)
  have mm : ∀ {g : List Rw}, (∀ r ∈ g, r ∈ a ++ b ++ c ++ d) → ∀ r ∈ g, r.2.2 ≤ M ∧ r.1 ∈ ps := fun hs r m => hm r (hs r m)
  rw [← cnt_ground nd ha (mm fun r m => by simp [m]), ← cnt_ground nd hb (mm fun r m => by simp [m]), ← cnt_ground nd hc (mm fun r m => by simp [m]), ← cnt_ground nd hd (mm fun r m => by simp [m]), ← cnt_add, ← cnt_add]
  exact cnt_eq fun u _ => h u.1 u.2
end Kb
/-! Pg: ground -/
namespace Lw
open PySem L2 Kb
theorem check_ok {r : Rw} (h : gd r) : m_check_row r = .ok () := by
  unfold m_check_row
  obtain ⟨h1, h2⟩ := h
  rw [decide_eq_false (show ¬ r.2.1 < 0 by omega), decide_eq_false (show ¬ r.2.2 ≤ r.2.1 by omega)]
  rfl
theorem checks_ok : ∀ {rows : List Rw}, (∀ r ∈ rows, gd r) → forN rows () (fun _ x => (m_check_row x).bind fun _ => .ok ()) = .ok ()
  | [], _ => rfl
  | r :: rows, h => by
    rw [forN_cons, check_ok (h r List.mem_cons_self)]
    exact checks_ok fun q hq => h q (List.mem_cons_of_mem _ hq)
theorem normal_ok {rows : List Rw} (h : ∀ r ∈ rows, gd r) (hl : rows.length ≤ 1000000) : m_normal rows = .ok (nrm rows) := by
  unfold m_normal
  rw [checks_ok h, bind_ok, normal_loop (by rw [(sortK_perm rows).length_eq]; exact hl)]
  rfl
theorem size_ok {g : List Rw} (h : g.length ≤ 1000000) : m_size g = .ok (List.sum (g.map fun r => r.2.2 - r.2.1)) := by
  unfold m_size
  have hz := sizeLine_big
  rw [decide_eq_true (show g.length ≤ sizeLine by omega), chk_true, compN_map (fun r : Rw => r.2.2 - r.2.1) fun x _ => rfl]
  rfl
theorem neg_decide_eq {a b : Bool} (h : a = b) : (!decide (a = b)) = false := by rw [decide_eq_true h]; rfl
theorem common_ok {A B : List Rw} (hA : isG A) (hB : isG B) (la : A.length ≤ 100) (lb : B.length ≤ 100) : Ok (m_common A B) (fun g => isG g ∧ g.length ≤ 1000 ∧ ∀ p k, cov g p k ↔ cov A p k ∧ cov B p k) := by
  unfold m_common
  have hz := sizeLine_big
  refine Ok.bind (common_while (A := A) (B := B) ?_ ?_ _ [] 0 0 (by omega) (by simp; omega) ⟨isG.nil, hA, hB, fun r m => (by cases m), fun p k => ⟨.inr, fun h => h.resolve_left cov_nil⟩⟩) fun s hs => Ok.ret hs
  · intro rows i j
    have e1 : decide (((rows, (i : Int), (j : Int)) : List Rw × Int × Int).2.1 < (A.length : Int)) = decide (i < A.length) := decide_eq_decide.mpr (by show (i : Int) < _ ↔ _; omega)
    have e2 : decide (((rows, (i : Int), (j : Int)) : List Rw × Int × Int).2.2 < (B.length : Int)) = decide (j < B.length) := decide_eq_decide.mpr (by show (j : Int) < _ ↔ _; omega)
    rw [e1, e2]
    cases decide (i < A.length) <;> cases decide (j < B.length) <;> rfl
  · intro rows i j a b ha hb hl
    have ea : atI A (i : Int) = some a := atI_of (by omega) (by rw [Int.toNat_natCast]; exact ha)
    have eb : atI B (j : Int) = some b := atI_of (by omega) (by rw [Int.toNat_natCast]; exact hb)
    have hlt : decide (rows.length < sizeLine) = true := decide_eq_true (by omega)
    dsimp only
    simp only [ea, eb, opt_some, hlt, chk_true]
    by_cases e : a.1 = b.1
    · rw [decide_eq_true e, br_true]
      by_cases l : (meet a b).2.1 < (meet a b).2.2
      · have l' : decide ((if b.2.1 > a.2.1 then b.2.1 else a.2.1) < (if b.2.2 < a.2.2 then b.2.2 else a.2.2)) = true := decide_eq_true l
        have em : addM rows a b = rows ++ [meet a b] := by unfold addM; rw [if_pos e, if_pos l]
        rw [l', br_true, bind_ok, bind_ok, em]
        cases leSI (a.1, a.2.2) (b.1, b.2.2) <;> rfl
      · have l' : decide ((if b.2.1 > a.2.1 then b.2.1 else a.2.1) < (if b.2.2 < a.2.2 then b.2.2 else a.2.2)) = false := decide_eq_false l
        have em : addM rows a b = rows := by unfold addM; rw [if_pos e, if_neg l]
        rw [l', br_false, bind_ok, bind_ok, em]
        cases leSI (a.1, a.2.2) (b.1, b.2.2) <;> rfl
    · have em : addM rows a b = rows := by unfold addM; rw [if_neg e]
      rw [decide_eq_false e, br_false, bind_ok, em]
      cases leSI (a.1, a.2.2) (b.1, b.2.2) <;> rfl
theorem without_ok {A B : List Rw} (hA : isG A) (hB : isG B) (la : A.length ≤ 100) (lb : B.length ≤ 100) : Ok (m_without A B) (fun g => isG g ∧ g.length ≤ 20000 ∧ ∀ p k, cov g p k ↔ cov A p k ∧ ¬ cov B p k) := by
  unfold m_without
  have hz := sizeLine_big
  refine Ok.forN (fun i (s : List Rw × Int) => ∃ j : Nat, s.2 = (j : Int) ∧ j ≤ B.length ∧ isG s.1 ∧ s.1.length ≤ 101 * i ∧ (∀ q ∈ s.1, ∀ a ∈ A.drop i, GR q a) ∧ (∀ b ∈ B.take j, ∀ a ∈ A.drop i, Bf b a) ∧ ∀ p x, cov s.1 p x ↔ cov (A.take i) p x ∧ ¬ cov B p x)
    ⟨0, rfl, Nat.zero_le _, isG.nil, Nat.le_refl _, fun q m => (by cases m), fun q m => (by simp at m), fun p x => ⟨fun c => absurd c cov_nil, fun c => absurd c.1 cov_nil⟩⟩ ?_ ?_
  · rintro i ⟨rows, js⟩ a hx ⟨j, ej, hj, hg, hl, hf, hb, hc⟩
    have ej' : js = (j : Int) := ej
    subst ej'
    obtain ⟨hi, ei⟩ := List.getElem?_eq_some_iff.mp hx
    have ed : A.drop i = a :: A.drop (i + 1) := by rw [List.drop_eq_getElem_cons hi, ei]
    have hAd := hA.drop i
    rw [ed] at hAd hf hb
    have ga := hAd.1 a List.mem_cons_self
    have ha2 := (List.pairwise_cons.mp hAd.2).1
    have hl' : rows.length ≤ 101 * i := hl
    refine Ok.bind (skip_while (B := B) (a := a) ?_ ?_ ?_ _ j (by omega) hj (fun b m => hb b m a List.mem_cons_self)) ?_
    · intro j b eb
      have hjl := (List.getElem?_eq_some_iff.mp eb).1
      have ea : atI B (j : Int) = some b := atI_of (by omega) (by rw [Int.toNat_natCast]; exact eb)
      try dsimp only
      rw [decide_eq_true (show (j : Int) < (B.length : Int) by omega), br_true]
      simp only [ea, opt_some]
      cases leSI (b.1, b.2.2) (a.1, a.2.1) <;> rfl
    · intro j hj
      try dsimp only
      rw [decide_eq_false (show ¬ (j : Int) < (B.length : Int) by omega), br_false]
    · intro j
      show Res.ok ((j : Int) + 1) = _
      congr 1
    rintro s ⟨j', rfl, hj', hb', hn'⟩
    have w0 := WI.start (A2 := A.drop (i + 1)) hB hg ga (fun q m => hf q m a List.mem_cons_self) (fun q m a' ma => hf q m a' (List.mem_cons_of_mem _ ma)) hb' hn'
    refine Ok.bind (hit_while ga ha2 ?_ ?_ ?_ _ rows a.2.1 j' (by omega) (by omega) w0) ?_
    · intro rows at_ k b eb
      have hjl := (List.getElem?_eq_some_iff.mp eb).1
      have ea : atI B (k : Int) = some b := atI_of (by omega) (by rw [Int.toNat_natCast]; exact eb)
      try dsimp only
      rw [decide_eq_true (show (k : Int) < (B.length : Int) by omega), br_true]
      simp only [ea, opt_some]
      cases ltSI (b.1, b.2.1) (a.1, a.2.2) <;> rfl
    · intro rows at_ k hk
      try dsimp only
      rw [decide_eq_false (show ¬ (k : Int) < (B.length : Int) by omega), br_false]
    · intro rows at_ k b eb hr
      have ea : atI B (k : Int) = some b := atI_of (by omega) (by rw [Int.toNat_natCast]; exact eb)
      have hlt : decide (rows.length < sizeLine) = true := decide_eq_true (by omega)
      try dsimp only
      simp only [ea, opt_some, hlt, chk_true]
      by_cases l : at_ < b.2.1
      · rw [decide_eq_true l, br_true, bind_ok, if_pos l]
        rfl
      · rw [decide_eq_false l, br_false, bind_ok, if_neg l]
        rfl
    rintro ⟨rows', at_, k'⟩ ⟨hl2, B1, B2, w, far⟩
    have hl2' : rows'.length ≤ rows.length + (B.length - j') := hl2
    have st := w.stop ga ha2 far
    have key : ((br (decide (at_ < a.2.2)) (chk (decide (rows'.length < sizeLine)) <| .ok ((rows' ++ [(a.1, at_, a.2.2)]))) (.ok (rows'))).bind fun s326 => .ok (s326, (j' : Int)) : Res (List Rw × Int)) = .ok ((if at_ < a.2.2 then rows' ++ [(a.1, at_, a.2.2)] else rows'), (j' : Int)) := by
      rw [decide_eq_true (show rows'.length < sizeLine by omega), chk_true]
      by_cases l : at_ < a.2.2
      · rw [decide_eq_true l, br_true, bind_ok, if_pos l]
      · rw [decide_eq_false l, br_false, bind_ok, if_neg l]
    refine Ok.of key ⟨j', rfl, hj', st.1, ?_, st.2.1, fun b m a' ma => (hb' b m).on ga (ha2 a' ma), fun p x => ?_⟩
    · show (if at_ < a.2.2 then rows' ++ [(a.1, at_, a.2.2)] else rows').length ≤ 101 * (i + 1)
      split
      · rw [List.length_append, List.length_singleton]; omega
      · omega
    · have et : A.take (i + 1) = A.take i ++ [a] := by rw [List.take_add_one, hx]; rfl
      rw [et, cov_app, cov_one]
      have z := st.2.2 p x
      rw [hc] at z
      refine z.trans ⟨?_, ?_⟩
      · rintro (⟨c, n⟩ | ⟨c, n⟩)
        · exact ⟨.inl c, n⟩
        · exact ⟨.inr c, n⟩
      · rintro ⟨c | c, n⟩
        · exact .inl ⟨c, n⟩
        · exact .inr ⟨c, n⟩
  · rintro ⟨rows, js⟩ ⟨j, ej, hj, hg, hl, hf, hb, hc⟩
    rw [List.take_length] at hc
    have hl' : rows.length ≤ 101 * A.length := hl
    exact Ok.ret ⟨hg, by show rows.length ≤ 20000; omega, hc⟩
theorem union_ok {A B : List Rw} (hA : isG A) (hB : isG B) (la : A.length ≤ 1000) (lb : B.length ≤ 1000) : m_union A B = .ok (nrm (A ++ B)) := by
  unfold m_union
  have hz := sizeLine_big
  rw [decide_eq_true (show A.length + B.length ≤ sizeLine by omega), chk_true, normal_ok (fun r m => (List.mem_append.mp m).elim (hA.1 r) (hB.1 r)) (by rw [List.length_append]; omega)]
  rfl
theorem union_g {A B : List Rw} (hA : isG A) (hB : isG B) : isG (nrm (A ++ B)) ∧ ∀ p k, cov (nrm (A ++ B)) p k ↔ cov A p k ∨ cov B p k := by
  obtain ⟨a, b⟩ := nrm_ok (rows := A ++ B) fun r m => (List.mem_append.mp m).elim (hA.1 r) (hB.1 r)
  exact ⟨a, fun p k => by rw [b, cov_app]⟩
theorem size_ok' {g : List Rw} (h : g.length ≤ 1000000) : m_size g = .ok (sz g) := size_ok h
theorem ok_neq {α : Type} [DecidableEq α] {a b : α} (h : a = b) : (!decide (a = b)) = false := by rw [decide_eq_true h]; rfl

/-! #### sizes of rows that may meet -/
def rowsum (rows : List Rw) (u : PySem.Str × Int) : Int := List.sum (rows.map fun r => ind (covR r u.1 u.2))
theorem ind_nonneg (c : Prop) [Decidable c] : 0 ≤ ind c := by unfold ind; split <;> omega
theorem ind_true {c : Prop} [Decidable c] (h : c) : ind c = 1 := by unfold ind; rw [if_pos h]
theorem ind_false {c : Prop} [Decidable c] (h : ¬ c) : ind c = 0 := by unfold ind; rw [if_neg h]
theorem rowsum_cons (r : Rw) (rows : List Rw) (u) : rowsum (r :: rows) u = ind (covR r u.1 u.2) + rowsum rows u := rfl
theorem rowsum_nonneg : ∀ (rows : List Rw) (u), 0 ≤ rowsum rows u
  | [], _ => Int.le_refl _
  | r :: rows, u => by
    rw [rowsum_cons]
    have := ind_nonneg (covR r u.1 u.2)
    have := rowsum_nonneg rows u
    omega
theorem rowsum_cov {rows : List Rw} {u} (h : cov rows u.1 u.2) : 1 ≤ rowsum rows u := by
  induction rows with
  | nil => exact (cov_nil h).elim
  | cons r rows ih =>
    rw [rowsum_cons]
    rcases cov_cons.mp h with h | h
    · have := ind_true h
      have := rowsum_nonneg rows u
      omega
    · have := ih h
      have := ind_nonneg (covR r u.1 u.2)
      omega
theorem ind_le_rowsum (rows : List Rw) (u) : ind (cov rows u.1 u.2) ≤ rowsum rows u := by
  by_cases h : cov rows u.1 u.2
  · rw [ind_true h]; exact rowsum_cov h
  · rw [ind_false h]; exact rowsum_nonneg rows u
theorem cnt_rowsum {ps : List PySem.Str} {M : Nat} (nd : ps.Nodup) : ∀ {rows : List Rw}, (∀ r ∈ rows, gd r) → (∀ r ∈ rows, r.2.2 ≤ M ∧ r.1 ∈ ps) → cnt (univ ps M) (rowsum rows) = sz rows
  | [], _, _ => cnt_zero fun _ _ => rfl
  | r :: rows, hg, hb => by
    have e : cnt (univ ps M) (rowsum (r :: rows)) = cnt (univ ps M) (fun u => ind (covR r u.1 u.2) + rowsum rows u) := rfl
    rw [e, cnt_add, cnt_row (hg r List.mem_cons_self) (hb r List.mem_cons_self).1 (hb r List.mem_cons_self).2 nd, cnt_rowsum nd (fun q m => hg q (List.mem_cons_of_mem _ m)) (fun q m => hb q (List.mem_cons_of_mem _ m))]
    unfold sz
    rw [List.map_cons, List.sum_cons]
def Dis (rows : List Rw) : Prop := rows.Pairwise fun a b => ∀ p k, covR a p k → ¬ covR b p k
theorem rowsum_dis : ∀ {rows : List Rw}, Dis rows → ∀ u, rowsum rows u = ind (cov rows u.1 u.2)
  | [], _, u => by rw [ind_false cov_nil]; rfl
  | r :: rows, h, u => by
    obtain ⟨h1, h2⟩ := List.pairwise_cons.mp h
    rw [rowsum_cons, rowsum_dis h2 u]
    by_cases c : covR r u.1 u.2
    · have : ¬ cov rows u.1 u.2 := fun ⟨q, m, z⟩ => h1 q m _ _ c z
      rw [ind_true c, ind_false this, ind_true (cov_cons.mpr (.inl c))]
      rfl
    · rw [ind_false c, Int.zero_add]
      exact ind_iff ⟨fun z => cov_cons.mpr (.inr z), fun z => (cov_cons.mp z).resolve_left c⟩
theorem bounds2 (a b : List Rw) : ∃ (M : Nat) (ps : List PySem.Str), ps.Nodup ∧ (∀ r ∈ a, r.2.2 ≤ M ∧ r.1 ∈ ps) ∧ ∀ r ∈ b, r.2.2 ≤ M ∧ r.1 ∈ ps := by
  obtain ⟨M, ps, nd, h⟩ := bounds (a ++ b)
  exact ⟨M, ps, nd, fun r m => h r (List.mem_append_left _ m), fun r m => h r (List.mem_append_right _ m)⟩
theorem sz_nrm_dis {rows : List Rw} (h : ∀ r ∈ rows, gd r) (d : Dis rows) : sz (nrm rows) = sz rows := by
  obtain ⟨M, ps, nd, h1, h2⟩ := bounds2 rows (nrm rows)
  obtain ⟨g1, g2⟩ := nrm_ok h
  rw [← cnt_ground nd g1 h2, ← cnt_rowsum nd h h1]
  exact cnt_eq fun u _ => by rw [rowsum_dis d u]; exact ind_iff (g2 _ _)
theorem cnt_le {U : List (PySem.Str × Int)} {q r : PySem.Str × Int → Int} (h : ∀ u ∈ U, q u ≤ r u) : cnt U q ≤ cnt U r := by
  induction U with
  | nil => exact Int.le_refl _
  | cons u U ih =>
    have h1 := h u List.mem_cons_self
    have h2 := ih fun v m => h v (List.mem_cons_of_mem _ m)
    unfold cnt at h2 ⊢
    rw [List.map_cons, List.map_cons, List.sum_cons, List.sum_cons]
    omega
theorem cnt_lt {U : List (PySem.Str × Int)} {q r : PySem.Str × Int → Int} (h : ∀ u ∈ U, q u ≤ r u) {v} (hv : v ∈ U) (s : q v < r v) : cnt U q < cnt U r := by
  induction U with
  | nil => cases hv
  | cons u U ih =>
    have h1 := h u List.mem_cons_self
    unfold cnt at ih ⊢
    rw [List.map_cons, List.map_cons, List.sum_cons, List.sum_cons]
    rcases List.mem_cons.mp hv with rfl | hv
    · have h2 := cnt_le (U := U) fun w m => h w (List.mem_cons_of_mem _ m)
      unfold cnt at h2
      omega
    · have h2 := ih (fun w m => h w (List.mem_cons_of_mem _ m)) hv
      omega
theorem mem_univ {ps : List PySem.Str} {M : Nat} {p : PySem.Str} {k : Int} (hp : p ∈ ps) (h0 : 0 ≤ k) (h1 : k < M) : (p, k) ∈ univ ps M := by
  unfold univ
  refine List.mem_flatMap.mpr ⟨p, hp, List.mem_map.mpr ⟨k.toNat, List.mem_range.mpr (by omega), ?_⟩⟩
  congr 1
  omega
/-- a cell that is twice there: the ground is smaller -/
theorem sz_nrm_lt {rows : List Rw} (h : ∀ r ∈ rows, gd r) {p : PySem.Str} {k : Int} (t : 2 ≤ rowsum rows (p, k)) : sz (nrm rows) < sz rows := by
  obtain ⟨M, ps, nd, h1, h2⟩ := bounds2 rows (nrm rows)
  obtain ⟨g1, g2⟩ := nrm_ok h
  rw [← cnt_ground nd g1 h2, ← cnt_rowsum nd h h1]
  have hc : cov rows p k := by
    refine Classical.byContradiction fun n => ?_
    have : ∀ rs : List Rw, ¬ cov rs p k → rowsum rs (p, k) = 0 := by
      intro rs
      induction rs with
      | nil => intro _; rfl
      | cons r rs ih =>
        intro n
        rw [rowsum_cons, ih fun z => n (cov_cons.mpr (.inr z)), ind_false fun z => n (cov_cons.mpr (.inl z))]
        rfl
    rw [this rows n] at t
    omega
  obtain ⟨r, m, e, b1, b2⟩ := hc
  have hu : (p, k) ∈ univ ps M := by
    have q := h1 r m
    have g := h r m
    exact mem_univ (by rw [← e]; exact q.2) (by have := g.1; omega) (by omega)
  refine cnt_lt (fun u _ => ?_) hu ?_
  · rw [ind_iff (g2 u.1 u.2)]; exact ind_le_rowsum rows u
  · show ind (cov (nrm rows) p k) < rowsum rows (p, k)
    have : ind (cov (nrm rows) p k) ≤ 1 := by unfold ind; split <;> omega
    omega
end Lw
/-! Ps: stretches and their one form -/
namespace Lw
open PySem L2 Kb
abbrev S4 := PySem.Str × Int × Int × Bool
abbrev Cell := PySem.Str × Int
def upC (p : PySem.Str) (b : Int) (n : Nat) : List Cell := (rng b n).map fun k => (p, k)
/-- the cells of a stretch, in order -/
def cellsS (s : S4) : List Cell := if s.2.2.2 = true then (upC s.1 s.2.1 (s.2.2.1 - s.2.1).toNat).reverse else upC s.1 s.2.1 (s.2.2.1 - s.2.1).toNat
def cellsL (ss : List S4) : List Cell := ss.flatMap cellsS
def gdS (s : S4) : Prop := s.2.1 < s.2.2.1
/-- two stretches together -/
def mg (l x : S4) : Option S4 :=
  if l.1 = x.1 then
    if ((l.2.2.2 = false ∨ l.2.2.1 - l.2.1 = 1) ∧ (x.2.2.2 = false ∨ x.2.2.1 - x.2.1 = 1)) ∧ l.2.2.1 = x.2.1 then some (l.1, l.2.1, x.2.2.1, false)
    else if ((l.2.2.2 = true ∨ l.2.2.1 - l.2.1 = 1) ∧ (x.2.2.2 = true ∨ x.2.2.1 - x.2.1 = 1)) ∧ l.2.1 = x.2.2.1 then some (l.1, x.2.1, l.2.2.1, true)
    else none
  else none
theorem merged_eq (l x : S4) : m_merged l x = .ok (mg l x) := by
  unfold m_merged mg
  by_cases h : l.1 = x.1
  · rw [decide_eq_true h, if_pos h]
    show br _ _ _ = _
    split
    · rename_i c
      obtain ⟨⟨c1, c2⟩, c3⟩ := c
      have t : ((((!l.2.2.2) || (decide ((l.2.2.1 - l.2.1) = (1 : Int)))) && ((!x.2.2.2) || (decide ((x.2.2.1 - x.2.1) = (1 : Int))))) && (decide (l.2.2.1 = x.2.1))) = true := by
        simp only [Bool.and_eq_true, Bool.or_eq_true, Bool.not_eq_true', decide_eq_true_eq]
        exact ⟨⟨c1, c2⟩, c3⟩
      rw [t]; rfl
    · rename_i c
      have t : ((((!l.2.2.2) || (decide ((l.2.2.1 - l.2.1) = (1 : Int)))) && ((!x.2.2.2) || (decide ((x.2.2.1 - x.2.1) = (1 : Int))))) && (decide (l.2.2.1 = x.2.1))) = false := by
        rw [Bool.eq_false_iff]
        simp only [ne_eq, Bool.and_eq_true, Bool.or_eq_true, Bool.not_eq_true', decide_eq_true_eq]
        exact fun ⟨⟨c1, c2⟩, c3⟩ => c ⟨⟨c1, c2⟩, c3⟩
      rw [t]
      show br _ _ _ = _
      split
      · rename_i d
        obtain ⟨⟨c1, c2⟩, c3⟩ := d
        have t : (((l.2.2.2 || (decide ((l.2.2.1 - l.2.1) = (1 : Int)))) && (x.2.2.2 || (decide ((x.2.2.1 - x.2.1) = (1 : Int))))) && (decide (l.2.1 = x.2.2.1))) = true := by
          simp only [Bool.and_eq_true, Bool.or_eq_true, decide_eq_true_eq]
          exact ⟨⟨c1, c2⟩, c3⟩
        rw [t]; rfl
      · rename_i d
        have t : (((l.2.2.2 || (decide ((l.2.2.1 - l.2.1) = (1 : Int)))) && (x.2.2.2 || (decide ((x.2.2.1 - x.2.1) = (1 : Int))))) && (decide (l.2.1 = x.2.2.1))) = false := by
          rw [Bool.eq_false_iff]
          simp only [ne_eq, Bool.and_eq_true, Bool.or_eq_true, decide_eq_true_eq]
          exact fun ⟨⟨c1, c2⟩, c3⟩ => d ⟨⟨c1, c2⟩, c3⟩
        rw [t]; rfl
  · rw [decide_eq_false h, if_neg h]; rfl
def nrmS (x : S4) : S4 := (x.1, x.2.1, x.2.2.1, x.2.2.2 && decide (1 < x.2.2.1 - x.2.1))
/-- a stretch behind others (the last one first) -/
def stepR (acc : List S4) (x : S4) : List S4 := match acc with
  | [] => [nrmS x]
  | l :: r => match mg l (nrmS x) with
    | some m => m :: r
    | none => nrmS x :: l :: r
theorem stepR_some {l : S4} {r : List S4} {x m : S4} (h : mg l (nrmS x) = some m) : stepR (l :: r) x = m :: r := by simp only [stepR, h]
theorem stepR_none {l : S4} {r : List S4} {x : S4} (h : mg l (nrmS x) = none) : stepR (l :: r) x = nrmS x :: l :: r := by simp only [stepR, h]
theorem stepR_len (acc : List S4) (x : S4) : (stepR acc x).length ≤ acc.length + 1 := by
  unfold stepR
  split
  · simp
  · split <;> simp
def fewR (ss : List S4) : List S4 := (ss.foldl stepR []).reverse
theorem fewest_eq {ss : List S4} (h : ss.length ≤ 1000000) : m_fewest ss = .ok (fewR ss) := by
  unfold m_fewest fewR
  have key : ∀ (l : List S4) (acc : List S4), acc.length + l.length ≤ 1000000 → forN l acc.reverse (fun s15 x23 => (br (!s15.isEmpty) (opt (atI s15 (-(1 : Int))) fun x62 => (m_merged x62 (x23.1, x23.2.1, x23.2.2.1, (x23.2.2.2 && (decide ((1 : Int) < (x23.2.2.1 - x23.2.1)))))).bind fun y64 => .ok (y64)) (.ok ((none : Option (PySem.Str × Int × Int × Bool))))).bind fun s52 => (br (Option.isNone s52) (chk (decide (s15.length < sizeLine)) <| .ok ((s15 ++ [(x23.1, x23.2.1, x23.2.2.1, (x23.2.2.2 && (decide ((1 : Int) < (x23.2.2.1 - x23.2.1)))))]))) (opt s52 fun n84 => opt (ixN s15.length (-(1 : Int))) fun j87 => .ok ((s15.set j87 n84)))).bind fun s72 => .ok (s72)) = .ok (l.foldl stepR acc).reverse := by
    intro l
    induction l with
    | nil => intro acc _; rfl
    | cons x l ih =>
      intro acc hl
      have hl' : acc.length + (l.length + 1) ≤ 1000000 := hl
      have hs : acc.reverse.length < sizeLine := by rw [List.length_reverse]; have := sizeLine_big; omega
      rw [forN_cons]
      have st : ((br (!acc.reverse.isEmpty) (opt (atI acc.reverse (-(1 : Int))) fun x62 => (m_merged x62 (x.1, x.2.1, x.2.2.1, (x.2.2.2 && (decide ((1 : Int) < (x.2.2.1 - x.2.1)))))).bind fun y64 => .ok (y64)) (.ok ((none : Option (PySem.Str × Int × Int × Bool))))).bind fun s52 => (br (Option.isNone s52) (chk (decide (acc.reverse.length < sizeLine)) <| .ok ((acc.reverse ++ [(x.1, x.2.1, x.2.2.1, (x.2.2.2 && (decide ((1 : Int) < (x.2.2.1 - x.2.1)))))]))) (opt s52 fun n84 => opt (ixN acc.reverse.length (-(1 : Int))) fun j87 => .ok ((acc.reverse.set j87 n84)))).bind fun s72 => .ok (s72)) = .ok (stepR acc x).reverse := by
        rw [decide_eq_true hs]
        cases acc with
        | nil => rfl
        | cons a r =>
          have e1 : (!(a :: r).reverse.isEmpty) = true := by simp
          have e2 : atI (a :: r).reverse (-(1 : Int)) = some a := atI_neg1 (by simp)
          rw [e1, br_true, e2, opt_some, merged_eq]
          show (Res.bind (.ok (mg a (nrmS x))) _).bind _ = _
          rw [bind_ok, bind_ok]
          cases q : mg a (nrmS x) with
          | none =>
            rw [stepR_none q, List.reverse_cons (a := nrmS x)]
            rfl
          | some m =>
            have e3 : ixN (a :: r).reverse.length (-(1 : Int)) = some r.length := by
              rw [ixN_neg1 (by simp)]; simp
            rw [stepR_some q]
            show Res.bind (opt (some m) fun n84 => opt (ixN (a :: r).reverse.length (-1)) fun j87 => Res.ok ((a :: r).reverse.set j87 n84)) _ = _
            rw [opt_some, e3, opt_some, bind_ok]
            simp
      rw [st, bind_ok]
      exact ih (stepR acc x) (by have := stepR_len acc x; omega)
  have := key ss [] (by simpa using h)
  rw [show (([] : List S4).reverse) = [] from rfl] at this
  rw [this, bind_ok]
/-! #### cell by cell -/
def oneS (c : Cell) : S4 := (c.1, c.2, c.2 + 1, false)
def ext (l : S4) (c : Cell) : Option S4 :=
  if l.1 = c.1 then
    if (l.2.2.2 = false ∨ l.2.2.1 - l.2.1 = 1) ∧ l.2.2.1 = c.2 then some (l.1, l.2.1, c.2 + 1, false)
    else if (l.2.2.2 = true ∨ l.2.2.1 - l.2.1 = 1) ∧ l.2.1 = c.2 + 1 then some (l.1, c.2, l.2.2.1, true)
    else none
  else none
def addR (acc : List S4) (c : Cell) : List S4 := match acc with
  | [] => [oneS c]
  | l :: r => match ext l c with
    | some m => m :: r
    | none => oneS c :: l :: r
theorem addR_some {l : S4} {r : List S4} {c : Cell} {m : S4} (h : ext l c = some m) : addR (l :: r) c = m :: r := by simp only [addR, h]
theorem addR_none {l : S4} {r : List S4} {c : Cell} (h : ext l c = none) : addR (l :: r) c = oneS c :: l :: r := by simp only [addR, h]
/-- the longest even runs of cells -/
def canon (cs : List Cell) : List S4 := (cs.foldl addR []).reverse
theorem rng_len (b : Int) (n : Nat) : (rng b n).length = n := ints_len n b
theorem upC_succ (p : PySem.Str) (b : Int) (n : Nat) : upC p b (n + 1) = (p, b) :: upC p (b + 1) n := rfl
theorem upC_snoc (p : PySem.Str) : ∀ (n : Nat) (b : Int), upC p b (n + 1) = upC p b n ++ [(p, b + n)]
  | 0, b => by rw [upC_succ]; show [(p, b)] = [(p, b + ((0 : Nat) : Int))]; simp
  | n + 1, b => by
    rw [upC_succ, upC_snoc p n (b + 1), upC_succ p b n, List.cons_append]
    congr 3
    show (p, b + 1 + (n : Int)) = (p, b + ((n + 1 : Nat) : Int))
    congr 1
    omega
theorem ext_up {l : S4} {c : Cell} (e : l.1 = c.1) (h : (l.2.2.2 = false ∨ l.2.2.1 - l.2.1 = 1) ∧ l.2.2.1 = c.2) : ext l c = some (l.1, l.2.1, c.2 + 1, false) := by
  unfold ext; rw [if_pos e, if_pos h]
theorem ext_dn {l : S4} {c : Cell} (e : l.1 = c.1) (g : gdS l) (h : (l.2.2.2 = true ∨ l.2.2.1 - l.2.1 = 1) ∧ l.2.1 = c.2 + 1) : ext l c = some (l.1, c.2, l.2.2.1, true) := by
  unfold ext gdS at *; rw [if_pos e, if_neg (by omega), if_pos h]
theorem fold_up (r : List S4) (p : PySem.Str) (b : Int) : ∀ (n : Nat) (e : Int) (t : Bool), (t = false ∨ e - b = 1) → (n = 0 → t = false) → (upC p e n).foldl addR ((p, b, e, t) :: r) = (p, b, e + n, false) :: r
  | 0, e, t, _, h => by rw [h rfl]; show _ = (p, b, e + ((0 : Nat) : Int), false) :: r; simp [upC, rng]
  | n + 1, e, t, h, _ => by
    rw [upC_succ, List.foldl_cons]
    have : addR ((p, b, e, t) :: r) (p, e) = (p, b, e + 1, false) :: r := addR_some (ext_up (c := (p, e)) rfl ⟨h, rfl⟩)
    rw [this, fold_up r p b n (e + 1) false (.inl rfl) (fun _ => rfl)]
    congr 3
    show (e + 1 + (n : Int), false) = (e + ((n + 1 : Nat) : Int), false)
    congr 1; omega
theorem fold_dn (r : List S4) (p : PySem.Str) (e : Int) : ∀ (n : Nat) (b : Int) (t : Bool), b < e → (t = true ∨ e - b = 1) → (n = 0 → t = true) → (upC p (b - n) n).reverse.foldl addR ((p, b, e, t) :: r) = (p, b - n, e, true) :: r
  | 0, b, t, _, _, h => by rw [h rfl]; show _ = (p, b - ((0 : Nat) : Int), e, true) :: r; simp [upC, rng]
  | n + 1, b, t, g, h, _ => by
    rw [upC_snoc, List.reverse_append, List.reverse_singleton, List.singleton_append, List.foldl_cons]
    have e1 : b - ((n + 1 : Nat) : Int) + (n : Int) = b - 1 := by omega
    rw [e1]
    have : addR ((p, b, e, t) :: r) (p, b - 1) = (p, b - 1, e, true) :: r := addR_some (ext_dn (c := (p, b - 1)) rfl g ⟨h, by show b = b - 1 + 1; omega⟩)
    rw [this, show b - ((n + 1 : Nat) : Int) = (b - 1) - (n : Int) by omega]
    exact fold_dn r p e n (b - 1) true (by omega) (.inl rfl) (fun _ => rfl)
theorem mem_upC {p q : PySem.Str} {b k : Int} {n : Nat} : (q, k) ∈ upC p b n ↔ q = p ∧ b ≤ k ∧ k < b + n := by
  unfold upC
  rw [List.mem_map]
  constructor
  · rintro ⟨x, hx, e⟩
    cases e
    exact ⟨rfl, rng_mem.mp hx⟩
  · rintro ⟨rfl, h⟩
    exact ⟨k, rng_mem.mpr h, rfl⟩
theorem mem_cellsS {s : S4} {p : PySem.Str} {k : Int} : (p, k) ∈ cellsS s ↔ p = s.1 ∧ s.2.1 ≤ k ∧ k < s.2.2.1 := by
  have : (p, k) ∈ upC s.1 s.2.1 (s.2.2.1 - s.2.1).toNat ↔ p = s.1 ∧ s.2.1 ≤ k ∧ k < s.2.2.1 := by
    rw [mem_upC]
    exact ⟨fun ⟨a, b, c⟩ => ⟨a, b, by omega⟩, fun ⟨a, b, c⟩ => ⟨a, b, by omega⟩⟩
  unfold cellsS
  split
  · rw [List.mem_reverse]; exact this
  · exact this
/-- a stretch behind others is its cells behind them -/
theorem step_cells {acc : List S4} {x : S4} (hx : gdS x) (hl : ∀ l ∈ acc.head?, gdS l ∧ ∀ c ∈ cellsS x, c ∉ cellsS l) : stepR acc x = (cellsS x).foldl addR acc := by
  obtain ⟨p, b, e, t⟩ := x
  have hx' : b < e := hx
  obtain ⟨n, hn⟩ : ∃ n : Nat, e = b + ((n + 1 : Nat) : Int) := ⟨(e - b).toNat - 1, by omega⟩
  subst hn
  have en : (b + ((n + 1 : Nat) : Int) - b).toNat = n + 1 := by omega
  by_cases n0 : n = 0
  · -- one cell
    subst n0
    have ec : cellsS (p, b, b + ((0 + 1 : Nat) : Int), t) = [(p, b)] := by
      unfold cellsS
      simp only [en]
      cases t <;> rfl
    have ex : nrmS (p, b, b + ((0 + 1 : Nat) : Int), t) = oneS (p, b) := by
      unfold nrmS oneS
      have : decide ((1 : Int) < b + ((0 + 1 : Nat) : Int) - b) = false := decide_eq_false (by omega)
      simp only [this, Bool.and_false]
      rfl
    rw [ec]
    show stepR acc _ = addR acc (p, b)
    unfold stepR addR
    rw [ex]
    cases acc with
    | nil => rfl
    | cons l r =>
      have : mg l (oneS (p, b)) = ext l (p, b) := by
        unfold mg ext oneS
        simp only [show b + 1 - b = 1 by omega, or_true, and_true, true_or]
      simp only [this]
  · have nb : nrmS (p, b, b + ((n + 1 : Nat) : Int), t) = (p, b, b + ((n + 1 : Nat) : Int), t) := by
      unfold nrmS
      have : decide ((1 : Int) < b + ((n + 1 : Nat) : Int) - b) = true := decide_eq_true (by omega)
      simp only [this, Bool.and_true]
    have ne1 : ¬ (b + ((n + 1 : Nat) : Int) - b = 1) := by omega
    cases t with
    | false =>
      have ec : cellsS (p, b, b + ((n + 1 : Nat) : Int), false) = (p, b) :: upC p (b + 1) n := by
        unfold cellsS; simp only [en, Bool.false_eq_true, if_false]; rfl
      have push : ∀ r, (upC p (b + 1) n).foldl addR (oneS (p, b) :: r) = (p, b, b + ((n + 1 : Nat) : Int), false) :: r := fun r => by
        have := fold_up r p b n (b + 1) false (.inl rfl) (fun _ => rfl)
        rw [show b + 1 + (n : Int) = b + ((n + 1 : Nat) : Int) by omega] at this
        exact this
      rw [ec, List.foldl_cons]
      unfold stepR
      rw [nb]
      cases acc with
      | nil => exact (push []).symm
      | cons l r =>
        obtain ⟨gl, dj⟩ := hl l rfl
        obtain ⟨lp, lb, le, lt⟩ := l
        have gl' : lb < le := gl
        by_cases c : lp = p ∧ (lt = false ∨ le - lb = 1) ∧ le = b
        · obtain ⟨rfl, c1, rfl⟩ := c
          have e1 : mg (lp, lb, le, lt) (lp, le, le + ((n + 1 : Nat) : Int), false) = some (lp, lb, le + ((n + 1 : Nat) : Int), false) := by
            unfold mg; rw [if_pos rfl, if_pos ⟨⟨c1, .inl rfl⟩, rfl⟩]
          have e2 : addR ((lp, lb, le, lt) :: r) (lp, le) = (lp, lb, le + 1, false) :: r := addR_some (ext_up (c := (lp, le)) rfl ⟨c1, rfl⟩)
          simp only [e1, e2]
          rw [fold_up r lp lb n (le + 1) false (.inl rfl) (fun _ => rfl)]
          rw [show le + 1 + (n : Int) = le + ((n + 1 : Nat) : Int) by omega]
        · have e1 : mg (lp, lb, le, lt) (p, b, b + ((n + 1 : Nat) : Int), false) = none := by
            unfold mg
            by_cases q : lp = p
            · rw [if_pos q, if_neg (fun z => c ⟨q, z.1.1, z.2⟩), if_neg (fun z => by rcases z.1.2 with y | y; cases y; exact ne1 y)]
            · rw [if_neg q]
          have e2 : ext (lp, lb, le, lt) (p, b) = none := by
            unfold ext
            by_cases q : lp = p
            · rw [if_pos q, if_neg (fun z => c ⟨q, z.1, z.2⟩), if_neg]
              rintro ⟨_, z⟩
              have z' : lb = b + 1 := z
              refine dj (p, b + 1) (mem_cellsS.mpr ⟨rfl, by show b ≤ b + 1; omega, by show b + 1 < b + ((n + 1 : Nat) : Int); omega⟩) (mem_cellsS.mpr ⟨q.symm, ?_, ?_⟩)
              · show lb ≤ b + 1; omega
              · show b + 1 < le; omega
            · rw [if_neg q]
          have e3 : addR ((lp, lb, le, lt) :: r) (p, b) = oneS (p, b) :: (lp, lb, le, lt) :: r := addR_none e2
          simp only [e1, e3]
          exact (push _).symm
    | true =>
      have ec : cellsS (p, b, b + ((n + 1 : Nat) : Int), true) = (p, b + (n : Int)) :: (upC p b n).reverse := by
        unfold cellsS; simp only [en, if_true]
        rw [upC_snoc, List.reverse_append]; rfl
      have push : ∀ r, (upC p b n).reverse.foldl addR (oneS (p, b + (n : Int)) :: r) = (p, b, b + ((n + 1 : Nat) : Int), true) :: r := fun r => by
        have := fold_dn r p (b + (n : Int) + 1) n (b + (n : Int)) false (by omega) (.inr (by omega)) (fun z => absurd z n0)
        rw [show b + (n : Int) - (n : Int) = b by omega] at this
        rw [show b + ((n + 1 : Nat) : Int) = b + (n : Int) + 1 by omega]
        exact this
      rw [ec, List.foldl_cons]
      unfold stepR
      rw [nb]
      cases acc with
      | nil => exact (push []).symm
      | cons l r =>
        obtain ⟨gl, dj⟩ := hl l rfl
        obtain ⟨lp, lb, le, lt⟩ := l
        have gl' : lb < le := gl
        by_cases c : lp = p ∧ (lt = true ∨ le - lb = 1) ∧ lb = b + ((n + 1 : Nat) : Int)
        · obtain ⟨rfl, c1, rfl⟩ := c
          have e1 : mg (lp, b + ((n + 1 : Nat) : Int), le, lt) (lp, b, b + ((n + 1 : Nat) : Int), true) = some (lp, b, le, true) := by
            unfold mg
            rw [if_pos rfl, if_neg, if_pos ⟨⟨c1, .inl rfl⟩, rfl⟩]
            rintro ⟨⟨_, y⟩, _⟩
            rcases y with y | y
            · cases y
            · exact ne1 y
          have e2 : addR ((lp, b + ((n + 1 : Nat) : Int), le, lt) :: r) (lp, b + (n : Int)) = (lp, b + (n : Int), le, true) :: r := addR_some (ext_dn (c := (lp, b + (n : Int))) rfl gl ⟨c1, by show b + ((n + 1 : Nat) : Int) = b + (n : Int) + 1; omega⟩)
          simp only [e1, e2]
          have := fold_dn r lp le n (b + (n : Int)) true (by omega) (.inl rfl) (fun _ => rfl)
          rw [show b + (n : Int) - (n : Int) = b by omega] at this
          exact this.symm
        · have e1 : mg (lp, lb, le, lt) (p, b, b + ((n + 1 : Nat) : Int), true) = none := by
            unfold mg
            by_cases q : lp = p
            · rw [if_pos q, if_neg (fun z => by rcases z.1.2 with y | y; cases y; exact ne1 y), if_neg (fun z => c ⟨q, z.1.1, z.2⟩)]
            · rw [if_neg q]
          have e2 : ext (lp, lb, le, lt) (p, b + (n : Int)) = none := by
            unfold ext
            by_cases q : lp = p
            · rw [if_pos q, if_neg, if_neg]
              · rintro ⟨y, z⟩
                exact c ⟨q, y, by have z' : lb = b + (n : Int) + 1 := z; omega⟩
              · rintro ⟨_, z⟩
                have z' : le = b + (n : Int) := z
                refine dj (p, b + (n : Int) - 1) (mem_cellsS.mpr ⟨rfl, by show b ≤ b + (n : Int) - 1; omega, by show b + (n : Int) - 1 < b + ((n + 1 : Nat) : Int); omega⟩) (mem_cellsS.mpr ⟨q.symm, ?_, ?_⟩)
                · show lb ≤ b + (n : Int) - 1; omega
                · show b + (n : Int) - 1 < le; omega
            · rw [if_neg q]
          have e3 : addR ((lp, lb, le, lt) :: r) (p, b + (n : Int)) = oneS (p, b + (n : Int)) :: (lp, lb, le, lt) :: r := addR_none e2
          simp only [e1, e3]
          exact (push _).symm
end Lw
/-! Pr: ratios are the rational numbers -/
namespace Lw
open PySem L2 Kb
def ofQ (q : Rat) : Int × Int := (q.num, (q.den : Int))
/-- numerator and denominator have at most B bits -/
def sm (B : Nat) (q : Rat) : Prop := q.num.natAbs < 2 ^ B ∧ q.den < 2 ^ B
theorem ofQ_inj {x y : Rat} : ofQ x = ofQ y ↔ x = y := by
  constructor
  · intro h
    have h1 := congrArg Prod.fst h
    have h2 : ((x.den : Nat) : Int) = y.den := congrArg Prod.snd h
    exact Rat.ext h1 (by omega)
  · intro h; rw [h]
theorem sm.mono {B C : Nat} {q : Rat} (h : sm B q) (l : B ≤ C) : sm C q :=
  ⟨Nat.lt_of_lt_of_le h.1 (Nat.pow_le_pow_right (by decide) l), Nat.lt_of_lt_of_le h.2 (Nat.pow_le_pow_right (by decide) l)⟩
theorem log2_lt_of {n m : Nat} (h : n < 2 ^ m) : n.log2 ≤ m := by
  by_cases z : n = 0
  · subst z; simp
  · exact Nat.le_of_lt ((Nat.log2_lt z).mpr h)
theorem mulOk_pow {a b : Int} {m n : Nat} (ha : a.natAbs < 2 ^ m) (hb : b.natAbs < 2 ^ n) (h : m + n < 1000000) : mulOk a b = true := by
  unfold mulOk
  have h1 := log2_lt_of ha
  have h2 := log2_lt_of hb
  exact decide_eq_true (by omega)
theorem divOk_pow {a : Int} {m : Nat} (h0 : 0 < a) (ha : a.natAbs < 2 ^ m) (h : m < 9000) : divOk a = true := by
  unfold divOk
  have h1 := log2_lt_of ha
  rw [decide_eq_true h0, Bool.true_and]
  exact decide_eq_true (by omega)
theorem whileN_s {σ : Type} {n : Nat} {s : σ} {t : σ → Res Bool} {f : σ → Res σ} : whileN (n + 1) s t f = (t s).bind fun b => br b ((f s).bind fun s' => whileN n s' t f) (.ok s) := rfl
theorem gcd_emod {a b : Int} (ha : 0 ≤ a) (hb : 0 < b) : Int.gcd b (a % b) = Int.gcd a b := by
  obtain ⟨m, rfl⟩ := Int.eq_ofNat_of_zero_le ha
  obtain ⟨n, rfl⟩ := Int.eq_ofNat_of_zero_le (Int.le_of_lt hb)
  show Nat.gcd n (m % n) = Nat.gcd m n
  rw [Nat.gcd_comm m n, Nat.gcd_rec n m, Nat.gcd_comm]
theorem gcd_loop : ∀ (n : Nat) (a b : Int), 0 ≤ a → 0 ≤ b → b.toNat < n →
    ∃ z, whileN n ((a, b) : Int × Int) (fun s1 => br (decide ((0 : Int) < s1.2)) (.ok true) (.ok false)) (fun s1 => chk (decide (0 < s1.2)) <| .ok (s1.2, (s1.1 % s1.2))) = .ok ((Int.gcd a b : Int), z)
  | 0, a, b, _, _, h => absurd h (Nat.not_lt_zero _)
  | n + 1, a, b, ha, hb, h => by
    rw [whileN_s]
    by_cases z : 0 < b
    · have m := mod_lt' a z
      obtain ⟨w, e⟩ := gcd_loop n b (a % b) hb m.1 (by omega)
      refine ⟨w, ?_⟩
      rw [decide_eq_true (show (0 : Int) < (a, b).2 from z), br_true, bind_ok, br_true, chk_true, bind_ok]
      rw [gcd_emod ha z] at e
      exact e
    · have : b = 0 := by omega
      subst this
      refine ⟨0, ?_⟩
      rw [decide_eq_false (show ¬ (0 : Int) < (a, (0 : Int)).2 from z), br_false, bind_ok, br_false]
      rw [Int.gcd_zero_right, Int.natAbs_of_nonneg ha]
theorem ifneg_abs (a : Int) : (if a < 0 then -a else a) = (a.natAbs : Int) := by split <;> omega
theorem gdiv_eq (a b : Int) : m_greatest_divisor a b = .ok (Int.gcd a b : Int) := by
  unfold m_greatest_divisor
  simp only [ifneg_abs]
  obtain ⟨z, e⟩ := gcd_loop ((b.natAbs : Int).toNat + 1) a.natAbs b.natAbs (by omega) (by omega) (by omega)
  rw [e, bind_ok]
  simp [Int.gcd]
theorem isint_i (n : Int) : m_is_integer (.i n) = .ok true := by unfold m_is_integer; rfl
theorem isint_b (n : Bool) : m_is_integer (.b n) = .ok false := by unfold m_is_integer; rfl
theorem isint_o : m_is_integer .o = .ok false := by unfold m_is_integer; rfl
theorem ratio_err {n d : Int} (h : d < 1) : m_ratio (.i n) (.i d) = .err .ratio := by
  unfold m_ratio
  rw [isint_i, isint_i, nx_ok, bind_ok, br_true, bind_ok, br_true]
  show br (decide (d < 1)) (.err .ratio) _ = _
  rw [decide_eq_true h]
  rfl
theorem ofQ_divInt {n d : Int} (h : 0 < d) : ofQ (Rat.divInt n d) = (n / (Int.gcd n d : Int), d / (Int.gcd n d : Int)) := by
  unfold ofQ
  rw [Rat.num_divInt, Rat.den_divInt, if_neg (by omega), Int.sign_eq_one_of_pos h, Int.one_mul, Int.gcd_comm]
  congr 1
  rw [Int.natCast_ediv, Int.natAbs_of_nonneg (by omega)]
theorem gcd_le_den {n d : Int} (h : 0 < d) : (Int.gcd n d : Int) ≤ d := by
  have := Int.gcd_le_right n h
  omega
theorem gcd_pos {n d : Int} (h : 0 < d) : 0 < (Int.gcd n d : Int) := by
  have : 0 < Int.gcd n d := Int.gcd_pos_iff.mpr (.inr (by omega))
  omega
theorem ratio_eq {n d : Int} (h : 0 < d) (hd : d.natAbs < 2 ^ 8999) : m_ratio (.i n) (.i d) = .ok (ofQ (Rat.divInt n d)) := by
  unfold m_ratio
  rw [isint_i, isint_i, nx_ok, bind_ok, br_true, bind_ok, br_true]
  show br (decide (d < 1)) (.err .ratio) _ = _
  rw [decide_eq_false (by omega), br_false]
  show (nx (m_greatest_divisor n d)).bind _ = _
  rw [gdiv_eq, nx_ok, bind_ok]
  have hg : divOk (Int.gcd n d : Int) = true := divOk_pow (m := 8999) (gcd_pos h) (Nat.lt_of_le_of_lt (by have := gcd_le_den (n := n) h; omega) hd) (by decide)
  rw [chk_of hg, chk_of hg, ofQ_divInt h]
theorem natAbs_div_le (n : Int) {g : Int} (h : 0 < g) : (n / g).natAbs ≤ n.natAbs := by
  by_cases z : 0 ≤ n
  · have h1 : 0 ≤ n / g := Int.ediv_nonneg z (by omega)
    have h2 : n / g ≤ n := Int.ediv_le_self _ z
    omega
  · have h1 : n ≤ n / g := by
      have := Int.le_ediv_of_mul_le h (show n * g ≤ n from by
        have h3 : 1 ≤ g := h
        have := Int.mul_le_mul_of_nonpos_left (a := n) (b := g) (c := 1) (by omega) h3
        omega)
      exact this
    have h2 : n / g < 0 := Int.ediv_neg_of_neg_of_pos (by omega) h
    omega
theorem sm_divInt {n d : Int} {B : Nat} (h : 0 < d) (hn : n.natAbs < 2 ^ B) (hd : d.natAbs < 2 ^ B) : sm B (Rat.divInt n d) := by
  have e := ofQ_divInt (n := n) h
  have e1 : (Rat.divInt n d).num = _ := congrArg Prod.fst e
  have e2 : ((Rat.divInt n d).den : Int) = _ := congrArg Prod.snd e
  have hg := gcd_pos (n := n) h
  constructor
  · rw [e1]
    exact Nat.lt_of_le_of_lt (natAbs_div_le n hg) hn
  · have : (d / (Int.gcd n d : Int)).natAbs ≤ d.natAbs := natAbs_div_le d hg
    have e2' : ((Rat.divInt n d).den : Int) = d / (Int.gcd n d : Int) := e2
    have e3 : (Rat.divInt n d).den = (d / (Int.gcd n d : Int)).natAbs := by omega
    rw [e3]
    exact Nat.lt_of_le_of_lt this hd
theorem divInt_ofQ (q : Rat) : Rat.divInt (ofQ q).1 (ofQ q).2 = q := by
  show Rat.divInt q.num q.den = q
  rw [Rat.divInt_ofNat, Rat.mkRat_self]
theorem den_pos' (q : Rat) : (0 : Int) < (ofQ q).2 := by
  have := q.den_pos
  show (0 : Int) < (q.den : Int)
  omega
theorem mul_lt_pow {a b : Int} {m n : Nat} (ha : a.natAbs < 2 ^ m) (hb : b.natAbs < 2 ^ n) : (a * b).natAbs < 2 ^ (m + n) := by
  rw [Int.natAbs_mul, Nat.pow_add]
  exact Nat.mul_lt_mul'' ha hb
theorem sm.n1 {B : Nat} {q : Rat} (h : sm B q) : (ofQ q).1.natAbs < 2 ^ B := h.1
theorem sm.d1 {B : Nat} {q : Rat} (h : sm B q) : (ofQ q).2.natAbs < 2 ^ B := by show ((q.den : Int)).natAbs < _; simpa using h.2
section
variable {B : Nat} {x y : Rat}
theorem add_small {a b : Int} {m : Nat} (ha : a.natAbs < 2 ^ m) (hb : b.natAbs < 2 ^ m) : (a + b).natAbs < 2 ^ (m + 1) ∧ (a - b).natAbs < 2 ^ (m + 1) := by
  rw [Nat.pow_succ]
  omega
theorem pow_up {a m n : Nat} (h : a < 2 ^ m) (l : m ≤ n) : a < 2 ^ n := Nat.lt_of_lt_of_le h (Nat.pow_le_pow_right (by decide) l)
theorem add_eq (hx : sm B x) (hy : sm B y) (hB : B ≤ 4000) : m_add (ofQ x) (ofQ y) = .ok (ofQ (x + y)) ∧ sm (2 * B + 1) (x + y) := by
  have p := den_pos' x
  have q := den_pos' y
  have e : x + y = Rat.divInt ((ofQ x).1 * (ofQ y).2 + (ofQ y).1 * (ofQ x).2) ((ofQ x).2 * (ofQ y).2) := by
    have := Rat.divInt_add_divInt (ofQ x).1 (ofQ y).1 (d₁ := (ofQ x).2) (d₂ := (ofQ y).2) (by omega) (by omega)
    rw [divInt_ofQ, divInt_ofQ] at this
    exact this
  have hd : 0 < (ofQ x).2 * (ofQ y).2 := Int.mul_pos p q
  have s1 := mul_lt_pow hx.d1 hy.d1
  have s2 := add_small (mul_lt_pow hx.n1 hy.d1) (mul_lt_pow hy.n1 hx.d1)
  rw [show B + B = 2 * B from by omega] at s1 s2
  refine ⟨?_, ?_⟩
  · unfold m_add
    rw [chk_of (mulOk_pow hx.n1 hy.d1 (by omega)), chk_of (mulOk_pow hy.n1 hx.d1 (by omega)), chk_of (mulOk_pow hx.d1 hy.d1 (by omega)), ratio_eq hd (pow_up s1 (by omega)), bind_ok, ← e]
  · rw [e]
    exact sm_divInt hd s2.1 (pow_up s1 (by omega))
theorem sub_eq (hx : sm B x) (hy : sm B y) (hB : B ≤ 4000) : m_sub (ofQ x) (ofQ y) = .ok (ofQ (x - y)) ∧ sm (2 * B + 1) (x - y) := by
  have p := den_pos' x
  have q := den_pos' y
  have e : x - y = Rat.divInt ((ofQ x).1 * (ofQ y).2 - (ofQ y).1 * (ofQ x).2) ((ofQ x).2 * (ofQ y).2) := by
    have := Rat.divInt_sub_divInt (ofQ x).1 (ofQ y).1 (d₁ := (ofQ x).2) (d₂ := (ofQ y).2) (by omega) (by omega)
    rw [divInt_ofQ, divInt_ofQ] at this
    exact this
  have hd : 0 < (ofQ x).2 * (ofQ y).2 := Int.mul_pos p q
  have s1 := mul_lt_pow hx.d1 hy.d1
  have s2 := add_small (mul_lt_pow hx.n1 hy.d1) (mul_lt_pow hy.n1 hx.d1)
  rw [show B + B = 2 * B from by omega] at s1 s2
  refine ⟨?_, ?_⟩
  · unfold m_sub
    rw [chk_of (mulOk_pow hx.n1 hy.d1 (by omega)), chk_of (mulOk_pow hy.n1 hx.d1 (by omega)), chk_of (mulOk_pow hx.d1 hy.d1 (by omega)), ratio_eq hd (pow_up s1 (by omega)), bind_ok, ← e]
  · rw [e]
    exact sm_divInt hd s2.2 (pow_up s1 (by omega))
theorem times_eq (hx : sm B x) (hy : sm B y) (hB : B ≤ 4000) : m_times (ofQ x) (ofQ y) = .ok (ofQ (x * y)) ∧ sm (2 * B) (x * y) := by
  have p := den_pos' x
  have q := den_pos' y
  have e : x * y = Rat.divInt ((ofQ x).1 * (ofQ y).1) ((ofQ x).2 * (ofQ y).2) := by
    have := Rat.divInt_mul_divInt (ofQ x).1 (ofQ y).1 (d₁ := (ofQ x).2) (d₂ := (ofQ y).2)
    rw [divInt_ofQ, divInt_ofQ] at this
    exact this
  have hd : 0 < (ofQ x).2 * (ofQ y).2 := Int.mul_pos p q
  have s1 := mul_lt_pow hx.d1 hy.d1
  have s2 := mul_lt_pow hx.n1 hy.n1
  rw [show B + B = 2 * B from by omega] at s1 s2
  refine ⟨?_, ?_⟩
  · unfold m_times
    rw [chk_of (mulOk_pow hx.n1 hy.n1 (by omega)), chk_of (mulOk_pow hx.d1 hy.d1 (by omega)), ratio_eq hd (pow_up s1 (by omega)), bind_ok, ← e]
  · rw [e]
    exact sm_divInt hd s2 s1
theorem num_pos {q : Rat} : 0 < (ofQ q).1 ↔ 0 < q := by
  rw [Rat.lt_iff]
  show 0 < q.num ↔ (0 : Rat).num * (q.den : Int) < q.num * ((0 : Rat).den : Int)
  simp
theorem over_eq (hx : sm B x) (hy : sm B y) (h0 : 0 < y) (hB : B ≤ 4000) : m_over (ofQ x) (ofQ y) = .ok (ofQ (x / y)) ∧ sm (2 * B) (x / y) := by
  have p := den_pos' x
  have q := den_pos' y
  have r := num_pos.mpr h0
  have e : x / y = Rat.divInt ((ofQ x).1 * (ofQ y).2) ((ofQ x).2 * (ofQ y).1) := by
    have := Rat.divInt_mul_divInt (ofQ x).1 (ofQ y).2 (d₁ := (ofQ x).2) (d₂ := (ofQ y).1)
    rw [divInt_ofQ, ← Rat.inv_divInt, divInt_ofQ, ← Rat.div_def] at this
    exact this
  have hd : 0 < (ofQ x).2 * (ofQ y).1 := Int.mul_pos p r
  have s1 := mul_lt_pow hx.d1 hy.n1
  have s2 := mul_lt_pow hx.n1 hy.d1
  rw [show B + B = 2 * B from by omega] at s1 s2
  refine ⟨?_, ?_⟩
  · unfold m_over
    rw [decide_eq_false (by omega), br_false, decide_eq_false (by omega), br_false, chk_of (mulOk_pow hx.n1 hy.d1 (by omega)), chk_of (mulOk_pow hx.d1 hy.n1 (by omega)), ratio_eq hd (pow_up s1 (by omega)), bind_ok, ← e]
  · rw [e]
    exact sm_divInt hd s2 s1
theorem less_eq (hx : sm B x) (hy : sm B y) (hB : B ≤ 400000) : m_less (ofQ x) (ofQ y) = .ok (decide (x < y)) := by
  unfold m_less
  rw [chk_of (mulOk_pow hx.n1 hy.d1 (by omega)), chk_of (mulOk_pow hy.n1 hx.d1 (by omega))]
  congr 1
  rw [Bool.eq_iff_iff, decide_eq_true_eq, decide_eq_true_eq, Rat.lt_iff]
  rfl
theorem sm_int {n : Int} (h : n.natAbs < 2 ^ B) (hB : 0 < B) : sm B (n : Rat) := by
  constructor
  · rw [Rat.num_intCast]; exact h
  · rw [Rat.den_intCast]; exact Nat.one_lt_two_pow (by omega)
theorem divInt_one (n : Int) : Rat.divInt n 1 = (n : Rat) := by
  show Rat.divInt n ((1 : Nat) : Int) = _
  rw [Rat.divInt_ofNat, Rat.mkRat_one]
theorem ratio1_eq (n : Int) : m_ratio (.i n) (.i 1) = .ok (ofQ (n : Rat)) := by
  rw [ratio_eq (by decide) (show (1 : Int).natAbs < 2 ^ 8999 from Nat.one_lt_two_pow (by decide)), divInt_one]
end
end Lw
/-! Pq: measures that go evenly between stones -/
namespace Lw
open PySem L2 Kb
abbrev Stone := Int × Rat
/-- the line through two stones -/
def lin (a b : Stone) (t : Rat) : Rat := a.2 + (b.2 - a.2) * (t - a.1) / (b.1 - a.1)
/-- the line the other way -/
def nil_ (a b : Stone) (m : Rat) : Rat := a.1 + (b.1 - a.1) * (m - a.2) / (b.2 - a.2)
def meas : List Stone → Rat → Rat
  | a :: b :: r, t => if t ≤ (b.1 : Rat) then lin a b t else meas (b :: r) t
  | _, _ => 0
def plc : List Stone → Rat → Rat
  | a :: b :: r, m => if m ≤ b.2 then nil_ a b m else plc (b :: r) m
  | _, _ => 0
abbrev Up2 (a b : Stone) : Prop := a.1 < b.1 ∧ a.2 < b.2
theorem icast_lt {a b : Int} (h : a < b) : (a : Rat) < (b : Rat) := Rat.intCast_lt_intCast.mpr h
theorem icast_le {a b : Int} (h : a ≤ b) : (a : Rat) ≤ (b : Rat) := Rat.intCast_le_intCast.mpr h
theorem mul_inv_c {c : Rat} (h : 0 < c) : c * c⁻¹ = 1 := Rat.mul_inv_cancel c (Rat.ne_of_gt h)
theorem lin_at_l {a b : Stone} : lin a b a.1 = a.2 := by unfold lin; grind
theorem lin_at_r {a b : Stone} (h : Up2 a b) : lin a b b.1 = b.2 := by
  have := icast_lt h.1
  unfold lin; grind
theorem lin_mono {a b : Stone} (h : Up2 a b) {s t : Rat} (st : s < t) : lin a b s < lin a b t := by
  have h1 := icast_lt h.1
  have hc : (0 : Rat) < ((b.1 : Rat) - a.1)⁻¹ := Rat.inv_pos.mpr (by grind)
  have hd : (0 : Rat) < (b.2 - a.2) * ((b.1 : Rat) - a.1)⁻¹ := Rat.mul_pos (by have := h.2; grind) hc
  have he : (0 : Rat) < ((b.2 - a.2) * ((b.1 : Rat) - a.1)⁻¹) * (t - s) := Rat.mul_pos hd (by grind)
  unfold lin
  rw [Rat.div_def, Rat.div_def]
  grind
theorem lin_mono' {a b : Stone} (h : Up2 a b) {s t : Rat} (st : s ≤ t) : lin a b s ≤ lin a b t := by
  rcases Rat.le_iff_lt_or_eq.mp st with l | e
  · exact Rat.le_of_lt (lin_mono h l)
  · rw [e]; exact Rat.le_refl
theorem nil_lin {a b : Stone} (h : Up2 a b) (t : Rat) : nil_ a b (lin a b t) = t := by
  have h1 := icast_lt h.1
  have h2 := h.2
  have e : lin a b t - a.2 = (b.2 - a.2) * (t - a.1) / (b.1 - a.1) := by unfold lin; grind
  unfold nil_
  rw [e]
  have p1 := mul_inv_c (c := (b.1 : Rat) - a.1) (by grind)
  have p2 := mul_inv_c (c := b.2 - a.2) (by grind)
  simp only [Rat.div_def]
  grind
theorem lin_affine {a b : Stone} (p t s : Rat) : lin a b (p + t * s) = lin a b p + s * (lin a b (p + t) - lin a b p) := by
  unfold lin
  simp only [Rat.div_def]
  grind
/-- stones that rise -/
def Rise (qs : List Stone) : Prop := qs.Pairwise Up2
theorem Rise.tail {a : Stone} {r : List Stone} (h : Rise (a :: r)) : Rise r := (List.pairwise_cons.mp h).2
theorem Rise.up {a b : Stone} {r : List Stone} (h : Rise (a :: b :: r)) : Up2 a b := (List.pairwise_cons.mp h).1 b List.mem_cons_self
def lastS : List Stone → Stone
  | [] => (0, 0)
  | [a] => a
  | _ :: b :: r => lastS (b :: r)
theorem Rise.last : ∀ {a : Stone} {r : List Stone}, Rise (a :: r) → r ≠ [] → Up2 a (lastS (a :: r))
  | a, [], _, n => absurd rfl n
  | a, [b], h, _ => h.up
  | a, b :: c :: r, h, _ => by
    have h2 := Rise.last (a := b) (r := c :: r) h.tail (by simp)
    have h1 := h.up
    show Up2 a (lastS (b :: c :: r))
    exact ⟨Int.lt_trans h1.1 h2.1, by have := h1.2; have := h2.2; grind⟩
theorem meas_first {a b : Stone} {r : List Stone} (h : Rise (a :: b :: r)) : meas (a :: b :: r) a.1 = a.2 := by
  unfold meas
  rw [if_pos (Rat.le_of_lt (icast_lt h.up.1)), lin_at_l]
theorem meas_in {a b : Stone} {r : List Stone} {t : Rat} (h : t ≤ b.1) : meas (a :: b :: r) t = lin a b t := by
  unfold meas; rw [if_pos h]
theorem meas_skip {a b c : Stone} {r : List Stone} (h : Rise (a :: b :: c :: r)) {t : Rat} (ht : (b.1 : Rat) ≤ t) : meas (a :: b :: c :: r) t = meas (b :: c :: r) t := by
  by_cases e : t ≤ (b.1 : Rat)
  · have : t = b.1 := Rat.le_antisymm e ht
    subst this
    rw [meas_in e, lin_at_r h.up, meas_first h.tail]
  · rw [meas, if_neg e]
theorem meas_last : ∀ {a : Stone} {r : List Stone}, Rise (a :: r) → r ≠ [] → meas (a :: r) ((lastS (a :: r)).1 : Rat) = (lastS (a :: r)).2
  | a, [], _, n => absurd rfl n
  | a, [b], h, _ => by
    show meas [a, b] (b.1 : Rat) = b.2
    rw [meas_in (by exact Rat.le_refl), lin_at_r h.up]
  | a, b :: c :: r, h, _ => by
    show meas (a :: b :: c :: r) ((lastS (b :: c :: r)).1 : Rat) = (lastS (b :: c :: r)).2
    have l := (h.tail.last (by simp)).1
    rw [meas_skip h (Rat.le_of_lt (icast_lt l)), meas_last h.tail (by simp)]
/-- one line holds around each cell -/
theorem meas_seg : ∀ {a : Stone} {r : List Stone} {p : Int}, Rise (a :: r) → a.1 ≤ p → p + 1 ≤ (lastS (a :: r)).1 → ∃ x y, x ∈ a :: r ∧ y ∈ a :: r ∧ Up2 x y ∧ x.1 ≤ p ∧ p + 1 ≤ y.1 ∧ ∀ t : Rat, (p : Rat) ≤ t → t ≤ (p + 1 : Int) → meas (a :: r) t = lin x y t
  | a, [], p, _, h1, h2 => by exfalso; have h2' : p + 1 ≤ a.1 := h2; omega
  | a, [b], p, h, h1, h2 => ⟨a, b, by simp, by simp, h.up, h1, h2, fun t _ l => meas_in (Rat.le_trans l (icast_le h2))⟩
  | a, b :: c :: r, p, h, h1, h2 => by
    by_cases e : p + 1 ≤ b.1
    · exact ⟨a, b, by simp, by simp, h.up, h1, e, fun t _ l => meas_in (Rat.le_trans l (icast_le e))⟩
    · obtain ⟨x, y, hx, hy, u, q1, q2, k⟩ := meas_seg (a := b) (r := c :: r) (p := p) h.tail (by omega) h2
      exact ⟨x, y, List.mem_cons_of_mem _ hx, List.mem_cons_of_mem _ hy, u, q1, q2, fun t g l => by rw [meas_skip h (Rat.le_trans (icast_le (by omega)) g), k t g l]⟩
theorem meas_ge : ∀ {a : Stone} {r : List Stone} {t : Rat}, Rise (a :: r) → (a.1 : Rat) < t → t ≤ (lastS (a :: r)).1 → a.2 < meas (a :: r) t
  | a, [], t, _, lt, le => by exfalso; have le' : t ≤ (a.1 : Rat) := le; grind
  | a, [b], t, h, lt, le => by
    have le' : t ≤ (b.1 : Rat) := le
    rw [meas_in le']
    have := lin_mono h.up lt
    rw [lin_at_l] at this
    exact this
  | a, b :: c :: r, t, h, lt, le => by
    by_cases e : t ≤ (b.1 : Rat)
    · rw [meas_in e]
      have := lin_mono h.up lt
      rw [lin_at_l] at this
      exact this
    · rw [meas, if_neg e]
      have h2 := meas_ge (a := b) (r := c :: r) (t := t) h.tail (Rat.not_le.mp e) le
      have := h.up.2
      grind
/-- measures rise -/
theorem meas_mono : ∀ {a : Stone} {r : List Stone} {s t : Rat}, Rise (a :: r) → (a.1 : Rat) ≤ s → s < t → t ≤ (lastS (a :: r)).1 → meas (a :: r) s < meas (a :: r) t
  | a, [], s, t, _, h1, h2, h3 => by exfalso; have h3' : t ≤ (a.1 : Rat) := h3; grind
  | a, [b], s, t, h, h1, h2, h3 => by
    have h3' : t ≤ (b.1 : Rat) := h3
    rw [meas_in h3', meas_in (by grind)]
    exact lin_mono h.up h2
  | a, b :: c :: r, s, t, h, h1, h2, h3 => by
    by_cases e : (b.1 : Rat) ≤ s
    · rw [meas_skip h e, meas_skip h (by grind)]
      exact meas_mono h.tail e h2 h3
    · have e' : s < b.1 := Rat.not_le.mp e
      rw [meas_in (Rat.le_of_lt e')]
      by_cases e2 : t ≤ (b.1 : Rat)
      · rw [meas_in e2]
        exact lin_mono h.up h2
      · rw [meas, if_neg e2]
        have k1 := lin_mono h.up e'
        rw [lin_at_r h.up] at k1
        have k2 := meas_ge (a := b) (r := c :: r) h.tail (Rat.not_le.mp e2) h3
        grind
theorem plc_meas : ∀ {a : Stone} {r : List Stone} {t : Rat}, Rise (a :: r) → r ≠ [] → (a.1 : Rat) ≤ t → t ≤ (lastS (a :: r)).1 → plc (a :: r) (meas (a :: r) t) = t
  | a, [], t, _, n, _, _ => absurd rfl n
  | a, [b], t, h, _, h1, h2 => by
    have h2' : t ≤ (b.1 : Rat) := h2
    have k := lin_mono' h.up h2'
    rw [lin_at_r h.up] at k
    rw [meas_in h2', plc, if_pos k, nil_lin h.up]
  | a, b :: c :: r, t, h, _, h1, h2 => by
    by_cases e : t ≤ (b.1 : Rat)
    · have k := lin_mono' h.up e
      rw [lin_at_r h.up] at k
      rw [meas_in e, plc, if_pos k, nil_lin h.up]
    · have k2 := meas_ge (a := b) (r := c :: r) h.tail (Rat.not_le.mp e) h2
      rw [meas, if_neg e, plc, if_neg (by grind)]
      exact plc_meas h.tail (by simp) (Rat.le_of_lt (Rat.not_le.mp e)) h2
end Lw
/-! Pt: measures and places of a route's mirror -/
namespace Lw
open PySem L2 Kb
def emb (qs : List Stone) : List (Int × (Int × Int)) := qs.map fun s => (s.1, ofQ s.2)
theorem emb_get {qs : List Stone} {i : Nat} {x : Stone} (h : qs[i]? = some x) : (emb qs)[i]? = some (x.1, ofQ x.2) := by
  unfold emb; rw [List.getElem?_map, h]; rfl
theorem emb_len (qs : List Stone) : (emb qs).length = qs.length := by unfold emb; rw [List.length_map]
theorem emb_at {qs : List Stone} {i : Nat} {x : Stone} (h : qs[i]? = some x) : atI (emb qs) (i : Int) = some (x.1, ofQ x.2) := atI_nat (emb_get h)
theorem between_eq {B : Nat} {l h x y t : Rat} (hl : sm B l) (hh : sm B h) (hx : sm B x) (hy : sm B y) (ht : sm B t) (lt : l < h) (hB : B ≤ 480) :
    m_between (ofQ l) (ofQ h) (ofQ x) (ofQ y) (ofQ t) = .ok (ofQ (x + (y - x) * (t - l) / (h - l))) := by
  unfold m_between
  obtain ⟨e1, s1⟩ := sub_eq hy hx (by omega)
  obtain ⟨e2, s2⟩ := sub_eq ht hl (by omega)
  obtain ⟨e3, s3⟩ := times_eq s1 s2 (by omega)
  obtain ⟨e4, s4⟩ := sub_eq hh hl (by omega)
  obtain ⟨e5, s5⟩ := over_eq (B := 2 * (2 * B + 1)) s3 (s4.mono (by omega)) (by grind) (by omega)
  obtain ⟨e6, s6⟩ := add_eq (B := 2 * (2 * (2 * B + 1))) (hx.mono (by omega)) s5 (by omega)
  rw [e1, bind_ok, e2, bind_ok, e3, bind_ok, e4, bind_ok, e5, bind_ok, e6, bind_ok]
/-- the stones that the loop stops at -/
theorem meas_loop (qs : List Stone) (p : Int) : ∀ (l : List Stone) (i fuel : Nat), l = qs.drop i → 2 ≤ l.length → Rise l → p ≤ (lastS l).1 → (∀ a ∈ l.head?, a.1 ≤ p) → l.length ≤ fuel →
    ∃ (j : Nat) (x y : Stone), whileN fuel ((i + 1 : Nat) : Int) (fun s10 => opt (atI (emb qs) s10) fun x20 => br (decide (x20.1 < p)) (.ok true) (.ok false)) (fun s10 => .ok (s10 + 1)) = .ok ((j + 1 : Nat) : Int) ∧ qs[j]? = some x ∧ qs[j + 1]? = some y ∧ Up2 x y ∧ p ≤ y.1 ∧ x.1 ≤ p ∧ meas l p = lin x y p
  | [], i, fuel, e, h2, _, _, _, _ => by simp at h2
  | [a], i, fuel, e, h2, _, _, _, _ => by simp at h2
  | a :: b :: r, i, 0, e, _, _, _, _, hf => by simp at hf
  | a :: b :: r, i, fuel + 1, e, h2, hr, hp, ha, hf => by
    have e0 : qs[i]? = some a := by
      have : (qs.drop i)[0]? = some a := by rw [← e]; rfl
      rw [List.getElem?_drop] at this; simpa using this
    have e1 : qs[i + 1]? = some b := by
      have : (qs.drop i)[1]? = some b := by rw [← e]; rfl
      rw [List.getElem?_drop] at this; simpa using this
    rw [whileN_s, emb_at e1, opt_some]
    by_cases c : b.1 < p
    · rw [decide_eq_true (show (b.1, ofQ b.2).1 < p from c), br_true, bind_ok, br_true, bind_ok]
      cases r with
      | nil => exfalso; have hp' : p ≤ b.1 := hp; omega
      | cons c2 r2 =>
        have e' : b :: c2 :: r2 = qs.drop (i + 1) := by
          have := congrArg (List.drop 1) e
          rw [List.drop_drop] at this
          simpa using this
        obtain ⟨j, x, y, w, q1, q2, q3, q4, q6, q5⟩ := meas_loop qs p (b :: c2 :: r2) (i + 1) fuel e' (by simp) hr.tail hp (fun z hz => by
          have : b = z := by simpa using hz
          exact this ▸ (show b.1 ≤ p by omega)) (by simp at hf ⊢; omega)
        refine ⟨j, x, y, ?_, q1, q2, q3, q4, q6, ?_⟩
        · rw [show ((i + 1 : Nat) : Int) + 1 = ((i + 1 + 1 : Nat) : Int) by omega]; exact w
        · rw [meas_skip hr (icast_le (by omega)), q5]
    · refine ⟨i, a, b, ?_, e0, e1, hr.up, by omega, ha a (by simp), meas_in (icast_le (by omega))⟩
      rw [decide_eq_false (show ¬ (b.1, ofQ b.2).1 < p from c), br_false, bind_ok, br_false]
/-- stones of a route with n cells whose numbers have at most B bits -/
structure Stones (B : Nat) (qs : List Stone) (n : Int) : Prop where
  two : 2 ≤ qs.length
  rise : Rise qs
  first : ∃ a r, qs = a :: r ∧ a.1 = 0
  last : (lastS qs).1 = n
  sml : ∀ s ∈ qs, sm B s.2
theorem Rise.bounds : ∀ {a : Stone} {r : List Stone}, Rise (a :: r) → ∀ s ∈ a :: r, a.1 ≤ s.1 ∧ s.1 ≤ (lastS (a :: r)).1
  | a, [], _, s, h => by
    have : s = a := by simpa using h
    subst this
    exact ⟨Int.le_refl _, Int.le_refl _⟩
  | a, b :: r, h, s, hs => by
    have k := Rise.bounds (a := b) (r := r) h.tail
    have u := h.up.1
    show a.1 ≤ s.1 ∧ s.1 ≤ (lastS (b :: r)).1
    rcases List.mem_cons.mp hs with rfl | hs
    · have := k b List.mem_cons_self
      exact ⟨Int.le_refl _, by omega⟩
    · have := k s hs
      exact ⟨by omega, this.2⟩
theorem Stones.bound {B : Nat} {qs : List Stone} {n : Int} (h : Stones B qs n) {s : Stone} (m : s ∈ qs) : 0 ≤ s.1 ∧ s.1 ≤ n := by
  obtain ⟨a, r, e, z⟩ := h.first
  have hr := h.rise
  have hl := h.last
  rw [e] at hr hl m
  have := hr.bounds s m
  omega
section
variable {B C : Nat} {qs : List Stone} {n : Int} {r : M_Route}
theorem lin_div {x y : Stone} (u : Up2 x y) (p : Int) : lin x y p = Rat.divInt ((ofQ x.2).1 * (ofQ y.2).2 * (y.1 - p) + (ofQ y.2).1 * (ofQ x.2).2 * (p - x.1)) ((ofQ x.2).2 * (ofQ y.2).2 * (y.1 - x.1)) := by
  have h1 := divInt_ofQ x.2
  have h2 := divInt_ofQ y.2
  have d1 := den_pos' x.2
  have d2 := den_pos' y.2
  generalize (ofQ x.2).1 = X0 at *
  generalize (ofQ y.2).1 = Y0 at *
  generalize (ofQ x.2).2 = D0 at *
  generalize (ofQ y.2).2 = E0 at *
  rw [Rat.divInt_eq_div] at h1 h2 ⊢
  have c1 : (0 : Rat) < (D0 : Rat) := Rat.intCast_pos.mpr d1
  have c2 : (0 : Rat) < (E0 : Rat) := Rat.intCast_pos.mpr d2
  have c3 := icast_lt u.1
  unfold lin
  rw [← h1, ← h2]
  simp only [Rat.intCast_add, Rat.intCast_mul, Rat.intCast_sub]
  generalize (X0 : Rat) = X at *
  generalize (Y0 : Rat) = Y at *
  generalize (D0 : Rat) = D at *
  generalize (E0 : Rat) = E at *
  generalize ((x.1 : Int) : Rat) = l at *
  generalize ((y.1 : Int) : Rat) = h at *
  generalize ((p : Int) : Rat) = t at *
  have p3 := mul_inv_c (c := h - l) (by grind)
  have p4 : (D * E * (h - l)) * (D * E * (h - l))⁻¹ = 1 := Rat.mul_inv_cancel _ (Rat.ne_of_gt (Rat.mul_pos (Rat.mul_pos c1 c2) (by grind)))
  simp only [Rat.div_def]
  grind
theorem sm_lin {x y : Stone} (u : Up2 x y) {p : Int} (hx : sm B x.2) (hy : sm B y.2) (h1 : x.1 ≤ p) (h2 : p ≤ y.1) (hC : (y.1 - x.1).natAbs < 2 ^ C) : sm (2 * B + C + 1) (lin x y p) := by
  rw [lin_div u]
  have d1 := den_pos' x.2
  have d2 := den_pos' y.2
  refine sm_divInt (Int.mul_pos (Int.mul_pos d1 d2) (by have := u.1; omega)) ?_ ?_
  · have k1 := mul_lt_pow (mul_lt_pow hx.n1 hy.d1) (show (y.1 - p).natAbs < 2 ^ C by omega)
    have k2 := mul_lt_pow (mul_lt_pow hy.n1 hx.d1) (show (p - x.1).natAbs < 2 ^ C by omega)
    have := (add_small k1 k2).1
    rw [show B + B = 2 * B by omega] at this
    exact this
  · have := mul_lt_pow (mul_lt_pow hx.d1 hy.d1) hC
    rw [show B + B = 2 * B by omega] at this
    exact pow_up this (by omega)
/-- the measure of a place -/
theorem measure_eq (hs : Stones B qs n) (e2 : r.2.1 = n) (e3 : r.2.2 = emb qs) (hn : n.natAbs < 2 ^ C) {p : Int} (h0 : 0 ≤ p) (hp : p ≤ n) (hC : C ≤ 480) (hB : B ≤ 480) (hC0 : 0 < C) :
    m_Route_measure r p = .ok (ofQ (meas qs p)) ∧ sm (2 * B + C + 1) (meas qs p) := by
  obtain ⟨a, rr, eq, z⟩ := hs.first
  have hr := hs.rise
  have hl := hs.last
  obtain ⟨j, x, y, w, q1, q2, u, q4, hpx, q5⟩ := meas_loop qs p qs 0 (qs.length + 1) rfl hs.two hr (by omega) (by
    intro q hq
    rw [eq] at hq
    have : a = q := by simpa using hq
    subst this; omega) (by omega)
  have mx : x ∈ qs := List.mem_of_getElem? q1
  have my : y ∈ qs := List.mem_of_getElem? q2
  have bx := hs.bound mx
  have by_ := hs.bound my
  have e1 : lin x y p = x.2 + (y.2 - x.2) * ((p : Rat) - x.1) / (y.1 - x.1) := rfl
  have smI : ∀ k : Int, 0 ≤ k → k ≤ n → sm (max B C) (k : Rat) := fun k a b => (sm_int (B := C) (by omega) hC0).mono (by omega)
  have sB : ∀ {q : Rat}, sm B q → sm (max B C) q := fun h => h.mono (by omega)
  have bt := between_eq (smI x.1 bx.1 bx.2) (smI y.1 by_.1 by_.2) (sB (hs.sml x mx)) (sB (hs.sml y my)) (smI p h0 hp) (icast_lt u.1) (by omega)
  refine ⟨?_, by rw [q5]; exact sm_lin u (hs.sml x mx) (hs.sml y my) hpx q4 (by have := u.1; omega)⟩
  unfold m_Route_measure
  rw [e2, e3, emb_len]
  have t0 : orN (.ok (decide (p < (0 : Int)))) (.ok (decide (n < p))) = .ok false := by
    rw [decide_eq_false (by omega), decide_eq_false (by omega)]; rfl
  rw [t0, bind_ok, br_false]
  have w' : whileN (qs.length + 1) (1 : Int) (fun s10 => opt (atI (emb qs) s10) fun x20 => br (decide (x20.1 < p)) (.ok true) (.ok false)) (fun s10 => .ok (s10 + 1)) = .ok ((j + 1 : Nat) : Int) := w
  rw [w', bind_ok, show ((j + 1 : Nat) : Int) - 1 = (j : Int) by omega, emb_at q1, opt_some, emb_at q2, opt_some, ratio1_eq, bind_ok, ratio1_eq, bind_ok, ratio1_eq, bind_ok, bt, bind_ok, q5, e1]
/-- a place that is none -/
theorem measure_off (e2 : r.2.1 = n) {p : Int} (h : p < 0 ∨ n < p) : m_Route_measure r p = .err .off := by
  unfold m_Route_measure
  have t0 : orN (.ok (decide (p < (0 : Int)))) (.ok (decide (r.2.1 < p))) = .ok true := by
    rw [e2]
    by_cases c : p < 0
    · rw [decide_eq_true c]; rfl
    · rw [decide_eq_false c, decide_eq_true (show n < p by omega)]; rfl
  rw [t0, bind_ok, br_true]
/-- the stones that the loop stops at -/
theorem plc_loop (qs : List Stone) (m : Rat) {B : Nat} (hB : B ≤ 400000) (hm : sm B m) (hs : ∀ s ∈ qs, sm B s.2) : ∀ (l : List Stone) (i fuel : Nat), l = qs.drop i → 2 ≤ l.length → Rise l → m ≤ (lastS l).2 → l.length ≤ fuel →
    ∃ (j : Nat) (x y : Stone), whileN fuel ((i + 1 : Nat) : Int) (fun s10 => opt (atI (emb qs) s10) fun x20 => (nx (m_less x20.2 (ofQ m))).bind fun y56 => br y56 (.ok true) (.ok false)) (fun s10 => .ok (s10 + 1)) = .ok ((j + 1 : Nat) : Int) ∧ qs[j]? = some x ∧ qs[j + 1]? = some y ∧ Up2 x y ∧ plc l m = nil_ x y m
  | [], i, fuel, e, h2, _, _, _ => by simp at h2
  | [a], i, fuel, e, h2, _, _, _ => by simp at h2
  | a :: b :: r, i, 0, e, _, _, _, hf => by simp at hf
  | a :: b :: r, i, fuel + 1, e, h2, hr, hp, hf => by
    have e0 : qs[i]? = some a := by
      have : (qs.drop i)[0]? = some a := by rw [← e]; rfl
      rw [List.getElem?_drop] at this; simpa using this
    have e1 : qs[i + 1]? = some b := by
      have : (qs.drop i)[1]? = some b := by rw [← e]; rfl
      rw [List.getElem?_drop] at this; simpa using this
    have sb := hs b (List.mem_of_getElem? e1)
    rw [whileN_s, emb_at e1, opt_some]
    have hl : m_less (b.1, ofQ b.2).2 (ofQ m) = .ok (decide (b.2 < m)) := less_eq sb hm hB
    rw [hl, nx_ok, bind_ok]
    by_cases c : b.2 < m
    · rw [decide_eq_true c, br_true, bind_ok, br_true, bind_ok]
      cases r with
      | nil => exfalso; have hp' : m ≤ b.2 := hp; grind
      | cons c2 r2 =>
        have e' : b :: c2 :: r2 = qs.drop (i + 1) := by
          have := congrArg (List.drop 1) e
          rw [List.drop_drop] at this
          simpa using this
        obtain ⟨j, x, y, w, q1, q2, q3, q5⟩ := plc_loop qs m hB hm hs (b :: c2 :: r2) (i + 1) fuel e' (by simp) hr.tail hp (by simp at hf ⊢; omega)
        refine ⟨j, x, y, ?_, q1, q2, q3, ?_⟩
        · rw [show ((i + 1 : Nat) : Int) + 1 = ((i + 1 + 1 : Nat) : Int) by omega]; exact w
        · rw [plc, if_neg (Rat.not_le.mpr c), q5]
    · refine ⟨i, a, b, ?_, e0, e1, hr.up, by rw [plc, if_pos (Rat.not_lt.mp c)]⟩
      rw [decide_eq_false c, br_false, bind_ok, br_false]
theorem lastS_get : ∀ {qs : List Stone}, qs ≠ [] → qs.getLast? = some (lastS qs)
  | [], h => absurd rfl h
  | [a], _ => rfl
  | a :: b :: r, _ => by
    rw [List.getLast?_cons_cons]
    exact lastS_get (by simp)
theorem emb_last {qs : List Stone} (h : qs ≠ []) : atI (emb qs) (-(1 : Int)) = some ((lastS qs).1, ofQ (lastS qs).2) := by
  refine atI_neg1 ?_
  unfold emb
  rw [List.getLast?_map, lastS_get h]
  rfl
theorem emb_first {qs : List Stone} {a : Stone} {t : List Stone} (h : qs = a :: t) : atI (emb qs) (0 : Int) = some (a.1, ofQ a.2) := by
  subst h; exact emb_at (i := 0) rfl
theorem Stones.ne (h : Stones B qs n) : qs ≠ [] := by intro e; have := h.two; rw [e] at this; simp at this
theorem lastS_mem : ∀ {qs : List Stone}, qs ≠ [] → lastS qs ∈ qs
  | [], h => absurd rfl h
  | [a], _ => by simp [lastS]
  | a :: b :: r, _ => List.mem_cons_of_mem _ (lastS_mem (by simp))
/-- the place of a measure -/
theorem place_eq (hs : Stones B qs n) (e3 : r.2.2 = emb qs) (hn : n.natAbs < 2 ^ C) (hC0 : 0 < C) {m : Rat} {D : Nat} (hm : sm D m) {a : Stone} {t : List Stone} (eq : qs = a :: t) (h0 : a.2 ≤ m) (h1 : m ≤ (lastS qs).2) (hB : B ≤ 480) (hC : C ≤ 480) (hD : D ≤ 480) :
    m_Route_place r (ofQ m) = .ok (ofQ (plc qs m)) := by
  have sB : ∀ {q : Rat}, sm B q → sm (max (max B C) D) q := fun h => h.mono (by omega)
  have sD := hm.mono (show D ≤ max (max B C) D by omega)
  have smI : ∀ k : Int, 0 ≤ k → k ≤ n → sm (max (max B C) D) (k : Rat) := fun k a b => (sm_int (B := C) (by omega) hC0).mono (by omega)
  obtain ⟨j, x, y, w, q1, q2, u, q5⟩ := plc_loop qs m (B := max (max B C) D) (by omega) sD (fun s h => sB (hs.sml s h)) qs 0 (qs.length + 1) rfl hs.two hs.rise h1 (by omega)
  have mx : x ∈ qs := List.mem_of_getElem? q1
  have my : y ∈ qs := List.mem_of_getElem? q2
  have bx := hs.bound mx
  have by_ := hs.bound my
  have ma : a ∈ qs := by rw [eq]; exact List.mem_cons_self
  have bt := between_eq (sB (hs.sml x mx)) (sB (hs.sml y my)) (smI x.1 bx.1 bx.2) (smI y.1 by_.1 by_.2) sD u.2 (by omega)
  have e1 : nil_ x y m = x.1 + (y.1 - x.1) * (m - x.2) / (y.2 - x.2) := rfl
  unfold m_Route_place
  rw [e3, emb_len, emb_first eq, opt_some]
  have l1 : m_less (ofQ m) (a.1, ofQ a.2).2 = .ok (decide (m < a.2)) := less_eq sD (sB (hs.sml a ma)) (by omega)
  have l2 : m_less ((lastS qs).1, ofQ (lastS qs).2).2 (ofQ m) = .ok (decide ((lastS qs).2 < m)) := less_eq (sB (hs.sml _ (lastS_mem hs.ne))) sD (by omega)
  rw [l1, nx_ok, bind_ok, decide_eq_false (Rat.not_lt.mpr h0), br_false, emb_last hs.ne, opt_some, l2, nx_ok, bind_ok, decide_eq_false (Rat.not_lt.mpr h1), br_false]
  have w' : whileN (qs.length + 1) (1 : Int) (fun s10 => opt (atI (emb qs) s10) fun x20 => (nx (m_less x20.2 (ofQ m))).bind fun y56 => br y56 (.ok true) (.ok false)) (fun s10 => .ok (s10 + 1)) = .ok ((j + 1 : Nat) : Int) := w
  rw [w', bind_ok, show ((j + 1 : Nat) : Int) - 1 = (j : Int) by omega, emb_at q1, opt_some, emb_at q2, opt_some, ratio1_eq, bind_ok, ratio1_eq, bind_ok, bt, bind_ok, q5, e1]
/-- a measure that is none -/
theorem place_off (hs : Stones B qs n) (e3 : r.2.2 = emb qs) {m : Rat} {D : Nat} (hm : sm D m) {a : Stone} {t : List Stone} (eq : qs = a :: t) (h : m < a.2 ∨ (lastS qs).2 < m) (hB : B ≤ 400000) (hD : D ≤ 400000) :
    m_Route_place r (ofQ m) = .err .off := by
  have sB : ∀ {q : Rat}, sm B q → sm (max B D) q := fun h => h.mono (by omega)
  have sD := hm.mono (show D ≤ max B D by omega)
  have ma : a ∈ qs := by rw [eq]; exact List.mem_cons_self
  have l1 : m_less (ofQ m) (a.1, ofQ a.2).2 = .ok (decide (m < a.2)) := less_eq sD (sB (hs.sml a ma)) (by omega)
  have l2 : m_less ((lastS qs).1, ofQ (lastS qs).2).2 (ofQ m) = .ok (decide ((lastS qs).2 < m)) := less_eq (sB (hs.sml _ (lastS_mem hs.ne))) sD (by omega)
  unfold m_Route_place
  rw [e3, emb_len, emb_first eq, opt_some, l1, nx_ok, bind_ok]
  by_cases c : m < a.2
  · rw [decide_eq_true c, br_true]
  · rw [decide_eq_false c, br_false, emb_last hs.ne, opt_some, l2, nx_ok, bind_ok, decide_eq_true (h.resolve_left c), br_true]
/-- stones that are right -/
theorem check_stones_eq (hs : Stones B qs n) (hB : B ≤ 400000) (hl : qs.length ≤ 1000000) : m_check_stones (emb qs) n = .ok () := by
  obtain ⟨a, t, eq, z⟩ := hs.first
  have h2 := hs.two
  unfold m_check_stones
  rw [emb_len, emb_first eq, emb_last hs.ne, opt_some, opt_some]
  have t0 : orN (.ok (decide ((qs.length : Int) < (2 : Int)))) (orN (.ok (!decide ((a.1, ofQ a.2).1 = (0 : Int)))) (.ok (!decide (((lastS qs).1, ofQ (lastS qs).2).1 = n)))) = .ok false := by
    rw [decide_eq_false (by omega), decide_eq_true (show (a.1, ofQ a.2).1 = (0 : Int) from z), decide_eq_true (show ((lastS qs).1, ofQ (lastS qs).2).1 = n from hs.last)]; rfl
  rw [t0, bind_ok, br_false]
  rw [chk_of (rngOk_of (by decide) (by decide)), chk_of (rngOk_of (by omega) (by omega))]
  refine Ok.eq (Ok.forN (fun _ _ => True) trivial ?_ fun s _ => Ok.ret rfl)
  intro i s x hx _
  obtain ⟨ex, hi⟩ := rng_get hx
  have hi' : i + 1 < qs.length := by omega
  have g0 : qs[i]? = some qs[i] := List.getElem?_eq_getElem (by omega)
  have g1 : qs[i + 1]? = some qs[i + 1] := List.getElem?_eq_getElem hi'
  have u : Up2 qs[i] qs[i + 1] := (List.pairwise_iff_getElem.mp hs.rise) i (i + 1) (by omega) hi' (by omega)
  have x1 : x = ((i + 1 : Nat) : Int) := by omega
  have x0 : x - 1 = (i : Int) := by omega
  rw [x0, x1, emb_at g0, emb_at g1, opt_some, opt_some, opt_some, opt_some]
  have l : m_less (qs[i].1, ofQ qs[i].2).2 (qs[i + 1].1, ofQ qs[i + 1].2).2 = .ok (decide (qs[i].2 < qs[i + 1].2)) := less_eq (hs.sml _ (List.mem_of_getElem? g0)) (hs.sml _ (List.mem_of_getElem? g1)) hB
  rw [decide_eq_false (show ¬ ((qs[i + 1].1, ofQ qs[i + 1].2).1 ≤ (qs[i].1, ofQ qs[i].2).1) from by have := u.1; show ¬ (qs[i + 1].1 ≤ qs[i].1); omega), br_false, l, nx_ok, bind_ok, decide_eq_true u.2, br_true]
  exact Ok.ret trivial
end
end Lw
/-! Pu: routes out of stretches -/
namespace Lw
open PySem L2 Kb
theorem cellsL_app (a b : List S4) : cellsL (a ++ b) = cellsL a ++ cellsL b := by unfold cellsL; rw [List.flatMap_append]
theorem cellsL_one (s : S4) : cellsL [s] = cellsS s := by unfold cellsL; simp
theorem cellsL_cons (s : S4) (r : List S4) : cellsL (s :: r) = cellsS s ++ cellsL r := by unfold cellsL; rfl
theorem cells_oneS (c : Cell) : cellsS (oneS c) = [c] := by
  unfold cellsS oneS
  simp only [Bool.false_eq_true, if_false, show c.2 + 1 - c.2 = 1 by omega]
  rfl
theorem ext_cells {l : S4} {c : Cell} {m : S4} (g : gdS l) (h : ext l c = some m) : cellsS m = cellsS l ++ [c] ∧ gdS m ∧ m.1 = l.1 := by
  obtain ⟨p, b, e, t⟩ := l
  obtain ⟨q, k⟩ := c
  have g' : b < e := g
  unfold ext at h
  simp only at h
  split at h
  · rename_i e1
    subst e1
    split at h
    · rename_i c1
      obtain ⟨c1, rfl⟩ := c1
      cases h
      refine ⟨?_, by show b < e + 1; omega, rfl⟩
      have e2 : cellsS (p, b, e, t) = upC p b (e - b).toNat := by
        unfold cellsS
        rcases c1 with c1 | c1
        · simp only [c1, Bool.false_eq_true, if_false]
        · simp only [show (e - b).toNat = 1 by omega]
          cases t <;> rfl
      rw [e2]
      unfold cellsS
      simp only [Bool.false_eq_true, if_false, show (e + 1 - b).toNat = (e - b).toNat + 1 by omega]
      rw [upC_snoc, show b + (((e - b).toNat : Nat) : Int) = e by omega]
    · split at h
      · rename_i c0 c1
        obtain ⟨c1, rfl⟩ := c1
        cases h
        refine ⟨?_, by show k < e; omega, rfl⟩
        have e2 : cellsS (p, k + 1, e, t) = (upC p (k + 1) (e - (k + 1)).toNat).reverse := by
          unfold cellsS
          rcases c1 with c1 | c1
          · simp only [c1, if_true]
          · simp only [show (e - (k + 1)).toNat = 1 by omega]
            cases t <;> rfl
        rw [e2]
        unfold cellsS
        simp only [if_true, show (e - k).toNat = (e - (k + 1)).toNat + 1 by omega]
        rw [upC_succ, List.reverse_cons]
      · cases h
  · cases h
theorem addR_cells {acc : List S4} {c : Cell} (h : ∀ l ∈ acc, gdS l) : cellsL (addR acc c).reverse = cellsL acc.reverse ++ [c] ∧ ∀ l ∈ addR acc c, gdS l := by
  have one : gdS (oneS c) := by show c.2 < c.2 + 1; omega
  cases acc with
  | nil =>
    refine ⟨?_, ?_⟩
    · show cellsL [oneS c] = [] ++ [c]
      rw [cellsL_one, cells_oneS]; rfl
    · intro l m
      have : l = oneS c := by simpa [addR] using m
      rw [this]; exact one
  | cons l r =>
    cases q : ext l c with
    | some m =>
      obtain ⟨e1, g1, _⟩ := ext_cells (h l List.mem_cons_self) q
      rw [addR_some q]
      refine ⟨?_, ?_⟩
      · rw [List.reverse_cons, List.reverse_cons, cellsL_app, cellsL_app, cellsL_one, cellsL_one, e1, List.append_assoc]
      · intro x hx
        rcases List.mem_cons.mp hx with rfl | hx
        · exact g1
        · exact h x (List.mem_cons_of_mem _ hx)
    | none =>
      rw [addR_none q]
      refine ⟨?_, ?_⟩
      · rw [List.reverse_cons, cellsL_app, cellsL_one, cells_oneS]
      · intro x hx
        rcases List.mem_cons.mp hx with rfl | hx
        · exact one
        · exact h x hx
theorem fold_cells : ∀ (cs : List Cell) (acc : List S4), (∀ l ∈ acc, gdS l) → cellsL (cs.foldl addR acc).reverse = cellsL acc.reverse ++ cs ∧ ∀ l ∈ cs.foldl addR acc, gdS l
  | [], acc, h => ⟨by rw [List.append_nil]; rfl, h⟩
  | c :: cs, acc, h => by
    obtain ⟨e1, g1⟩ := addR_cells (c := c) h
    obtain ⟨e2, g2⟩ := fold_cells cs (addR acc c) g1
    exact ⟨by rw [List.foldl_cons, e2, e1, List.append_assoc]; rfl, g2⟩
/-- the one form goes through the same cells -/
theorem canon_cells (cs : List Cell) : cellsL (canon cs) = cs := by
  have := (fold_cells cs [] (fun l m => by cases m)).1
  exact this
theorem canon_gd (cs : List Cell) : ∀ s ∈ canon cs, gdS s := fun s m => (fold_cells cs [] (fun l m => by cases m)).2 s (List.mem_reverse.mp m)
theorem few_fold : ∀ (ss : List S4) (acc : List S4), (∀ s ∈ ss, gdS s) → (∀ l ∈ acc, gdS l) → (cellsL acc.reverse ++ cellsL ss).Nodup → ss.foldl stepR acc = (cellsL ss).foldl addR acc
  | [], acc, _, _, _ => rfl
  | s :: ss, acc, hs, ha, nd => by
    have g := hs s List.mem_cons_self
    rw [cellsL_cons, List.foldl_cons, List.foldl_append]
    rw [cellsL_cons, ← List.append_assoc] at nd
    have st : stepR acc s = (cellsS s).foldl addR acc := by
      refine step_cells g fun l hl => ⟨?_, fun c hc hc' => ?_⟩
      · cases acc with
        | nil => cases hl
        | cons a r =>
          have : a = l := by simpa using hl
          subst this
          exact ha a List.mem_cons_self
      · cases acc with
        | nil => cases hl
        | cons a r =>
          have : a = l := by simpa using hl
          subst this
          rw [List.reverse_cons, cellsL_app, cellsL_one] at nd
          have nd2 := (List.nodup_append.mp nd).1
          have := (List.nodup_append.mp nd2).2.2 c (List.mem_append_right _ hc') c hc
          exact this rfl
    rw [st]
    obtain ⟨e1, g1⟩ := fold_cells (cellsS s) acc ha
    exact few_fold ss _ (fun x m => hs x (List.mem_cons_of_mem _ m)) g1 (by rw [e1]; exact nd)
/-- fewest tells the one form of the cells -/
theorem fewR_canon {ss : List S4} (hs : ∀ s ∈ ss, gdS s) (nd : (cellsL ss).Nodup) : fewR ss = canon (cellsL ss) := by
  unfold fewR canon
  rw [few_fold ss [] hs (fun l m => by cases m) (by simpa [cellsL] using nd)]
theorem addR_len (acc : List S4) (c : Cell) : (addR acc c).length ≤ acc.length + 1 := by
  cases acc with
  | nil => simp [addR]
  | cons l r =>
    cases q : ext l c with
    | some m => rw [addR_some q]; simp
    | none => rw [addR_none q]; simp
theorem fold_len : ∀ (cs : List Cell) (acc : List S4), (cs.foldl addR acc).length ≤ acc.length + cs.length
  | [], _ => Nat.le_refl _
  | c :: cs, acc => by
    have h1 := addR_len acc c
    have h2 := fold_len cs (addR acc c)
    rw [List.foldl_cons, List.length_cons]
    omega
theorem canon_len (cs : List Cell) : (canon cs).length ≤ cs.length := by
  have := fold_len cs []
  unfold canon
  rw [List.length_reverse]
  simpa using this
theorem addR_ne (acc : List S4) (c : Cell) : addR acc c ≠ [] := by
  cases acc with
  | nil => simp [addR]
  | cons l r =>
    cases q : ext l c with
    | some m => rw [addR_some q]; simp
    | none => rw [addR_none q]; simp
theorem canon_ne {cs : List Cell} (h : cs ≠ []) : canon cs ≠ [] := by
  intro e
  have := canon_cells cs
  rw [e] at this
  exact h this.symm
/-- begins from 0 on -/
theorem canon_b {cs : List Cell} (h : ∀ c ∈ cs, 0 ≤ c.2) : ∀ s ∈ canon cs, 0 ≤ s.2.1 := fun s m => by
  have g := canon_gd cs s m
  have : (s.1, s.2.1) ∈ cellsL (canon cs) := List.mem_flatMap.mpr ⟨s, m, mem_cellsS.mpr ⟨rfl, Int.le_refl _, g⟩⟩
  rw [canon_cells] at this
  exact h _ this
theorem upC_get {p : PySem.Str} {b : Int} {n i : Nat} (h : i < n) : (upC p b n)[i]? = some (p, b + i) := by
  unfold upC
  rw [List.getElem?_map, ints_at n b i h]; rfl
theorem upC_len (p : PySem.Str) (b : Int) (n : Nat) : (upC p b n).length = n := by unfold upC; rw [List.length_map, rng_len]
theorem cellsS_len (s : S4) : (cellsS s).length = (s.2.2.1 - s.2.1).toNat := by
  unfold cellsS
  split
  · rw [List.length_reverse, upC_len]
  · rw [upC_len]
def rowS (s : S4) : Rw := (s.1, s.2.1, s.2.2.1)
theorem sz_rows : ∀ {ss : List S4}, (∀ s ∈ ss, gdS s) → sz (ss.map rowS) = (cellsL ss).length
  | [], _ => rfl
  | s :: ss, h => by
    have g : s.2.1 < s.2.2.1 := h s List.mem_cons_self
    have ih := sz_rows (ss := ss) fun x m => h x (List.mem_cons_of_mem _ m)
    rw [cellsL_cons, List.length_append, cellsS_len]
    unfold sz at ih ⊢
    rw [List.map_cons, List.map_cons, List.sum_cons, ih]
    show s.2.2.1 - s.2.1 + _ = _
    omega
theorem covR_cells {s : S4} {p : PySem.Str} {k : Int} : covR (rowS s) p k ↔ (p, k) ∈ cellsS s := by
  rw [mem_cellsS]
  show s.1 = p ∧ s.2.1 ≤ k ∧ k < s.2.2.1 ↔ _
  exact ⟨fun ⟨a, b, c⟩ => ⟨a.symm, b, c⟩, fun ⟨a, b, c⟩ => ⟨a.symm, b, c⟩⟩
theorem dis_rows : ∀ {ss : List S4}, (cellsL ss).Nodup → Dis (ss.map rowS)
  | [], _ => List.Pairwise.nil
  | s :: ss, nd => by
    rw [cellsL_cons] at nd
    obtain ⟨n1, n2, n3⟩ := List.nodup_append.mp nd
    refine List.pairwise_cons.mpr ⟨fun r m p k c1 c2 => ?_, dis_rows n2⟩
    obtain ⟨x, hx, rfl⟩ := List.mem_map.mp m
    exact n3 (p, k) (covR_cells.mp c1) (p, k) (List.mem_flatMap.mpr ⟨x, hx, covR_cells.mp c2⟩) rfl
theorem comp_rows {ss : List S4} : compN ss (fun x6 => (.ok (x6.1, x6.2.1, x6.2.2.1) : Res Rw)) = .ok (ss.map rowS) := compN_map rowS fun _ _ => rfl
/-- stretches that are right -/
structure Str8 (ss : List S4) : Prop where
  ne : ss ≠ []
  gs : ∀ s ∈ ss, gdS s
  b0 : ∀ s ∈ ss, 0 ≤ s.2.1
  nd : (cellsL ss).Nodup
theorem Str8.rows {ss : List S4} (h : Str8 ss) : ∀ r ∈ ss.map rowS, gd r := fun r m => by
  obtain ⟨s, hs, rfl⟩ := List.mem_map.mp m
  exact ⟨h.b0 s hs, h.gs s hs⟩
theorem check_eq {ss : List S4} (h : Str8 ss) (hl : ss.length ≤ 1000000) : m_check_stretches ss = .ok () := by
  unfold m_check_stretches
  have lr : (ss.map rowS).length ≤ 1000000 := by rw [List.length_map]; exact hl
  rw [decide_eq_true (by have := sizeLine_big; omega), chk_true, comp_rows, bind_ok, normal_ok h.rows lr, bind_ok, tryM_ok]
  have ne : (!(ss.map rowS).isEmpty) = true := by
    cases ss with
    | nil => exact absurd rfl h.ne
    | cons => rfl
  rw [ne, br_true, size_ok' (Nat.le_trans (nrm_len _) lr), nx_ok, bind_ok, size_ok' lr, nx_ok, bind_ok, sz_nrm_dis h.rows (dis_rows h.nd), decide_eq_true rfl]
  rfl
/-- a route is made -/
theorem init_eq {B : Nat} {ss : List S4} {qs : List Stone} (h : Str8 ss) (hl : ss.length ≤ 1000000) (hs : Stones B qs ((cellsL ss).length : Int)) (hB : B ≤ 400000) (hq : qs.length ≤ 1000000) :
    m_Route_init ss (emb qs) = .ok (canon (cellsL ss), ((cellsL ss).length : Int), emb qs) := by
  unfold m_Route_init
  have lr : (ss.map rowS).length ≤ 1000000 := by rw [List.length_map]; exact hl
  rw [check_eq h hl, bind_ok, fewest_eq hl, nx_ok, bind_ok, decide_eq_true (by have := sizeLine_big; omega), chk_true, comp_rows, bind_ok, size_ok' lr, nx_ok, bind_ok, sz_rows h.gs, check_stones_eq hs hB hq, bind_ok, fewR_canon h.gs h.nd]
/-- what goes wrong with stretches -/
theorem canon8 {cs : List Cell} (ne : cs ≠ []) (h0 : ∀ c ∈ cs, 0 ≤ c.2) (nd : cs.Nodup) : Str8 (canon cs) :=
  ⟨canon_ne ne, canon_gd cs, canon_b h0, by rw [canon_cells]; exact nd⟩
end Lw
/-! Pv: what the laws of routes draw -/
namespace Lw
open PySem L2 Kb
theorem cell_ok (ns : List Int) {k : Int} (h0 : 0 ≤ k) (h1 : k ≤ 1000) : ∃ v, m_law_cell ns k = .ok v := by
  unfold m_law_cell
  by_cases h : k < (ns.length : Int)
  · rw [decide_eq_true h]
    obtain ⟨x, e, _⟩ := atI_in h0 h
    exact ⟨x, by rw [br_true, e]; rfl⟩
  · rw [decide_eq_false h, mulOk_of (m := 7) (n := 1000) (by decide) (by omega) (by decide)]
    exact ⟨_, rfl⟩
/-! #### the law's own greatest divisor -/
theorem gcd_emod' {a b : Int} (ha : 0 < a) (hb : 0 ≤ b) : Int.gcd (b % a) a = Int.gcd a b := by
  rw [Int.gcd_comm, gcd_emod hb ha, Int.gcd_comm]
theorem div_loop : ∀ (k : Nat) (l : List Int) (lo hi : Int), 0 ≤ lo → 0 ≤ hi → lo.toNat < 2 ^ k → 2 * k + 1 ≤ l.length →
    forR l ((lo, hi) : Int × Int) (fun s2 (_ : Int) => br (decide (s2.1 = (0 : Int))) (.ok (.ret s2.2)) (chk (decide (0 < s2.1)) <| .ok (.nx ((s2.2 % s2.1), s2.1)))) = .ok (.ret (Int.gcd lo hi : Int))
  | 0, [], lo, hi, _, _, _, hl => by simp at hl
  | 0, x :: l, lo, hi, h0, h1, h2, hl => by
    have : lo = 0 := by omega
    subst this
    rw [forR_cons]
    show Res.bind (br (decide ((0 : Int) = 0)) _ _) _ = _
    rw [decide_eq_true rfl, br_true, bind_ok, Int.gcd_zero_left, Int.natAbs_of_nonneg h1]
  | k + 1, [], lo, hi, _, _, _, hl => by simp at hl
  | k + 1, [x], lo, hi, _, _, _, hl => by simp at hl
  | k + 1, x :: y :: l, lo, hi, h0, h1, h2, hl => by
    rw [forR_cons]
    by_cases z : lo = 0
    · subst z
      show Res.bind (br (decide ((0 : Int) = 0)) _ _) _ = _
      rw [decide_eq_true rfl, br_true, bind_ok, Int.gcd_zero_left, Int.natAbs_of_nonneg h1]
    · have lp : 0 < lo := by omega
      show Res.bind (br (decide (lo = 0)) _ (chk (decide (0 < lo)) (.ok (Ctl.nx (hi % lo, lo))))) _ = _
      rw [decide_eq_false z, br_false, decide_eq_true lp, chk_true, bind_ok]
      have m := mod_lt' hi lp
      show forR (y :: l) (hi % lo, lo) _ = _
      rw [forR_cons]
      by_cases z2 : hi % lo = 0
      · show Res.bind (br (decide (hi % lo = 0)) _ _) _ = _
        rw [decide_eq_true z2, br_true, bind_ok, ← gcd_emod' lp h1, z2, Int.gcd_zero_left, Int.natAbs_of_nonneg h0]
      · have rp : 0 < hi % lo := by omega
        show Res.bind (br (decide (hi % lo = 0)) _ (chk (decide (0 < hi % lo)) (.ok (Ctl.nx (lo % (hi % lo), hi % lo))))) _ = _
        rw [decide_eq_false z2, br_false, decide_eq_true rp, chk_true, bind_ok]
        have m2 := mod_lt' lo rp
        have half : 2 * (lo % (hi % lo)) < lo := by
          have e := Int.mul_ediv_add_emod lo (hi % lo)
          have q1 : 1 ≤ lo / (hi % lo) := (Int.le_ediv_iff_mul_le rp).mpr (by omega)
          have : (hi % lo) * 1 ≤ (hi % lo) * (lo / (hi % lo)) := Int.mul_le_mul_of_nonneg_left q1 (by omega)
          omega
        have ih := div_loop k l (lo % (hi % lo)) (hi % lo) m2.1 (by omega) (by rw [Nat.pow_succ] at h2; omega) (by simp at hl; omega)
        show forR l (lo % (hi % lo), hi % lo) _ = _
        rw [ih, gcd_emod' rp h0, gcd_emod' lp h1]
theorem ldiv_eq {a b : Int} (ha : a.natAbs < 2 ^ 199) : m_law_divisor a b = .ok (Int.gcd a b : Int) := by
  unfold m_law_divisor
  simp only [ifneg_abs]
  have k := div_loop 199 (rng 0 (400 : Int).toNat) a.natAbs b.natAbs (by omega) (by omega) (by simpa using ha) (by rw [rng_len]; decide)
  rw [chk_of (rngOk_of (by decide) (by decide)), k, bind_ok]
  show (Res.ok _ : Res Int) = _
  simp [Int.gcd]
theorem llow_eq {n d : Int} (h : 0 < d) (hn : n.natAbs < 2 ^ 199) (hd : d.natAbs < 2 ^ 199) : m_law_low (n, d) = .ok (ofQ (Rat.divInt n d)) := by
  unfold m_law_low
  have hg : divOk (Int.gcd n d : Int) = true := divOk_pow (m := 199) (gcd_pos h) (Nat.lt_of_le_of_lt (by have := gcd_le_den (n := n) h; omega) hd) (by decide)
  show (m_law_divisor n d).bind _ = _
  rw [ldiv_eq hn, bind_ok, chk_of hg, chk_of hg, ofQ_divInt h]
theorem isr_eq {q : Rat} (h : sm 199 q) : m_law_is_ratio (ofQ q) = .ok true := by
  unfold m_law_is_ratio
  have g1 : (Int.gcd (ofQ q).1 (ofQ q).2 : Int) = 1 := by
    have := q.reduced
    show ((Nat.gcd q.num.natAbs (q.den : Int).natAbs : Nat) : Int) = 1
    rw [Int.natAbs_natCast]
    have r : Nat.gcd q.num.natAbs q.den = 1 := this
    rw [r]; rfl
  have p := den_pos' q
  have e : (forR ([(ofQ q).1, (ofQ q).2] : List Int) () (fun (s4 : Unit) (x6 : Int) => br ((!true) || false) (.ok (Ctl.ret false)) (.ok (.nx ())))) = .ok (.nx ()) := rfl
  show br _ _ _ = _
  rw [show ((!true) || (!decide ((2 : Int) = (2 : Int)))) = false from rfl, br_false, e, bind_ok]
  show (Res.bind (br (decide ((1 : Int) ≤ (ofQ q).2)) _ _) _) = _
  rw [decide_eq_true (by omega), br_true, ldiv_eq h.n1, bind_ok, bind_ok, g1]
  rfl
/-! #### the order of cells -/
theorem memB_iff {α : Type} [DecidableEq α] {x : α} {xs : List α} : memB x xs = decide (x ∈ xs) := by
  unfold memB
  rw [Bool.eq_iff_iff, List.any_eq_true, decide_eq_true_eq]
  constructor
  · rintro ⟨y, m, e⟩
    rw [← of_decide_eq_true e]; exact m
  · intro m; exact ⟨x, m, decide_eq_true rfl⟩
theorem memB_t {α : Type} [DecidableEq α] {x : α} {xs : List α} (h : x ∈ xs) : memB x xs = true := by rw [memB_iff]; exact decide_eq_true h
theorem memB_f {α : Type} [DecidableEq α] {x : α} {xs : List α} (h : x ∉ xs) : memB x xs = false := by rw [memB_iff]; exact decide_eq_false h
theorem compF_c {α β : Type} {x : α} {xs : List α} {f : α → Res (Option β)} : compF (x :: xs) f = (nx (f x)).bind fun y => (compF xs f).bind fun ys => .ok (match y with | some z => z :: ys | none => ys) := rfl
theorem compF_filter {α β : Type} {f : α → Res (Option β)} (g : α → Option β) : ∀ {xs : List α}, (∀ x ∈ xs, f x = .ok (g x)) → compF xs f = .ok (xs.filterMap g)
  | [], _ => rfl
  | x :: xs, h => by
    rw [compF_c, h x List.mem_cons_self, nx_ok, bind_ok, compF_filter g fun y m => h y (List.mem_cons_of_mem _ m), bind_ok, List.filterMap_cons]
    cases g x <;> rfl
def abc : List PySem.Str := ["a", "b", "c"]
structure Cells (n : Nat) (cs : List Cell) : Prop where
  nd : cs.Nodup
  len : cs.length ≤ n
  rg : ∀ c ∈ cs, c.1 ∈ abc ∧ 0 ≤ c.2 ∧ c.2 < 38
theorem order_ok (ns : List Int) {at_ n : Int} (h0 : 0 ≤ at_) (h1 : at_ + n ≤ 900) (hn : 0 ≤ n) : Ok (m_law_order ns at_ n) (fun cs => Cells (8 * n.toNat + 1) cs ∧ cs ≠ []) := by
  unfold m_law_order
  have sl := sizeLine_big
  refine Ok.chk (rngOk_of (by omega) (by omega)) ?_
  refine Ok.forN (fun i s => Cells (8 * i) s.1 ∧ s.2.length = i) ⟨⟨List.nodup_nil, Nat.zero_le _, fun c m => by cases m⟩, rfl⟩ ?_ ?_
  · rintro i s x hx ⟨hc, hl⟩
    obtain ⟨ex, hi⟩ := rng_get hx
    obtain ⟨c, ec⟩ := cell_ok ns (k := at_ + x) (by omega) (by omega)
    rw [ec, bind_ok]
    obtain ⟨p, ep, mp⟩ := pick (xs := abc) (a := c) (m := 3) (by decide) rfl
    refine Ok.opt ep ?_
    have m8 := mod_lt' (c / 90) (m := 8) (by decide)
    have m30 := mod_lt' (c / 3) (m := 30) (by decide)
    refine Ok.chk (rngOk_of (by omega) (by omega)) ?_
    refine Ok.chk (decide_eq_true (by rw [rng_len]; omega)) ?_
    rw [compN_map (fun x66 => (p, ((c / (3 : Int)) % (30 : Int)) + x66)) fun _ _ => rfl, bind_ok]
    refine Ok.chk (decide_eq_true (by rw [List.length_map, rng_len]; omega)) ?_
    rw [compF_filter (fun c => if c ∈ s.1 then none else some c) (fun x _ => by
      show br (!memB x s.1) _ _ = _
      by_cases q : x ∈ s.1
      · rw [memB_t q, if_pos q]; rfl
      · rw [memB_f q, if_neg q]; rfl), bind_ok]
    generalize hY : ((rng 0 (1 + c / 90 % 8).toNat).map (fun x66 => (p, ((c / (3 : Int)) % (30 : Int)) + x66))).filterMap (fun c => if c ∈ s.1 then none else some c) = Y
    have hY' : Y.Nodup ∧ Y.length ≤ 8 ∧ (∀ d ∈ Y, d.1 ∈ abc ∧ 0 ≤ d.2 ∧ d.2 < 38) ∧ ∀ d ∈ Y, d ∉ s.1 := by
      have fe : ∀ l : List Cell, l.filterMap (fun c => if c ∈ s.1 then none else some c) = l.filter (fun c => decide (c ∉ s.1)) := by
        intro l
        induction l with
        | nil => rfl
        | cons a l ih =>
          rw [List.filterMap_cons]
          by_cases q : a ∈ s.1
          · rw [if_pos q, List.filter_cons_of_neg (by simpa using q)]; exact ih
          · rw [if_neg q, List.filter_cons_of_pos (by simpa using q)]; exact congrArg _ ih
      rw [fe] at hY
      subst hY
      refine ⟨List.Nodup.sublist List.filter_sublist ?_, ?_, ?_, ?_⟩
      · have nr : ∀ (n : Nat) (lo : Int), (rng lo n).Nodup := by
          intro n
          induction n with
          | zero => intro lo; exact List.nodup_nil
          | succ n ih =>
            intro lo
            show (lo :: rng (lo + 1) n).Nodup
            rw [List.nodup_cons]
            exact ⟨fun m => by have := rng_mem.mp m; omega, ih _⟩
        refine List.pairwise_map.mpr ((nr _ _).imp fun {a b} ne e => ne ?_)
        have := congrArg Prod.snd e
        simp at this
        omega
      · refine Nat.le_trans (List.length_filter_le _ _) ?_
        rw [List.length_map, rng_len]; omega
      · intro d hd
        obtain ⟨x, hx, rfl⟩ := List.mem_map.mp (List.mem_filter.mp hd).1
        have := rng_mem.mp hx
        refine ⟨mp, ?_, ?_⟩
        · show 0 ≤ c / 3 % 30 + x; omega
        · show c / 3 % 30 + x < 38; omega
      · intro d hd
        have := (List.mem_filter.mp hd).2
        simpa using this
    have key : ∀ Z : List Cell, (Z = Y ∨ Z = Y.reverse) → Cells (8 * (i + 1)) (s.1 ++ Z) := by
      intro Z hZ
      have pm : Z.Perm Y := by
        rcases hZ with rfl | rfl
        · exact List.Perm.refl _
        · exact List.reverse_perm Y
      refine ⟨?_, ?_, ?_⟩
      · refine List.nodup_append.mpr ⟨hc.nd, pm.nodup_iff.mpr hY'.1, fun a ha b hb e => ?_⟩
        subst e
        exact hY'.2.2.2 a (pm.mem_iff.mp hb) ha
      · rw [List.length_append, pm.length_eq]
        have := hc.len; have := hY'.2.1; omega
      · intro d hd
        rcases List.mem_append.mp hd with hd | hd
        · exact hc.rg d hd
        · exact hY'.2.2.1 d (pm.mem_iff.mp hd)
    refine Ok.bind (R := fun Z => Z = Y ∨ Z = Y.reverse) ?_ ?_
    · by_cases q : c / 720 % 2 = 1
      · rw [decide_eq_true q]; exact Ok.ret (.inr rfl)
      · rw [decide_eq_false q]; exact Ok.ret (.inl rfl)
    · intro Z hZ
      have k := key Z hZ
      have kl := k.len
      rw [List.length_append] at kl
      refine Ok.chk (decide_eq_true (by omega)) (Ok.chk (decide_eq_true (by omega)) (Ok.ret ⟨k, ?_⟩))
      show (s.2 ++ [_]).length = i + 1
      rw [List.length_append, hl]; rfl
  · rintro s ⟨hc, _⟩
    rw [rng_len] at hc
    refine Ok.bind (R := fun cs => Cells (8 * n.toNat + 1) cs ∧ cs ≠ []) ?_ (fun cs h => Ok.ret h)
    by_cases q : s.1 = []
    · rw [decide_eq_true q]
      refine Ok.ret ⟨⟨by simp, by simp, fun c m => ?_⟩, by simp⟩
      have : c = (("a" : PySem.Str), (5 : Int)) := by simpa using m
      rw [this]
      exact ⟨by simp [abc], by decide, by decide⟩
    · rw [decide_eq_false q]
      exact Ok.ret ⟨⟨hc.nd, by have := hc.len; omega, hc.rg⟩, q⟩
end Lw
/-! Pw: runs, stretches, stones of the laws of routes -/
namespace Lw
open PySem L2 Kb
def gN (s : S4) : Prop := gdS s ∧ (s.2.2.2 = true → 1 < s.2.2.1 - s.2.1)
theorem cells_get {l : S4} {i : Nat} (h : (i : Int) < l.2.2.1 - l.2.1) : (cellsS l)[i]? = some (l.1, if l.2.2.2 = true then l.2.2.1 - 1 - i else l.2.1 + i) := by
  unfold cellsS
  split
  · rw [List.getElem?_reverse (by rw [upC_len]; omega), upC_len, upC_get (by omega)]
    congr 2
    omega
  · rw [upC_get (by omega)]
theorem cells_last {l : S4} (g : gdS l) : atI (cellsS l) (-(1 : Int)) = some (l.1, if l.2.2.2 = true then l.2.1 else l.2.2.1 - 1) := by
  unfold gdS at g
  refine atI_neg1 ?_
  rw [List.getLast?_eq_getElem?, cellsS_len, cells_get (by omega)]
  congr 2
  split <;> omega
/-- the law's test of a cell behind a run -/
def goesOn (l : S4) (c : Cell) : Bool := (ext l c).isSome
theorem test_eq {l : S4} {c : Cell} (g : gN l) :
    (andN (opt (atI (cellsS l) (-(1 : Int))) fun x105 => .ok (decide (c.1 = x105.1))) (andN (orN (.ok (decide ((c.2 - (if l.2.2.2 = true then l.2.1 else l.2.2.1 - 1)) = (1 : Int)))) (.ok (decide ((c.2 - (if l.2.2.2 = true then l.2.1 else l.2.2.1 - 1)) = (-(1 : Int)))))) (orN (.ok (decide (((cellsS l).length : Int) = (1 : Int)))) (opt (atI (cellsS l) (1 : Int)) fun x113 => opt (atI (cellsS l) (0 : Int)) fun x121 => .ok (decide ((c.2 - (if l.2.2.2 = true then l.2.1 else l.2.2.1 - 1)) = (x113.2 - x121.2))))))) = .ok (goesOn l c) := by
  obtain ⟨p, b, e, t⟩ := l
  obtain ⟨q, k⟩ := c
  obtain ⟨g1, g2⟩ := g
  have g1' : b < e := g1
  rw [cells_last g1]
  simp only [opt_some]
  have len : ((cellsS (p, b, e, t)).length : Int) = e - b := by rw [cellsS_len]; show (((e - b).toNat : Nat) : Int) = e - b; omega
  have z0 : atI (cellsS (p, b, e, t)) (0 : Int) = some (p, if t = true then e - 1 - ((0 : Nat) : Int) else b + ((0 : Nat) : Int)) := atI_nat (cells_get (l := (p, b, e, t)) (i := 0) (by show ((0 : Nat) : Int) < e - b; omega))
  rw [len]
  unfold goesOn ext
  by_cases hp : p = q
  · subst hp
    rw [if_pos rfl]
    rw [show ∀ X : Res Bool, andN (.ok (decide (((p, k) : Cell).1 = ((p, if t = true then b else e - 1) : Cell).1))) X = X from fun X => by
      rw [show decide (((p, k) : Cell).1 = ((p, if t = true then b else e - 1) : Cell).1) = true from decide_eq_true rfl]; rfl]
    cases t with
    | false =>
      simp only [Bool.false_eq_true, if_false, false_or, true_or, true_and]
      by_cases s1 : k - (e - 1) = 1
      · rw [decide_eq_true s1]
        have ek : e = k := by omega
        rw [if_pos ek]
        show andN (.ok true) _ = _
        by_cases l1 : e - b = 1
        · rw [decide_eq_true l1]; rfl
        · rw [decide_eq_false l1]
          have z1 : atI (cellsS (p, b, e, false)) (1 : Int) = some (p, b + ((1 : Nat) : Int)) := atI_nat (cells_get (l := (p, b, e, false)) (i := 1) (by show ((1 : Nat) : Int) < e - b; omega))
          show (opt (atI (cellsS (p, b, e, false)) 1) fun x113 => opt (atI (cellsS (p, b, e, false)) 0) fun x121 => .ok (decide (k - (e - 1) = x113.2 - x121.2))) = _
          rw [z1, z0, opt_some, opt_some]
          simp only [Bool.false_eq_true, if_false]
          rw [decide_eq_true (by omega)]; rfl
      · rw [decide_eq_false s1, if_neg (by omega)]
        by_cases s2 : k - (e - 1) = -1
        · rw [decide_eq_true s2]
          have an : ∀ X : Res Bool, andN (orN (.ok false) (.ok true)) X = X := fun X => rfl
          rw [an]
          by_cases l1 : e - b = 1
          · rw [decide_eq_true l1, if_pos ⟨l1, by omega⟩]; rfl
          · rw [decide_eq_false l1, if_neg (fun z => l1 z.1)]
            have z1 : atI (cellsS (p, b, e, false)) (1 : Int) = some (p, b + ((1 : Nat) : Int)) := atI_nat (cells_get (l := (p, b, e, false)) (i := 1) (by show ((1 : Nat) : Int) < e - b; omega))
            show (opt (atI (cellsS (p, b, e, false)) 1) fun x113 => opt (atI (cellsS (p, b, e, false)) 0) fun x121 => .ok (decide (k - (e - 1) = x113.2 - x121.2))) = _
            rw [z1, z0, opt_some, opt_some]
            simp only [Bool.false_eq_true, if_false]
            rw [decide_eq_false (by omega)]; rfl
        · rw [decide_eq_false s2, if_neg (by omega)]; rfl
    | true =>
      have l2 : 1 < e - b := g2 rfl
      simp only [if_true, Bool.true_eq_false, false_or, true_or, true_and]
      have l1 : ¬ (e - b = 1) := by omega
      have z1 : atI (cellsS (p, b, e, true)) (1 : Int) = some (p, e - 1 - ((1 : Nat) : Int)) := atI_nat (cells_get (l := (p, b, e, true)) (i := 1) (by show ((1 : Nat) : Int) < e - b; omega))
      rw [decide_eq_false l1, if_neg (fun z => l1 z.1)]
      by_cases s1 : k - b = 1
      · rw [decide_eq_true s1, if_neg (by omega)]
        show (opt (atI (cellsS (p, b, e, true)) 1) fun x113 => opt (atI (cellsS (p, b, e, true)) 0) fun x121 => .ok (decide (k - b = x113.2 - x121.2))) = _
        rw [z1, z0, opt_some, opt_some]
        simp only [if_true]
        rw [decide_eq_false (by omega)]; rfl
      · rw [decide_eq_false s1]
        by_cases s2 : k - b = -1
        · rw [decide_eq_true s2, if_pos (by omega)]
          show (opt (atI (cellsS (p, b, e, true)) 1) fun x113 => opt (atI (cellsS (p, b, e, true)) 0) fun x121 => .ok (decide (k - b = x113.2 - x121.2))) = _
          rw [z1, z0, opt_some, opt_some]
          simp only [if_true]
          rw [decide_eq_true (by omega)]; rfl
        · rw [decide_eq_false s2, if_neg (by omega)]; rfl
  · simp only [if_neg hp]
    rw [decide_eq_false (fun z => hp z.symm)]; rfl
theorem one_gN (c : Cell) : gN (oneS c) := ⟨by show c.2 < c.2 + 1; omega, fun h => by cases h⟩
theorem ext_gN {l m : S4} {c : Cell} (g : gN l) (h : ext l c = some m) : gN m := by
  refine ⟨(ext_cells g.1 h).2.1, fun t => ?_⟩
  obtain ⟨p, b, e, tt⟩ := l
  obtain ⟨q, k⟩ := c
  have g1 : b < e := g.1
  unfold ext at h
  simp only at h
  split at h
  · split at h
    · cases h; cases t
    · split at h
      · rename_i c1
        cases h
        have := c1.2
        show 1 < e - k
        omega
      · cases h
  · cases h
theorem addR_gN {acc : List S4} {c : Cell} (h : ∀ l ∈ acc, gN l) : ∀ l ∈ addR acc c, gN l := by
  cases acc with
  | nil =>
    intro l m
    have : l = oneS c := by simpa [addR] using m
    rw [this]; exact one_gN c
  | cons a r =>
    cases q : ext a c with
    | some m =>
      rw [addR_some q]
      intro x hx
      rcases List.mem_cons.mp hx with rfl | hx
      · exact ext_gN (h a List.mem_cons_self) q
      · exact h x (List.mem_cons_of_mem _ hx)
    | none =>
      rw [addR_none q]
      intro x hx
      rcases List.mem_cons.mp hx with rfl | hx
      · exact one_gN c
      · exact h x hx
theorem fold_gN : ∀ (cs : List Cell) (acc : List S4), (∀ l ∈ acc, gN l) → ∀ l ∈ cs.foldl addR acc, gN l
  | [], _, h => h
  | c :: cs, acc, h => fold_gN cs (addR acc c) (addR_gN h)
theorem canon_gN (cs : List Cell) : ∀ s ∈ canon cs, gN s := fun s m => fold_gN cs [] (fun l m => by cases m) s (List.mem_reverse.mp m)
theorem slice_tail {α : Type} (x : α) (xs : List α) : sliceL (x :: xs) (some (1 : Int)) none = xs := by
  unfold sliceL
  have h1 : HT.sIx (x :: xs).length 0 (some (1 : Int)) = 1 := by
    unfold HT.sIx
    simp
    try omega
  have h2 : HT.sIx (x :: xs).length (x :: xs).length none = (x :: xs).length := rfl
  rw [h1, h2]
  simp
theorem runs_eq {cs : List Cell} (ne : cs ≠ []) (hl : cs.length ≤ 1000000) : m_law_runs cs = .ok ((canon cs).map cellsS) := by
  cases cs with
  | nil => exact absurd rfl ne
  | cons c cs =>
    have sl := sizeLine_big
    unfold m_law_runs
    rw [show atI (c :: cs) (0 : Int) = some c from atI_nat (j := 0) rfl, opt_some, slice_tail]
    refine Ok.eq (Ok.bind (R := fun s => s = (canon (c :: cs)).map cellsS) ?_ fun s h => Ok.ret h)
    have key : ∀ (l : List Cell) (acc : List S4) (f : List (List Cell) → Cell → Res (List (List Cell))), acc ≠ [] → (∀ s ∈ acc, gN s) → (cellsL acc.reverse).length + l.length ≤ 1000000 →
        (∀ (acc : List S4) (x : Cell), acc ≠ [] → (∀ s ∈ acc, gN s) → (cellsL acc.reverse).length < 1000000 → f (acc.reverse.map cellsS) x = .ok ((addR acc x).reverse.map cellsS)) →
        forN l (acc.reverse.map cellsS) f = .ok ((l.foldl addR acc).reverse.map cellsS) := by
      intro l
      induction l with
      | nil => intro acc f _ _ _ _; rfl
      | cons x l ih =>
        intro acc f na hg hl2 hf
        have e := (addR_cells (c := x) (acc := acc) fun s m => (hg s m).1).1
        rw [forN_cons, hf acc x na hg (by simp at hl2; omega), bind_ok]
        refine ih (addR acc x) f (addR_ne _ _) (addR_gN hg) ?_ hf
        rw [e, List.length_append]
        simp at hl2 ⊢
        omega
    have st : ([[c]] : List (List Cell)) = ([oneS c] : List S4).reverse.map cellsS := by
      show _ = [cellsS (oneS c)]
      rw [cells_oneS]
    rw [st]
    refine Ok.of (key cs [oneS c] _ (by simp) (fun s m => by have : s = oneS c := by simpa using m
                                                             rw [this]; exact one_gN c) ?_ ?_) ?_
    · show (cellsL [oneS c]).length + _ ≤ _
      rw [cellsL_one, cells_oneS]
      simp at hl ⊢
      omega
    · intro acc x na hg hlen
      cases acc with
      | nil => exact absurd rfl na
      | cons a r =>
        have ga := hg a List.mem_cons_self
        have gl : a.2.1 < a.2.2.1 := ga.1
        have ln : ((a :: r).reverse.map cellsS).length = r.length + 1 := by simp
        have g0 : ((a :: r).reverse.map cellsS)[r.length]? = some (cellsS a) := by
          rw [List.getElem?_map, List.getElem?_reverse (by simp)]
          simp
        have hlen' : (cellsS a).length < sizeLine := by
          rw [List.reverse_cons, cellsL_app, cellsL_one, List.length_append] at hlen
          omega
        have hlr : ((a :: r).reverse.map cellsS).length < sizeLine := by
          rw [ln]
          have : ∀ r : List S4, (∀ s ∈ r, gN s) → r.length ≤ (cellsL r).length := by
            intro r
            induction r with
            | nil => intro _; exact Nat.zero_le _
            | cons y r ih =>
              intro h
              have hy : y.2.1 < y.2.2.1 := (h y List.mem_cons_self).1
              have := ih fun s m => h s (List.mem_cons_of_mem _ m)
              rw [cellsL_cons, List.length_append, cellsS_len, List.length_cons]
              omega
          have q := this (a :: r).reverse (fun s m => hg s (List.mem_reverse.mp m))
          rw [List.length_reverse, List.length_cons] at q
          omega
        rw [ixN_neg1 (by rw [ln]; omega), opt_some]
        have i0 : ((a :: r).reverse.map cellsS).length - 1 = r.length := by rw [ln]; omega
        rw [i0, g0, opt_some, cells_last ga.1, opt_some]
        have t := test_eq (c := x) ga
        rw [cells_last ga.1] at t
        rw [t, bind_ok]
        unfold goesOn
        cases q : ext a x with
        | some m =>
          rw [addR_some q]
          show Res.bind (chk _ _) _ = _
          rw [decide_eq_true hlen', chk_true, bind_ok, ← (ext_cells ga.1 q).1]
          congr 1
          simp
        | none =>
          rw [addR_none q]
          show Res.bind (chk _ _) _ = _
          rw [decide_eq_true hlr, chk_true, bind_ok]
          congr 1
          rw [List.reverse_cons (a := oneS x), List.map_append]
          show _ = _ ++ [cellsS (oneS x)]
          rw [cells_oneS]
    · rfl
theorem min_up (b : Int) : ∀ n : Nat, ∀ a, b ≤ a → ((rng b (n + 1)).foldl min a) = b
  | 0, a, h => by show min a b = b; omega
  | n + 1, a, h => by
    show ((rng (b + 1) (n + 1)).foldl min (min a b)) = b
    have : ∀ (l : List Int) (z : Int), (∀ y ∈ l, z ≤ y) → l.foldl min z = z := by
      intro l
      induction l with
      | nil => intro z _; rfl
      | cons y l ih =>
        intro z hz
        have := hz y List.mem_cons_self
        rw [List.foldl_cons, show min z y = z by omega]
        exact ih z fun w m => hz w (List.mem_cons_of_mem _ m)
    rw [show min a b = b by omega]
    exact this _ _ fun y m => by have := rng_mem.mp m; omega
theorem nums_eq (l : S4) : (cellsS l).map (·.2) = if l.2.2.2 = true then (rng l.2.1 (l.2.2.1 - l.2.1).toNat).reverse else rng l.2.1 (l.2.2.1 - l.2.1).toNat := by
  unfold cellsS upC
  split
  · rw [List.map_reverse, List.map_map]; congr 1; exact List.map_id _
  · rw [List.map_map]; exact List.map_id _
theorem nums_mem {l : S4} {k : Int} : k ∈ (cellsS l).map (·.2) ↔ l.2.1 ≤ k ∧ k < l.2.2.1 := by
  rw [nums_eq]
  split
  · rw [List.mem_reverse, rng_mem]; omega
  · rw [rng_mem]; omega
theorem stretches_eq {cs : List Cell} (ne : cs ≠ []) (hl : cs.length ≤ 1000000) : m_law_stretches cs = .ok (canon cs) := by
  have sl := sizeLine_big
  unfold m_law_stretches
  rw [runs_eq ne hl, bind_ok]
  have key : ∀ (l acc : List S4) (f : List S4 → List Cell → Res (List S4)), (∀ s ∈ l, gN s) → acc.length + l.length ≤ 1000000 → (∀ (acc : List S4) (s : S4), gN s → (cellsS s).length ≤ 1000000 → acc.length < 1000000 → f acc (cellsS s) = .ok (acc ++ [s])) → (∀ s ∈ l, (cellsS s).length ≤ 1000000) →
      forN (l.map cellsS) acc f = .ok (acc ++ l) := by
    intro l
    induction l with
    | nil => intro acc f _ _ _ _; rw [List.append_nil]; rfl
    | cons s l ih =>
      intro acc f hg hl2 hf hz
      rw [List.map_cons, forN_cons, hf acc s (hg s List.mem_cons_self) (hz s List.mem_cons_self) (by simp at hl2; omega), bind_ok, ih (acc ++ [s]) f (fun x m => hg x (List.mem_cons_of_mem _ m)) (by simp at hl2 ⊢; omega) hf (fun x m => hz x (List.mem_cons_of_mem _ m)), List.append_assoc]
      rfl
  refine Ok.eq (Ok.bind (R := fun s => s = canon cs) (Ok.of (key (canon cs) [] _ (canon_gN cs) (by have := canon_len cs; simp; omega) ?_ ?_) rfl) fun s h => Ok.ret h)
  · intro acc s g hz hacc
    obtain ⟨p, b, e, t⟩ := s
    obtain ⟨g1, g2⟩ := g
    have g1' : b < e := g1
    rw [decide_eq_true (by omega), chk_true, compN_map (fun x39 : Cell => x39.2) fun _ _ => rfl, bind_ok]
    have ln : (cellsS (p, b, e, t)).length = (e - b).toNat := cellsS_len _
    have z0 : atI (cellsS (p, b, e, t)) (0 : Int) = some (p, if t = true then e - 1 - ((0 : Nat) : Int) else b + ((0 : Nat) : Int)) := atI_nat (cells_get (l := (p, b, e, t)) (i := 0) (by show ((0 : Nat) : Int) < e - b; omega))
    rw [z0, opt_some]
    have mn : List.min? ((cellsS (p, b, e, t)).map (fun x39 : Cell => x39.2)) = some b := by
      rw [List.min?_eq_some_iff]
      exact ⟨nums_mem.mpr ⟨Int.le_refl _, g1'⟩, fun k m => (nums_mem.mp m).1⟩
    have mx : List.max? ((cellsS (p, b, e, t)).map (fun x39 : Cell => x39.2)) = some (e - 1) := by
      rw [List.max?_eq_some_iff]
      exact ⟨nums_mem.mpr ⟨by show b ≤ e - 1; omega, by show e - 1 < e; omega⟩, fun k m => by have : k < e := (nums_mem.mp m).2; omega⟩
    rw [mn, opt_some, mx, opt_some]
    have n0 : atI ((cellsS (p, b, e, t)).map (fun x39 : Cell => x39.2)) (0 : Int) = some (if t = true then e - 1 else b) := by
      refine atI_nat (j := 0) ?_
      rw [List.getElem?_map, cells_get (l := (p, b, e, t)) (i := 0) (by show ((0 : Nat) : Int) < e - b; omega)]
      cases t <;> simp
    have n1 : atI ((cellsS (p, b, e, t)).map (fun x39 : Cell => x39.2)) (-(1 : Int)) = some (if t = true then b else e - 1) := by
      refine atI_neg1 ?_
      rw [List.getLast?_map, List.getLast?_eq_getElem?, ln, cells_get (l := (p, b, e, t)) (by show (((e - b).toNat - 1 : Nat) : Int) < e - b; omega)]
      show some (if t = true then e - 1 - (((e - b).toNat - 1 : Nat) : Int) else b + (((e - b).toNat - 1 : Nat) : Int)) = _
      congr 1
      split <;> omega
    rw [n0, opt_some, n1, opt_some, decide_eq_true (by omega), chk_true]
    congr 3
    show (p, b, e - 1 + 1, decide _) = (p, b, e, t)
    cases t with
    | true =>
      have := g2 rfl
      have : 1 < e - b := this
      rw [show e - 1 + 1 = e by omega]
      simp only [if_true]
      rw [decide_eq_true (by omega)]
    | false =>
      rw [show e - 1 + 1 = e by omega]
      simp only [Bool.false_eq_true, if_false]
      rw [decide_eq_false (by omega)]
  · intro s m
    have e1 : (cellsL (canon cs)).length = cs.length := by rw [canon_cells]
    have : ∀ l : List S4, s ∈ l → (cellsS s).length ≤ (cellsL l).length := by
      intro l
      induction l with
      | nil => intro m; cases m
      | cons y l ih =>
        intro m
        rw [cellsL_cons, List.length_append]
        rcases List.mem_cons.mp m with rfl | m
        · omega
        · have := ih m; omega
    have := this _ m
    omega
end Lw
/-! Px: stones and measures of the laws of routes -/
namespace Lw
open PySem L2 Kb
theorem divInt_lt {a b d : Int} (h : a < b) (hd : 0 < d) : Rat.divInt a d < Rat.divInt b d := by
  rw [Rat.divInt_eq_div, Rat.divInt_eq_div, Rat.div_def, Rat.div_def]
  exact Rat.mul_lt_mul_of_pos_right (icast_lt h) (Rat.inv_pos.mpr (Rat.intCast_pos.mpr hd))
theorem lmeas_loop (qs : List Stone) (p : Int) {B C : Nat} (hs : ∀ s ∈ qs, sm B s.2) (hw : ∀ x ∈ qs, ∀ y ∈ qs, (y.1 - x.1).natAbs < 2 ^ C) (hB : 2 * B + C + 1 ≤ 199) : ∀ (l : List Stone) (i : Nat), l = qs.drop i → 2 ≤ l.length → Rise l → p ≤ (lastS l).1 → (∀ a ∈ l.head?, a.1 ≤ p) →
    forR (rng ((i + 1 : Nat) : Int) (l.length - 1)) () (fun (_ : Unit) x10 => opt (atI (emb qs) (x10 - (1 : Int))) fun x19 => opt (atI (emb qs) x10) fun x27 => br ((decide (x19.1 ≤ p)) && (decide (p ≤ x27.1))) (opt (atI (emb qs) (x10 - (1 : Int))) fun x36 => opt (atI (emb qs) x10) fun x48 => chk (mulOk x36.2.1 x48.2.2) <| chk (mulOk (x36.2.1 * x48.2.2) (x48.1 - p)) <| chk (mulOk x48.2.1 x36.2.2) <| chk (mulOk (x48.2.1 * x36.2.2) (p - x36.1)) <| chk (mulOk x36.2.2 x48.2.2) <| chk (mulOk (x36.2.2 * x48.2.2) (x48.1 - x36.1)) <| (m_law_low ((((x36.2.1 * x48.2.2) * (x48.1 - p)) + ((x48.2.1 * x36.2.2) * (p - x36.1))), ((x36.2.2 * x48.2.2) * (x48.1 - x36.1)))).bind fun y90 => .ok (.ret y90)) (.ok (.nx ()))) = .ok (.ret (ofQ (meas l p)))
  | [], i, e, h2, _, _, _ => by simp at h2
  | [a], i, e, h2, _, _, _ => by simp at h2
  | a :: b :: r, i, e, h2, hr, hp, ha => by
    have e0 : qs[i]? = some a := by
      have : (qs.drop i)[0]? = some a := by rw [← e]; rfl
      rw [List.getElem?_drop] at this; simpa using this
    have e1 : qs[i + 1]? = some b := by
      have : (qs.drop i)[1]? = some b := by rw [← e]; rfl
      rw [List.getElem?_drop] at this; simpa using this
    have ma : a ∈ qs := List.mem_of_getElem? e0
    have mb : b ∈ qs := List.mem_of_getElem? e1
    have hap : a.1 ≤ p := ha a (by simp)
    have rl : rng ((i + 1 : Nat) : Int) ((a :: b :: r).length - 1) = ((i + 1 : Nat) : Int) :: rng (((i + 1 : Nat) : Int) + 1) r.length := rfl
    rw [rl, forR_cons, show ((i + 1 : Nat) : Int) - 1 = (i : Int) by omega, emb_at e0, emb_at e1]
    simp only [opt_some]
    by_cases c : p ≤ b.1
    · rw [decide_eq_true (show a.1 ≤ p from hap), decide_eq_true (show p ≤ b.1 from c)]
      have u := hr.up
      have sa := hs a ma
      have sb := hs b mb
      have wd := hw a ma b mb
      have d1 := den_pos' a.2
      have d2 := den_pos' b.2
      have u1 := u.1
      have q1 := mul_lt_pow sa.n1 sb.d1
      have q2 := mul_lt_pow sb.n1 sa.d1
      have q3 := mul_lt_pow sa.d1 sb.d1
      have w1 : (b.1 - p).natAbs < 2 ^ C := by omega
      have w2 : (p - a.1).natAbs < 2 ^ C := by omega
      show Res.bind (br (true && true) _ _) _ = _
      rw [Bool.and_self, br_true]
      rw [chk_of (mulOk_pow sa.n1 sb.d1 (by omega)), chk_of (mulOk_pow q1 w1 (by omega)), chk_of (mulOk_pow sb.n1 sa.d1 (by omega)), chk_of (mulOk_pow q2 w2 (by omega)), chk_of (mulOk_pow sa.d1 sb.d1 (by omega)), chk_of (mulOk_pow q3 wd (by omega))]
      have k1 := (add_small (mul_lt_pow q1 w1) (mul_lt_pow q2 w2)).1
      rw [llow_eq (Int.mul_pos (Int.mul_pos d1 d2) (by omega)) (pow_up k1 (by omega)) (pow_up (mul_lt_pow q3 wd) (by omega)), bind_ok, bind_ok, ← lin_div u, meas_in (icast_le c)]
    · rw [decide_eq_false (show ¬ p ≤ b.1 from c)]
      show Res.bind (br (_ && false) _ _) _ = _
      rw [Bool.and_false, br_false, bind_ok]
      cases r with
      | nil => exfalso; have hp' : p ≤ b.1 := hp; omega
      | cons c2 r2 =>
        have e' : b :: c2 :: r2 = qs.drop (i + 1) := by
          have := congrArg (List.drop 1) e
          rw [List.drop_drop] at this
          simpa using this
        have ih := lmeas_loop qs p hs hw hB (b :: c2 :: r2) (i + 1) e' (by simp) hr.tail hp (fun z hz => by
          have : b = z := by simpa using hz
          exact this ▸ (show b.1 ≤ p by omega))
        rw [meas_skip hr (icast_le (by omega))]
        exact ih
theorem lmeas_eq {B C : Nat} {qs : List Stone} {n : Int} (hs : Stones B qs n) (hn : n.natAbs < 2 ^ C) (hB : 2 * B + C + 1 ≤ 199) (hl : qs.length ≤ 1000000) {p : Int} (h0 : 0 ≤ p) (hp : p ≤ n) : m_law_measure (emb qs) p = .ok (ofQ (meas qs p)) := by
  obtain ⟨a, t, eq, z⟩ := hs.first
  unfold m_law_measure
  rw [emb_len, chk_of (rngOk_of (by decide) (by decide)), chk_of (rngOk_of (by omega) (by omega))]
  have k := lmeas_loop qs p (C := C) hs.sml (fun x hx y hy => by
    have := hs.bound hx
    have := hs.bound hy
    omega) hB qs 0 rfl hs.two hs.rise (by rw [hs.last]; exact hp) (fun q hq => by
      rw [eq] at hq
      have : a = q := by simpa using hq
      subst this; omega)
  rw [show ((qs.length : Int) - 1).toNat = qs.length - 1 by omega]
  have k' := k
  rw [show ((0 + 1 : Nat) : Int) = (1 : Int) from rfl] at k'
  rw [k', bind_ok]
  rfl
/-- what the law makes of stones -/
structure Raw (D : Int) (n : Int) (i : Nat) (raw : List (Int × Int)) (at_ num : Int) : Prop where
  rise : raw.Pairwise fun a b => a.1 < b.1 ∧ a.2 < b.2
  below : ∀ r ∈ raw, 0 ≤ r.1 ∧ r.1 < at_ ∧ r.1 < n ∧ -20 ≤ r.2 ∧ r.2 < num
  start : i = 0 → raw = [] ∧ at_ = 0
  first : 0 < i → ∃ x r, raw = x :: r ∧ x.1 = 0
  on : at_ < n → (i : Int) ≤ at_
  at0 : 0 ≤ at_
  lo : -20 ≤ num
  hi : num ≤ 20 + 26 * i
  len : raw.length ≤ i
theorem lastS_app (qs : List Stone) (x : Stone) : lastS (qs ++ [x]) = x := by
  have h := lastS_get (qs := qs ++ [x]) (by simp)
  rw [List.getLast?_append] at h
  simpa using h.symm
theorem stones_ok (c : Int) {n : Int} (h1 : 1 ≤ n) (hn : n ≤ 120) : ∃ qs, m_law_stones c n = .ok (emb qs) ∧ Stones 13 qs n ∧ qs.length ≤ 121 := by
  have sl := sizeLine_big
  have mD := mod_lt' (c / 41) (m := 6) (by decide)
  have m41 := mod_lt' c (m := 41) (by decide)
  have m9 := mod_lt' (c / 300) (m := 9) (by decide)
  have hD : 0 < 1 + c / 41 % 6 := by omega
  suffices H : Ok (m_law_stones c n) (fun L => ∃ qs, L = emb qs ∧ Stones 13 qs n ∧ qs.length ≤ 121) by
    obtain ⟨L, e, qs, rfl, h2, h3⟩ := H
    exact ⟨qs, e, h2, h3⟩
  unfold m_law_stones
  refine Ok.chk (rngOk_of (by omega) (by omega)) ?_
  refine Ok.forN (fun i s => ∃ raw, s.1 = raw.map (fun r => (r.1, (r.2, 1 + c / 41 % 6))) ∧ Raw (1 + c / 41 % 6) n i raw s.2.1 s.2.2) ⟨[], rfl, ⟨List.Pairwise.nil, (fun r m => by cases m), fun _ => ⟨rfl, rfl⟩, (fun z => by omega), fun _ => Int.le_refl _, Int.le_refl _, by show -20 ≤ c % 41 - 20; omega, by show c % 41 - 20 ≤ 20 + 26 * ((0 : Nat) : Int); omega, Nat.le_refl _⟩⟩ ?_ ?_
  · rintro i ⟨L, at_, num⟩ x hx ⟨raw, e, R⟩
    have R : Raw (1 + c / 41 % 6) n i raw at_ num := R
    obtain ⟨ex, hi⟩ := rng_get hx
    have e' : L = raw.map (fun r => (r.1, (r.2, 1 + c / 41 % 6))) := e
    refine Ok.bind (R := fun t => ∃ raw, t.2.2 = raw.map (fun r => (r.1, (r.2, 1 + c / 41 % 6))) ∧ Raw (1 + c / 41 % 6) n (i + 1) raw t.1 t.2.1) ?_ (fun t ht => Ok.ret ht)
    have hl : L.length ≤ i := by rw [e', List.length_map]; exact R.len
    by_cases q : at_ < n
    · show Ok (br (decide (at_ < n)) _ _) _
      rw [decide_eq_true q, br_true]
      have mm := mod_lt' (c / (x + 2)) (m := 1 + c / 300 % 9) (by omega)
      have mn := mod_lt' (c / (3 * x + 1)) (m := 25) (by decide)
      have dk : ∀ k : Int, 0 < k → k < 1000 → divOk k = true := fun k a b => divOk_pow (m := 10) a (by have : (2 : Nat) ^ 10 = 1024 := by decide
                                                                                                       omega) (by decide)
      refine Ok.chk (decide_eq_true (by show L.length < sizeLine; omega)) (Ok.chk (dk _ (by omega) (by omega)) (Ok.chk (decide_eq_true (by omega)) (Ok.chk (mulOk_of (m := 3) (n := 1000) (by decide) (by omega) (by decide)) (Ok.chk (dk _ (by omega) (by omega)) (Ok.ret ⟨raw ++ [(at_, num)], ?_, ?_⟩)))))
      · show L ++ [_] = _
        rw [List.map_append, e']; rfl
      · have on := R.on q
        refine ⟨?_, ?_, fun z => by omega, fun _ => ?_, fun z => ?_, ?_, ?_, ?_, ?_⟩
        · refine List.pairwise_append.mpr ⟨R.rise, List.pairwise_singleton _ _, fun a ha b hb => ?_⟩
          have : b = (at_, num) := by simpa using hb
          subst this
          have := R.below a ha
          exact ⟨this.2.1, this.2.2.2.2⟩
        · intro r hr
          have a0 := R.at0
          have lo := R.lo
          rcases List.mem_append.mp hr with hr | hr
          · have := R.below r hr
            refine ⟨this.1, ?_, this.2.2.1, this.2.2.2.1, ?_⟩
            · show r.1 < at_ + 1 + c / (x + 2) % (1 + c / 300 % 9); omega
            · show r.2 < num + 1 + c / (3 * x + 1) % 25; omega
          · have : r = (at_, num) := by simpa using hr
            subst this
            refine ⟨a0, ?_, q, lo, ?_⟩
            · show at_ < at_ + 1 + c / (x + 2) % (1 + c / 300 % 9); omega
            · show num < num + 1 + c / (3 * x + 1) % 25; omega
        · by_cases z : i = 0
          · obtain ⟨r0, a0⟩ := R.start z
            exact ⟨(at_, num), [], by rw [r0]; rfl, a0⟩
          · obtain ⟨y, r, er, ey⟩ := R.first (by omega)
            exact ⟨y, r ++ [(at_, num)], by rw [er]; rfl, ey⟩
        · show ((i + 1 : Nat) : Int) ≤ at_ + 1 + c / (x + 2) % (1 + c / 300 % 9); omega
        · show 0 ≤ at_ + 1 + c / (x + 2) % (1 + c / 300 % 9); have := R.at0; omega
        · show -20 ≤ num + 1 + c / (3 * x + 1) % 25; have := R.lo; omega
        · show num + 1 + c / (3 * x + 1) % 25 ≤ 20 + 26 * ((i + 1 : Nat) : Int); have := R.hi; omega
        · rw [List.length_append]; have := R.len; simp; omega
    · show Ok (br (decide (at_ < n)) _ _) _
      rw [decide_eq_false q, br_false]
      refine Ok.ret ⟨raw, e', ?_⟩
      show Raw (1 + c / 41 % 6) n (i + 1) raw at_ num
      refine ⟨R.rise, R.below, fun z => by omega, fun _ => ?_, fun z => absurd z q, R.at0, R.lo, by have := R.hi; omega, by have := R.len; omega⟩
      by_cases z : i = 0
      · obtain ⟨_, a0⟩ := R.start z
        exfalso; omega
      · exact R.first (by omega)
  · rintro ⟨L, at_, num⟩ ⟨raw, e, R⟩
    rw [rng_len] at R
    have R : Raw (1 + c / 41 % 6) n n.toNat raw at_ num := R
    have e' : L = raw.map (fun r => (r.1, (r.2, 1 + c / 41 % 6))) := e
    have hat : n ≤ at_ := Classical.byContradiction fun z => by
      have := R.on (by omega)
      omega
    have hnum := R.hi
    have hlo := R.lo
    have hlen := R.len
    have p12 : (2 : Nat) ^ 13 = 8192 := by decide
    have low : ∀ m : Int, -20 ≤ m → m ≤ num → m_law_low (m, 1 + c / 41 % 6) = .ok (ofQ (Rat.divInt m (1 + c / 41 % 6))) ∧ sm 13 (Rat.divInt m (1 + c / 41 % 6)) := fun m a b => by
      have s1 : m.natAbs < 2 ^ 13 := by omega
      have s2 : (1 + c / 41 % 6).natAbs < 2 ^ 13 := by omega
      exact ⟨llow_eq hD (pow_up s1 (by decide)) (pow_up s2 (by decide)), sm_divInt hD s1 s2⟩
    refine Ok.chk (decide_eq_true (by show L.length ≤ sizeLine; rw [e', List.length_map]; omega)) ?_
    have cm : compN L (fun x63 => (m_law_low x63.2).bind fun y77 => (.ok (x63.1, y77) : Res (Int × (Int × Int)))) = .ok (L.map fun s => (s.1, ofQ (Rat.divInt s.2.1 s.2.2))) := by
      refine compN_map _ fun x hx => ?_
      rw [e'] at hx
      obtain ⟨r, hr, rfl⟩ := List.mem_map.mp hx
      have b := R.below r hr
      rw [(low r.2 b.2.2.2.1 (by omega)).1]
      rfl
    rw [cm, bind_ok, (low num hlo (Int.le_refl _)).1, bind_ok]
    have ee : (L.map fun s => (s.1, ofQ (Rat.divInt s.2.1 s.2.2))) ++ [(n, ofQ (Rat.divInt num (1 + c / 41 % 6)))] = emb (raw.map (fun r => ((r.1, Rat.divInt r.2 (1 + c / 41 % 6)) : Stone)) ++ [(n, Rat.divInt num (1 + c / 41 % 6))]) := by
      rw [e']
      unfold emb
      rw [List.map_append, List.map_map, List.map_map]
      rfl
    refine Ok.chk (decide_eq_true (by rw [List.length_map, e', List.length_map]; simp; omega)) (Ok.ret ⟨_, ee, ?_, by simp; omega⟩)
    obtain ⟨y, r, er, ey⟩ := R.first (by omega)
    refine ⟨by rw [er]; simp, ?_, ⟨(y.1, Rat.divInt y.2 (1 + c / 41 % 6)), r.map (fun r => ((r.1, Rat.divInt r.2 (1 + c / 41 % 6)) : Stone)) ++ [(n, Rat.divInt num (1 + c / 41 % 6))], by rw [er]; rfl, ey⟩, by rw [lastS_app], ?_⟩
    · refine List.pairwise_append.mpr ⟨List.pairwise_map.mpr (R.rise.imp fun {a b} h => ⟨h.1, divInt_lt h.2 hD⟩), List.pairwise_singleton _ _, fun a ha b hb => ?_⟩
      have : b = (n, Rat.divInt num (1 + c / 41 % 6)) := by simpa using hb
      subst this
      obtain ⟨q, hq, rfl⟩ := List.mem_map.mp ha
      have bl := R.below q hq
      exact ⟨bl.2.2.1, divInt_lt bl.2.2.2.2 hD⟩
    · intro s hs
      rcases List.mem_append.mp hs with hs | hs
      · obtain ⟨q, hq, rfl⟩ := List.mem_map.mp hs
        have bl := R.below q hq
        exact (low q.2 bl.2.2.2.1 (by omega)).2
      · have : s = (n, Rat.divInt num (1 + c / 41 % 6)) := by simpa using hs
        subst this
        exact (low num hlo (Int.le_refl _)).2
end Lw
/-! Py: measures of lists of stones that are put together; routes turned, joined, moved, their parts -/
namespace Lw
open PySem L2 Kb
theorem Rise.app_r : ∀ {l m : List Stone}, Rise (l ++ m) → Rise m := fun {l m} h => (List.pairwise_append.mp h).2.1
theorem Rise.app_l {l m : List Stone} (h : Rise (l ++ m)) : Rise l := (List.pairwise_append.mp h).1
/-- between neighbours the measure is on their line -/
theorem meas_adj : ∀ {l1 l2 : List Stone} {x y : Stone} {t : Rat}, Rise (l1 ++ x :: y :: l2) → (x.1 : Rat) ≤ t → t ≤ (y.1 : Rat) → meas (l1 ++ x :: y :: l2) t = lin x y t
  | [], _, _, _, _, _, _, h => meas_in h
  | [a], l2, x, y, t, r, g, h => by
    show meas (a :: x :: y :: l2) t = _
    rw [meas_skip r g, meas_in h]
  | a :: b :: l1, l2, x, y, t, r, g, h => by
    have k := meas_adj (l1 := b :: l1) r.tail g h
    have hb : (b.1 : Rat) ≤ t := by
      have : Up2 b x := (List.pairwise_cons.mp r.tail).1 x (List.mem_append_right _ List.mem_cons_self)
      exact Rat.le_trans (Rat.le_of_lt (icast_lt this.1)) g
    rw [← k]
    cases l1 with
    | nil => exact meas_skip r hb
    | cons c l1 => exact meas_skip r hb
theorem adj_exists : ∀ {a : Stone} {r : List Stone} {t : Rat}, Rise (a :: r) → r ≠ [] → (a.1 : Rat) ≤ t → t ≤ (lastS (a :: r)).1 → ∃ l1 x y l2, a :: r = l1 ++ x :: y :: l2 ∧ (x.1 : Rat) ≤ t ∧ t ≤ y.1
  | a, [], _, _, n, _, _ => absurd rfl n
  | a, [b], t, _, _, g, h => ⟨[], a, b, [], rfl, g, h⟩
  | a, b :: c :: r, t, rs, _, g, h => by
    by_cases e : t ≤ (b.1 : Rat)
    · exact ⟨[], a, b, c :: r, rfl, g, e⟩
    · obtain ⟨l1, x, y, l2, e1, e2, e3⟩ := adj_exists (a := b) (r := c :: r) rs.tail (by simp) (Rat.le_of_lt (Rat.not_le.mp e)) h
      exact ⟨a :: l1, x, y, l2, by rw [e1]; rfl, e2, e3⟩
theorem adj_up {l1 l2 : List Stone} {x y : Stone} (h : Rise (l1 ++ x :: y :: l2)) : Up2 x y := Rise.up h.app_r
theorem adj_none {l1 l2 : List Stone} {x y s : Stone} (h : Rise (l1 ++ x :: y :: l2)) (m : s ∈ l1 ++ x :: y :: l2) : ¬ (x.1 < s.1 ∧ s.1 < y.1) := by
  obtain ⟨h1, h2, h3⟩ := List.pairwise_append.mp h
  rcases List.mem_append.mp m with m | m
  · have := (h3 s m x List.mem_cons_self).1; omega
  · rcases List.mem_cons.mp m with rfl | m
    · omega
    · rcases List.mem_cons.mp m with rfl | m
      · omega
      · have := ((List.pairwise_cons.mp (List.pairwise_cons.mp h2).2).1 s m).1; omega
/-- a line is told by two of its points -/
theorem lin_same {x y u v : Stone} (hu : Up2 u v) (e1 : u.2 = lin x y u.1) (e2 : v.2 = lin x y v.1) (t : Rat) : lin u v t = lin x y t := by
  have h := icast_lt hu.1
  have p := mul_inv_c (c := (v.1 : Rat) - u.1) (by grind)
  unfold lin at e1 e2 ⊢
  rw [e1, e2]
  simp only [Rat.div_def]
  grind
/-- where no stone lies within, one line holds -/
theorem seg_cover {a : Stone} {r : List Stone} {P Q : Int} (h : Rise (a :: r)) (n : r ≠ []) (h1 : a.1 ≤ P) (hPQ : P < Q) (h2 : Q ≤ (lastS (a :: r)).1) (no : ∀ s ∈ a :: r, ¬ (P < s.1 ∧ s.1 < Q)) :
    ∃ x y, ∀ t : Rat, (P : Rat) ≤ t → t ≤ (Q : Rat) → meas (a :: r) t = lin x y t := by
  obtain ⟨x0, y0, hx, hy, u, q1, q2, _⟩ := meas_seg (p := P) h h1 (by omega)
  obtain ⟨l1, x, y, l2, e, g1, g2⟩ := adj_exists (t := ((P : Rat) + ((P + 1 : Int) : Rat)) / 2) h n (by
    have c1 := icast_le h1
    have c2 : (P : Rat) < ((P + 1 : Int) : Rat) := icast_lt (by omega)
    simp only [Rat.div_def]
    grind) (by
    have c1 : ((P + 1 : Int) : Rat) ≤ ((lastS (a :: r)).1 : Rat) := icast_le (by omega)
    have c2 : (P : Rat) < ((P + 1 : Int) : Rat) := icast_lt (by omega)
    simp only [Rat.div_def]
    grind)
  have c2 : (P : Rat) < ((P + 1 : Int) : Rat) := icast_lt (by omega)
  have g1' : (x.1 : Rat) < ((P + 1 : Int) : Rat) := by simp only [Rat.div_def] at g1; grind
  have g2' : (P : Rat) < (y.1 : Rat) := by simp only [Rat.div_def] at g2; grind
  have i1 : x.1 ≤ P := by have := Rat.intCast_lt_intCast.mp g1'; omega
  have i2 : P < y.1 := Rat.intCast_lt_intCast.mp g2'
  have my : y ∈ a :: r := by rw [e]; exact List.mem_append_right _ (List.mem_cons_of_mem _ List.mem_cons_self)
  have i3 : Q ≤ y.1 := by
    have := no y my
    omega
  refine ⟨x, y, fun t t1 t2 => ?_⟩
  rw [e]
  exact meas_adj (e ▸ h) (Rat.le_trans (icast_le i1) t1) (Rat.le_trans t2 (icast_le i3))
/-- a list of stones on a function that is even between them tells the function -/
theorem interp {a : Stone} {r : List Stone} (h : Rise (a :: r)) (n : r ≠ []) (g : Rat → Rat) (ev : ∀ l1 x y l2, a :: r = l1 ++ x :: y :: l2 → ∀ t : Rat, (x.1 : Rat) ≤ t → t ≤ y.1 → g t = lin x y t) {t : Rat} (t0 : (a.1 : Rat) ≤ t) (t1 : t ≤ (lastS (a :: r)).1) : meas (a :: r) t = g t := by
  obtain ⟨l1, x, y, l2, e, g1, g2⟩ := adj_exists h n t0 t1
  rw [ev l1 x y l2 e t g1 g2, e, meas_adj (e ▸ h) g1 g2]
/-- the measure at a stone -/
theorem meas_at {qs : List Stone} (h : Rise qs) (two : 2 ≤ qs.length) {s : Stone} (m : s ∈ qs) : meas qs s.1 = s.2 := by
  obtain ⟨l1, l2, rfl⟩ := List.append_of_mem m
  cases l2 with
  | cons y l2 =>
    rw [meas_adj h Rat.le_refl (Rat.le_of_lt (icast_lt (adj_up h).1)), lin_at_l]
  | nil =>
    rcases List.eq_nil_or_concat l1 with rfl | ⟨l, x, rfl⟩
    · simp at two
    · have e : (l.concat x ++ [s]) = l ++ x :: s :: [] := by simp
      rw [e] at h ⊢
      rw [meas_adj h (Rat.le_of_lt (icast_lt (adj_up h).1)) Rat.le_refl, lin_at_r (adj_up h)]
/-! #### turned -/
def turnS (s : S4) : S4 := (s.1, s.2.1, s.2.2.1, !s.2.2.2)
theorem cells_turnS (s : S4) : cellsS (turnS s) = (cellsS s).reverse := by
  obtain ⟨p, b, e, t⟩ := s
  unfold cellsS turnS
  cases t <;> simp
theorem cells_turn : ∀ ss : List S4, cellsL (ss.reverse.map turnS) = (cellsL ss).reverse
  | [] => rfl
  | s :: ss => by
    rw [List.reverse_cons, List.map_append, cellsL_app, cells_turn ss, cellsL_cons, List.reverse_append]
    show _ ++ cellsL [turnS s] = _
    rw [cellsL_one, cells_turnS]
def turnQ (n : Int) (both : Rat) (qs : List Stone) : List Stone := (qs.map fun s => ((n - s.1, both - s.2) : Stone)).reverse
theorem turn_turn (n : Int) (both : Rat) (qs : List Stone) : turnQ n both (turnQ n both qs) = qs := by
  unfold turnQ
  rw [List.map_reverse, List.reverse_reverse, List.map_map]
  refine (List.map_congr_left fun s _ => ?_).trans (List.map_id _)
  show ((n - (n - s.1), both - (both - s.2)) : Stone) = s
  rw [show n - (n - s.1) = s.1 by omega, show both - (both - s.2) = s.2 by grind]
theorem turn_rise {n : Int} {both : Rat} {qs : List Stone} (h : Rise qs) : Rise (turnQ n both qs) := by
  unfold turnQ Rise
  rw [List.pairwise_reverse, List.pairwise_map]
  exact h.imp fun {a b} u => ⟨by show n - b.1 < n - a.1; have := u.1; omega, by show both - b.2 < both - a.2; have := u.2; grind⟩
theorem turn_lastS {n : Int} {both : Rat} {a : Stone} {r : List Stone} : lastS (turnQ n both (a :: r)) = (n - a.1, both - a.2) := by
  unfold turnQ
  rw [List.map_cons, List.reverse_cons]
  have h := lastS_get (qs := (r.map fun s => ((n - s.1, both - s.2) : Stone)).reverse ++ [(n - a.1, both - a.2)]) (by simp)
  rw [List.getLast?_append] at h
  simpa using h.symm
theorem turn_first {n : Int} {both : Rat} {qs : List Stone} (h : qs ≠ []) : ∃ t, turnQ n both qs = (n - (lastS qs).1, both - (lastS qs).2) :: t := by
  have g := lastS_get h
  have e : qs.dropLast ++ [lastS qs] = qs := by
    rw [List.getLast?_eq_some_getLast h] at g
    rw [← Option.some.inj g]
    exact List.dropLast_concat_getLast h
  refine ⟨turnQ n both qs.dropLast, ?_⟩
  conv => lhs; rw [← e]
  unfold turnQ
  rw [List.map_append, List.reverse_append]
  rfl
theorem meas_turn {B : Nat} {qs : List Stone} {n : Int} (hs : Stones B qs n) (both : Rat) {t : Rat} (t0 : 0 ≤ t) (t1 : t ≤ (n : Rat)) : meas (turnQ n both qs) t = both - meas qs ((n : Rat) - t) := by
  obtain ⟨a, r, ea, za⟩ := hs.first
  have nt : r ≠ [] := by
    intro z
    have := hs.two
    rw [ea, z] at this
    simp at this
  have rise := ea ▸ hs.rise
  have last : (lastS (a :: r)).1 = n := by rw [← ea]; exact hs.last
  obtain ⟨l1, x, y, l2, e, g1, g2⟩ := adj_exists (t := (n : Rat) - t) rise nt (by rw [za]; have : ((0 : Int) : Rat) = 0 := rfl
                                                                                  rw [this]; grind) (by rw [last]; grind)
  rw [← ea] at e
  have eT : turnQ n both qs = turnQ n both l2 ++ (n - y.1, both - y.2) :: (n - x.1, both - x.2) :: turnQ n both l1 := by
    rw [e]
    unfold turnQ
    simp
  have rT := turn_rise (n := n) (both := both) hs.rise
  rw [eT] at rT ⊢
  have hr := hs.rise
  rw [e] at hr ⊢
  rw [meas_adj hr g1 g2]
  have u := adj_up hr
  have h := icast_lt u.1
  rw [meas_adj rT (by show ((n - y.1 : Int) : Rat) ≤ t; rw [Rat.intCast_sub]; grind) (by show t ≤ ((n - x.1 : Int) : Rat); rw [Rat.intCast_sub]; grind)]
  have p1 := mul_inv_c (c := (y.1 : Rat) - x.1) (by grind)
  have p2 := mul_inv_c (c := ((n : Rat) - x.1) - (n - y.1)) (by grind)
  unfold lin
  simp only [Rat.intCast_sub, Rat.div_def]
  grind
end Lw
/-! Pz: what a route is, and what its methods make of it -/
namespace Lw
open PySem L2 Kb
/-- a route through cells, with stones -/
structure IsR (B : Nat) (r : M_Route) (cs : List Cell) (qs : List Stone) : Prop where
  e1 : r.1 = canon cs
  e2 : r.2.1 = (cs.length : Int)
  e3 : r.2.2 = emb qs
  ne : cs ≠ []
  nd : cs.Nodup
  nn : ∀ c ∈ cs, 0 ≤ c.2
  len : cs.length ≤ 300000
  st : Stones B qs (cs.length : Int)
  ql : qs.length ≤ 400000
theorem IsR.str {B : Nat} {r : M_Route} {cs : List Cell} {qs : List Stone} (h : IsR B r cs qs) : Str8 r.1 := by rw [h.e1]; exact canon8 h.ne h.nn h.nd
theorem IsR.lenS {B : Nat} {r : M_Route} {cs : List Cell} {qs : List Stone} (h : IsR B r cs qs) : r.1.length ≤ 300000 := by rw [h.e1]; have := canon_len cs; have := h.len; omega
theorem IsR.sub {B C : Nat} {r : M_Route} {cs : List Cell} {qs : List Stone} (h : IsR B r cs qs) (l : B ≤ C) : IsR C r cs qs :=
  ⟨h.e1, h.e2, h.e3, h.ne, h.nd, h.nn, h.len, ⟨h.st.two, h.st.rise, h.st.first, h.st.last, fun s m => (h.st.sml s m).mono l⟩, h.ql⟩
/-- a route is made -/
theorem make_r {B : Nat} {ss : List S4} {cs : List Cell} {qs : List Stone} (h : Str8 ss) (e : cellsL ss = cs) (hl : ss.length ≤ 1000000) (hc : cs.length ≤ 300000) (hs : Stones B qs (cs.length : Int)) (hB : B ≤ 400000) (hq : qs.length ≤ 400000) :
    ∃ r, m_Route_init ss (emb qs) = .ok r ∧ IsR B r cs qs := by
  have k := init_eq (qs := qs) h hl (by rw [e]; exact hs) hB (by omega)
  rw [e] at k
  refine ⟨_, k, rfl, rfl, rfl, ?_, e ▸ h.nd, ?_, hc, hs, hq⟩
  · intro z
    have g := h.gs
    cases ss with
    | nil => exact h.ne rfl
    | cons s ss =>
      have gs : s.2.1 < s.2.2.1 := g s List.mem_cons_self
      have l := congrArg List.length e
      rw [cellsL_cons, List.length_append, cellsS_len, z] at l
      simp at l
      omega
  · intro c m
    rw [← e] at m
    obtain ⟨s, hs, hm⟩ := List.mem_flatMap.mp m
    have := h.b0 s hs
    have := (mem_cellsS (s := s) (p := c.1) (k := c.2)).mp hm
    omega
section
variable {B C : Nat} {r : M_Route} {cs : List Cell} {qs : List Stone}
theorem IsR.measure (h : IsR B r cs qs) (hB : B ≤ 480) {p : Int} (h0 : 0 ≤ p) (hp : p ≤ cs.length) (hC : cs.length < 2 ^ C) (hC2 : C ≤ 480) (hC0 : 0 < C) : m_Route_measure r p = .ok (ofQ (meas qs p)) ∧ sm (2 * B + C + 1) (meas qs p) :=
  measure_eq h.st h.e2 h.e3 (by omega) h0 hp hC2 hB hC0
theorem turn_stones {n : Int} {both : Rat} {B' : Nat} (h : Stones B qs n) (hb : ∀ s ∈ qs, sm B' (both - s.2)) : Stones B' (turnQ n both qs) n := by
  obtain ⟨a, t, ea, za⟩ := h.first
  obtain ⟨t', et⟩ := turn_first (n := n) (both := both) h.ne
  refine ⟨by unfold turnQ; rw [List.length_reverse, List.length_map]; exact h.two, turn_rise h.rise, ⟨_, t', et, by show n - (lastS qs).1 = 0; rw [h.last]; omega⟩, ?_, ?_⟩
  · rw [ea, turn_lastS, za]; show n - 0 = n; omega
  · intro s m
    unfold turnQ at m
    obtain ⟨x, hx, rfl⟩ := List.mem_map.mp (List.mem_reverse.mp m)
    exact hb x hx
theorem turn_len {n : Int} {both : Rat} : (turnQ n both qs).length = qs.length := by unfold turnQ; rw [List.length_reverse, List.length_map]
/-- the turned route -/
theorem turned_eq (h : IsR B r cs qs) (hB : B ≤ 1000) {a : Stone} {t : List Stone} (ea : qs = a :: t) :
    ∃ r', m_Route_turned r = .ok r' ∧ IsR (4 * B + 3) r' cs.reverse (turnQ cs.length (a.2 + (lastS qs).2) qs) := by
  have sl := sizeLine_big
  have ma : a ∈ qs := by rw [ea]; exact List.mem_cons_self
  obtain ⟨ad1, ad2⟩ := add_eq (h.st.sml a ma) (h.st.sml _ (lastS_mem h.st.ne)) (by omega)
  have sub : ∀ s ∈ qs, m_sub (ofQ (a.2 + (lastS qs).2)) (ofQ s.2) = .ok (ofQ (a.2 + (lastS qs).2 - s.2)) ∧ sm (4 * B + 3) (a.2 + (lastS qs).2 - s.2) := fun s m => by
    obtain ⟨u1, u2⟩ := sub_eq (B := 2 * B + 1) ad2 ((h.st.sml s m).mono (by omega)) (by omega)
    exact ⟨u1, u2.mono (by omega)⟩
  have st := turn_stones (B' := 4 * B + 3) h.st (fun s m => (sub s m).2)
  have h8 := h.str
  have ll := h.lenS
  have str : Str8 (r.1.reverse.map turnS) := by
    refine ⟨?_, ?_, ?_, ?_⟩
    · intro z
      have := congrArg List.length z
      rw [List.length_map, List.length_reverse] at this
      exact h8.ne (List.length_eq_zero_iff.mp this)
    · intro s m
      obtain ⟨x, hx, rfl⟩ := List.mem_map.mp m
      exact h8.gs x (List.mem_reverse.mp hx)
    · intro s m
      obtain ⟨x, hx, rfl⟩ := List.mem_map.mp m
      exact h8.b0 x (List.mem_reverse.mp hx)
    · rw [cells_turn]; exact (List.reverse_perm _).nodup_iff.mpr h8.nd
  have ec : cellsL (r.1.reverse.map turnS) = cs.reverse := by rw [cells_turn, h.e1, canon_cells]
  obtain ⟨r', er, ir⟩ := make_r (B := 4 * B + 3) (cs := cs.reverse) (qs := turnQ cs.length (a.2 + (lastS qs).2) qs) str ec (by rw [List.length_map, List.length_reverse]; omega) (by rw [List.length_reverse]; exact h.len) (by rw [List.length_reverse]; exact st) (by omega) (by rw [turn_len]; exact h.ql)
  refine ⟨r', ?_, ir⟩
  unfold m_Route_turned
  have c1 : compN r.1.reverse (fun x9 => (.ok (x9.1, x9.2.1, x9.2.2.1, (!x9.2.2.2)) : Res S4)) = .ok (r.1.reverse.map turnS) := compN_map turnS fun _ _ => rfl
  rw [decide_eq_true (by rw [List.length_reverse]; omega), chk_true, c1, bind_ok, h.e3, emb_first ea, opt_some, emb_last h.st.ne, opt_some]
  show (Res.bind (m_add (ofQ a.2) (ofQ (lastS qs).2)) _) = _
  rw [ad1, bind_ok, decide_eq_true (by rw [List.length_reverse, emb_len]; have := h.ql; omega), chk_true]
  have c2 : compN (emb qs).reverse (fun x84 => (m_sub (ofQ (a.2 + (lastS qs).2)) x84.2).bind fun y104 => (.ok ((r.2.1 - x84.1), y104) : Res (Int × (Int × Int)))) = .ok (emb (turnQ cs.length (a.2 + (lastS qs).2) qs)) := by
    have e : emb (turnQ cs.length (a.2 + (lastS qs).2) qs) = qs.reverse.map fun s => ((cs.length : Int) - s.1, ofQ (a.2 + (lastS qs).2 - s.2)) := by
      unfold emb turnQ
      rw [← List.map_reverse, List.map_map]
      rfl
    have e2 : (emb qs).reverse = qs.reverse.map fun s => (s.1, ofQ s.2) := by unfold emb; rw [List.map_reverse]
    rw [e, e2]
    have key : ∀ l : List Stone, (∀ s ∈ l, s ∈ qs) → compN (l.map fun s => (s.1, ofQ s.2)) (fun x84 => (m_sub (ofQ (a.2 + (lastS qs).2)) x84.2).bind fun y104 => (.ok ((r.2.1 - x84.1), y104) : Res (Int × (Int × Int)))) = .ok (l.map fun s => ((cs.length : Int) - s.1, ofQ (a.2 + (lastS qs).2 - s.2))) := by
      intro l
      induction l with
      | nil => intro _; rfl
      | cons s l ih =>
        intro hm
        rw [List.map_cons, compN_c]
        show (nx ((m_sub (ofQ (a.2 + (lastS qs).2)) (ofQ s.2)).bind _)).bind _ = _
        rw [(sub s (hm s List.mem_cons_self)).1, bind_ok, nx_ok, bind_ok, ih fun x m => hm x (List.mem_cons_of_mem _ m), bind_ok, h.e2]
        rfl
    exact key qs.reverse fun s m => List.mem_reverse.mp m
  rw [c2, bind_ok, er, bind_ok]
/-- the route with other stones -/
theorem moved_eq {B' : Nat} {qs' : List Stone} (h : IsR B r cs qs) (hs : Stones B' qs' (cs.length : Int)) (hB : B' ≤ 400000) (hq : qs'.length ≤ 400000) : ∃ r', m_Route_moved r (emb qs') = .ok r' ∧ IsR B' r' cs qs' := by
  obtain ⟨r', e, i⟩ := make_r (B := B') (cs := cs) (qs := qs') h.str (by rw [h.e1, canon_cells]) (by have := h.lenS; omega) h.len hs hB hq
  exact ⟨r', by unfold m_Route_moved; rw [e, bind_ok], i⟩
/-! #### joined -/
def shiftQ (n : Int) (d : Rat) (qs : List Stone) : List Stone := qs.map fun s => ((n + s.1, s.2 + d) : Stone)
def joinQ (n : Int) (qs qs2 : List Stone) : List Stone := qs ++ shiftQ n ((lastS qs).2 - (qs2.headD (0, 0)).2) qs2.tail
theorem shift_rise {n : Int} {d : Rat} {l : List Stone} (h : Rise l) : Rise (shiftQ n d l) := by
  unfold shiftQ Rise
  rw [List.pairwise_map]
  exact h.imp fun {a b} u => ⟨by show n + a.1 < n + b.1; have := u.1; omega, by show a.2 + d < b.2 + d; have := u.2; grind⟩
/-- it is also the first one's but for its last, and the second one's -/
theorem join_alt {n : Int} {qs qs2 : List Stone} (ne : qs ≠ []) (hl : (lastS qs).1 = n) {a : Stone} {t : List Stone} (ea : qs2 = a :: t) (za : a.1 = 0) : joinQ n qs qs2 = qs.dropLast ++ shiftQ n ((lastS qs).2 - a.2) qs2 := by
  have g := lastS_get ne
  have e : qs.dropLast ++ [lastS qs] = qs := by
    rw [List.getLast?_eq_some_getLast ne] at g
    rw [← Option.some.inj g]
    exact List.dropLast_concat_getLast ne
  unfold joinQ shiftQ
  subst ea
  rw [List.tail_cons, List.headD_cons, List.map_cons]
  have z : ((n + a.1, a.2 + ((lastS qs).2 - a.2)) : Stone) = lastS qs := by
    rw [za, ← hl]
    show (((lastS qs).1 + 0, a.2 + ((lastS qs).2 - a.2)) : Stone) = ((lastS qs).1, (lastS qs).2)
    rw [show (lastS qs).1 + 0 = (lastS qs).1 by omega, show a.2 + ((lastS qs).2 - a.2) = (lastS qs).2 by grind]
  rw [z]
  conv => lhs; lhs; rw [← e]
  rw [List.append_assoc]
  rfl
theorem shift_lastS {n : Int} {d : Rat} : ∀ {l : List Stone}, l ≠ [] → lastS (shiftQ n d l) = (n + (lastS l).1, (lastS l).2 + d)
  | [], h => absurd rfl h
  | [a], _ => rfl
  | a :: b :: r, _ => shift_lastS (l := b :: r) (by simp)
theorem lastS_append : ∀ {l m : List Stone}, m ≠ [] → lastS (l ++ m) = lastS m
  | [], _, _ => rfl
  | [a], m, h => by
    cases m with
    | nil => exact absurd rfl h
    | cons b r => rfl
  | a :: b :: l, m, h => lastS_append (l := b :: l) h
theorem join_stones {B B' : Nat} {n m : Int} {qs qs2 : List Stone} (h1 : Stones B qs n) (h2 : Stones B qs2 m) {a : Stone} {t : List Stone} (ea : qs2 = a :: t) (hB : B ≤ B') (hb : ∀ s ∈ qs2, sm B' (s.2 + ((lastS qs).2 - a.2))) : Stones B' (joinQ n qs qs2) (n + m) := by
  obtain ⟨a', t', ea', za⟩ := h2.first
  have : a' = a := by rw [ea] at ea'; cases ea'; rfl
  subst this
  have nt : t ≠ [] := by
    intro z
    have := h2.two
    rw [ea, z] at this
    simp at this
  have alt := join_alt h1.ne h1.last ea za
  have rise2 : Rise (a' :: t) := ea ▸ h2.rise
  obtain ⟨b, u, eb, zb⟩ := h1.first
  have jq : joinQ n qs qs2 = qs ++ shiftQ n ((lastS qs).2 - a'.2) t := by unfold joinQ; rw [ea]; rfl
  have hbt : ∀ s ∈ t, s ∈ qs2 := fun s m => by rw [ea]; exact List.mem_cons_of_mem _ m
  refine ⟨?_, ?_, ⟨b, u ++ shiftQ n ((lastS qs).2 - a'.2) t, by rw [jq, eb]; rfl, zb⟩, ?_, ?_⟩
  · rw [jq, List.length_append]; have := h1.two; omega
  · rw [jq]
    refine List.pairwise_append.mpr ⟨h1.rise, shift_rise rise2.tail, fun x hx y hy => ?_⟩
    unfold shiftQ at hy
    obtain ⟨s, hs, rfl⟩ := List.mem_map.mp hy
    have us : Up2 a' s := (List.pairwise_cons.mp rise2).1 s hs
    have bx := h1.bound hx
    have xl : x.2 ≤ (lastS qs).2 := by
      have e := meas_at h1.rise h1.two hx
      by_cases q : x = lastS qs
      · rw [q]; exact Rat.le_refl
      · have g := lastS_get h1.ne
        have e : qs.dropLast ++ [lastS qs] = qs := by
          rw [List.getLast?_eq_some_getLast h1.ne] at g
          rw [← Option.some.inj g]
          exact List.dropLast_concat_getLast h1.ne
        have rq := h1.rise
        rw [← e] at hx rq
        rcases List.mem_append.mp hx with hx | hx
        · exact Rat.le_of_lt ((List.pairwise_append.mp rq).2.2 x hx _ (by simp)).2
        · exact absurd (by simpa using hx) q
    refine ⟨?_, ?_⟩
    · show x.1 < n + s.1; have := us.1; omega
    · show x.2 < s.2 + ((lastS qs).2 - a'.2); have := us.2; grind
  · rw [jq, lastS_append (by unfold shiftQ; simpa using nt), shift_lastS nt]
    have : (lastS t).1 = m := by
      have l := h2.last
      rw [ea] at l
      cases t with
      | nil => exact absurd rfl nt
      | cons b r => exact l
    show n + (lastS t).1 = n + m
    rw [this]
  · intro s hs
    rw [jq] at hs
    rcases List.mem_append.mp hs with hs | hs
    · exact (h1.sml s hs).mono hB
    · unfold shiftQ at hs
      obtain ⟨x, hx, rfl⟩ := List.mem_map.mp hs
      exact hb x (hbt x hx)
/-- measures on the first part -/
theorem join_meas1 {B B' : Nat} {n m : Int} {qs qs2 : List Stone} (h1 : Stones B qs n) (hj : Stones B' (joinQ n qs qs2) m) {t : Rat} (t0 : 0 ≤ t) (t1 : t ≤ (n : Rat)) : meas (joinQ n qs qs2) t = meas qs t := by
  obtain ⟨a, r, ea, za⟩ := h1.first
  have nt : r ≠ [] := by
    intro z
    have := h1.two
    rw [ea, z] at this
    simp at this
  have last : (lastS (a :: r)).1 = n := by rw [← ea]; exact h1.last
  obtain ⟨l1, x, y, l2, e, g1, g2⟩ := adj_exists (ea ▸ h1.rise) nt (t := t) (by rw [za]; exact t0) (by rw [last]; exact t1)
  rw [← ea] at e
  have hr := h1.rise
  have hjr := hj.rise
  have e2 : joinQ n qs qs2 = l1 ++ x :: y :: (l2 ++ shiftQ n ((lastS qs).2 - (qs2.headD (0, 0)).2) qs2.tail) := by
    unfold joinQ
    conv => lhs; lhs; rw [e]
    simp
  rw [e2] at hjr ⊢
  rw [meas_adj hjr g1 g2]
  rw [e] at hr ⊢
  rw [meas_adj hr g1 g2]
/-- measures on the second part -/
theorem join_meas2 {B B' : Nat} {n m k : Int} {qs qs2 : List Stone} (h1 : Stones B qs n) (h2 : Stones B qs2 k) (hj : Stones B' (joinQ n qs qs2) m) {a : Stone} {tl : List Stone} (ea : qs2 = a :: tl) {t : Rat} (t0 : 0 ≤ t) (t1 : t ≤ (k : Rat)) : meas (joinQ n qs qs2) ((n : Rat) + t) = meas qs2 t + ((lastS qs).2 - a.2) := by
  obtain ⟨a', t', ea', za⟩ := h2.first
  have : a' = a := by rw [ea] at ea'; cases ea'; rfl
  subst this
  have nt : tl ≠ [] := by
    intro z
    have := h2.two
    rw [ea, z] at this
    simp at this
  have last : (lastS (a' :: tl)).1 = k := by rw [← ea]; exact h2.last
  obtain ⟨l1, x, y, l2, e, g1, g2⟩ := adj_exists (ea ▸ h2.rise) nt (t := t) (by rw [za]; exact t0) (by rw [last]; exact t1)
  rw [← ea] at e
  have hr := h2.rise
  have hjr := hj.rise
  have e2 : joinQ n qs qs2 = (qs.dropLast ++ shiftQ n ((lastS qs).2 - a'.2) l1) ++ (n + x.1, x.2 + ((lastS qs).2 - a'.2)) :: (n + y.1, y.2 + ((lastS qs).2 - a'.2)) :: shiftQ n ((lastS qs).2 - a'.2) l2 := by
    rw [join_alt h1.ne h1.last ea za]
    conv => lhs; rhs; rw [e]
    unfold shiftQ
    simp
  rw [e2] at hjr ⊢
  rw [meas_adj hjr (by show ((n + x.1 : Int) : Rat) ≤ _; rw [Rat.intCast_add]; grind) (by show _ ≤ ((n + y.1 : Int) : Rat); rw [Rat.intCast_add]; grind)]
  rw [e] at hr ⊢
  rw [meas_adj hr g1 g2]
  unfold lin
  simp only [Rat.intCast_add, Rat.div_def]
  have u := adj_up hr
  have h := icast_lt u.1
  have p1 := mul_inv_c (c := (y.1 : Rat) - x.1) (by grind)
  have p2 : ((n : Rat) + y.1 - (n + x.1)) = y.1 - x.1 := by grind
  rw [p2]
  grind
theorem sliceTail {α : Type} (xs : List α) : sliceL xs (some (1 : Int)) none = xs.tail := by
  cases xs with
  | nil => rfl
  | cons x xs =>
    unfold sliceL
    have h1 : HT.sIx (x :: xs).length 0 (some (1 : Int)) = 1 := by
      unfold HT.sIx
      simp
      try omega
    have h2 : HT.sIx (x :: xs).length (x :: xs).length none = (x :: xs).length := rfl
    rw [h1, h2]
    simp
/-- the stones that joined makes, and the call that makes the route -/
theorem joined_call {r2 : M_Route} {cs2 : List Cell} {qs2 : List Stone} (h : IsR B r cs qs) (h2 : IsR B r2 cs2 qs2) (hB : B ≤ 1000) {a : Stone} {t : List Stone} (ea : qs2 = a :: t) :
    m_Route_joined r r2 = m_Route_init (r.1 ++ r2.1) (emb (joinQ cs.length qs qs2)) ∧ ∀ s ∈ qs2, sm (4 * B + 3) (s.2 + ((lastS qs).2 - a.2)) := by
  have sl := sizeLine_big
  have ma : a ∈ qs2 := by rw [ea]; exact List.mem_cons_self
  obtain ⟨su1, su2⟩ := sub_eq (h.st.sml _ (lastS_mem h.st.ne)) (h2.st.sml a ma) (by omega)
  have ad : ∀ s ∈ qs2, m_add (ofQ s.2) (ofQ ((lastS qs).2 - a.2)) = .ok (ofQ (s.2 + ((lastS qs).2 - a.2))) ∧ sm (4 * B + 3) (s.2 + ((lastS qs).2 - a.2)) := fun s m => by
    obtain ⟨u1, u2⟩ := add_eq (B := 2 * B + 1) ((h2.st.sml s m).mono (by omega)) su2 (by omega)
    exact ⟨u1, u2.mono (by omega)⟩
  refine ⟨?_, fun s m => (ad s m).2⟩
  unfold m_Route_joined
  rw [h.e3, h2.e3, emb_last h.st.ne, opt_some, emb_first ea, opt_some]
  show (Res.bind (m_sub (ofQ (lastS qs).2) (ofQ a.2)) _) = _
  rw [su1, bind_ok, sliceTail]
  have et : (emb qs2).tail = emb t := by rw [ea]; rfl
  rw [et]
  have key : ∀ (l acc : List Stone), (∀ s ∈ l, s ∈ qs2) → acc.length + l.length ≤ 1000000 → forN (emb l) (emb acc) (fun s52 x56 => (m_add x56.2 (ofQ ((lastS qs).2 - a.2))).bind fun y76 => chk (decide (s52.length < sizeLine)) <| .ok ((s52 ++ [((r.2.1 + x56.1), y76)]))) = .ok (emb (acc ++ shiftQ cs.length ((lastS qs).2 - a.2) l)) := by
    intro l
    induction l with
    | nil => intro acc _ _; show _ = Res.ok (emb (acc ++ [])); rw [List.append_nil]; rfl
    | cons s l ih =>
      intro acc hm hl
      have hl' : acc.length + (l.length + 1) ≤ 1000000 := hl
      show forN ((s.1, ofQ s.2) :: emb l) _ _ = _
      rw [forN_cons]
      show (Res.bind ((m_add (ofQ s.2) (ofQ ((lastS qs).2 - a.2))).bind _) _) = _
      rw [(ad s (hm s List.mem_cons_self)).1, bind_ok, decide_eq_true (by rw [emb_len]; omega), chk_true, bind_ok, h.e2]
      have ee : emb acc ++ [((cs.length : Int) + s.1, ofQ (s.2 + ((lastS qs).2 - a.2)))] = emb (acc ++ [((cs.length : Int) + s.1, s.2 + ((lastS qs).2 - a.2))]) := by unfold emb; rw [List.map_append]; rfl
      have ih' := ih (acc ++ [((cs.length : Int) + s.1, s.2 + ((lastS qs).2 - a.2))]) (fun x m => hm x (List.mem_cons_of_mem _ m)) (by simp; omega)
      rw [h.e2] at ih'
      rw [ee]
      show forN (emb l) _ _ = _
      rw [ih', List.append_assoc]
      rfl
  have hq := h.ql
  have hq2 := h2.ql
  have tl : t.length ≤ qs2.length := by rw [ea]; simp
  rw [key t qs (fun s m => by rw [ea]; exact List.mem_cons_of_mem _ m) (by omega), bind_ok, decide_eq_true (by have := h.lenS; have := h2.lenS; omega), chk_true]
  have jq : joinQ cs.length qs qs2 = qs ++ shiftQ cs.length ((lastS qs).2 - a.2) t := by unfold joinQ; rw [ea]; rfl
  rw [jq]
  cases m_Route_init (r.1 ++ r2.1) (emb (qs ++ shiftQ cs.length ((lastS qs).2 - a.2) t)) <;> rfl
/-- the route through two -/
theorem joined_eq {r2 : M_Route} {cs2 : List Cell} {qs2 : List Stone} (h : IsR B r cs qs) (h2 : IsR B r2 cs2 qs2) (hB : B ≤ 1000) (nd : (cs ++ cs2).Nodup) (hl : (cs ++ cs2).length ≤ 300000) (hq : qs.length + qs2.length ≤ 400000) :
    ∃ r', m_Route_joined r r2 = .ok r' ∧ IsR (4 * B + 3) r' (cs ++ cs2) (joinQ cs.length qs qs2) := by
  obtain ⟨a, t, ea, za⟩ := h2.st.first
  obtain ⟨e, sz⟩ := joined_call h h2 hB ea
  have str : Str8 (r.1 ++ r2.1) := by
    refine ⟨?_, ?_, ?_, ?_⟩
    · intro z; exact h.str.ne (List.append_eq_nil_iff.mp z).1
    · intro s m
      rcases List.mem_append.mp m with m | m
      · exact h.str.gs s m
      · exact h2.str.gs s m
    · intro s m
      rcases List.mem_append.mp m with m | m
      · exact h.str.b0 s m
      · exact h2.str.b0 s m
    · rw [cellsL_app, h.e1, h2.e1, canon_cells, canon_cells]; exact nd
  have ec : cellsL (r.1 ++ r2.1) = cs ++ cs2 := by rw [cellsL_app, h.e1, h2.e1, canon_cells, canon_cells]
  have st := join_stones (B' := 4 * B + 3) h.st h2.st ea (by omega) sz
  rw [← Int.natCast_add, ← List.length_append] at st
  have jl : (joinQ cs.length qs qs2).length ≤ qs.length + qs2.length := by
    unfold joinQ shiftQ
    rw [List.length_append, List.length_map, List.length_tail]
    omega
  obtain ⟨r', er, ir⟩ := make_r str ec (by rw [List.length_append]; have := h.lenS; have := h2.lenS; omega) hl st (by omega) (by omega)
  exact ⟨r', by rw [e, er], ir⟩
/-! #### a cell twice -/
theorem rowsum_app (a b : List Rw) (u) : rowsum (a ++ b) u = rowsum a u + rowsum b u := by
  unfold rowsum
  rw [List.map_append, List.sum_append]
theorem check_dup {ss : List S4} (gs : ∀ s ∈ ss, gdS s) (b0 : ∀ s ∈ ss, 0 ≤ s.2.1) (hl : ss.length ≤ 1000000) (ne : ss ≠ []) {p : PySem.Str} {k : Int} (d : 2 ≤ rowsum (ss.map rowS) (p, k)) : m_check_stretches ss = .err .route := by
  unfold m_check_stretches
  have lr : (ss.map rowS).length ≤ 1000000 := by rw [List.length_map]; exact hl
  have hg : ∀ r ∈ ss.map rowS, Kb.gd r := fun r m => by
    obtain ⟨s, hs, rfl⟩ := List.mem_map.mp m
    exact ⟨b0 s hs, gs s hs⟩
  rw [decide_eq_true (by have := sizeLine_big; omega), chk_true, comp_rows, bind_ok, normal_ok hg lr, bind_ok, tryM_ok]
  have ne : (!(ss.map rowS).isEmpty) = true := by
    cases ss with
    | nil => exact absurd rfl ne
    | cons => rfl
  have lt := sz_nrm_lt hg d
  rw [ne, br_true, size_ok' (Nat.le_trans (nrm_len _) lr), nx_ok, bind_ok, size_ok' lr, nx_ok, bind_ok, decide_eq_false (by omega)]
  rfl
theorem rowsum_mem {ss : List S4} {p : PySem.Str} {k : Int} (m : (p, k) ∈ cellsL ss) : 1 ≤ rowsum (ss.map rowS) (p, k) := by
  obtain ⟨s, hs, hm⟩ := List.mem_flatMap.mp m
  exact rowsum_cov (u := (p, k)) ⟨rowS s, List.mem_map.mpr ⟨s, hs, rfl⟩, covR_cells.mpr hm⟩
/-- two routes with a cell in common are not joined -/
theorem joined_err {r2 : M_Route} {cs2 : List Cell} {qs2 : List Stone} (h : IsR B r cs qs) (h2 : IsR B r2 cs2 qs2) (hB : B ≤ 1000) {c : Cell} (m1 : c ∈ cs) (m2 : c ∈ cs2) : m_Route_joined r r2 = .err .route := by
  obtain ⟨a, t, ea, za⟩ := h2.st.first
  obtain ⟨e, _⟩ := joined_call h h2 hB ea
  rw [e]
  unfold m_Route_init
  obtain ⟨p, k⟩ := c
  rw [check_dup (p := p) (k := k) (ss := r.1 ++ r2.1) ?_ ?_ (by rw [List.length_append]; have := h.lenS; have := h2.lenS; omega) (by intro z; exact h.str.ne (List.append_eq_nil_iff.mp z).1) ?_]
  · rfl
  · intro s m
    rcases List.mem_append.mp m with m | m
    · exact h.str.gs s m
    · exact h2.str.gs s m
  · intro s m
    rcases List.mem_append.mp m with m | m
    · exact h.str.b0 s m
    · exact h2.str.b0 s m
  · rw [List.map_append, rowsum_app]
    have q1 := rowsum_mem (ss := r.1) (p := p) (k := k) (by rw [h.e1, canon_cells]; exact m1)
    have q2 := rowsum_mem (ss := r2.1) (p := p) (k := k) (by rw [h2.e1, canon_cells]; exact m2)
    omega
end
end Lw
/-! Pa: parts of routes -/
namespace Lw
open PySem L2 Kb
def cutF1 (b P : Int) : Int := if (0 : Int) > (b - P) then (0 : Int) else (b - P)
def cutF2 (e P : Int) (x : S4) : Int := if (x.2.2.1 - x.2.1) < (e - P) then (x.2.2.1 - x.2.1) else (e - P)
def cut1 (b e P : Int) (x : S4) : List S4 :=
  if cutF1 b P < cutF2 e P x then
    (if x.2.2.2 = true then [(x.1, x.2.2.1 - cutF2 e P x, x.2.2.1 - cutF1 b P, true)] else [(x.1, x.2.1 + cutF1 b P, x.2.1 + cutF2 e P x, false)])
  else []
def cutR (b e : Int) : Int → List S4 → List S4
  | _, [] => []
  | P, x :: r => cut1 b e P x ++ cutR b e (P + x.2.2.1 - x.2.1) r
theorem cut1_len (b e P : Int) (x : S4) : (cut1 b e P x).length ≤ 1 := by
  unfold cut1
  split
  · split <;> simp
  · simp
theorem cutR_len (b e : Int) : ∀ (P : Int) (ss : List S4), (cutR b e P ss).length ≤ ss.length
  | _, [] => Nat.le_refl _
  | P, x :: r => by
    have h1 := cut1_len b e P x
    have h2 := cutR_len b e (P + x.2.2.1 - x.2.1) r
    show (cut1 b e P x ++ _).length ≤ _
    rw [List.length_append, List.length_cons]
    omega
theorem cut_eq {ss : List S4} (b e : Int) (h : ss.length ≤ 1000000) : m_cut_stretches ss b e = .ok (cutR b e 0 ss) := by
  have sl := sizeLine_big
  unfold m_cut_stretches
  have key : ∀ (l acc : List S4) (P : Int), acc.length + l.length ≤ 1000000 → ∃ z, forN l (acc, P) (fun s15 x23 => (br (decide ((if (0 : Int) > (b - s15.2) then (0 : Int) else (b - s15.2)) < (if (x23.2.2.1 - x23.2.1) < (e - s15.2) then (x23.2.2.1 - x23.2.1) else (e - s15.2)))) ((br x23.2.2.2 (chk (decide (s15.1.length < sizeLine)) <| .ok ((s15.1 ++ [(x23.1, (x23.2.2.1 - (if (x23.2.2.1 - x23.2.1) < (e - s15.2) then (x23.2.2.1 - x23.2.1) else (e - s15.2))), (x23.2.2.1 - (if (0 : Int) > (b - s15.2) then (0 : Int) else (b - s15.2))), true)]))) (chk (decide (s15.1.length < sizeLine)) <| .ok ((s15.1 ++ [(x23.1, (x23.2.1 + (if (0 : Int) > (b - s15.2) then (0 : Int) else (b - s15.2))), (x23.2.1 + (if (x23.2.2.1 - x23.2.1) < (e - s15.2) then (x23.2.2.1 - x23.2.1) else (e - s15.2))), false)])))).bind fun s48 => .ok (s48)) (.ok (s15.1))).bind fun s41 => .ok (s41, ((s15.2 + x23.2.2.1) - x23.2.1))) = .ok (acc ++ cutR b e P l, z) := by
    intro l
    induction l with
    | nil => intro acc P _; exact ⟨P, by rw [show cutR b e P [] = [] from rfl, List.append_nil]; rfl⟩
    | cons x l ih =>
      intro acc P hl
      have hl' : acc.length + (l.length + 1) ≤ 1000000 := hl
      obtain ⟨z, hz⟩ := ih (acc ++ cut1 b e P x) (P + x.2.2.1 - x.2.1) (by have := cut1_len b e P x; rw [List.length_append]; omega)
      refine ⟨z, ?_⟩
      rw [forN_cons]
      have st : ((br (decide (cutF1 b P < cutF2 e P x)) ((br x.2.2.2 (chk (decide (acc.length < sizeLine)) <| .ok ((acc ++ [(x.1, (x.2.2.1 - cutF2 e P x), (x.2.2.1 - cutF1 b P), true)]))) (chk (decide (acc.length < sizeLine)) <| .ok ((acc ++ [(x.1, (x.2.1 + cutF1 b P), (x.2.1 + cutF2 e P x), false)])))).bind fun s48 => .ok (s48)) (.ok (acc))).bind fun s41 => (.ok (s41, ((P + x.2.2.1) - x.2.1)) : Res (List S4 × Int))) = .ok (acc ++ cut1 b e P x, P + x.2.2.1 - x.2.1) := by
        rw [decide_eq_true (show acc.length < sizeLine by omega)]
        unfold cut1
        by_cases c : cutF1 b P < cutF2 e P x
        · rw [decide_eq_true c, if_pos c]
          cases t : x.2.2.2 <;> rfl
        · rw [decide_eq_false c, if_neg c, List.append_nil]; rfl
      show (Res.bind ((br (decide (cutF1 b P < cutF2 e P x)) _ _).bind _) _) = _
      rw [show (cutR b e P (x :: l)) = cut1 b e P x ++ cutR b e (P + x.2.2.1 - x.2.1) l from rfl, ← List.append_assoc, ← hz]
      exact congrArg (fun m : Res (List S4 × Int) => m.bind _) st
  obtain ⟨z, hz⟩ := key ss [] 0 (by simpa using h)
  rw [hz, bind_ok]
  rfl
theorem upC_cut {p : PySem.Str} {b : Int} {n k m : Nat} : ((upC p b n).take k).drop m = upC p (b + m) (min n k - m) := by
  refine List.ext_getElem? fun i => ?_
  rw [List.getElem?_drop, List.getElem?_take]
  by_cases h : m + i < k
  · rw [if_pos h]
    by_cases h2 : m + i < n
    · rw [upC_get h2, upC_get (by omega)]
      congr 2; omega
    · rw [List.getElem?_eq_none (by rw [upC_len]; omega), List.getElem?_eq_none (by rw [upC_len]; omega)]
  · rw [if_neg h, List.getElem?_eq_none (by rw [upC_len]; omega)]
theorem dnC_cut {p : PySem.Str} {b : Int} {n k m : Nat} : (((upC p b n).reverse).take k).drop m = (upC p (b + n - (min n k : Nat)) (min n k - m)).reverse := by
  refine List.ext_getElem? fun i => ?_
  rw [List.getElem?_drop, List.getElem?_take]
  by_cases h : m + i < k
  · rw [if_pos h]
    by_cases h2 : m + i < n
    · rw [List.getElem?_reverse (by rw [upC_len]; exact h2), upC_len, upC_get (by omega), List.getElem?_reverse (by rw [upC_len]; omega), upC_len, upC_get (by omega)]
      congr 2; omega
    · rw [List.getElem?_eq_none (by rw [List.length_reverse, upC_len]; omega), List.getElem?_eq_none (by rw [List.length_reverse, upC_len]; omega)]
  · rw [if_neg h, List.getElem?_eq_none (by rw [List.length_reverse, upC_len]; omega)]
theorem cut1_cells {b e P : Int} {x : S4} (g : gdS x) (be : b ≤ e) : cellsL (cut1 b e P x) = ((cellsS x).take (e - P).toNat).drop (b - P).toNat := by
  obtain ⟨p, lo, hi, t⟩ := x
  have g' : lo < hi := g
  have f1 : cutF1 b P = ((b - P).toNat : Int) := by unfold cutF1; split <;> omega
  unfold cut1
  by_cases c : cutF1 b P < cutF2 e P (p, lo, hi, t)
  · rw [if_pos c]
    have f2 : cutF2 e P (p, lo, hi, t) = ((min (hi - lo).toNat (e - P).toNat : Nat) : Int) := by
      unfold cutF2 at c ⊢
      simp only at c ⊢
      split at c <;> split <;> omega
    rw [f1, f2] at c ⊢
    cases t with
    | true =>
      simp only [if_true]
      rw [cellsL_one]
      unfold cellsS
      simp only [if_true]
      rw [dnC_cut]
      congr 1
      rw [show lo + ((hi - lo).toNat : Int) - ((min (hi - lo).toNat (e - P).toNat : Nat) : Int) = hi - ((min (hi - lo).toNat (e - P).toNat : Nat) : Int) by omega]
      congr 1
      omega
    | false =>
      simp only [Bool.false_eq_true, if_false]
      rw [cellsL_one]
      unfold cellsS
      simp only [Bool.false_eq_true, if_false]
      rw [upC_cut]
      congr 1
      omega
  · rw [if_neg c]
    have z : min (hi - lo).toNat (e - P).toNat - (b - P).toNat = 0 := by
      unfold cutF1 cutF2 at c
      simp only at c
      split at c <;> split at c <;> omega
    unfold cellsS
    cases t with
    | true =>
      simp only [if_true]
      rw [dnC_cut, z]; rfl
    | false =>
      simp only [Bool.false_eq_true, if_false]
      rw [upC_cut, z]; rfl
theorem cutR_cells {b e : Int} (be : b ≤ e) : ∀ {ss : List S4} {P : Int}, (∀ s ∈ ss, gdS s) → cellsL (cutR b e P ss) = ((cellsL ss).take (e - P).toNat).drop (b - P).toNat
  | [], P, _ => by simp [cutR, cellsL]
  | x :: r, P, h => by
    have g : x.2.1 < x.2.2.1 := h x List.mem_cons_self
    show cellsL (cut1 b e P x ++ _) = _
    rw [cellsL_app, cut1_cells (h x List.mem_cons_self) be, cutR_cells be fun s m => h s (List.mem_cons_of_mem _ m), cellsL_cons, List.take_append, List.drop_append, cellsS_len]
    congr 1
    rw [List.length_take, cellsS_len]
    by_cases c : (x.2.2.1 - x.2.1).toNat ≤ (e - P).toNat
    · rw [Nat.min_eq_right c, show (e - (P + x.2.2.1 - x.2.1)).toNat = (e - P).toNat - (x.2.2.1 - x.2.1).toNat by omega, show (b - (P + x.2.2.1 - x.2.1)).toNat = (b - P).toNat - (x.2.2.1 - x.2.1).toNat by omega]
    · rw [show (e - (P + x.2.2.1 - x.2.1)).toNat = 0 by omega, show (e - P).toNat - (x.2.2.1 - x.2.1).toNat = 0 by omega]
      simp
theorem cutR_gd {b e : Int} : ∀ {ss : List S4} {P : Int}, (∀ s ∈ ss, gdS s ∧ 0 ≤ s.2.1) → ∀ s ∈ cutR b e P ss, gdS s ∧ 0 ≤ s.2.1
  | [], _, _, s, m => by cases m
  | x :: r, P, h, s, m => by
    rcases List.mem_append.mp (show s ∈ cut1 b e P x ++ _ from m) with m | m
    · obtain ⟨p, lo, hi, t⟩ := x
      obtain ⟨g1, g2⟩ := h (p, lo, hi, t) List.mem_cons_self
      have g1' : lo < hi := g1
      have g2' : 0 ≤ lo := g2
      unfold cut1 at m
      split at m
      · rename_i c
        have c1 : 0 ≤ cutF1 b P := by unfold cutF1; split <;> omega
        have c2 : cutF2 e P (p, lo, hi, t) ≤ hi - lo := by unfold cutF2; simp only; split <;> omega
        split at m
        · have : s = (p, hi - cutF2 e P (p, lo, hi, t), hi - cutF1 b P, true) := by simpa using m
          subst this
          exact ⟨by show hi - cutF2 e P (p, lo, hi, t) < hi - cutF1 b P; omega, by show 0 ≤ hi - cutF2 e P (p, lo, hi, t); omega⟩
        · have : s = (p, lo + cutF1 b P, lo + cutF2 e P (p, lo, hi, t), false) := by simpa using m
          subst this
          exact ⟨by show lo + cutF1 b P < lo + cutF2 e P (p, lo, hi, t); omega, by show 0 ≤ lo + cutF1 b P; omega⟩
      · cases m
    · exact cutR_gd (ss := r) (fun s m => h s (List.mem_cons_of_mem _ m)) s m
/-- the cells between two places -/
def span (cs : List Cell) (b e : Int) : List Cell := (cs.take e.toNat).drop b.toNat
theorem span_len {cs : List Cell} {b e : Int} (h0 : 0 ≤ b) (h1 : b ≤ e) (h2 : e ≤ cs.length) : ((span cs b e).length : Int) = e - b := by
  unfold span
  rw [List.length_drop, List.length_take]
  omega
/-- the stones of a part -/
def partQ (qs : List Stone) (b e : Int) : List Stone := ((0, meas qs b) : Stone) :: ((qs.filter fun s => decide (b < s.1) && decide (s.1 < e)).map fun s => ((s.1 - b, s.2) : Stone)) ++ [(e - b, meas qs e)]
section
variable {B C : Nat} {r : M_Route} {cs : List Cell} {qs : List Stone} {n : Int}
theorem rise_len : ∀ {a : Stone} {r : List Stone}, Rise (a :: r) → (((a :: r).length : Nat) : Int) ≤ (lastS (a :: r)).1 - a.1 + 1
  | a, [], _ => by show ((1 : Nat) : Int) ≤ a.1 - a.1 + 1; omega
  | a, b :: r, h => by
    have := rise_len (a := b) (r := r) h.tail
    have u := h.up.1
    show (((b :: r).length + 1 : Nat) : Int) ≤ (lastS (b :: r)).1 - a.1 + 1
    omega
theorem Stones.len (hs : Stones B qs n) : (qs.length : Int) ≤ n + 1 := by
  obtain ⟨a, r, ea, za⟩ := hs.first
  have := rise_len (ea ▸ hs.rise)
  rw [← ea, hs.last] at this
  omega
theorem Stones.mono_le (hs : Stones B qs n) {s t : Rat} (h0 : 0 ≤ s) (h1 : s < t) (h2 : t ≤ n) : meas qs s < meas qs t := by
  obtain ⟨a, r, ea, za⟩ := hs.first
  rw [ea]
  exact meas_mono (ea ▸ hs.rise) (by rw [za]; exact h0) h1 (by rw [← ea, hs.last]; exact h2)
theorem c0_le {x : Int} (h : 0 ≤ x) : (0 : Rat) ≤ (x : Rat) := by have := icast_le h; simpa using this
theorem part_on {b e : Int} (hs : Stones B qs n) (h0 : 0 ≤ b) (h1 : b < e) (h2 : e ≤ n) : ∀ s ∈ partQ qs b e, s.2 = meas qs ((s.1 + b : Int) : Rat) ∧ 0 ≤ s.1 ∧ s.1 ≤ e - b := by
  intro s m
  rcases List.mem_append.mp m with m | m
  · rcases List.mem_cons.mp m with rfl | m
    · exact ⟨by rw [show (0 : Int) + b = b by omega], Int.le_refl _, by show (0 : Int) ≤ e - b; omega⟩
    · obtain ⟨x, hx, rfl⟩ := List.mem_map.mp m
      obtain ⟨x1, x2⟩ := List.mem_filter.mp hx
      rw [Bool.and_eq_true, decide_eq_true_eq, decide_eq_true_eq] at x2
      refine ⟨?_, ?_, ?_⟩
      · rw [show x.1 - b + b = x.1 by omega]; exact (meas_at hs.rise hs.two x1).symm
      · show 0 ≤ x.1 - b; omega
      · show x.1 - b ≤ e - b; omega
  · have : s = (e - b, meas qs e) := by simpa using m
    subst this
    exact ⟨by rw [show e - b + b = e by omega], by show 0 ≤ e - b; omega, Int.le_refl _⟩
theorem part_rise {b e : Int} (hs : Stones B qs n) (h0 : 0 ≤ b) (h1 : b < e) (h2 : e ≤ n) : Rise (partQ qs b e) := by
  have key : ∀ x y : Stone, x ∈ partQ qs b e → y ∈ partQ qs b e → x.1 < y.1 → Up2 x y := fun x y mx my l => by
    obtain ⟨e1, q1, q2⟩ := part_on hs h0 h1 h2 x mx
    obtain ⟨e2, q3, q4⟩ := part_on hs h0 h1 h2 y my
    exact ⟨l, by rw [e1, e2]; exact hs.mono_le (c0_le (by omega)) (icast_lt (by omega)) (icast_le (by omega))⟩
  have pl : (partQ qs b e).Pairwise fun x y => x.1 < y.1 := by
    unfold partQ
    refine List.pairwise_append.mpr ⟨List.pairwise_cons.mpr ⟨?_, ?_⟩, List.pairwise_singleton _ _, ?_⟩
    · intro x hx
      obtain ⟨y, hy, rfl⟩ := List.mem_map.mp hx
      have := (List.mem_filter.mp hy).2
      rw [Bool.and_eq_true, decide_eq_true_eq, decide_eq_true_eq] at this
      show (0 : Int) < y.1 - b
      omega
    · rw [List.pairwise_map]
      exact (hs.rise.filter _).imp fun {x y} u => by show x.1 - b < y.1 - b; have := u.1; omega
    · intro x hx y hy
      have : y = (e - b, meas qs e) := by simpa using hy
      subst this
      rcases List.mem_cons.mp hx with rfl | hx
      · show (0 : Int) < e - b; omega
      · obtain ⟨y, hy, rfl⟩ := List.mem_map.mp hx
        have := (List.mem_filter.mp hy).2
        rw [Bool.and_eq_true, decide_eq_true_eq, decide_eq_true_eq] at this
        show y.1 - b < e - b
        omega
  unfold Rise
  exact List.Pairwise.imp_of_mem (fun {x y} mx my l => key x y mx my l) pl
theorem part_stones {b e : Int} {B' : Nat} (hs : Stones B qs n) (h0 : 0 ≤ b) (h1 : b < e) (h2 : e ≤ n) (s1 : sm B' (meas qs b)) (s2 : sm B' (meas qs e)) (hB : B ≤ B') : Stones B' (partQ qs b e) (e - b) := by
  refine ⟨by unfold partQ; simp, part_rise hs h0 h1 h2, ⟨(0, meas qs b), _, rfl, rfl⟩, by unfold partQ; rw [lastS_append (by simp)]; rfl, fun s m => ?_⟩
  rcases List.mem_append.mp m with m | m
  · rcases List.mem_cons.mp m with rfl | m
    · exact s1
    · obtain ⟨x, hx, rfl⟩ := List.mem_map.mp m
      exact (hs.sml x (List.mem_filter.mp hx).1).mono hB
  · have : s = (e - b, meas qs e) := by simpa using m
    subst this
    exact s2
/-- the measures of a part are the route's -/
theorem part_meas {b e : Int} (hs : Stones B qs n) (h0 : 0 ≤ b) (h1 : b < e) (h2 : e ≤ n) {t : Rat} (t0 : 0 ≤ t) (t1 : t ≤ ((e - b : Int) : Rat)) : meas (partQ qs b e) t = meas qs (t + b) := by
  obtain ⟨a, rr, ea, za⟩ := hs.first
  have nt : rr ≠ [] := by
    intro z
    have := hs.two
    rw [ea, z] at this
    simp at this
  have rs : Rise (a :: rr) := ea ▸ hs.rise
  have last : (lastS (a :: rr)).1 = n := by rw [← ea]; exact hs.last
  have rp := part_rise hs h0 h1 h2
  have lp : lastS (partQ qs b e) = (e - b, meas qs e) := by unfold partQ; rw [lastS_append (by simp)]; rfl
  have eP : partQ qs b e = (0, meas qs b) :: (((qs.filter fun s => decide (b < s.1) && decide (s.1 < e)).map fun s => ((s.1 - b, s.2) : Stone)) ++ [(e - b, meas qs e)]) := rfl
  refine (congrArg (fun l => meas l t) eP).trans (interp (eP ▸ rp) (by simp) (fun t => meas qs (t + b)) ?_ (by exact t0) (by rw [← eP, lp]; exact t1))
  intro l1 x y l2 eq t g1 g2
  rw [← eP] at eq
  have rp' := rp
  rw [eq] at rp'
  have u := adj_up rp'
  have mx : x ∈ partQ qs b e := by rw [eq]; exact List.mem_append_right _ List.mem_cons_self
  have my : y ∈ partQ qs b e := by rw [eq]; exact List.mem_append_right _ (List.mem_cons_of_mem _ List.mem_cons_self)
  obtain ⟨x1, x2, x3⟩ := part_on hs h0 h1 h2 x mx
  obtain ⟨y1, y2, y3⟩ := part_on hs h0 h1 h2 y my
  have u1 := u.1
  obtain ⟨p, q, hl⟩ := seg_cover (P := x.1 + b) (Q := y.1 + b) rs nt (by omega) (by omega) (by rw [last]; omega) (fun s m ⟨b1, b2⟩ => by
    rw [← ea] at m
    have : ((s.1 - b, s.2) : Stone) ∈ partQ qs b e := by
      unfold partQ
      refine List.mem_append_left _ (List.mem_cons_of_mem _ (List.mem_map.mpr ⟨s, List.mem_filter.mpr ⟨m, ?_⟩, rfl⟩))
      rw [Bool.and_eq_true, decide_eq_true_eq, decide_eq_true_eq]
      omega
    rw [eq] at this
    exact adj_none rp' this ⟨by show x.1 < s.1 - b; omega, by show s.1 - b < y.1; omega⟩)
  rw [← ea] at hl
  have cx : ((x.1 + b : Int) : Rat) = (x.1 : Rat) + b := Rat.intCast_add _ _
  have cy : ((y.1 + b : Int) : Rat) = (y.1 : Rat) + b := Rat.intCast_add _ _
  have w1 := hl (t + b) (by rw [cx]; grind) (by rw [cy]; grind)
  have w2 := hl ((x.1 + b : Int) : Rat) Rat.le_refl (icast_le (by omega))
  have w3 := hl ((y.1 + b : Int) : Rat) (icast_le (by omega)) Rat.le_refl
  have k := lin_same (x := p) (y := q) (u := (x.1 + b, x.2)) (v := (y.1 + b, y.2)) ⟨by show x.1 + b < y.1 + b; omega, u.2⟩ (by rw [← w2]; exact x1) (by rw [← w3]; exact y1) (t + b)
  show meas qs (t + b) = _
  rw [w1, ← k]
  have h := icast_lt u1
  have p1 := mul_inv_c (c := (y.1 : Rat) - x.1) (by grind)
  have p2 : ((y.1 : Rat) + b - (x.1 + b)) = y.1 - x.1 := by grind
  unfold lin
  simp only [cx, cy, Rat.div_def]
  rw [p2]
  grind
/-- the part between two places -/
theorem part_eq (h : IsR B r cs qs) (hB : B ≤ 480) (hC : cs.length < 2 ^ C) (hC2 : C ≤ 480) (hC0 : 0 < C) {b e : Int} (h0 : 0 ≤ b) (h1 : b < e) (h2 : e ≤ cs.length) :
    ∃ r', m_Route_part r b e = .ok r' ∧ IsR (2 * B + C + 1) r' (span cs b e) (partQ qs b e) := by
  have sl := sizeLine_big
  obtain ⟨m1, s1⟩ := h.measure hB h0 (by omega) hC hC2 hC0
  obtain ⟨m2, s2⟩ := h.measure hB (p := e) (by omega) h2 hC hC2 hC0
  have st := part_stones (B' := 2 * B + C + 1) h.st h0 h1 h2 s1 s2 (by omega)
  have sp := span_len h0 (by omega) h2
  rw [← sp] at st
  have ll := h.lenS
  have lc := h.len
  have lq := h.ql
  have gds : ∀ s ∈ r.1, gdS s ∧ 0 ≤ s.2.1 := fun s m => ⟨h.str.gs s m, h.str.b0 s m⟩
  have ec : cellsL (cutR b e 0 r.1) = span cs b e := by
    rw [cutR_cells (by omega) (fun s m => (gds s m).1), h.e1, canon_cells]
    unfold span
    rw [show e - 0 = e by omega, show b - 0 = b by omega]
  have str : Str8 (cutR b e 0 r.1) := by
    refine ⟨?_, fun s m => (cutR_gd gds s m).1, fun s m => (cutR_gd gds s m).2, ?_⟩
    · intro z
      rw [z] at ec
      have : ((span cs b e).length : Int) = 0 := by rw [← ec]; rfl
      omega
    · rw [ec]
      exact (h.nd.sublist ((List.drop_sublist _ _).trans (List.take_sublist _ _)))
  obtain ⟨r', er, ir⟩ := make_r str ec (by have := cutR_len b e 0 r.1; omega) (by omega) st (by omega) (by have := st.len; omega)
  refine ⟨r', ?_, ir⟩
  unfold m_Route_part
  rw [h.e2]
  have t0 : orN (.ok (decide (b < (0 : Int)))) (orN (.ok (decide ((cs.length : Int) < e))) (.ok (decide (e ≤ b)))) = .ok false := by
    rw [decide_eq_false (by omega), decide_eq_false (by omega), decide_eq_false (by omega)]; rfl
  rw [t0, bind_ok, br_false, m1, bind_ok, h.e3]
  have key : ∀ (l acc : List Stone), acc.length + l.length ≤ 1000000 → forN (emb l) (emb acc) (fun s44 x48 => (br ((decide (b < x48.1)) && (decide (x48.1 < e))) (chk (decide (s44.length < sizeLine)) <| .ok ((s44 ++ [((x48.1 - b), x48.2)]))) (.ok (s44))).bind fun s62 => .ok (s62)) = .ok (emb (acc ++ (l.filter fun s => decide (b < s.1) && decide (s.1 < e)).map fun s => ((s.1 - b, s.2) : Stone))) := by
    intro l
    induction l with
    | nil => intro acc _; show _ = Res.ok (emb (acc ++ [])); rw [List.append_nil]; rfl
    | cons s l ih =>
      intro acc hl
      have hl' : acc.length + (l.length + 1) ≤ 1000000 := hl
      show forN ((s.1, ofQ s.2) :: emb l) _ _ = _
      rw [forN_cons]
      show (Res.bind ((br (decide (b < s.1) && decide (s.1 < e)) _ _).bind _) _) = _
      by_cases c : (decide (b < s.1) && decide (s.1 < e)) = true
      · rw [c, br_true, decide_eq_true (by rw [emb_len]; omega), chk_true, bind_ok, bind_ok, List.filter_cons_of_pos (p := fun s : Stone => decide (b < s.1) && decide (s.1 < e)) c]
        have ee : emb acc ++ [(s.1 - b, ofQ s.2)] = emb (acc ++ [(s.1 - b, s.2)]) := by unfold emb; rw [List.map_append]; rfl
        show forN (emb l) (emb acc ++ [(s.1 - b, ofQ s.2)]) _ = _
        rw [ee, ih _ (by simp; omega), List.append_assoc]
        rfl
      · rw [Bool.not_eq_true] at c
        rw [c, br_false, bind_ok, bind_ok, List.filter_cons_of_neg (p := fun s : Stone => decide (b < s.1) && decide (s.1 < e)) (by rw [c]; simp)]
        exact ih acc (by omega)
  have k0 := key qs [(0, meas qs b)] (by simp; omega)
  show (Res.bind (forN (emb qs) (emb [(0, meas qs b)]) _) _) = _
  rw [k0, bind_ok, m2, bind_ok]
  have fl := List.length_filter_le (fun s : Stone => decide (b < s.1) && decide (s.1 < e)) qs
  rw [decide_eq_true (by rw [emb_len]; simp; omega), chk_true, cut_eq b e (by omega), nx_ok, bind_ok]
  have ee : emb ([(0, meas qs b)] ++ ((qs.filter fun s => decide (b < s.1) && decide (s.1 < e)).map fun s => ((s.1 - b, s.2) : Stone))) ++ [(e - b, ofQ (meas qs e))] = emb (partQ qs b e) := by
    unfold partQ emb
    rw [List.map_append (l₂ := [(e - b, meas qs e)])]
    rfl
  rw [ee, er, bind_ok]
theorem part_off (h : IsR B r cs qs) {b e : Int} (h0 : b < 0 ∨ (cs.length : Int) < e ∨ e ≤ b) : m_Route_part r b e = .err .off := by
  unfold m_Route_part
  rw [h.e2]
  have t0 : orN (.ok (decide (b < (0 : Int)))) (orN (.ok (decide ((cs.length : Int) < e))) (.ok (decide (e ≤ b)))) = .ok true := by
    by_cases c1 : b < 0
    · rw [decide_eq_true c1]; rfl
    · rw [decide_eq_false c1]
      by_cases c2 : (cs.length : Int) < e
      · rw [decide_eq_true c2]; rfl
      · rw [decide_eq_false c2, decide_eq_true (by omega)]; rfl
  rw [t0, bind_ok, br_true]
end
end Lw
namespace Lw
open PySem L2 Kb
/-! Pc: cell, index, part of a route that is told by its stretches alone -/
def tot (ss : List S4) : Int := List.sum (ss.map fun x => x.2.2.1 - x.2.1)
theorem tot_cons (x : S4) (ss : List S4) : tot (x :: ss) = (x.2.2.1 - x.2.1) + tot ss := rfl
theorem tot_len : ∀ {ss : List S4}, (∀ s ∈ ss, gdS s) → ((cellsL ss).length : Int) = tot ss
  | [], _ => rfl
  | x :: ss, h => by
    have g : x.2.1 < x.2.2.1 := h x List.mem_cons_self
    rw [cellsL_cons, List.length_append, tot_cons, ← tot_len fun s m => h s (List.mem_cons_of_mem _ m), cellsS_len]
    omega
theorem cells_get' {l : S4} {i : Nat} (h : (i : Int) < l.2.2.1 - l.2.1) : (cellsS l)[i]? = some (l.1, if l.2.2.2 = true then l.2.2.1 - 1 - i else l.2.1 + i) := by
  unfold cellsS
  split
  · rename_i t
    have hi : i < (upC l.1 l.2.1 (l.2.2.1 - l.2.1).toNat).length := by rw [upC_len]; omega
    rw [List.getElem?_reverse hi, upC_len, upC_get (by omega)]
    congr 2
    omega
  · rw [upC_get (by omega)]
theorem cell_loop : ∀ {ss : List S4} {i : Nat} {c : Cell}, (∀ s ∈ ss, gdS s) → (cellsL ss)[i]? = some c →
    forR ss (i : Int) (fun s17 x22 => br (decide (s17 < (x22.2.2.1 - x22.2.1))) (br x22.2.2.2 (.ok (.ret (x22.1, ((x22.2.2.1 - (1 : Int)) - s17)))) (.ok (.ret (x22.1, (x22.2.1 + s17))))) (.ok (.nx ((s17 - (x22.2.2.1 - x22.2.1)))))) = (.ok (.ret c) : Res (Ctl Int Cell))
  | [], i, c, _, h => by simp [cellsL] at h
  | x :: ss, i, c, hg, h => by
    have g : x.2.1 < x.2.2.1 := hg x List.mem_cons_self
    rw [forR_cons]
    by_cases hi : (i : Int) < x.2.2.1 - x.2.1
    · rw [cellsL_cons, List.getElem?_append_left (by rw [cellsS_len]; omega), cells_get' hi] at h
      have e := Option.some.inj h
      rw [decide_eq_true hi, br_true]
      cases t : x.2.2.2 with
      | true =>
        rw [t, if_pos rfl] at e
        rw [br_true, bind_ok, ← e]
      | false =>
        rw [t, if_neg (by decide)] at e
        rw [br_false, bind_ok, ← e]
    · rw [cellsL_cons, List.getElem?_append_right (by rw [cellsS_len]; omega), cellsS_len] at h
      rw [decide_eq_false hi, br_false, bind_ok]
      show forR ss _ _ = _
      rw [show (i : Int) - (x.2.2.1 - x.2.1) = ((i - (x.2.2.1 - x.2.1).toNat : Nat) : Int) by omega]
      exact cell_loop (fun s m => hg s (List.mem_cons_of_mem _ m)) h
theorem cell_eq {r : M_Route} {n : Int} (hg : ∀ s ∈ r.1, gdS s) (e2 : r.2.1 = n) {i : Int} (h0 : 0 ≤ i) (h1 : i < n) {c : Cell} (hc : (cellsL r.1)[i.toNat]? = some c) : m_Route_cell r i = .ok c := by
  unfold m_Route_cell
  rw [e2]
  have t0 : orN (.ok (decide (i < (0 : Int)))) (.ok (decide (n ≤ i))) = .ok false := by
    rw [decide_eq_false (by omega), decide_eq_false (by omega)]; rfl
  have k := cell_loop hg hc
  rw [show ((i.toNat : Nat) : Int) = i by omega] at k
  rw [t0, bind_ok, br_false, k, bind_ok]
  rfl
theorem cell_off {r : M_Route} {n : Int} (e2 : r.2.1 = n) {i : Int} (h : i < 0 ∨ n ≤ i) : m_Route_cell r i = .err .off := by
  unfold m_Route_cell
  rw [e2]
  have t0 : orN (.ok (decide (i < (0 : Int)))) (.ok (decide (n ≤ i))) = .ok true := by
    by_cases c : i < 0
    · rw [decide_eq_true c]; rfl
    · rw [decide_eq_false c, decide_eq_true (h.resolve_left c)]; rfl
  rw [t0, bind_ok, br_true]
abbrev idxF (p : PySem.Str) (k : Int) : Int → S4 → Res (Ctl Int (Option Int)) := fun s8 x13 => br ((decide (x13.1 = p)) && ((decide (x13.2.1 ≤ k)) && (decide (k < x13.2.2.1)))) (br x13.2.2.2 (.ok (.ret (some (((s8 + x13.2.2.1) - (1 : Int)) - k)))) (.ok (.ret (some ((s8 + k) - x13.2.1))))) (.ok (.nx (((s8 + x13.2.2.1) - x13.2.1))))
theorem idx_test {x : S4} {p : PySem.Str} {k : Int} : ((decide (x.1 = p)) && ((decide (x.2.1 ≤ k)) && (decide (k < x.2.2.1)))) = decide ((p, k) ∈ cellsS x) := by
  by_cases a : x.1 = p
  · by_cases b : x.2.1 ≤ k
    · by_cases c : k < x.2.2.1
      · rw [decide_eq_true a, decide_eq_true b, decide_eq_true c, decide_eq_true (mem_cellsS.mpr ⟨a.symm, b, c⟩)]; rfl
      · rw [decide_eq_false c, decide_eq_false fun z => c (mem_cellsS.mp z).2.2]; simp
    · rw [decide_eq_false b, decide_eq_false fun z => b (mem_cellsS.mp z).2.1]; simp
  · rw [decide_eq_false a, decide_eq_false fun z => a (mem_cellsS.mp z).1.symm]; rfl
theorem idx_loop {p : PySem.Str} {k : Int} : ∀ {ss : List S4} {P : Int} {i : Nat}, (∀ s ∈ ss, gdS s) → (cellsL ss).Nodup → (cellsL ss)[i]? = some (p, k) → forR ss P (idxF p k) = .ok (.ret (some (P + i)))
  | [], P, i, _, _, h => by simp [cellsL] at h
  | x :: ss, P, i, hg, nd, h => by
    have g : x.2.1 < x.2.2.1 := hg x List.mem_cons_self
    rw [cellsL_cons] at nd
    have nd3 := List.nodup_append.mp nd
    rw [forR_cons]
    show Res.bind (br _ _ _) _ = _
    rw [idx_test]
    by_cases hi : (i : Int) < x.2.2.1 - x.2.1
    · rw [cellsL_cons, List.getElem?_append_left (by rw [cellsS_len]; omega)] at h
      rw [decide_eq_true (List.mem_of_getElem? h), br_true]
      rw [cells_get' hi] at h
      have e := (Prod.mk.inj (Option.some.inj h)).2
      cases t : x.2.2.2 with
      | true =>
        rw [t, if_pos rfl] at e
        rw [br_true, bind_ok]
        show Res.ok (Ctl.ret (some (P + x.2.2.1 - 1 - k))) = _
        rw [show P + x.2.2.1 - 1 - k = P + i by omega]
      | false =>
        rw [t, if_neg (by decide)] at e
        rw [br_false, bind_ok]
        show Res.ok (Ctl.ret (some (P + k - x.2.1))) = _
        rw [show P + k - x.2.1 = P + i by omega]
    · rw [cellsL_cons, List.getElem?_append_right (by rw [cellsS_len]; omega), cellsS_len] at h
      rw [decide_eq_false (fun z => nd3.2.2 _ z _ (List.mem_of_getElem? h) rfl), br_false, bind_ok]
      show forR ss (P + x.2.2.1 - x.2.1) (idxF p k) = _
      rw [idx_loop (fun s m => hg s (List.mem_cons_of_mem _ m)) nd3.2.1 h]
      congr 3
      omega
theorem index_eq {r : M_Route} (hg : ∀ s ∈ r.1, gdS s) (nd : (cellsL r.1).Nodup) {i : Nat} {p : PySem.Str} {k : Int} (hc : (cellsL r.1)[i]? = some (p, k)) : m_Route_index r p k = .ok (some (i : Int)) := by
  unfold m_Route_index
  show Res.bind (forR r.1 0 (idxF p k)) _ = _
  rw [idx_loop hg nd hc, bind_ok]
  show Res.ok (some (0 + (i : Int))) = _
  rw [Int.zero_add]
theorem idx_none {p : PySem.Str} {k : Int} : ∀ {ss : List S4} {P : Int}, (p, k) ∉ cellsL ss → forR ss P (idxF p k) = .ok (.nx (P + tot ss))
  | [], P, _ => by show Res.ok (Ctl.nx P) = _; rw [show tot [] = 0 from rfl, Int.add_zero]
  | x :: ss, P, h => by
    rw [cellsL_cons] at h
    rw [forR_cons]
    show Res.bind (br _ _ _) _ = _
    rw [idx_test, decide_eq_false (fun z => h (List.mem_append_left _ z)), br_false, bind_ok]
    show forR ss (P + x.2.2.1 - x.2.1) (idxF p k) = _
    rw [idx_none fun z => h (List.mem_append_right _ z), tot_cons]
    congr 2
    omega
theorem index_none {r : M_Route} {p : PySem.Str} {k : Int} (hc : (p, k) ∉ cellsL r.1) : m_Route_index r p k = .ok none := by
  unfold m_Route_index
  show Res.bind (forR r.1 0 (idxF p k)) _ = _
  rw [idx_none hc, bind_ok]
  rfl
section
variable {B C : Nat} {r : M_Route} {qs : List Stone}
theorem part_raw (h8 : Str8 r.1) (ll : r.1.length ≤ 300000) (e2 : r.2.1 = ((cellsL r.1).length : Int)) (e3 : r.2.2 = emb qs) (hs : Stones B qs ((cellsL r.1).length : Int)) (lq : qs.length ≤ 400000) (hB : B ≤ 480) (hC : (cellsL r.1).length < 2 ^ C) (hC2 : C ≤ 480) (hC0 : 0 < C) {b e : Int} (h0 : 0 ≤ b) (h1 : b < e) (h2 : e ≤ (cellsL r.1).length) :
    ∃ r', m_Route_part r b e = .ok r' ∧ r'.1 = canon (span (cellsL r.1) b e) ∧ r'.2.1 = e - b := by
  have sl := sizeLine_big
  generalize hcs : cellsL r.1 = cs at *
  obtain ⟨m1, s1⟩ := measure_eq (r := r) (C := C) (p := b) hs e2 e3 (by omega) h0 (by omega) hC2 hB hC0
  obtain ⟨m2, s2⟩ := measure_eq (r := r) (C := C) (p := e) hs e2 e3 (by omega) (by omega) h2 hC2 hB hC0
  have st := part_stones (B' := 2 * B + C + 1) hs h0 h1 h2 s1 s2 (by omega)
  have sp := span_len h0 (by omega) h2
  have gds : ∀ s ∈ r.1, gdS s ∧ 0 ≤ s.2.1 := fun s m => ⟨h8.gs s m, h8.b0 s m⟩
  have ec : cellsL (cutR b e 0 r.1) = span cs b e := by
    rw [cutR_cells (by omega) (fun s m => (gds s m).1), hcs]
    unfold span
    rw [show e - 0 = e by omega, show b - 0 = b by omega]
  have str : Str8 (cutR b e 0 r.1) := by
    refine ⟨?_, fun s m => (cutR_gd gds s m).1, fun s m => (cutR_gd gds s m).2, ?_⟩
    · intro z
      rw [z] at ec
      have : ((span cs b e).length : Int) = 0 := by rw [← ec]; rfl
      omega
    · rw [ec]
      have nd := h8.nd
      rw [hcs] at nd
      exact (nd.sublist ((List.drop_sublist _ _).trans (List.take_sublist _ _)))
  have lqp : (partQ qs b e).length ≤ 1000000 := by
    unfold partQ
    have fl := List.length_filter_le (fun s : Stone => decide (b < s.1) && decide (s.1 < e)) qs
    simp only [List.length_append, List.length_cons, List.length_map, List.length_nil]
    omega
  have er := init_eq (B := 2 * B + C + 1) (qs := partQ qs b e) str (by have := cutR_len b e 0 r.1; omega) (by rw [ec, sp]; exact st) (by omega) lqp
  rw [ec, sp] at er
  refine ⟨(canon (span cs b e), e - b, emb (partQ qs b e)), ?_, rfl, rfl⟩
  unfold m_Route_part
  rw [e2]
  have t0 : orN (.ok (decide (b < (0 : Int)))) (orN (.ok (decide ((cs.length : Int) < e))) (.ok (decide (e ≤ b)))) = .ok false := by
    rw [decide_eq_false (by omega), decide_eq_false (by omega), decide_eq_false (by omega)]; rfl
  rw [t0, bind_ok, br_false, m1, bind_ok, e3]
  have key : ∀ (l acc : List Stone), acc.length + l.length ≤ 1000000 → forN (emb l) (emb acc) (fun s44 x48 => (br ((decide (b < x48.1)) && (decide (x48.1 < e))) (chk (decide (s44.length < sizeLine)) <| .ok ((s44 ++ [((x48.1 - b), x48.2)]))) (.ok (s44))).bind fun s62 => .ok (s62)) = .ok (emb (acc ++ (l.filter fun s => decide (b < s.1) && decide (s.1 < e)).map fun s => ((s.1 - b, s.2) : Stone))) := by
    intro l
    induction l with
    | nil => intro acc _; show _ = Res.ok (emb (acc ++ [])); rw [List.append_nil]; rfl
    | cons s l ih =>
      intro acc hl
      have hl' : acc.length + (l.length + 1) ≤ 1000000 := hl
      show forN ((s.1, ofQ s.2) :: emb l) _ _ = _
      rw [forN_cons]
      show (Res.bind ((br (decide (b < s.1) && decide (s.1 < e)) _ _).bind _) _) = _
      by_cases c : (decide (b < s.1) && decide (s.1 < e)) = true
      · rw [c, br_true, decide_eq_true (by rw [emb_len]; omega), chk_true, bind_ok, bind_ok, List.filter_cons_of_pos (p := fun s : Stone => decide (b < s.1) && decide (s.1 < e)) c]
        have ee : emb acc ++ [(s.1 - b, ofQ s.2)] = emb (acc ++ [(s.1 - b, s.2)]) := by unfold emb; rw [List.map_append]; rfl
        show forN (emb l) (emb acc ++ [(s.1 - b, ofQ s.2)]) _ = _
        rw [ee, ih _ (by simp; omega), List.append_assoc]
        rfl
      · rw [Bool.not_eq_true] at c
        rw [c, br_false, bind_ok, bind_ok, List.filter_cons_of_neg (p := fun s : Stone => decide (b < s.1) && decide (s.1 < e)) (by rw [c]; simp)]
        exact ih acc (by omega)
  have k0 := key qs [(0, meas qs b)] (by simp; omega)
  show (Res.bind (forN (emb qs) (emb [(0, meas qs b)]) _) _) = _
  rw [k0, bind_ok, m2, bind_ok]
  have fl := List.length_filter_le (fun s : Stone => decide (b < s.1) && decide (s.1 < e)) qs
  rw [decide_eq_true (by rw [emb_len]; simp; omega), chk_true, cut_eq b e (by omega), nx_ok, bind_ok]
  have ee : emb ([(0, meas qs b)] ++ ((qs.filter fun s => decide (b < s.1) && decide (s.1 < e)).map fun s => ((s.1 - b, s.2) : Stone))) ++ [(e - b, ofQ (meas qs e))] = emb (partQ qs b e) := by
    unfold partQ emb
    rw [List.map_append (l₂ := [(e - b, meas qs e)])]
    rfl
  rw [ee, er, bind_ok]
end
end Lw
namespace Lw
open PySem L2 Kb
theorem ok_neq' {α : Type} [DecidableEq α] {a b : α} (h : a = b) : (!decide (a = b)) = false := by rw [decide_eq_true h]; rfl
theorem size_eq (r : M_Route) : m_Route_size r = .ok r.2.1 := by unfold m_Route_size; rfl
/-- cell by cell -/
def sgl (c : Int) (i : Int) (x : Cell) : S4 := (x.1, x.2, x.2 + 1, decide ((c / (i + 1)) % 2 = 1))
theorem cells_sgl (c i : Int) (x : Cell) : cellsS (sgl c i x) = [x] := by
  obtain ⟨p, k⟩ := x
  have u : upC p k ((k + 1) - k).toNat = [(p, k)] := cells_oneS (p, k)
  show (if (decide ((c / (i + 1)) % 2 = 1)) = true then (upC p k ((k + 1) - k).toNat).reverse else upC p k ((k + 1) - k).toNat) = _
  rw [u]
  split <;> rfl
theorem single_ok {cs : List Cell} (c : Int) (hl : cs.length ≤ 100000) (h0 : ∀ x ∈ cs, 0 ≤ x.2) : Ok (m_law_single cs c) (fun ss => ss.length = cs.length ∧ cellsL ss = cs ∧ ∀ s ∈ ss, gdS s ∧ 0 ≤ s.2.1) := by
  have sl := sizeLine_big
  unfold m_law_single
  refine Ok.chk (rngOk_of (by omega) (by omega)) ?_
  refine Ok.forN (fun i s => s.length = i ∧ cellsL s = cs.take i ∧ ∀ x ∈ s, gdS x ∧ 0 ≤ x.2.1) ⟨rfl, rfl, fun x m => (by cases m)⟩ ?_ ?_
  · rintro i s x hx ⟨h1, h2, h3⟩
    obtain ⟨ex, hi⟩ := rng_get hx
    have hi' : i < cs.length := by omega
    have g : atI cs x = some cs[i] := by rw [show x = (i : Int) by omega]; exact atI_nat (List.getElem?_eq_getElem hi')
    rw [g, opt_some, opt_some, opt_some]
    refine Ok.chk (divOk_pow (m := 20) (by omega) (by have : (2 : Nat) ^ 20 = 1048576 := by decide
                                                      omega) (by decide)) (Ok.chk (decide_eq_true (by omega)) (Ok.ret ⟨by rw [List.length_append, h1]; rfl, ?_, ?_⟩))
    · show cellsL (s ++ [sgl c x cs[i]]) = _
      rw [cellsL_app, cellsL_one, cells_sgl, h2, List.take_succ_eq_append_getElem hi']
    · intro y m
      rcases List.mem_append.mp m with m | m
      · exact h3 y m
      · rw [List.mem_singleton.mp m]
        exact ⟨by show cs[i].2 < cs[i].2 + 1; omega, h0 _ (List.getElem_mem hi')⟩
  · rintro s ⟨h1, h2, h3⟩
    have hr : (rng 0 (cs.length : Int).toNat).length = cs.length := by rw [rng_len]; omega
    rw [hr] at h1 h2
    exact Ok.ret ⟨h1, by rw [h2, List.take_length], h3⟩
theorem comp_rng {α : Type} {f : Int → Res α} {ys : List α} {n : Nat} (hn : ys.length = n) (h : ∀ (i : Nat) (y : α), ys[i]? = some y → f i = .ok y) : compN (rng 0 n) f = .ok ys := by
  obtain ⟨zs, e, hl, hz⟩ := Ok.compN (xs := rng 0 n) (f := f) (R := fun x y => ∃ i : Nat, x = (i : Int) ∧ ys[i]? = some y) (by
    intro x m
    obtain ⟨i, hi⟩ := List.getElem?_of_mem m
    obtain ⟨ex, hlt⟩ := rng_get hi
    have hi' : i < ys.length := by omega
    exact ⟨ys[i], by rw [ex, Int.zero_add]; exact h i _ (List.getElem?_eq_getElem hi'), i, by omega, List.getElem?_eq_getElem hi'⟩)
  rw [e]
  congr 1
  refine List.ext_getElem? fun i => ?_
  rw [rng_len] at hl
  by_cases hi : i < n
  · have gx : (rng 0 n)[i]? = some ((rng 0 n)[i]'(by rw [rng_len]; exact hi)) := List.getElem?_eq_getElem _
    have gy : zs[i]? = some (zs[i]'(by omega)) := List.getElem?_eq_getElem _
    obtain ⟨j, ej, gj⟩ := hz i _ _ gx gy
    have := (rng_get gx).1
    have : j = i := by omega
    rw [gy, ← gj, this]
  · rw [List.getElem?_eq_none (by omega), List.getElem?_eq_none (by omega)]
theorem findI_at {α : Type} [DecidableEq α] {a : α} : ∀ {xs : List α} {i : Nat}, xs.Nodup → xs[i]? = some a → findI a xs = some (i : Int)
  | [], i, _, h => by simp at h
  | x :: xs, 0, _, h => by
    have : x = a := Option.some.inj h
    unfold findI
    rw [if_pos this]
    rfl
  | x :: xs, i + 1, nd, h => by
    have h' : xs[i]? = some a := h
    have ne : x ≠ a := fun e => (List.nodup_cons.mp nd).1 (e ▸ List.mem_of_getElem? h')
    unfold findI
    rw [if_neg ne, findI_at (List.nodup_cons.mp nd).2 h']
    rfl
theorem off_t {r : M_Route} {n : Int} (e2 : r.2.1 = n) {i : Int} (h : i < 0 ∨ n ≤ i) : m_law_off r i = .ok true := by
  unfold m_law_off
  rw [cell_off e2 h]
  rfl
theorem law_ok (ns : List Int) (h : ns.length ≤ 63) : m_law ns = .ok true := by
  have sl := sizeLine_big
  refine Ok.eq ?_
  unfold m_law
  obtain ⟨c0, e0⟩ := cell_ok ns (k := 0) (by decide) (by decide)
  obtain ⟨c1, e1⟩ := cell_ok ns (k := 1) (by decide) (by decide)
  obtain ⟨c2, e2⟩ := cell_ok ns (k := 2) (by decide) (by decide)
  have m0 := mod_lt' c0 (m := 10) (by decide)
  rw [e0, bind_ok]
  refine Ok.bind (order_ok ns (at_ := 3) (n := 1 + c0 % 10) (by decide) (by omega) (by omega)) fun cs ⟨hc, ne⟩ => ?_
  have hlen : cs.length ≤ 81 := by have := hc.len; omega
  have hpos : 0 < cs.length := List.length_pos_iff.mpr ne
  have h0 : ∀ c ∈ cs, 0 ≤ c.2 := fun c m => (hc.rg c m).2.1
  have nd := hc.nd
  rw [e1, bind_ok]
  obtain ⟨qs, eq, hs, hq⟩ := stones_ok c1 (n := (cs.length : Int)) (by omega) (by omega)
  have hcl := canon_len cs
  rw [eq, bind_ok, stretches_eq ne (by omega), bind_ok, e2, bind_ok]
  refine Ok.bind (single_ok c2 (by omega) h0) fun ss ⟨sl1, sl2, sl3⟩ => ?_
  have h8 := canon8 ne h0 nd
  have h8s : Str8 ss := ⟨fun z => by rw [z] at sl1; simp at sl1; omega, fun s m => (sl3 s m).1, fun s m => (sl3 s m).2, by rw [sl2]; exact nd⟩
  have i1 := init_eq (B := 13) (qs := qs) h8 (by omega) (by rw [canon_cells]; exact hs) (by decide) (by omega)
  have i2 := init_eq (B := 13) (qs := qs) h8s (by omega) (by rw [sl2]; exact hs) (by decide) (by omega)
  rw [canon_cells] at i1
  rw [sl2] at i2
  rw [i1, bind_ok, i2, bind_ok]
  generalize hr : ((canon cs, (cs.length : Int), emb qs) : M_Route) = r
  have r1 : r.1 = canon cs := by rw [← hr]
  have r2 : r.2.1 = (cs.length : Int) := by rw [← hr]
  have r3 : r.2.2 = emb qs := by rw [← hr]
  have rc : cellsL r.1 = cs := by rw [r1, canon_cells]
  have rg : ∀ s ∈ r.1, gdS s := by rw [r1]; exact canon_gd cs
  refine Ok.brF (ok_neq' rfl) (Ok.brF (ok_neq' r1) (Ok.brF (ok_neq' r1) (Ok.brF (ok_neq' r3) ?_)))
  refine Ok.chk (decide_eq_true (by rw [r1]; omega)) ?_
  refine Ok.forR (fun _ _ => True) (fun _ => False) trivial (fun i s x hx _ => Ok.ret trivial) ?_ fun r hr => hr.elim
  intro s _
  rw [ctl_nx, size_eq, bind_ok]
  obtain ⟨x0, gx0⟩ : ∃ x0, cs[0]? = some x0 := ⟨cs[0], List.getElem?_eq_getElem hpos⟩
  have a0 : atI cs (0 : Int) = some x0 := atI_nat gx0
  rw [a0, opt_some, opt_some, index_eq (r := r) (i := 0) (p := x0.1) (k := x0.2) rg (by rw [rc]; exact nd) (by rw [rc]; exact gx0), bind_ok, opt_some, bind_ok]
  refine Ok.brF (ok_neq' r2) ?_
  have tn : ((cs.length : Nat) : Int).toNat = cs.length := by omega
  refine Ok.chk (rngOk_of (by omega) (by omega)) (Ok.chk (decide_eq_true (by rw [rng_len]; omega)) ?_)
  rw [tn, comp_rng (ys := cs) rfl (fun i y gy => by
    have hi : i < cs.length := (List.getElem?_eq_some_iff.mp gy).1
    rw [cell_eq (r := r) (n := cs.length) rg r2 (by omega) (by omega) (c := y) (by rw [rc, show ((i : Int)).toNat = i by omega]; exact gy)]
    rfl), bind_ok]
  refine Ok.brF (ok_neq' rfl) ?_
  refine Ok.forR (fun _ _ => True) (fun _ => False) trivial ?_ ?_ fun r hr => hr.elim
  · intro i s p hp _
    refine Ok.chk (rngOk_of (by decide) (by decide)) ?_
    refine Ok.forR (fun _ _ => True) (fun _ => False) trivial ?_ (fun s _ => Ok.ret trivial) fun r hr => hr.elim
    intro j s k hk _
    by_cases c : (p, k) ∈ cs
    · obtain ⟨i, gi⟩ := List.getElem?_of_mem c
      rw [index_eq (r := r) (i := i) (p := p) (k := k) rg (by rw [rc]; exact nd) (by rw [rc]; exact gi), bind_ok, memB_t c, br_true, findI_at nd gi, opt_some, ok_neq' rfl, br_false, bind_ok]
      exact Ok.ret trivial
    · rw [index_none (r := r) (by rw [rc]; exact c), bind_ok, memB_f c, br_false]
      show Ok (Res.bind (br false _ _) _) _
      rw [br_false, bind_ok]
      exact Ok.ret trivial
  intro s _
  rw [ctl_nx, bind_ok]
  have sz1 : (List.map (fun _ => ()) (canon cs)).length < sizeLine := by rw [List.length_map]; omega
  have sz2 : (List.map (fun _ => ()) (emb qs)).length < sizeLine := by rw [List.length_map, emb_len]; omega
  rw [forN_cons, decide_eq_true sz1, chk_true, bind_ok, forN_cons, decide_eq_true sz2, chk_true, bind_ok, forN_nil, bind_ok]
  refine Ok.brF (ok_neq' r1) (Ok.brF (ok_neq' r3) ?_)
  rw [size_eq, bind_ok]
  refine Ok.brF (ok_neq' r2) ?_
  have tn1 : ((cs.length : Int) + 1).toNat = cs.length + 1 := by omega
  refine Ok.chk (rngOk_of (by omega) (by omega)) (Ok.chk (decide_eq_true (by rw [rng_len]; omega)) ?_)
  have n7 : ((cs.length : Int)).natAbs < 2 ^ 7 := by rw [show (2 : Nat) ^ 7 = 128 from by decide]; omega
  rw [tn1]
  have yl : ((List.range (cs.length + 1)).map fun i : Nat => ofQ (meas qs ((i : Int) : Rat))).length = cs.length + 1 := by rw [List.length_map, List.length_range]
  have yg : ∀ (i : Nat) y, ((List.range (cs.length + 1)).map fun i : Nat => ofQ (meas qs ((i : Int) : Rat)))[i]? = some y → i < cs.length + 1 ∧ y = ofQ (meas qs ((i : Int) : Rat)) := fun i y gy => by
    have hi : i < cs.length + 1 := by have := (List.getElem?_eq_some_iff.mp gy).1; omega
    rw [List.getElem?_map, List.getElem?_range hi] at gy
    exact ⟨hi, (Option.some.inj gy).symm⟩
  rw [comp_rng yl (fun i y gy => by
    obtain ⟨hi, ey⟩ := yg i y gy
    rw [(measure_eq (r := r) (C := 7) (p := (i : Int)) hs r2 r3 n7 (by omega) (by omega) (by decide) (by decide) (by decide)).1, ey]
    rfl), bind_ok]
  refine Ok.chk (rngOk_of (by omega) (by omega)) (Ok.chk (decide_eq_true (by rw [rng_len]; omega)) ?_)
  rw [comp_rng yl (fun i y gy => by
    obtain ⟨hi, ey⟩ := yg i y gy
    rw [lmeas_eq (C := 7) hs n7 (by decide) (by omega) (by omega) (by omega), ey]
    rfl), bind_ok]
  refine Ok.brF (ok_neq' rfl) ?_
  have gr : m_Route_ground r = .ok (nrm ((canon cs).map rowS)) := by
    unfold m_Route_ground
    rw [r1, decide_eq_true (by omega), chk_true, comp_rows, bind_ok, normal_ok h8.rows (by rw [List.length_map]; omega), bind_ok]
  rw [gr, bind_ok]
  refine Ok.chk (decide_eq_true (by omega)) ?_
  rw [compN_map (xs := cs) (fun x : Cell => ((x.1, x.2, x.2 + 1) : Rw)) (fun _ _ => rfl), bind_ok]
  have gc : ∀ q ∈ cs.map (fun x : Cell => ((x.1, x.2, x.2 + 1) : Rw)), Kb.gd q := fun q m => by
    obtain ⟨x, mx, rfl⟩ := List.mem_map.mp m
    exact ⟨h0 x mx, by show x.2 < x.2 + 1; omega⟩
  rw [normal_ok gc (by rw [List.length_map]; omega), bind_ok]
  refine Ok.brF (ok_neq' ?_) ?_
  · obtain ⟨g1, v1⟩ := nrm_ok h8.rows
    obtain ⟨g2, v2⟩ := nrm_ok gc
    refine ground_uniq g1 g2 fun p k => ?_
    rw [v1, v2]
    constructor
    · rintro ⟨q, mq, cq⟩
      obtain ⟨s, ms, rfl⟩ := List.mem_map.mp mq
      have : (p, k) ∈ cs := by rw [← canon_cells cs]; exact List.mem_flatMap.mpr ⟨s, ms, covR_cells.mp cq⟩
      exact ⟨_, List.mem_map.mpr ⟨(p, k), this, rfl⟩, rfl, Int.le_refl _, by show k < k + 1; omega⟩
    · rintro ⟨q, mq, cq⟩
      obtain ⟨x, mx, rfl⟩ := List.mem_map.mp mq
      obtain ⟨a, b, c⟩ := cq
      have b' : x.2 ≤ k := b
      have c' : k < x.2 + 1 := c
      have : (p, k) ∈ cs := by
        have e : (p, k) = x := Prod.ext a.symm (by show k = x.2; omega)
        rw [e]; exact mx
      rw [← canon_cells cs] at this
      obtain ⟨s, ms, hm⟩ := List.mem_flatMap.mp this
      exact ⟨rowS s, List.mem_map.mpr ⟨s, ms, rfl⟩, covR_cells.mpr hm⟩
  rw [off_t r2 (.inl (by decide)), bind_ok, br_true, off_t r2 (.inr (Int.le_refl _)), bind_ok]
  exact Ok.ret rfl
end Lw
open PySem PySem.W PyProof.Rows
set_option maxRecDepth 100000 in
set_option maxHeartbeats 0 in
theorem PySem.Challenge.cw_kerbmark_k25_cells_of_a_route_in_one_for_holds : PySem.Challenge.rw_kerbmark_k25_cells_of_a_route_in_one_for.Holds := by
  w_on; o_law; k_head; (case hw => w_witness2)
  k_fill
  refine L2.walk_ofK (l := PySem.Challenge.rw_kerbmark_k25_cells_of_a_route_in_one_for) (n := 63) (k := 6) (x := "_law_script") (CX := L2.CX0) (sp := fun K => Lw.sp_law K) rfl (by decide) rfl ⟨rfl, by decide, by decide⟩ (fun w h Y => PySem.W.kIn_of Y) ?F (fun _ _ a ns hl _ hS => Kb.law_end (Lw.law_ok ns hl) hS) (fun _ _ _ _ h => h)
  case F =>
    intro w mg fa h KX G hmg
    refine' Lw.all_mk KX G hmg ?aK_Route ?pgK_Route ?hdK_Route ?poK_Route ?saK_Route ?mkK_Route ?kcK_Route ?a0 ?l0 ?c0 ?k0 ?a1 ?l1 ?c1 ?k1 ?a2 ?l2 ?c2 ?k2 ?a3 ?l3 ?c3 ?k3 ?a4 ?l4 ?c4 ?k4 ?a5 ?l5 ?D_5 ?c5 ?k5 ?a6 ?l6 ?c6 ?k6 ?a7 ?l7 ?c7 ?k7 ?a8 ?l8 ?c8 ?k8 ?a9 ?l9 ?c9 ?k9 ?a10 ?l10 ?c10 ?k10 ?a11 ?l11 ?c11 ?k11 ?a12 ?l12 ?c12 ?k12 ?a13 ?l13 ?c13 ?k13 ?a14 ?l14 ?c14 ?k14 ?a15 ?l15 ?c15 ?k15 ?a16 ?i16 ?l16 ?c16 ?k16 ?a17 ?i17 ?l17 ?c17 ?k17 ?a18 ?i18 ?l18 ?c18 ?k18 ?a19 ?i19 ?l19 ?c19 ?k19 ?a20 ?i20 ?l20 ?c20 ?k20 ?a21 ?i21 ?l21 ?c21 ?k21 ?a22 ?l22 ?c22 ?k22 ?a23 ?l23 ?c23 ?k23 ?a24 ?l24 ?c24 ?k24 ?a25 ?l25 ?c25 ?k25 ?a26 ?l26 ?c26 ?k26 ?a27 ?l27 ?c27 ?k27 ?a28 ?l28 ?c28 ?k28 ?a29 ?l29 ?c29 ?k29 ?a30 ?l30 ?c30 ?k30 ?a31 ?l31 ?c31 ?k31 ?a32 ?l32 ?c32 ?k32 ?na_Route__size ?na_Route_stones ?na_Route_stretches ?al_size_ground ?aC_ratio ?ex_ratio ?kp_ratio ?hg_ratio ?hk_ratio ?hac_ratio ?hm_ratio ?sb_ratio ?ty_ratio ?hd_ratio ?ic_ratio ?sv_ratio ?aC_ground ?ex_ground ?kp_ground ?hg_ground ?hk_ground ?hac_ground ?hm_ground ?sb_ground ?ty_ground ?hd_ground ?ic_ground ?sv_ground ?aC_route ?ex_route ?kp_route ?hg_route ?hk_route ?hac_route ?hm_route ?sb_route ?ty_route ?hd_route ?ic_route ?sv_route ?aC_off ?ex_off ?kp_off ?hg_off ?hk_off ?hac_off ?hm_off ?sb_off ?ty_off ?hd_off ?ic_off ?sv_off ?aC_kerb ?sb_kerb ?ty_kerb ?hd_kerb ?ic_kerb ?sv_kerb ?hn ?htk ?su_ground_ground ?su_off_off ?su_off_kerb ?su_kerb_kerb ?z_abs ?z_bool ?z_int ?z_isinstance ?z_len ?z_list ?z_max ?z_min ?z_range ?z_reversed ?z_sorted ?z_sum
    (case aK_Route => k_is)
    (case pgK_Route => k_is)
    (case hdK_Route => k_is)
    (case poK_Route => k_is)
    (case saK_Route => k_is)
    (case mkK_Route => k_is)
    (case kcK_Route => k_is)
    (case a0 => k_is)
    (case l0 => k_is)
    (case c0 => k_is)
    (case k0 => k_is)
    (case a1 => k_is)
    (case l1 => k_is)
    (case c1 => k_is)
    (case k1 => k_is)
    (case a2 => k_is)
    (case l2 => k_is)
    (case c2 => k_is)
    (case k2 => k_is)
    (case a3 => k_is)
    (case l3 => k_is)
    (case c3 => k_is)
    (case k3 => k_is)
    (case a4 => k_is)
    (case l4 => k_is)
    (case c4 => k_is)
    (case k4 => k_is)
    (case a5 => k_is)
    (case l5 => k_is)
    (case D_5 => k_is)
    (case c5 => k_is)
    (case k5 => k_is)
    (case a6 => k_is)
    (case l6 => k_is)
    (case c6 => k_is)
    (case k6 => k_is)
    (case a7 => k_is)
    (case l7 => k_is)
    (case c7 => k_is)
    (case k7 => k_is)
    (case a8 => k_is)
    (case l8 => k_is)
    (case c8 => k_is)
    (case k8 => k_is)
    (case a9 => k_is)
    (case l9 => k_is)
    (case c9 => k_is)
    (case k9 => k_is)
    (case a10 => k_is)
    (case l10 => k_is)
    (case c10 => k_is)
    (case k10 => k_is)
    (case a11 => k_is)
    (case l11 => k_is)
    (case c11 => k_is)
    (case k11 => k_is)
    (case a12 => k_is)
    (case l12 => k_is)
    (case c12 => k_is)
    (case k12 => k_is)
    (case a13 => k_is)
    (case l13 => k_is)
    (case c13 => k_is)
    (case k13 => k_is)
    (case a14 => k_is)
    (case l14 => k_is)
    (case c14 => k_is)
    (case k14 => k_is)
    (case a15 => k_is)
    (case l15 => k_is)
    (case c15 => k_is)
    (case k15 => k_is)
    (case a16 => k_is)
    (case i16 => k_is)
    (case l16 => k_is)
    (case c16 => k_is)
    (case k16 => k_is)
    (case a17 => k_is)
    (case i17 => k_is)
    (case l17 => k_is)
    (case c17 => k_is)
    (case k17 => k_is)
    (case a18 => k_is)
    (case i18 => k_is)
    (case l18 => k_is)
    (case c18 => k_is)
    (case k18 => k_is)
    (case a19 => k_is)
    (case i19 => k_is)
    (case l19 => k_is)
    (case c19 => k_is)
    (case k19 => k_is)
    (case a20 => k_is)
    (case i20 => k_is)
    (case l20 => k_is)
    (case c20 => k_is)
    (case k20 => k_is)
    (case a21 => k_is)
    (case i21 => k_is)
    (case l21 => k_is)
    (case c21 => k_is)
    (case k21 => k_is)
    (case a22 => k_is)
    (case l22 => k_is)
    (case c22 => k_is)
    (case k22 => k_is)
    (case a23 => k_is)
    (case l23 => k_is)
    (case c23 => k_is)
    (case k23 => k_is)
    (case a24 => k_is)
    (case l24 => k_is)
    (case c24 => k_is)
    (case k24 => k_is)
    (case a25 => k_is)
    (case l25 => k_is)
    (case c25 => k_is)
    (case k25 => k_is)
    (case a26 => k_is)
    (case l26 => k_is)
    (case c26 => k_is)
    (case k26 => k_is)
    (case a27 => k_is)
    (case l27 => k_is)
    (case c27 => k_is)
    (case k27 => k_is)
    (case a28 => k_is)
    (case l28 => k_is)
    (case c28 => k_is)
    (case k28 => k_is)
    (case a29 => k_is)
    (case l29 => k_is)
    (case c29 => k_is)
    (case k29 => k_is)
    (case a30 => k_is)
    (case l30 => k_is)
    (case c30 => k_is)
    (case k30 => k_is)
    (case a31 => k_is)
    (case l31 => k_is)
    (case c31 => k_is)
    (case k31 => k_is)
    (case a32 => k_is)
    (case l32 => k_is)
    (case c32 => k_is)
    (case k32 => k_is)
    (case na_Route__size => k_is)
    (case na_Route_stones => k_is)
    (case na_Route_stretches => k_is)
    (case al_size_ground => k_is)
    (case aC_ratio => k_is)
    (case ex_ratio => k_exc)
    (case kp_ratio => k_is)
    (case hg_ratio => k_is)
    (case hk_ratio => k_is)
    (case hac_ratio => k_is)
    (case hm_ratio => k_is)
    (case sb_ratio => k_is)
    (case ty_ratio => k_is)
    (case hd_ratio => k_is)
    (case ic_ratio => k_is)
    (case sv_ratio => k_is)
    (case aC_ground => k_is)
    (case ex_ground => k_exc)
    (case kp_ground => k_is)
    (case hg_ground => k_is)
    (case hk_ground => k_is)
    (case hac_ground => k_is)
    (case hm_ground => k_is)
    (case sb_ground => k_is)
    (case ty_ground => k_is)
    (case hd_ground => k_is)
    (case ic_ground => k_is)
    (case sv_ground => k_is)
    (case aC_route => k_is)
    (case ex_route => k_exc)
    (case kp_route => k_is)
    (case hg_route => k_is)
    (case hk_route => k_is)
    (case hac_route => k_is)
    (case hm_route => k_is)
    (case sb_route => k_is)
    (case ty_route => k_is)
    (case hd_route => k_is)
    (case ic_route => k_is)
    (case sv_route => k_is)
    (case aC_off => k_is)
    (case ex_off => k_exc)
    (case kp_off => k_is)
    (case hg_off => k_is)
    (case hk_off => k_is)
    (case hac_off => k_is)
    (case hm_off => k_is)
    (case sb_off => k_is)
    (case ty_off => k_is)
    (case hd_off => k_is)
    (case ic_off => k_is)
    (case sv_off => k_is)
    (case aC_kerb => k_is)
    (case sb_kerb => k_is)
    (case ty_kerb => k_is)
    (case hd_kerb => k_is)
    (case ic_kerb => k_is)
    (case sv_kerb => k_is)
    (case hn => k_is)
    (case htk => k_is)
    (case su_ground_ground => first | rfl | k_is)
    (case su_off_off => first | rfl | k_is)
    (case su_off_kerb => first | rfl | k_is)
    (case su_kerb_kerb => first | rfl | k_is)
    (case z_abs => k_is)
    (case z_bool => k_is)
    (case z_int => k_is)
    (case z_isinstance => k_is)
    (case z_len => k_is)
    (case z_list => k_is)
    (case z_max => k_is)
    (case z_min => k_is)
    (case z_range => k_is)
    (case z_reversed => k_is)
    (case z_sorted => k_is)
    (case z_sum => k_is)
