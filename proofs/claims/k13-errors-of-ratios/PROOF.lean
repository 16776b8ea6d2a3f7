import PyProof.Rows.All
import Wide.All
import OpenK.AllK
import Wide.FinOn
import HandS.ForMost
import HandS.ForExc
import HandS.Wide
import KE.KSortTupG
import HandS.Sort
import HandS.ForSpec
import HandS.RaiseMore
import HandS.IsInst
import HandS.ExcIs
import HandS.TryMany
import HandS.Rev
import HandS.RevTup
import HandS.Iter
import HandS.Dict
import HandS.Defaults
import PySem.Challenge.RW_kerbmark_k13_errors_of_ratios
set_option Elab.async false
set_option linter.all false
set_option maxRecDepth 100000
set_option maxHeartbeats 4000000
set_option synthInstance.maxSize 4000
/-! Kb: typed representation, colours, mirrored results -/
namespace Kb
open PySem L2

/-! ### colours: whose an address is (none: frozen, some r: of the structure rooted at r) -/
abbrev Cl := Addr → Option Addr
def setC (c : Cl) (p : Addr) (o : Option Addr) : Cl := fun a => if a = p then o else c a
theorem setC_same {c : Cl} {p : Addr} {o : Option Addr} : setC c p o p = o := by unfold setC; rw [if_pos rfl]
theorem setC_ne {c : Cl} {p a : Addr} {o : Option Addr} (h : a ≠ p) : setC c p o a = c a := by unfold setC; rw [if_neg h]
def Wf (c : Cl) (H : Hp) : Prop := ∀ a o r, H a = some o → c a = some r → ∃ u, H r = some u

/-- the frozen part has grown -/
structure Up (c : Cl) (H : Hp) (c' : Cl) (H' : Hp) : Prop where
  obj : ∀ a o, H a = some o → c a = none → H' a = some o
  col : ∀ a o, H a = some o → c a = none → c' a = none
theorem Up.refl (c : Cl) (H : Hp) : Up c H c H := ⟨fun _ _ h _ => h, fun _ _ _ h => h⟩
theorem Up.trans {c H c1 H1 c2 H2} (a : Up c H c1 H1) (b : Up c1 H1 c2 H2) : Up c H c2 H2 :=
  ⟨fun x o h k => b.obj x o (a.obj x o h k) (a.col x o h k), fun x o h k => b.col x o (a.obj x o h k) (a.col x o h k)⟩

/-- a step that touches the structures rooted in S alone -/
structure Step (S : List Addr) (c : Cl) (H : Hp) (c' : Cl) (H' : Hp) : Prop where
  keep : ∀ a o, H a = some o → (∀ r, c a = some r → r ∉ S) → H' a = some o
  col : ∀ a o, H a = some o → c' a = c a
  live : ∀ a o, H a = some o → ∃ u, H' a = some u
  wf : Wf c' H'
  wf0 : Wf c H
theorem Step.refl {S : List Addr} {c : Cl} {H : Hp} (w : Wf c H) : Step S c H c H := ⟨fun _ _ h _ => h, fun _ _ _ => rfl, fun _ o h => ⟨o, h⟩, w, w⟩
theorem Step.up {S c H c' H'} (g : Step S c H c' H') : Up c H c' H' :=
  ⟨fun a o h k => g.keep a o h (fun r e => by rw [k] at e; cases e), fun a o h k => (g.col a o h).trans k⟩
theorem Step.fresh {S c H c' H'} (g : Step S c H c' H') {p : Addr} (h : H' p = none) : H p = none := by
  cases e : H p with
  | none => rfl
  | some o => obtain ⟨u, q⟩ := g.live p o e; rw [h] at q; cases q
/-- one more: T's roots are S's or fresh ones -/
theorem Step.trans {S T : List Addr} {c H c1 H1 c2 H2} (a : Step S c H c1 H1) (b : Step T c1 H1 c2 H2) (t : ∀ r ∈ T, r ∈ S ∨ H r = none) : Step S c H c2 H2 where
  keep x o h k := by
    refine b.keep x o (a.keep x o h k) fun r e hr => ?_
    rw [a.col x o h] at e
    rcases t r hr with q | q
    · exact k r e q
    · obtain ⟨u, z⟩ := a.wf0 x o r h e; rw [q] at z; cases z
  col x o h := by
    obtain ⟨u, q⟩ := a.live x o h
    rw [b.col x u q, a.col x o h]
  live x o h := by
    obtain ⟨u, q⟩ := a.live x o h
    exact b.live x u q
  wf := b.wf
  wf0 := a.wf0
theorem Step.tr0 {S : List Addr} {c H c1 H1 c2 H2} (a : Step S c H c1 H1) (b : Step [] c1 H1 c2 H2) : Step S c H c2 H2 := a.trans b fun _ h => by cases h
theorem Step.tr1 {S : List Addr} {p : Addr} {c H c1 H1 c2 H2} (a : Step S c H c1 H1) (b : Step [p] c1 H1 c2 H2) (n : p ∈ S ∨ H p = none) : Step S c H c2 H2 := a.trans b fun r h => by
  rcases List.mem_singleton.mp h with rfl
  exact n
theorem Step.weak {S T : List Addr} {c H c1 H1} (a : Step S c H c1 H1) (h : ∀ r ∈ S, r ∈ T) : Step T c H c1 H1 := ⟨fun x o e k => a.keep x o e fun r q z => k r q (h r z), a.col, a.live, a.wf, a.wf0⟩

/-- a new object at p with the colour o -/
theorem Step.new {c : Cl} {H : Hp} (w : Wf c H) {p : Addr} {u : HO} {o : Option Addr} (n : H p = none) (ho : ∀ r, o = some r → r = p ∨ ∃ v, H r = some v) : Step [] c H (setC c p o) (upd H p u) where
  keep a x h _ := by rw [upd_ne (ne_of_none h n)]; exact h
  col a x h := setC_ne (ne_of_none h n)
  live a x h := ⟨x, by rw [upd_ne (ne_of_none h n)]; exact h⟩
  wf := by
    intro a x r h e
    by_cases ea : a = p
    · subst ea
      rw [setC_same] at e
      rcases ho r e with rfl | ⟨v, q⟩
      · exact ⟨u, upd_same⟩
      · exact ⟨v, by rw [upd_ne (ne_of_none q n)]; exact q⟩
    · rw [upd_ne ea] at h
      rw [setC_ne ea] at e
      obtain ⟨v, q⟩ := w a x r h e
      exact ⟨v, by rw [upd_ne (ne_of_none q n)]; exact q⟩
  wf0 := w
/-- the object at p, of the structure r, is changed -/
theorem Step.mut {c : Cl} {H : Hp} (w : Wf c H) {p r : Addr} {u v : HO} (h : H p = some u) (hc : c p = some r) : Step [r] c H c (upd H p v) where
  keep a x e k := by
    by_cases ea : a = p
    · subst ea; exact absurd (List.mem_singleton.mpr rfl) (k r hc)
    · rw [upd_ne ea]; exact e
  col a x e := rfl
  live a x e := by
    by_cases ea : a = p
    · subst ea; exact ⟨v, upd_same⟩
    · exact ⟨x, by rw [upd_ne ea]; exact e⟩
  wf := by
    intro a x s e q
    have : ∃ x', H a = some x' := by
      by_cases ea : a = p
      · subst ea; exact ⟨u, h⟩
      · rw [upd_ne ea] at e; exact ⟨x, e⟩
    obtain ⟨x', e'⟩ := this
    obtain ⟨z, q'⟩ := w a x' s e' q
    by_cases es : s = p
    · subst es; exact ⟨v, upd_same⟩
    · exact ⟨z, by rw [upd_ne es]; exact q'⟩
  wf0 := w
/-- the structure rooted at p is frozen -/
def frz (c : Cl) (p : Addr) : Cl := fun a => if c a = some p then none else c a
theorem frz_none {c : Cl} {p a : Addr} (h : c a = none) : frz c p a = none := by unfold frz; split <;> simp_all
theorem frz_self {c : Cl} {p a : Addr} (h : c a = some p) : frz c p a = none := by unfold frz; rw [if_pos h]
theorem frz_ne {c : Cl} {p a q : Addr} (h : c a = some q) (n : q ≠ p) : frz c p a = some q := by
  unfold frz
  rw [if_neg (by rw [h]; intro e; exact n (Option.some.inj e))]
  exact h
theorem frz_wf {c : Cl} {H : Hp} {p : Addr} (w : Wf c H) : Wf (frz c p) H := fun a o r h e => by
  unfold frz at e
  split at e
  · cases e
  · exact w a o r h e
theorem frz_up {c : Cl} {H : Hp} {p : Addr} : Up c H (frz c p) H := ⟨fun _ _ h _ => h, fun _ _ _ h => frz_none h⟩
theorem Step.frz {S c0 H0 c H} {p : Addr} (g : Step S c0 H0 c H) (n : H0 p = none) : Step S c0 H0 (frz c p) H where
  keep := g.keep
  col a o h := by
    have e := g.col a o h
    unfold Kb.frz
    split
    · rename_i q
      rw [e] at q
      obtain ⟨u, z⟩ := g.wf0 a o p h q
      rw [n] at z; cases z
    · exact e
  live := g.live
  wf := frz_wf g.wf
  wf0 := g.wf0

/-! ### mirrored results -/
inductive Err where
  | ratio | ground | route | off | name | dup | unk | edn | gone | use | event | unkEvent | command
  deriving DecidableEq, Repr
inductive Res (α : Type) where
  | ok (x : α) | err (e : Err) | stk
  deriving DecidableEq, Repr
/-- what a turn of a loop comes to: the next turn's state, or the def's end -/
inductive Ctl (σ ρ : Type) where
  | nx (s : σ) | ret (r : ρ)
  deriving DecidableEq, Repr
def Res.bind {α β : Type} (m : Res α) (f : α → Res β) : Res β := match m with
  | .ok x => f x
  | .err e => .err e
  | .stk => .stk
@[simp] theorem bind_ok {α β : Type} {x : α} {f : α → Res β} : (Res.ok x).bind f = f x := rfl
@[simp] theorem bind_err {α β : Type} {e : Err} {f : α → Res β} : (Res.err e : Res α).bind f = .err e := rfl
@[simp] theorem bind_stk {α β : Type} {f : α → Res β} : (Res.stk : Res α).bind f = .stk := rfl
theorem bind_assoc {α β γ : Type} {m : Res α} {f : α → Res β} {g : β → Res γ} : (m.bind f).bind g = m.bind fun x => (f x).bind g := by cases m <;> rfl
/-- a side condition -/
def chk {α : Type} (b : Bool) (r : Res α) : Res α := if b = true then r else .stk
@[simp] theorem chk_true {α : Type} {r : Res α} : chk true r = r := rfl
@[simp] theorem chk_false {α : Type} {r : Res α} : chk false r = .stk := rfl
theorem chk_of {α : Type} {b : Bool} {r : Res α} (h : b = true) : chk b r = r := by rw [h]; rfl
/-- a place that must be there -/
def opt {α β : Type} (o : Option α) (f : α → Res β) : Res β := match o with
  | some x => f x
  | none => .stk
@[simp] theorem opt_some {α β : Type} {x : α} {f : α → Res β} : opt (some x) f = f x := rfl
@[simp] theorem opt_none {α β : Type} {f : α → Res β} : opt (none : Option α) f = .stk := rfl
theorem opt_of {α β : Type} {o : Option α} {x : α} {f : α → Res β} (h : o = some x) : opt o f = f x := by rw [h]; rfl
/-- a name for a value -/
def lt {α β : Type} (x : α) (f : α → β) : β := f x
@[simp] theorem lt_eq {α β : Type} {x : α} {f : α → β} : lt x f = f x := rfl
/-- a test -/
def br {α : Type} (b : Bool) (x y : Res α) : Res α := if b = true then x else y
@[simp] theorem br_true {α : Type} {x y : Res α} : br true x y = x := rfl
@[simp] theorem br_false {α : Type} {x y : Res α} : br false x y = y := rfl
/-- a for loop without a return in it -/
def forN {α σ : Type} : List α → σ → (σ → α → Res σ) → Res σ
  | [], s, _ => .ok s
  | x :: xs, s, f => (f s x).bind fun s' => forN xs s' f
@[simp] theorem forN_nil {α σ : Type} {s : σ} {f : σ → α → Res σ} : forN [] s f = .ok s := rfl
@[simp] theorem forN_cons {α σ : Type} {x : α} {xs : List α} {s : σ} {f : σ → α → Res σ} : forN (x :: xs) s f = (f s x).bind fun s' => forN xs s' f := rfl
/-- a for loop with a return in it -/
def forR {α σ ρ : Type} : List α → σ → (σ → α → Res (Ctl σ ρ)) → Res (Ctl σ ρ)
  | [], s, _ => .ok (.nx s)
  | x :: xs, s, f => (f s x).bind fun c => match c with
    | .nx s' => forR xs s' f
    | .ret r => .ok (.ret r)
@[simp] theorem forR_nil {α σ ρ : Type} {s : σ} {f : σ → α → Res (Ctl σ ρ)} : forR [] s f = .ok (.nx s) := rfl
theorem forR_cons {α σ ρ : Type} {x : α} {xs : List α} {s : σ} {f : σ → α → Res (Ctl σ ρ)} : forR (x :: xs) s f = (f s x).bind fun c => match c with
    | .nx s' => forR xs s' f
    | .ret r => .ok (.ret r) := rfl
/-- behind a loop: its state, or its return handed on -/
def ctl {σ ρ β : Type} (c : Ctl σ ρ) (f : σ → Res β) (g : ρ → Res β) : Res β := match c with
  | .nx s => f s
  | .ret r => g r
@[simp] theorem ctl_nx {σ ρ β : Type} {s : σ} {f : σ → Res β} {g : ρ → Res β} : ctl (.nx s) f g = f s := rfl
@[simp] theorem ctl_ret {σ ρ β : Type} {r : ρ} {f : σ → Res β} {g : ρ → Res β} : ctl (.ret r) f g = g r := rfl
/-- a while loop, with fuel; the test may be stuck -/
def whileN {σ : Type} : Nat → σ → (σ → Res Bool) → (σ → Res σ) → Res σ
  | 0, _, _, _ => .stk
  | n + 1, s, t, f => (t s).bind fun b => br b ((f s).bind fun s' => whileN n s' t f) (.ok s)
/-- no error is let out -/
def nx {α : Type} (m : Res α) : Res α := match m with
  | .ok x => .ok x
  | .err _ => .stk
  | .stk => .stk
@[simp] theorem nx_ok {α : Type} {x : α} : nx (.ok x) = .ok x := rfl
/-- a comprehension -/
def compN {α β : Type} : List α → (α → Res β) → Res (List β)
  | [], _ => .ok []
  | x :: xs, f => (nx (f x)).bind fun y => (compN xs f).bind fun ys => .ok (y :: ys)
/-- a comprehension with a test -/
def compF {α β : Type} : List α → (α → Res (Option β)) → Res (List β)
  | [], _ => .ok []
  | x :: xs, f => (nx (f x)).bind fun y => (compF xs f).bind fun ys => .ok (match y with | some z => z :: ys | none => ys)
/-- try: an error of ours is handed to the clause if it takes it -/
def tryN {α : Type} (m : Res α) (h : Err → Option (Res α)) : Res α := match m with
  | .ok x => .ok x
  | .err e => (h e).getD (.err e)
  | .stk => .stk
@[simp] theorem tryN_ok {α : Type} {x : α} {h : Err → Option (Res α)} : tryN (.ok x) h = .ok x := rfl
@[simp] theorem tryN_err {α : Type} {e : Err} {h : Err → Option (Res α)} : tryN (.err e : Res α) h = (h e).getD (.err e) := rfl

/-- try: body, one clause, what follows -/
def tryM {τ γ : Type} (m : Res τ) (h : Err → Option (Res γ)) (f : τ → Res γ) : Res γ := match m with
  | .ok s => f s
  | .err e => (h e).getD (.err e)
  | .stk => .stk
@[simp] theorem tryM_ok {τ γ : Type} {s : τ} {h : Err → Option (Res γ)} {f : τ → Res γ} : tryM (.ok s) h f = f s := rfl
@[simp] theorem tryM_err {τ γ : Type} {e : Err} {h : Err → Option (Res γ)} {f : τ → Res γ} : tryM (.err e : Res τ) h f = (h e).getD (.err e) := rfl
/-- what is wanted behind a mirrored result: from the base (c0, H0) on -/
def Kont {α : Type} (P : α → Cl → Hp → Prop) (PE : Err → Cl → Hp → Prop) (S : List Addr) (c0 : Cl) (H0 : Hp) : Res α → Prop
  | .ok y => ∀ c H, Step S c0 H0 c H → P y c H
  | .err e => ∀ c H, Step S c0 H0 c H → PE e c H
  | .stk => False
section
variable {α β : Type} {P : β → Cl → Hp → Prop} {PE : Err → Cl → Hp → Prop} {S : List Addr} {c0 : Cl} {H0 : Hp}
theorem Kont.chk {b : Bool} {r : Res β} (k : Kont P PE S c0 H0 (Kb.chk b r)) : b = true ∧ Kont P PE S c0 H0 r := by
  cases b with
  | true => exact ⟨rfl, k⟩
  | false => exact k.elim
theorem Kont.opt {o : Option α} {f : α → Res β} (k : Kont P PE S c0 H0 (Kb.opt o f)) : ∃ x, o = some x ∧ Kont P PE S c0 H0 (f x) := by
  cases o with
  | some x => exact ⟨x, rfl, k⟩
  | none => exact k.elim
theorem Kont.lt {x : α} {f : α → Res β} (k : Kont P PE S c0 H0 (Kb.lt x f)) : Kont P PE S c0 H0 (f x) := k
theorem Kont.brT {b : Bool} {x y : Res β} (k : Kont P PE S c0 H0 (Kb.br b x y)) (h : b = true) : Kont P PE S c0 H0 x := by subst h; exact k
theorem Kont.brF {b : Bool} {x y : Res β} (k : Kont P PE S c0 H0 (Kb.br b x y)) (h : b = false) : Kont P PE S c0 H0 y := by subst h; exact k
theorem Kont.bindT {m : Res α} {f : α → Res β} (k : Kont P PE S c0 H0 (m.bind f)) : Kont (fun y _ _ => Kont P PE S c0 H0 (f y)) (fun e _ _ => ∀ c H, Step S c0 H0 c H → PE e c H) S c0 H0 m := by
  cases m with
  | ok x => exact fun _ _ _ => k
  | err e => exact fun _ _ _ => k
  | stk => exact k.elim
/-- a call: what the callee's result is to bring -/
theorem Kont.call {m : Res α} {f : α → Res β} {T : List Addr} {c : Cl} {H : Hp} (k : Kont P PE S c0 H0 (m.bind f)) (g : Step S c0 H0 c H) (t : ∀ r ∈ T, r ∈ S ∨ H0 r = none) {Pc : α → Cl → Hp → Prop} {PEc : Err → Cl → Hp → Prop}
    (h : ∀ y, m = .ok y → Kont P PE S c0 H0 (f y) → ∀ c' H', Step T c H c' H' → Step S c0 H0 c' H' → Pc y c' H') (he : ∀ e, m = .err e → ∀ c' H', Step T c H c' H' → Step S c0 H0 c' H' → PE e c' H' → PEc e c' H') : Kont Pc PEc T c H m := by
  cases m with
  | ok x => exact fun c' H' st => h x rfl k c' H' st (g.trans st t)
  | err e => exact fun c' H' st => he e rfl c' H' st (g.trans st t) (k c' H' (g.trans st t))
  | stk => exact k.elim
theorem Kont.nx {m : Res α} {P : α → Cl → Hp → Prop} (k : Kont P PE S c0 H0 (Kb.nx m)) : Kont P (fun _ _ _ => False) S c0 H0 m := by
  cases m with
  | ok x => exact k
  | err e => exact k.elim
  | stk => exact k.elim
/-- a call of what raises nothing -/
theorem Kont.call0 {m : Res α} {f : α → Res β} {T : List Addr} {c : Cl} {H : Hp} (k : Kont P PE S c0 H0 ((Kb.nx m).bind f)) (g : Step S c0 H0 c H) (t : ∀ r ∈ T, r ∈ S ∨ H0 r = none) {Pc : α → Cl → Hp → Prop}
    (h : ∀ y, m = .ok y → Kont P PE S c0 H0 (f y) → ∀ c' H', Step T c H c' H' → Step S c0 H0 c' H' → Pc y c' H') : Kont Pc (fun _ _ _ => False) T c H m := by
  cases m with
  | ok x => exact fun c' H' st => h x rfl k c' H' st (g.trans st t)
  | err e => exact k.elim
  | stk => exact k.elim
theorem Kont.tryM {m : Res α} {h : Err → Option (Res β)} {f : α → Res β} (k : Kont P PE S c0 H0 (Kb.tryM m h f)) : Kont (fun s _ _ => Kont P PE S c0 H0 (f s)) (fun e _ _ => Kont P PE S c0 H0 ((h e).getD (.err e))) S c0 H0 m := by
  cases m with
  | ok x => exact fun _ _ _ => k
  | err e => exact fun _ _ _ => k
  | stk => exact k.elim
theorem Kont.imp {m : Res β} {P' : β → Cl → Hp → Prop} {PE' : Err → Cl → Hp → Prop} (k : Kont P PE S c0 H0 m) (h : ∀ y c H, Step S c0 H0 c H → P y c H → P' y c H) (he : ∀ e c H, Step S c0 H0 c H → PE e c H → PE' e c H) : Kont P' PE' S c0 H0 m := by
  cases m with
  | ok x => exact fun c H g => h _ _ _ g (k c H g)
  | err e => exact fun c H g => he _ _ _ g (k c H g)
  | stk => exact k.elim
theorem Kont.done {y : β} {c : Cl} {H : Hp} (k : Kont P PE S c0 H0 (.ok y)) (g : Step S c0 H0 c H) : P y c H := k c H g
theorem Kont.fail {e : Err} {c : Cl} {H : Hp} (k : Kont P PE S c0 H0 (.err e : Res β)) (g : Step S c0 H0 c H) : PE e c H := k c H g
end
end Kb
namespace Kb
open PySem L2

theorem rd_some {H : Hp} {a : Addr} {o : HO} (h : Rd H a o) : ∃ u, H a = some u := by
  rcases h with h | ⟨u, h⟩
  · exact ⟨_, h⟩
  · exact ⟨_, h⟩
theorem Up.rd {c H c' H'} (g : Up c H c' H') {a : Addr} {o : HO} (k : c a = none) (h : Rd H a o) : Rd H' a o := by
  rcases h with h | ⟨u, h⟩
  · exact .inl (g.obj a _ h k)
  · exact .inr ⟨u, g.obj a _ h k⟩
theorem Up.colR {c H c' H'} (g : Up c H c' H') {a : Addr} {o : HO} (k : c a = none) (h : Rd H a o) : c' a = none := by
  obtain ⟨u, e⟩ := rd_some h
  exact g.col a u e k
/-- a kind of data: how a value in the heap stands for it; its data -/
structure Ty (α : Type) [DecidableEq α] where
  r : Cl → Hp → V → α → Prop
  up : ∀ {c H c' H' v x}, Up c H c' H' → r c H v x → r c' H' v x
  enc : α → PyData
  dp : ∀ {K : PySem.W.Frag} {c H v x}, r c H v x → Dp K H v (enc x)
  lay : ∀ {c H v x}, r c H v x → (enc x).canLay0 = true
  dep : Nat
  hdep : ∀ x, (enc x).depth ≤ dep
  eqv : ∀ x y, PyData.eqv (enc x) (enc y) = decide (x = y)
def tyI : Ty Int where
  r _ _ v x := v = .int x
  up _ h := h
  enc x := .int x
  dp h := by subst h; exact .int _
  lay _ := rfl
  dep := 0
  hdep _ := Nat.le_refl _
  eqv x y := by simp only [PyData.eqv]; rw [Bool.eq_iff_iff]; simp
def tyB : Ty Bool where
  r _ _ v x := v = .bl x
  up _ h := h
  enc x := .bool x
  dp h := by subst h; exact .bl _
  lay _ := rfl
  dep := 0
  hdep _ := Nat.le_refl _
  eqv x y := by simp only [PyData.eqv]; rw [Bool.eq_iff_iff]; simp
def tyS : Ty Str where
  r _ _ v x := v = .str x ∧ PyData.strOk x = true
  up _ h := h
  enc x := .str x
  dp h := by obtain ⟨h, _⟩ := h; subst h; exact .str _
  lay h := h.2
  dep := 0
  hdep _ := Nat.le_refl _
  eqv x y := by simp only [PyData.eqv]; rw [Bool.eq_iff_iff]; simp
def tyU : Ty Unit where
  r _ _ v _ := v = .non
  up _ h := h
  enc _ := .none
  dp h := by subst h; exact .non
  lay _ := rfl
  dep := 0
  hdep _ := Nat.le_refl _
  eqv x y := by simp only [PyData.eqv]; simp
/-- None or a thing -/
def tyO {α : Type} [DecidableEq α] (A : Ty α) (hn : ∀ x, PyData.eqv (A.enc x) .none = false ∧ PyData.eqv .none (A.enc x) = false) (hv : ∀ c H x, ¬ A.r c H .non x) : Ty (Option α) where
  r c H v x := match x with
    | none => v = .non
    | some y => A.r c H v y
  up {c H c' H' v x} g h := by
    cases x with
    | none => exact h
    | some y => exact A.up g h
  enc x := match x with
    | none => .none
    | some y => A.enc y
  dp {K c H v x} h := by
    cases x with
    | none => have e : v = .non := h; subst e; exact .non
    | some y => exact A.dp h
  lay {c H v x} h := by
    cases x with
    | none => rfl
    | some y => exact A.lay h
  dep := A.dep
  hdep x := by
    cases x with
    | none => exact Nat.zero_le _
    | some y => exact A.hdep y
  eqv x y := by
    cases x with
    | none =>
      cases y with
      | none => simp [PyData.eqv]
      | some y => simp [(hn y).2]
    | some x =>
      cases y with
      | none => simp [(hn x).1]
      | some y => simp [A.eqv]
/-- a list's values stand for the data -/
def Rs {α : Type} [DecidableEq α] (A : Ty α) (c : Cl) (H : Hp) : List V → List α → Prop
  | [], [] => True
  | u :: us, x :: xs => A.r c H u x ∧ Rs A c H us xs
  | _, _ => False
section
variable {α : Type} [DecidableEq α] {A : Ty α} {c c' : Cl} {H H' : Hp}
theorem Rs.len : ∀ {us : List V} {xs : List α}, Rs A c H us xs → us.length = xs.length
  | [], [], _ => rfl
  | _ :: us, _ :: xs, h => by rw [List.length_cons, List.length_cons, Rs.len h.2]
  | [], _ :: _, h => h.elim
  | _ :: _, [], h => h.elim
theorem Rs.up (g : Up c H c' H') : ∀ {us : List V} {xs : List α}, Rs A c H us xs → Rs A c' H' us xs
  | [], [], _ => trivial
  | _ :: _, _ :: _, h => ⟨A.up g h.1, Rs.up g h.2⟩
  | [], _ :: _, h => h.elim
  | _ :: _, [], h => h.elim
theorem Rs.app : ∀ {us vs : List V} {xs ys : List α}, Rs A c H us xs → Rs A c H vs ys → Rs A c H (us ++ vs) (xs ++ ys)
  | [], _, [], _, _, h => h
  | _ :: _, _, _ :: _, _, h, k => ⟨h.1, Rs.app h.2 k⟩
  | [], _, _ :: _, _, h, _ => h.elim
  | _ :: _, _, [], _, h, _ => h.elim
theorem Rs.get : ∀ {us : List V} {xs : List α} {i : Nat} {u : V}, Rs A c H us xs → us[i]? = some u → ∃ x, xs[i]? = some x ∧ A.r c H u x
  | [], [], _, _, _, e => by simp at e
  | u :: us, x :: xs, 0, v, h, e => by
    have e' : u = v := by simpa using e
    subst e'
    exact ⟨x, rfl, h.1⟩
  | u :: us, x :: xs, i + 1, v, h, e => by
    obtain ⟨y, e1, r⟩ := Rs.get (i := i) (u := v) h.2 (by simpa using e)
    exact ⟨y, by simpa using e1, r⟩
  | [], _ :: _, _, _, h, _ => h.elim
  | _ :: _, [], _, _, h, _ => h.elim
theorem Rs.getX : ∀ {us : List V} {xs : List α} {i : Nat} {x : α}, Rs A c H us xs → xs[i]? = some x → ∃ u, us[i]? = some u ∧ A.r c H u x
  | [], [], _, _, _, e => by simp at e
  | u :: us, x :: xs, 0, y, h, e => by
    have e' : x = y := by simpa using e
    subst e'
    exact ⟨u, rfl, h.1⟩
  | u :: us, x :: xs, i + 1, y, h, e => by
    obtain ⟨v, e1, r⟩ := Rs.getX (i := i) (x := y) h.2 (by simpa using e)
    exact ⟨v, by simpa using e1, r⟩
  | [], _ :: _, _, _, h, _ => h.elim
  | _ :: _, [], _, _, h, _ => h.elim
theorem Rs.set {u : V} {x : α} (r : A.r c H u x) : ∀ {us : List V} {xs : List α} (i : Nat), Rs A c H us xs → Rs A c H (us.set i u) (xs.set i x)
  | [], [], _, _ => trivial
  | _ :: _, _ :: _, 0, h => ⟨r, h.2⟩
  | _ :: _, _ :: _, i + 1, h => ⟨h.1, Rs.set r i h.2⟩
  | [], _ :: _, _, h => h.elim
  | _ :: _, [], _, h => h.elim
theorem Rs.drop : ∀ {us : List V} {xs : List α} (n : Nat), Rs A c H us xs → Rs A c H (us.drop n) (xs.drop n)
  | _, _, 0, h => h
  | [], [], _ + 1, _ => trivial
  | _ :: _, _ :: _, n + 1, h => Rs.drop n h.2
  | [], _ :: _, _, h => h.elim
  | _ :: _, [], _, h => h.elim
theorem Rs.take : ∀ {us : List V} {xs : List α} (n : Nat), Rs A c H us xs → Rs A c H (us.take n) (xs.take n)
  | _, _, 0, h => by simp [Rs]
  | [], [], _ + 1, _ => trivial
  | _ :: _, _ :: _, n + 1, h => ⟨h.1, Rs.take n h.2⟩
  | [], _ :: _, _, h => h.elim
  | _ :: _, [], _, h => h.elim
theorem Rs.rev : ∀ {us : List V} {xs : List α}, Rs A c H us xs → Rs A c H us.reverse xs.reverse
  | [], [], _ => trivial
  | _ :: _, _ :: _, h => by
    rw [List.reverse_cons, List.reverse_cons]
    exact Rs.app (Rs.rev h.2) ⟨h.1, trivial⟩
  | [], _ :: _, h => h.elim
  | _ :: _, [], h => h.elim
theorem Rs.dp {K : PySem.W.Frag} : ∀ {us : List V} {xs : List α}, Rs A c H us xs → DpAll K H us (xs.map A.enc)
  | [], [], _ => .nil
  | _ :: _, _ :: _, h => .cons (A.dp h.1) (Rs.dp h.2)
  | [], _ :: _, h => h.elim
  | _ :: _, [], h => h.elim
theorem Rs.lay : ∀ {us : List V} {xs : List α}, Rs A c H us xs → PyData.canLayAll0 (xs.map A.enc) = true
  | [], [], _ => rfl
  | _ :: _, x :: xs, h => by
    show (PyData.canLay0 (A.enc x) && PyData.canLayAll0 (xs.map A.enc)) = true
    rw [A.lay h.1, Rs.lay h.2]; rfl
  | [], _ :: _, h => h.elim
  | _ :: _, [], h => h.elim
theorem depAll (A : Ty α) : ∀ xs : List α, PyData.depthAll (xs.map A.enc) ≤ A.dep
  | [] => Nat.zero_le _
  | x :: xs => Nat.max_le.mpr ⟨A.hdep x, depAll A xs⟩
theorem eqvAll (A : Ty α) : ∀ xs ys : List α, PyData.eqvAll (xs.map A.enc) (ys.map A.enc) = decide (xs = ys)
  | [], [] => rfl
  | [], _ :: _ => rfl
  | _ :: _, [] => rfl
  | x :: xs, y :: ys => by
    show (PyData.eqv (A.enc x) (A.enc y) && PyData.eqvAll (xs.map A.enc) (ys.map A.enc)) = decide (x :: xs = y :: ys)
    rw [A.eqv, eqvAll A xs ys, Bool.eq_iff_iff]
    simp
end
/-- a frozen list -/
def tyL {α : Type} [DecidableEq α] (A : Ty α) : Ty (List α) where
  r c H v xs := ∃ (a : Addr) (us : List V), v = .ref a ∧ c a = none ∧ H a = some (.lst us) ∧ Rs A c H us xs
  up := fun g ⟨a, us, e, k, q, h⟩ => ⟨a, us, e, g.col a _ q k, g.obj a _ q k, h.up g⟩
  enc xs := .list (xs.map A.enc)
  dp := fun ⟨a, us, e, k, q, h⟩ => by subst e; exact .lst (.inl (.inl q)) h.dp
  lay := fun ⟨a, us, e, k, q, h⟩ => h.lay
  dep := A.dep + 1
  hdep xs := Nat.succ_le_succ (depAll A xs)
  eqv x y := by simp only [PyData.eqv]; exact eqvAll A x y
def tyT2 {α0 : Type} [DecidableEq α0] {α1 : Type} [DecidableEq α1] (A0 : Ty α0) (A1 : Ty α1) : Ty (α0 × α1) where
  r c H v x := ∃ (a : Addr) (u0 u1 : V), v = .ref a ∧ c a = none ∧ Rd H a (.tup [u0, u1]) ∧ A0.r c H u0 x.1 ∧ A1.r c H u1 x.2
  up := fun g ⟨a, u0, u1, e, k, q, h0, h1⟩ => ⟨a, u0, u1, e, g.colR k q, g.rd k q, A0.up g h0, A1.up g h1⟩
  enc x := .tuple [A0.enc x.1, A1.enc x.2]
  dp := fun ⟨a, u0, u1, e, k, q, h0, h1⟩ => by subst e; exact .tup (.inl q) (.cons (A0.dp h0) (.cons (A1.dp h1) (.nil)))
  lay := fun ⟨a, u0, u1, e, k, q, h0, h1⟩ => by simp [PyData.canLay0, PyData.canLayAll0, A0.lay h0, A1.lay h1]
  dep := A0.dep+A1.dep + 1
  hdep x := by
    have h0 := A0.hdep x.1
    have h1 := A1.hdep x.2
    simp only [PyData.depth, PyData.depthAll]; omega
  eqv x y := by
    simp only [PyData.eqv, PyData.eqvAll, Bool.and_true, A0.eqv, A1.eqv]
    rw [Bool.eq_iff_iff]; simp only [Bool.and_eq_true, decide_eq_true_eq, Prod.ext_iff]
def tyT3 {α0 : Type} [DecidableEq α0] {α1 : Type} [DecidableEq α1] {α2 : Type} [DecidableEq α2] (A0 : Ty α0) (A1 : Ty α1) (A2 : Ty α2) : Ty (α0 × α1 × α2) where
  r c H v x := ∃ (a : Addr) (u0 u1 u2 : V), v = .ref a ∧ c a = none ∧ Rd H a (.tup [u0, u1, u2]) ∧ A0.r c H u0 x.1 ∧ A1.r c H u1 x.2.1 ∧ A2.r c H u2 x.2.2
  up := fun g ⟨a, u0, u1, u2, e, k, q, h0, h1, h2⟩ => ⟨a, u0, u1, u2, e, g.colR k q, g.rd k q, A0.up g h0, A1.up g h1, A2.up g h2⟩
  enc x := .tuple [A0.enc x.1, A1.enc x.2.1, A2.enc x.2.2]
  dp := fun ⟨a, u0, u1, u2, e, k, q, h0, h1, h2⟩ => by subst e; exact .tup (.inl q) (.cons (A0.dp h0) (.cons (A1.dp h1) (.cons (A2.dp h2) (.nil))))
  lay := fun ⟨a, u0, u1, u2, e, k, q, h0, h1, h2⟩ => by simp [PyData.canLay0, PyData.canLayAll0, A0.lay h0, A1.lay h1, A2.lay h2]
  dep := A0.dep+A1.dep+A2.dep + 1
  hdep x := by
    have h0 := A0.hdep x.1
    have h1 := A1.hdep x.2.1
    have h2 := A2.hdep x.2.2
    simp only [PyData.depth, PyData.depthAll]; omega
  eqv x y := by
    simp only [PyData.eqv, PyData.eqvAll, Bool.and_true, A0.eqv, A1.eqv, A2.eqv]
    rw [Bool.eq_iff_iff]; simp only [Bool.and_eq_true, decide_eq_true_eq, Prod.ext_iff]
def tyT4 {α0 : Type} [DecidableEq α0] {α1 : Type} [DecidableEq α1] {α2 : Type} [DecidableEq α2] {α3 : Type} [DecidableEq α3] (A0 : Ty α0) (A1 : Ty α1) (A2 : Ty α2) (A3 : Ty α3) : Ty (α0 × α1 × α2 × α3) where
  r c H v x := ∃ (a : Addr) (u0 u1 u2 u3 : V), v = .ref a ∧ c a = none ∧ Rd H a (.tup [u0, u1, u2, u3]) ∧ A0.r c H u0 x.1 ∧ A1.r c H u1 x.2.1 ∧ A2.r c H u2 x.2.2.1 ∧ A3.r c H u3 x.2.2.2
  up := fun g ⟨a, u0, u1, u2, u3, e, k, q, h0, h1, h2, h3⟩ => ⟨a, u0, u1, u2, u3, e, g.colR k q, g.rd k q, A0.up g h0, A1.up g h1, A2.up g h2, A3.up g h3⟩
  enc x := .tuple [A0.enc x.1, A1.enc x.2.1, A2.enc x.2.2.1, A3.enc x.2.2.2]
  dp := fun ⟨a, u0, u1, u2, u3, e, k, q, h0, h1, h2, h3⟩ => by subst e; exact .tup (.inl q) (.cons (A0.dp h0) (.cons (A1.dp h1) (.cons (A2.dp h2) (.cons (A3.dp h3) (.nil)))))
  lay := fun ⟨a, u0, u1, u2, u3, e, k, q, h0, h1, h2, h3⟩ => by simp [PyData.canLay0, PyData.canLayAll0, A0.lay h0, A1.lay h1, A2.lay h2, A3.lay h3]
  dep := A0.dep+A1.dep+A2.dep+A3.dep + 1
  hdep x := by
    have h0 := A0.hdep x.1
    have h1 := A1.hdep x.2.1
    have h2 := A2.hdep x.2.2.1
    have h3 := A3.hdep x.2.2.2
    simp only [PyData.depth, PyData.depthAll]; omega
  eqv x y := by
    simp only [PyData.eqv, PyData.eqvAll, Bool.and_true, A0.eqv, A1.eqv, A2.eqv, A3.eqv]
    rw [Bool.eq_iff_iff]; simp only [Bool.and_eq_true, decide_eq_true_eq, Prod.ext_iff]
def tyT5 {α0 : Type} [DecidableEq α0] {α1 : Type} [DecidableEq α1] {α2 : Type} [DecidableEq α2] {α3 : Type} [DecidableEq α3] {α4 : Type} [DecidableEq α4] (A0 : Ty α0) (A1 : Ty α1) (A2 : Ty α2) (A3 : Ty α3) (A4 : Ty α4) : Ty (α0 × α1 × α2 × α3 × α4) where
  r c H v x := ∃ (a : Addr) (u0 u1 u2 u3 u4 : V), v = .ref a ∧ c a = none ∧ Rd H a (.tup [u0, u1, u2, u3, u4]) ∧ A0.r c H u0 x.1 ∧ A1.r c H u1 x.2.1 ∧ A2.r c H u2 x.2.2.1 ∧ A3.r c H u3 x.2.2.2.1 ∧ A4.r c H u4 x.2.2.2.2
  up := fun g ⟨a, u0, u1, u2, u3, u4, e, k, q, h0, h1, h2, h3, h4⟩ => ⟨a, u0, u1, u2, u3, u4, e, g.colR k q, g.rd k q, A0.up g h0, A1.up g h1, A2.up g h2, A3.up g h3, A4.up g h4⟩
  enc x := .tuple [A0.enc x.1, A1.enc x.2.1, A2.enc x.2.2.1, A3.enc x.2.2.2.1, A4.enc x.2.2.2.2]
  dp := fun ⟨a, u0, u1, u2, u3, u4, e, k, q, h0, h1, h2, h3, h4⟩ => by subst e; exact .tup (.inl q) (.cons (A0.dp h0) (.cons (A1.dp h1) (.cons (A2.dp h2) (.cons (A3.dp h3) (.cons (A4.dp h4) (.nil))))))
  lay := fun ⟨a, u0, u1, u2, u3, u4, e, k, q, h0, h1, h2, h3, h4⟩ => by simp [PyData.canLay0, PyData.canLayAll0, A0.lay h0, A1.lay h1, A2.lay h2, A3.lay h3, A4.lay h4]
  dep := A0.dep+A1.dep+A2.dep+A3.dep+A4.dep + 1
  hdep x := by
    have h0 := A0.hdep x.1
    have h1 := A1.hdep x.2.1
    have h2 := A2.hdep x.2.2.1
    have h3 := A3.hdep x.2.2.2.1
    have h4 := A4.hdep x.2.2.2.2
    simp only [PyData.depth, PyData.depthAll]; omega
  eqv x y := by
    simp only [PyData.eqv, PyData.eqvAll, Bool.and_true, A0.eqv, A1.eqv, A2.eqv, A3.eqv, A4.eqv]
    rw [Bool.eq_iff_iff]; simp only [Bool.and_eq_true, decide_eq_true_eq, Prod.ext_iff]
def tyT6 {α0 : Type} [DecidableEq α0] {α1 : Type} [DecidableEq α1] {α2 : Type} [DecidableEq α2] {α3 : Type} [DecidableEq α3] {α4 : Type} [DecidableEq α4] {α5 : Type} [DecidableEq α5] (A0 : Ty α0) (A1 : Ty α1) (A2 : Ty α2) (A3 : Ty α3) (A4 : Ty α4) (A5 : Ty α5) : Ty (α0 × α1 × α2 × α3 × α4 × α5) where
  r c H v x := ∃ (a : Addr) (u0 u1 u2 u3 u4 u5 : V), v = .ref a ∧ c a = none ∧ Rd H a (.tup [u0, u1, u2, u3, u4, u5]) ∧ A0.r c H u0 x.1 ∧ A1.r c H u1 x.2.1 ∧ A2.r c H u2 x.2.2.1 ∧ A3.r c H u3 x.2.2.2.1 ∧ A4.r c H u4 x.2.2.2.2.1 ∧ A5.r c H u5 x.2.2.2.2.2
  up := fun g ⟨a, u0, u1, u2, u3, u4, u5, e, k, q, h0, h1, h2, h3, h4, h5⟩ => ⟨a, u0, u1, u2, u3, u4, u5, e, g.colR k q, g.rd k q, A0.up g h0, A1.up g h1, A2.up g h2, A3.up g h3, A4.up g h4, A5.up g h5⟩
  enc x := .tuple [A0.enc x.1, A1.enc x.2.1, A2.enc x.2.2.1, A3.enc x.2.2.2.1, A4.enc x.2.2.2.2.1, A5.enc x.2.2.2.2.2]
  dp := fun ⟨a, u0, u1, u2, u3, u4, u5, e, k, q, h0, h1, h2, h3, h4, h5⟩ => by subst e; exact .tup (.inl q) (.cons (A0.dp h0) (.cons (A1.dp h1) (.cons (A2.dp h2) (.cons (A3.dp h3) (.cons (A4.dp h4) (.cons (A5.dp h5) (.nil)))))))
  lay := fun ⟨a, u0, u1, u2, u3, u4, u5, e, k, q, h0, h1, h2, h3, h4, h5⟩ => by simp [PyData.canLay0, PyData.canLayAll0, A0.lay h0, A1.lay h1, A2.lay h2, A3.lay h3, A4.lay h4, A5.lay h5]
  dep := A0.dep+A1.dep+A2.dep+A3.dep+A4.dep+A5.dep + 1
  hdep x := by
    have h0 := A0.hdep x.1
    have h1 := A1.hdep x.2.1
    have h2 := A2.hdep x.2.2.1
    have h3 := A3.hdep x.2.2.2.1
    have h4 := A4.hdep x.2.2.2.2.1
    have h5 := A5.hdep x.2.2.2.2.2
    simp only [PyData.depth, PyData.depthAll]; omega
  eqv x y := by
    simp only [PyData.eqv, PyData.eqvAll, Bool.and_true, A0.eqv, A1.eqv, A2.eqv, A3.eqv, A4.eqv, A5.eqv]
    rw [Bool.eq_iff_iff]; simp only [Bool.and_eq_true, decide_eq_true_eq, Prod.ext_iff]
def tyT7 {α0 : Type} [DecidableEq α0] {α1 : Type} [DecidableEq α1] {α2 : Type} [DecidableEq α2] {α3 : Type} [DecidableEq α3] {α4 : Type} [DecidableEq α4] {α5 : Type} [DecidableEq α5] {α6 : Type} [DecidableEq α6] (A0 : Ty α0) (A1 : Ty α1) (A2 : Ty α2) (A3 : Ty α3) (A4 : Ty α4) (A5 : Ty α5) (A6 : Ty α6) : Ty (α0 × α1 × α2 × α3 × α4 × α5 × α6) where
  r c H v x := ∃ (a : Addr) (u0 u1 u2 u3 u4 u5 u6 : V), v = .ref a ∧ c a = none ∧ Rd H a (.tup [u0, u1, u2, u3, u4, u5, u6]) ∧ A0.r c H u0 x.1 ∧ A1.r c H u1 x.2.1 ∧ A2.r c H u2 x.2.2.1 ∧ A3.r c H u3 x.2.2.2.1 ∧ A4.r c H u4 x.2.2.2.2.1 ∧ A5.r c H u5 x.2.2.2.2.2.1 ∧ A6.r c H u6 x.2.2.2.2.2.2
  up := fun g ⟨a, u0, u1, u2, u3, u4, u5, u6, e, k, q, h0, h1, h2, h3, h4, h5, h6⟩ => ⟨a, u0, u1, u2, u3, u4, u5, u6, e, g.colR k q, g.rd k q, A0.up g h0, A1.up g h1, A2.up g h2, A3.up g h3, A4.up g h4, A5.up g h5, A6.up g h6⟩
  enc x := .tuple [A0.enc x.1, A1.enc x.2.1, A2.enc x.2.2.1, A3.enc x.2.2.2.1, A4.enc x.2.2.2.2.1, A5.enc x.2.2.2.2.2.1, A6.enc x.2.2.2.2.2.2]
  dp := fun ⟨a, u0, u1, u2, u3, u4, u5, u6, e, k, q, h0, h1, h2, h3, h4, h5, h6⟩ => by subst e; exact .tup (.inl q) (.cons (A0.dp h0) (.cons (A1.dp h1) (.cons (A2.dp h2) (.cons (A3.dp h3) (.cons (A4.dp h4) (.cons (A5.dp h5) (.cons (A6.dp h6) (.nil))))))))
  lay := fun ⟨a, u0, u1, u2, u3, u4, u5, u6, e, k, q, h0, h1, h2, h3, h4, h5, h6⟩ => by simp [PyData.canLay0, PyData.canLayAll0, A0.lay h0, A1.lay h1, A2.lay h2, A3.lay h3, A4.lay h4, A5.lay h5, A6.lay h6]
  dep := A0.dep+A1.dep+A2.dep+A3.dep+A4.dep+A5.dep+A6.dep + 1
  hdep x := by
    have h0 := A0.hdep x.1
    have h1 := A1.hdep x.2.1
    have h2 := A2.hdep x.2.2.1
    have h3 := A3.hdep x.2.2.2.1
    have h4 := A4.hdep x.2.2.2.2.1
    have h5 := A5.hdep x.2.2.2.2.2.1
    have h6 := A6.hdep x.2.2.2.2.2.2
    simp only [PyData.depth, PyData.depthAll]; omega
  eqv x y := by
    simp only [PyData.eqv, PyData.eqvAll, Bool.and_true, A0.eqv, A1.eqv, A2.eqv, A3.eqv, A4.eqv, A5.eqv, A6.eqv]
    rw [Bool.eq_iff_iff]; simp only [Bool.and_eq_true, decide_eq_true_eq, Prod.ext_iff]
theorem tyI_no (x : Int) : PyData.eqv (tyI.enc x) .none = false ∧ PyData.eqv .none (tyI.enc x) = false := by simp [tyI, PyData.eqv]
/-- a list whose own colour does not matter (it is read alone) -/
def rB {α : Type} [DecidableEq α] (K : PySem.W.Frag) (A : Ty α) (c : Cl) (H : Hp) (v : V) (xs : List α) : Prop := ∃ (a : Addr) (us : List V), v = .ref a ∧ SqL K H a us ∧ Rs A c H us xs
/-- the same, a list that stands by itself -/
def rP {α : Type} [DecidableEq α] (A : Ty α) (c : Cl) (H : Hp) (v : V) (xs : List α) : Prop := ∃ (a : Addr) (us : List V), v = .ref a ∧ H a = some (.lst us) ∧ Rs A c H us xs
/-- a list of one's own, rooted at p, not there ahead of H0 -/
structure Own {α : Type} [DecidableEq α] (A : Ty α) (H0 : Hp) (c : Cl) (H : Hp) (p : Addr) (us : List V) (xs : List α) : Prop where
  col : c p = some p
  obj : H p = some (.lst us)
  rs : Rs A c H us xs
  new : H0 p = none
def rO {α : Type} [DecidableEq α] (A : Ty α) (H0 : Hp) (c : Cl) (H : Hp) (v : V) (xs : List α) : Prop := ∃ (p : Addr) (us : List V), v = .ref p ∧ Own A H0 c H p us xs
section
variable {K : PySem.W.Frag} {α : Type} [DecidableEq α] {A : Ty α} {c c' c0 : Cl} {H H' H0 : Hp} {S T : List Addr} {p : Addr} {us : List V} {xs : List α}
theorem tyL_b {v : V} (h : (tyL A).r c H v xs) : rB K A c H v xs := let ⟨a, us, e, _, q, r⟩ := h; ⟨a, us, e, .inl (.inl q), r⟩
theorem rP.b {v : V} (h : rP A c H v xs) : rB K A c H v xs := let ⟨a, us, e, q, r⟩ := h; ⟨a, us, e, .inl (.inl q), r⟩
theorem tyL_p {v : V} (h : (tyL A).r c H v xs) : rP A c H v xs := let ⟨a, us, e, _, q, r⟩ := h; ⟨a, us, e, q, r⟩
theorem Own.pl (h : Own A H0 c H p us xs) : rP A c H (.ref p) xs := ⟨p, us, rfl, h.obj, h.rs⟩
theorem Step.pl0 {v : V} (g : Step [] c0 H0 c H) (h : rP A c0 H0 v xs) : rP A c H v xs := by
  obtain ⟨a, us, e, q, r⟩ := h
  exact ⟨a, us, e, g.keep a _ q (fun _ _ z => by cases z), r.up g.up⟩
theorem Own.b (h : Own A H0 c H p us xs) : rB K A c H (.ref p) xs := ⟨p, us, rfl, .inl (.inl h.obj), h.rs⟩
theorem Own.step (h : Own A H0 c H p us xs) (g : Step T c H c' H') (n : p ∉ T) : Own A H0 c' H' p us xs :=
  ⟨(g.col p _ h.obj).trans h.col, g.keep p _ h.obj (fun r e => by rw [h.col] at e; cases e; exact n), h.rs.up g.up, h.new⟩
theorem Own.step0 (h : Own A H0 c H p us xs) (g : Step [] c H c' H') : Own A H0 c' H' p us xs := h.step g (fun z => by cases z)
theorem Own.step1 {q : Addr} (h : Own A H0 c H p us xs) (g : Step [q] c H c' H') (n : p ≠ q) : Own A H0 c' H' p us xs := h.step g (fun z => n (List.mem_singleton.mp z))
/-- it is frozen -/
theorem Own.frz (h : Own A H0 c H p us xs) : (tyL A).r (frz c p) H (.ref p) xs := ⟨p, us, rfl, frz_self h.col, h.obj, h.rs.up frz_up⟩
theorem Own.other {q : Addr} (h : Own A H0 c H p us xs) (n : p ≠ q) : Own A H0 (Kb.frz c q) H p us xs := ⟨frz_ne h.col n, h.obj, h.rs.up frz_up, h.new⟩
/-- what the base knows of a list that is read alone stands -/
theorem Step.sq0 {a : Addr} (g : Step [] c0 H0 c H) (h : SqL K H0 a us) : SqL K H a us := by
  rcases h with (q | ⟨o, q⟩) | q
  · exact .inl (.inl (g.keep a _ q fun _ _ z => by cases z))
  · exact .inl (.inr ⟨o, g.keep a _ q fun _ _ z => by cases z⟩)
  · exact .inr q
theorem Step.b0 {v : V} (g : Step [] c0 H0 c H) (h : rB K A c0 H0 v xs) : rB K A c H v xs := by
  obtain ⟨a, us, e, q, r⟩ := h
  exact ⟨a, us, e, g.sq0 q, r.up g.up⟩
end
end Kb
/-! Kb3: what expressions evaluate to while nothing changes -/
namespace Kb
open PySem L2

def Pv (t : TE) (σ : L2.St) (H : Hp) (v : V) : Prop := ∀ Q : VK, Q v H → t σ H Q
def PvT (t : TT) (σ : L2.St) (H : Hp) (b : Bool) : Prop := ∀ Q : Bool → Hp → Prop, Q b H → t σ H Q
def PvA (t : TA) (σ : L2.St) (H : Hp) (vs : List V) : Prop := ∀ Q : List V → Hp → Prop, Q vs H → t σ H Q
def PvO (t : TO) (σ : L2.St) (H : Hp) (o : Option Int) : Prop := ∀ Q : Option Int → Hp → Prop, Q o H → t σ H Q
/-- an operation by values -/
def Rv (r : R2) (x y : V) (H : Hp) (z : V) : Prop := ∀ Q : VK, Q z H → r x y H Q
def Rc (r : List V → Hp → VK → Prop) (vs : List V) (H : Hp) (z : V) : Prop := ∀ Q : VK, Q z H → r vs H Q
section
variable {t ta tb tc : TE} {σ : L2.St} {H : Hp} {v x y z : V} {r r' : R2}
theorem Pv.go (h : Pv t σ H v) {Q : VK} (q : Q v H) : t σ H Q := h Q q
theorem PvT.go {t : TT} {b : Bool} (h : PvT t σ H b) {Q : Bool → Hp → Prop} (q : Q b H) : t σ H Q := h Q q
theorem PvA.go {t : TA} {vs : List V} (h : PvA t σ H vs) {Q : List V → Hp → Prop} (q : Q vs H) : t σ H Q := h Q q
theorem Pv.is {w : V} (h : Pv t σ H v) (e : v = w) : Pv t σ H w := e ▸ h
theorem PvT.is {t : TT} {a b : Bool} (h : PvT t σ H a) (e : a = b) : PvT t σ H b := e ▸ h
theorem pv_v {i : Nat} (h : σ[i]? = some (some v)) : Pv (tVar i) σ H v := fun _ q => ⟨v, h, q⟩
theorem pv_c : Pv (tC v) σ H v := fun _ q => q
theorem pv_2 (ha : Pv ta σ H x) (hb : Pv tb σ H y) (hr : Rv r x y H z) : Pv (tOp r ta tb) σ H z := fun Q q => ha _ (hb _ (hr Q q))
theorem pv_1 {r : V → Hp → VK → Prop} (ha : Pv ta σ H x) (hr : ∀ Q : VK, Q z H → r x H Q) : Pv (tUn r ta) σ H z := fun Q q => ha _ (hr Q q)
theorem pv_cb {r : List V → Hp → VK → Prop} {ta : TA} {vs : List V} (ha : PvA ta σ H vs) (hr : Rc r vs H z) : Pv (tCB r ta) σ H z := fun Q q => ha _ (hr Q q)
theorem pa_n : PvA tNil σ H [] := fun _ q => q
theorem pa_c {tr : TA} {vs : List V} (ha : Pv ta σ H x) (hr : PvA tr σ H vs) : PvA (tCons ta tr) σ H (x :: vs) := fun _ q => ha _ (hr _ q)
theorem pv_ch {a b : Bool} (ha : Pv ta σ H x) (hb : Pv tb σ H y) (hr : Rv r x y H (.bl a)) (hc : a = true → Pv tc σ H z) (hr' : a = true → Rv r' y z H (.bl b)) : Pv (tChain r r' ta tb tc) σ H (.bl (a && b)) := fun Q q => ha _ (hb _ (hr _ ⟨a, rfl, by
  cases a with
  | true => exact iteT (hc rfl _ (hr' rfl _ q))
  | false => exact iteF q⟩))
theorem pv_if {c : TT} {b : Bool} (hc : PvT c σ H b) (h1 : b = true → Pv ta σ H v) (h2 : b = false → Pv tb σ H v) : Pv (tIf c ta tb) σ H v := fun Q q => hc _ (by
  cases b with
  | true => exact iteT (h1 rfl Q q)
  | false => exact iteF (h2 rfl Q q))
theorem pv_andV {a b : Bool} (h1 : Pv ta σ H (.bl a)) (h2 : a = true → Pv tb σ H (.bl b)) : Pv (tAndV ta tb) σ H (.bl (a && b)) := fun Q q => h1 _ ⟨a, rfl, by
  cases a with
  | true => exact iteT (h2 rfl Q q)
  | false => exact iteF q⟩
theorem pv_orV {a b : Bool} (h1 : Pv ta σ H (.bl a)) (h2 : a = false → Pv tb σ H (.bl b)) : Pv (tOrV ta tb) σ H (.bl (a || b)) := fun Q q => h1 _ ⟨a, rfl, by
  cases a with
  | true => exact iteT q
  | false => exact iteF (h2 rfl Q q)⟩
theorem pv_notV {a : Bool} (h1 : Pv ta σ H (.bl a)) : Pv (tNotV ta) σ H (.bl (!a)) := fun Q q => h1 _ ⟨a, rfl, q⟩
theorem pt_t {b : Bool} (h : Pv t σ H (.bl b)) : PvT (tTest t) σ H b := fun _ q => h _ ⟨b, rfl, q⟩
theorem pt_b {b : Bool} (h : Pv t σ H (.bl b)) : PvT (tB t) σ H b := fun _ q => h _ ⟨b, rfl, q⟩
theorem pt_and {t u : TT} {a b : Bool} (h1 : PvT t σ H a) (h2 : a = true → PvT u σ H b) : PvT (tAnd t u) σ H (a && b) := fun Q q => h1 _ (by
  cases a with
  | true => exact iteT (h2 rfl Q q)
  | false => exact iteF q)
theorem pt_or {t u : TT} {a b : Bool} (h1 : PvT t σ H a) (h2 : a = false → PvT u σ H b) : PvT (tOr t u) σ H (a || b) := fun Q q => h1 _ (by
  cases a with
  | true => exact iteT q
  | false => exact iteF (h2 rfl Q q))
theorem pt_not {t : TT} {a : Bool} (h1 : PvT t σ H a) : PvT (tNot t) σ H (!a) := fun _ q => h1 _ q
theorem po_n : PvO tNoPart σ H none := fun _ q => q
theorem po_s {i : Int} (h : Pv t σ H (.int i)) : PvO (tPart t) σ H (some i) := fun _ q => h _ ⟨i, rfl, q⟩
/-! #### operations -/
theorem rv_i {g : Int → Int → V} {i j : Int} : Rv (rI0 g) (.int i) (.int j) H (g i j) := fun _ q => ⟨i, j, rfl, rfl, q⟩
theorem rv_ic {C : Int → Int → Prop} {g : Int → Int → V} {i j : Int} (hc : C i j) : Rv (rI C g) (.int i) (.int j) H (g i j) := fun _ q => ⟨i, j, rfl, rfl, hc, q⟩
theorem rv_eqi {i j : Int} : Rv rEq (.int i) (.int j) H (.bl (decide (i = j))) := fun _ q => ⟨rfl, by rw [dec_int]; rw [show (decide (i = j)) = (i == j) from by rw [Bool.eq_iff_iff]; simp] at q; exact q⟩
theorem rv_nei {i j : Int} : Rv rNe (.int i) (.int j) H (.bl (!decide (i = j))) := fun _ q => ⟨rfl, by rw [dec_int]; rw [show (decide (i = j)) = (i == j) from by rw [Bool.eq_iff_iff]; simp] at q; exact q⟩
theorem rv_eqs {i j : Str} : Rv rEq (.str i) (.str j) H (.bl (decide (i = j))) := fun _ q => ⟨rfl, by rw [dec_str]; rw [show (decide (i = j)) = (i == j) from by rw [Bool.eq_iff_iff]; simp] at q; exact q⟩
theorem rv_nes {i j : Str} : Rv rNe (.str i) (.str j) H (.bl (!decide (i = j))) := fun _ q => ⟨rfl, by rw [dec_str]; rw [show (decide (i = j)) = (i == j) from by rw [Bool.eq_iff_iff]; simp] at q; exact q⟩
theorem rv_eqb {i j : Bool} : Rv rEq (.bl i) (.bl j) H (.bl (decide (i = j))) := fun _ q => ⟨rfl, by rw [dec_bl]; rw [show (decide (i = j)) = (i == j) from by rw [Bool.eq_iff_iff]; simp] at q; exact q⟩
theorem rv_neb {i j : Bool} : Rv rNe (.bl i) (.bl j) H (.bl (!decide (i = j))) := fun _ q => ⟨rfl, by rw [dec_bl]; rw [show (decide (i = j)) = (i == j) from by rw [Bool.eq_iff_iff]; simp] at q; exact q⟩
/-- == of data -/
theorem rv_eqd {α : Type} [DecidableEq α] {A : Ty α} {K : PySem.W.Frag} {c : Cl} {a b : α} (h1 : A.r c H x a) (h2 : A.r c H y b) (hd : A.dep ≤ 64) : Rv (rEqD K) x y H (.bl (decide (a = b))) := fun Q q =>
  ⟨A.enc a, A.enc b, A.dp h1, A.dp h2, by unfold SeqAt.shaped; rw [A.lay h1, decide_eq_true (Nat.le_trans (A.hdep a) hd)]; rfl, by unfold SeqAt.shaped; rw [A.lay h2, decide_eq_true (Nat.le_trans (A.hdep b) hd)]; rfl, by rw [A.eqv]; exact q⟩
theorem rv_ned {α : Type} [DecidableEq α] {A : Ty α} {K : PySem.W.Frag} {c : Cl} {a b : α} (h1 : A.r c H x a) (h2 : A.r c H y b) (hd : A.dep ≤ 64) : Rv (rNeD K) x y H (.bl (!decide (a = b))) := fun Q q =>
  ⟨A.enc a, A.enc b, A.dp h1, A.dp h2, by unfold SeqAt.shaped; rw [A.lay h1, decide_eq_true (Nat.le_trans (A.hdep a) hd)]; rfl, by unfold SeqAt.shaped; rw [A.lay h2, decide_eq_true (Nat.le_trans (A.hdep b) hd)]; rfl, by rw [A.eqv]; exact q⟩
theorem rB.shape {α : Type} [DecidableEq α] {A : Ty α} {K : PySem.W.Frag} {c : Cl} {v : V} {xs : List α} (h : rB K A c H v xs) (hd : A.dep + 1 ≤ 64) : Dp K H v ((tyL A).enc xs) ∧ SeqAt.shaped ((tyL A).enc xs) = true := by
  obtain ⟨a, us, rfl, q, r⟩ := h
  refine ⟨.lst q r.dp, ?_⟩
  unfold SeqAt.shaped
  rw [show ((tyL A).enc xs).canLay0 = true from r.lay, decide_eq_true (Nat.le_trans ((tyL A).hdep xs) hd)]
  rfl
/-- == of lists, whatever their colours -/
theorem rv_eql {α : Type} [DecidableEq α] {A : Ty α} {K : PySem.W.Frag} {c : Cl} {a b : List α} (h1 : rB K A c H x a) (h2 : rB K A c H y b) (hd : A.dep + 1 ≤ 64) : Rv (rEqD K) x y H (.bl (decide (a = b))) := fun Q q =>
  ⟨_, _, (h1.shape (K := K) hd).1, (h2.shape (K := K) hd).1, (h1.shape (K := K) hd).2, (h2.shape (K := K) hd).2, by rw [(tyL A).eqv]; exact q⟩
theorem rv_nel {α : Type} [DecidableEq α] {A : Ty α} {K : PySem.W.Frag} {c : Cl} {a b : List α} (h1 : rB K A c H x a) (h2 : rB K A c H y b) (hd : A.dep + 1 ≤ 64) : Rv (rNeD K) x y H (.bl (!decide (a = b))) := fun Q q =>
  ⟨_, _, (h1.shape (K := K) hd).1, (h2.shape (K := K) hd).1, (h1.shape (K := K) hd).2, (h2.shape (K := K) hd).2, by rw [(tyL A).eqv]; exact q⟩
theorem rv_isN : Rv (fun x y H Q => y = .non ∧ Q (.bl (decide (x = .non))) H) x .non H (.bl (decide (x = .non))) := fun _ q => ⟨rfl, q⟩
theorem rv_isNN : Rv (fun x y H Q => y = .non ∧ Q (.bl (!decide (x = .non))) H) x .non H (.bl (!decide (x = .non))) := fun _ q => ⟨rfl, q⟩
theorem rv_cats {i j : Str} (h : i.length + j.length ≤ sizeLine) : Rv (fun x y H Q => ∃ i j, x = .str i ∧ y = .str j ∧ i.length + j.length ≤ sizeLine ∧ Q (.str (i ++ j)) H) (.str i) (.str j) H (.str (i ++ j)) := fun _ q => ⟨i, j, rfl, rfl, h, q⟩
/-- xs[i] -/
theorem ixN_map {n m : Nat} (h : n = m) (i : Int) : ixN n i = ixN m i := by rw [h]
theorem Rs.at {α : Type} [DecidableEq α] {A : Ty α} {c : Cl} {us : List V} {xs : List α} {i : Int} {a : α} (h : Rs A c H us xs) (e : atI xs i = some a) : ∃ u, atI us i = some u ∧ A.r c H u a := by
  unfold atI at e ⊢
  rw [h.len]
  cases q : ixN xs.length i with
  | none => rw [q] at e; cases e
  | some j =>
    rw [q] at e
    exact h.getX e
theorem rv_ixl {K : PySem.W.Frag} {a : Addr} {us : List V} {i : Int} (h : Rd H a (.lst us)) (e : atI us i = some v) : Rv (rIxL K) (.ref a) (.int i) H v := fun _ q => ⟨a, us, i, v, rfl, rfl, .inl h, e, q⟩
theorem rv_ixt {K : PySem.W.Frag} {a : Addr} {us : List V} {i : Int} (h : Rd H a (.tup us)) (e : atI us i = some v) : Rv (rIxT K) (.ref a) (.int i) H v := fun _ q => ⟨a, us, i, v, rfl, rfl, .inl h, e, q⟩
theorem rv_ixs {s : Str} {i : Int} {n : Nat} (h : s.length ≤ sizeLine) (e : atI s.cps.toList i = some n) : Rv rIxS (.str s) (.int i) H (.str ⟨#[n]⟩) := fun _ q => ⟨s, i, n, rfl, rfl, h, e, q⟩
/-! #### built-ins -/
theorem rc_abs {i : Int} : Rc (fun xs H Q => ∃ i, xs = [.int i] ∧ Q (.int (if i < 0 then -i else i)) H) [.int i] H (.int (if i < 0 then -i else i)) := fun _ q => ⟨i, rfl, q⟩
theorem rc_max {i j : Int} : Rc (fun xs H Q => ∃ i j, xs = [.int i, .int j] ∧ Q (.int (if j > i then j else i)) H) [.int i, .int j] H (.int (if j > i then j else i)) := fun _ q => ⟨i, j, rfl, q⟩
theorem rc_min {i j : Int} : Rc (fun xs H Q => ∃ i j, xs = [.int i, .int j] ∧ Q (.int (if j < i then j else i)) H) [.int i, .int j] H (.int (if j < i then j else i)) := fun _ q => ⟨i, j, rfl, q⟩
theorem rc_int {i : Int} : Rc (fun xs H Q => (∃ i, xs = [.int i] ∧ Q (.int i) H) ∨ ∃ k, xs = [.bl k] ∧ Q (.int (if k then 1 else 0)) H) [.int i] H (.int i) := fun _ q => .inl ⟨i, rfl, q⟩
theorem rc_lenl {K : PySem.W.Frag} {a : Addr} {us : List V} (h : Rd H a (.lst us)) : Rc (fun xs H Q => ∃ p ys, xs = [.ref p] ∧ (SqL K H p ys ∨ SqT K H p ys) ∧ Q (.int ys.length) H) [.ref a] H (.int us.length) := fun _ q => ⟨a, us, rfl, .inl (.inl h), q⟩
theorem rc_lent {K : PySem.W.Frag} {a : Addr} {us : List V} (h : Rd H a (.tup us)) : Rc (fun xs H Q => ∃ p ys, xs = [.ref p] ∧ (SqL K H p ys ∨ SqT K H p ys) ∧ Q (.int ys.length) H) [.ref a] H (.int us.length) := fun _ q => ⟨a, us, rfl, .inr (.inl h), q⟩
theorem rc_lenB {α : Type} [DecidableEq α] {A : Ty α} {K : PySem.W.Frag} {c : Cl} {xs : List α} (h : rB K A c H v xs) : Rc (fun xs H Q => ∃ p ys, xs = [.ref p] ∧ (SqL K H p ys ∨ SqT K H p ys) ∧ Q (.int ys.length) H) [v] H (.int xs.length) := fun Q q => by
  obtain ⟨a, us, rfl, h1, r⟩ := h
  exact ⟨a, us, rfl, .inl h1, by rw [r.len]; exact q⟩
theorem rc_lens {s : Str} (h : s.length ≤ sizeLine) : Rc (fun xs H Q => ∃ z, xs = [.str z] ∧ z.length ≤ sizeLine ∧ Q (.int z.length) H) [.str s] H (.int s.length) := fun _ q => ⟨s, rfl, h, q⟩
/-- truth of a list -/
theorem ptr_list {K : PySem.W.Frag} {a : Addr} {us : List V} (h : Rd H a (.lst us)) : SqL K H a us := .inl h
end
/-! #### the inverse of partial values -/
theorem opt_inv {α β : Type} {o : Option α} {f : α → Res β} {y : β} (h : opt o f = .ok y) : ∃ x, o = some x ∧ f x = .ok y := by
  cases o with
  | some x => exact ⟨x, rfl, h⟩
  | none => cases h
theorem chk_inv {β : Type} {b : Bool} {r : Res β} {y : β} (h : chk b r = .ok y) : b = true ∧ r = .ok y := by
  cases b with
  | true => exact ⟨rfl, h⟩
  | false => cases h
/-- and, or of partial tests -/
def andN (a b : Res Bool) : Res Bool := a.bind fun x => br x b (.ok false)
def orN (a b : Res Bool) : Res Bool := a.bind fun x => br x (.ok true) b
theorem pt_andN {t u : TT} {σ : L2.St} {H : Hp} {m n : Res Bool} {b : Bool} (h : andN m n = .ok b) (h1 : ∀ a, m = .ok a → PvT t σ H a) (h2 : ∀ a, n = .ok a → PvT u σ H a) : PvT (tAnd t u) σ H b := by
  cases m with
  | ok x =>
    cases x with
    | true => exact fun Q q => h1 true rfl _ (iteT (h2 b h Q q))
    | false =>
      have e : false = b := Res.ok.inj h
      subst e
      exact fun Q q => h1 false rfl _ (iteF q)
  | err e => cases h
  | stk => cases h
theorem pt_orN {t u : TT} {σ : L2.St} {H : Hp} {m n : Res Bool} {b : Bool} (h : orN m n = .ok b) (h1 : ∀ a, m = .ok a → PvT t σ H a) (h2 : ∀ a, n = .ok a → PvT u σ H a) : PvT (tOr t u) σ H b := by
  cases m with
  | ok x =>
    cases x with
    | true =>
      have e : true = b := Res.ok.inj h
      subst e
      exact fun Q q => h1 true rfl _ (iteT q)
    | false => exact fun Q q => h1 false rfl _ (iteF (h2 b h Q q))
  | err e => cases h
  | stk => cases h
theorem pv_andN {t u : TE} {σ : L2.St} {H : Hp} {m n : Res Bool} {b : Bool} (h : andN m n = .ok b) (h1 : ∀ a, m = .ok a → Pv t σ H (.bl a)) (h2 : ∀ a, n = .ok a → Pv u σ H (.bl a)) : Pv (tAndV t u) σ H (.bl b) := by
  cases m with
  | ok x =>
    cases x with
    | true => exact fun Q q => h1 true rfl _ ⟨true, rfl, iteT (h2 b h Q q)⟩
    | false =>
      have e : false = b := Res.ok.inj h
      subst e
      exact fun Q q => h1 false rfl _ ⟨false, rfl, iteF q⟩
  | err e => cases h
  | stk => cases h
theorem pv_orN {t u : TE} {σ : L2.St} {H : Hp} {m n : Res Bool} {b : Bool} (h : orN m n = .ok b) (h1 : ∀ a, m = .ok a → Pv t σ H (.bl a)) (h2 : ∀ a, n = .ok a → Pv u σ H (.bl a)) : Pv (tOrV t u) σ H (.bl b) := by
  cases m with
  | ok x =>
    cases x with
    | true =>
      have e : true = b := Res.ok.inj h
      subst e
      exact fun Q q => h1 true rfl _ ⟨true, rfl, iteT q⟩
    | false => exact fun Q q => h1 false rfl _ ⟨false, rfl, iteF (h2 b h Q q)⟩
  | err e => cases h
  | stk => cases h
/-- a partial value at a step -/
theorem Kont.bindP {α β : Type} {P : β → Cl → Hp → Prop} {PE : Err → Cl → Hp → Prop} {S : List Addr} {c0 : Cl} {H0 : Hp} {m : Res α} {f : α → Res β} (k : Kont P PE S c0 H0 (m.bind f)) (hm : ∀ e, m ≠ .err e) : ∃ x, m = .ok x ∧ Kont P PE S c0 H0 (f x) := by
  cases m with
  | ok x => exact ⟨x, rfl, k⟩
  | err e => exact absurd rfl (hm e)
  | stk => exact k.elim
theorem ne_ok {α : Type} {x : α} (e : Err) : (Res.ok x) ≠ Res.err e := fun h => by cases h
theorem ne_opt {α β : Type} {o : Option α} {f : α → Res β} (h : ∀ x e, f x ≠ .err e) (e : Err) : opt o f ≠ .err e := by
  cases o with
  | some x => exact h x e
  | none => exact fun z => by cases z
theorem ne_chk {β : Type} {b : Bool} {r : Res β} (h : ∀ e, r ≠ .err e) (e : Err) : chk b r ≠ .err e := by
  cases b with
  | true => exact h e
  | false => exact fun z => by cases z
theorem ne_andN {m n : Res Bool} (h1 : ∀ e, m ≠ .err e) (h2 : ∀ e, n ≠ .err e) (e : Err) : andN m n ≠ .err e := by
  cases m with
  | ok x =>
    cases x with
    | true => exact h2 e
    | false => exact fun z => by cases z
  | err x => exact absurd rfl (h1 x)
  | stk => exact fun z => by cases z
theorem ne_orN {m n : Res Bool} (h1 : ∀ e, m ≠ .err e) (h2 : ∀ e, n ≠ .err e) (e : Err) : orN m n ≠ .err e := by
  cases m with
  | ok x =>
    cases x with
    | true => exact fun z => by cases z
    | false => exact h2 e
  | err x => exact absurd rfl (h1 x)
  | stk => exact fun z => by cases z
end Kb
/-! Kb4: what changes the heap; loops -/
namespace Kb
open PySem L2
section
variable {t ta tb : TE} {σ : L2.St} {c c0 : Cl} {H H0 : Hp} {v x y z : V} {S : List Addr}
/-! #### openings -/
theorem op_u {r : R2} {Q : VK} (h : ta σ H fun x H1 => tb σ H1 fun y H2 => r x y H2 Q) : tOp r ta tb σ H Q := h
theorem un_u {r : V → Hp → VK → Prop} {Q : VK} (h : ta σ H fun x H1 => r x H1 Q) : tUn r ta σ H Q := h
theorem cons_u {tr : TA} {Q : List V → Hp → Prop} (h : ta σ H fun x H1 => tr σ H1 fun xs H2 => Q (x :: xs) H2) : tCons ta tr σ H Q := h
theorem nil_u {Q : List V → Hp → Prop} (h : Q [] H) : tNil σ H Q := h
def MkT (Q : VK) (xs : List V) (H1 : Hp) : Prop := xs.length ≤ sizeLine ∧ ∀ p, H1 p = none → Q (.ref p) (upd H1 p (.tup xs))
def MkL (Q : VK) (xs : List V) (H1 : Hp) : Prop := xs.length ≤ sizeLine ∧ ∀ p, H1 p = none → Q (.ref p) (upd H1 p (.lst xs))
theorem tup_u {ta : TA} {Q : VK} (h : ta σ H (MkT Q)) : tTup ta σ H Q := h
theorem lst_u {ta : TA} {Q : VK} (h : ta σ H (MkL Q)) : tLst ta σ H Q := h
theorem cb_u {r : List V → Hp → VK → Prop} {ta : TA} {Q : VK} (h : ta σ H fun vs H1 => r vs H1 Q) : tCB r ta σ H Q := h
theorem call_u {sp : Sp} {dvs : List V} {E : XK} {ta : TA} {Q : VK} (h : ta σ H fun vs H1 => sp (vs ++ dvs) H1 Q E) : tCall sp dvs E ta σ H Q := h
theorem callS_u {sp : Sp} {E : L2.St → XK} {ta : TA} {Q : VK} (h : ta σ H fun vs H1 => sp vs H1 Q (E σ)) : tCallS sp E ta σ H Q := h
theorem test_u {Q : Bool → Hp → Prop} (h : t σ H fun x H' => ∃ k, x = .bl k ∧ Q k H') : tTest t σ H Q := h
theorem tB_u {Q : Bool → Hp → Prop} (h : t σ H fun x H' => ∃ k, x = .bl k ∧ Q k H') : tB t σ H Q := h
theorem and_u {t u : TT} {Q : Bool → Hp → Prop} (h : t σ H fun c H1 => if c = true then u σ H1 Q else Q false H1) : tAnd t u σ H Q := h
theorem or_u {t u : TT} {Q : Bool → Hp → Prop} (h : t σ H fun c H1 => if c = true then Q true H1 else u σ H1 Q) : tOr t u σ H Q := h
theorem not_u {t : TT} {Q : Bool → Hp → Prop} (h : t σ H fun c H1 => Q (!c) H1) : tNot t σ H Q := h
theorem andV_u {Q : VK} (h : ta σ H fun x H1 => ∃ c, x = .bl c ∧ if c = true then tb σ H1 Q else Q (.bl false) H1) : tAndV ta tb σ H Q := h
theorem orV_u {Q : VK} (h : ta σ H fun x H1 => ∃ c, x = .bl c ∧ if c = true then Q (.bl true) H1 else tb σ H1 Q) : tOrV ta tb σ H Q := h
theorem notV_u {Q : VK} (h : ta σ H fun x H1 => ∃ c, x = .bl c ∧ Q (.bl (!c)) H1) : tNotV ta σ H Q := h
theorem ifE_u {c : TT} {Q : VK} (h : c σ H fun b H1 => if b = true then ta σ H1 Q else tb σ H1 Q) : tIf c ta tb σ H Q := h
theorem seq_u {t u : TS} {D : Ends} (h : t { D with nx := u D } σ H) : tSeq t u D σ H := h
theorem next_u {D : Ends} (h : D.nx σ H) : tNext D σ H := h
theorem drop_u {D : Ends} (h : t σ H fun _ H1 => D.nx σ H1) : tDrop t D σ H := h
theorem ret_u {D : Ends} (h : t σ H D.rt) : tRet t D σ H := h
theorem retN_u {D : Ends} (h : D.rt .non H) : tRetN D σ H := h
theorem ifS_u {c : TT} {t u : TS} {D : Ends} (h : c σ H fun b H1 => if b = true then t D σ H1 else u D σ H1) : tIfS c t u D σ H := h
theorem asg_u {g : TG} {D : Ends} (h : t σ H fun x H1 => g x σ H1 D.nx) : tAsg t g D σ H := h
theorem gname_u {i : Nat} {Q : L2.St → Hp → Prop} (h : Q (σ.set i (some v)) H) : gName i v σ H Q := h
theorem gtup_u {K : PySem.W.Frag} {n : Nat} {t : TGs} {a : Addr} {us : List V} {Q : L2.St → Hp → Prop} (r : Rd H a (.tup us)) (hn : us.length = n) (h : t us σ H Q) : gTup K n t (.ref a) σ H Q := ⟨a, us, rfl, .inl r, hn, h⟩
theorem gcons_u {t : TG} {u : TGs} {vs : List V} {Q : L2.St → Hp → Prop} (h : t v σ H fun σ' H' => u vs σ' H' Q) : gCons t u (v :: vs) σ H Q := ⟨v, vs, rfl, h⟩
theorem gnil_u {Q : L2.St → Hp → Prop} (h : Q σ H) : gNil [] σ H Q := ⟨rfl, h⟩
theorem gsub_u {to ti : TE} {t : TSet} {Q : L2.St → Hp → Prop} (h : to σ H fun o H1 => ti σ H1 fun i H2 => t o i v H2 fun H3 => Q σ H3) : gSub to ti t v σ H Q := h
theorem bm_u {K : PySem.W.Frag} {T : String} {r : V → List V → Hp → VK → Prop} {to : TE} {t : TA} {Q : VK} (h : to σ H fun x H1 => tyV K T x H1 ∧ t σ H1 fun xs H2 => r x xs H2 Q) : tBM K T r to t σ H Q := h
theorem bm0_u {K : PySem.W.Frag} {T : String} {r : V → List V → Hp → VK → Prop} {to : TE} {Q : VK} (h : to σ H fun x H1 => tyV K T x H1 ∧ r x [] H1 Q) : tBM0 K T r to σ H Q := h
theorem ty_list {K : PySem.W.Frag} {p : Addr} {us : List V} (h : Rd H p (.lst us)) : tyV K "list" (.ref p) H := .inl ⟨rfl, us, .inl h⟩
theorem sl_u {r : V → Option Int → Option Int → Hp → VK → Prop} {te : TE} {tl th : TO} {Q : VK} (h : te σ H fun x H1 => tl σ H1 fun l H2 => th σ H2 fun u H3 => r x l u H3 Q) : tSl r te tl th σ H Q := h
theorem PvO.go {t : TO} {o : Option Int} (h : PvO t σ H o) {Q : Option Int → Hp → Prop} (q : Q o H) : t σ H Q := h Q q
/-! #### ends that make new objects -/
theorem tup_end {vs : List V} (hl : vs.length ≤ 1000) (w : Wf c H) {Q : VK} (q : ∀ p c' H', Step [] c H c' H' → c' p = none → Rd H' p (.tup vs) → H p = none → Q (.ref p) H') : MkT Q vs H :=
  ⟨Nat.le_trans hl (by decide), fun p n => q p (setC c p none) _ (Step.new w n fun r e => by cases e) setC_same (.inl upd_same) n⟩
theorem lst_end {vs : List V} (hl : vs.length ≤ 1000) (w : Wf c H) {Q : VK} (q : ∀ p c' H', Step [] c H c' H' → c' p = some p → H' p = some (.lst vs) → H p = none → Q (.ref p) H') : MkL Q vs H :=
  ⟨Nat.le_trans hl (by decide), fun p n => q p (setC c p (some p)) _ (Step.new w n fun r e => by cases e; exact .inl rfl) setC_same upd_same n⟩
/-- a new list, wherever it comes from -/
theorem new_end {vs : List V} (w : Wf c H) {Q : VK} (q : ∀ p c' H', Step [] c H c' H' → c' p = some p → H' p = some (.lst vs) → H p = none → Q (.ref p) H') : ∀ p, H p = none → Q (.ref p) (upd H p (.lst vs)) :=
  fun p n => q p (setC c p (some p)) _ (Step.new w n fun r e => by cases e; exact .inl rfl) setC_same upd_same n
theorem newT_end {vs : List V} (w : Wf c H) {Q : VK} (q : ∀ p c' H', Step [] c H c' H' → c' p = none → Rd H' p (.tup vs) → H p = none → Q (.ref p) H') : ∀ p, H p = none → Q (.ref p) (upd H p (.tup vs)) :=
  fun p n => q p (setC c p none) _ (Step.new w n fun r e => by cases e) setC_same (.inl upd_same) n
section
variable {α : Type} [DecidableEq α] {A : Ty α} {p : Addr} {us : List V} {xs : List α} {a : α} {u : V}
theorem append_end (o : Own A H0 c H p us xs) (w : Wf c H) (r : A.r c H u a) (hl : xs.length < sizeLine) {Q : VK} (q : ∀ H', Step [p] c H c H' → Own A H0 c H' p (us ++ [u]) (xs ++ [a]) → Q .non H') : rAppend (.ref p) [u] H Q := by
  have st : Step [p] c H c (upd H p (.lst (us ++ [u]))) := Step.mut w o.obj o.col
  exact ⟨p, us, u, rfl, rfl, o.obj, by rw [o.rs.len]; exact hl, q _ st ⟨o.col, upd_same, (o.rs.up st.up).app ⟨A.up st.up r, trivial⟩, o.new⟩⟩
theorem set_end (o : Own A H0 c H p us xs) (w : Wf c H) (r : A.r c H u a) {i : Int} {j : Nat} (hi : ixN xs.length i = some j) {Q : Hp → Prop} (q : ∀ H', Step [p] c H c H' → Own A H0 c H' p (us.set j u) (xs.set j a) → Q H') : rSetL (.ref p) (.int i) u H Q := by
  have st : Step [p] c H c (upd H p (.lst (us.set j u))) := Step.mut w o.obj o.col
  exact ⟨p, us, i, j, rfl, rfl, o.obj, by rw [o.rs.len]; exact hi, q _ st ⟨o.col, upd_same, (o.rs.up st.up).set (A.up st.up r) j, o.new⟩⟩
theorem reverse_end (o : Own A H0 c H p us xs) (w : Wf c H) {Q : VK} (q : ∀ H', Step [p] c H c H' → Own A H0 c H' p us.reverse xs.reverse → Q .non H') : rReverse (.ref p) [] H Q := by
  have st : Step [p] c H c (upd H p (.lst us.reverse)) := Step.mut w o.obj o.col
  exact ⟨p, us, rfl, rfl, o.obj, q _ st ⟨o.col, upd_same, (o.rs.up st.up).rev, o.new⟩⟩
/-- an extension by a list that is read -/
theorem extend_end {vs : List V} {ys : List α} {b : Addr} (o : Own A H0 c H p us xs) (w : Wf c H) (hb : H b = some (.lst vs)) (r : Rs A c H vs ys) (hl : xs.length + ys.length ≤ sizeLine) {Q : VK} (q : ∀ H', Step [p] c H c H' → Own A H0 c H' p (us ++ vs) (xs ++ ys) → Q .non H') : rExtend (.ref p) [.ref b] H Q := by
  have st : Step [p] c H c (upd H p (.lst (us ++ vs))) := Step.mut w o.obj o.col
  exact ⟨p, b, us, vs, rfl, rfl, o.obj, hb, by rw [o.rs.len, r.len]; exact hl, q _ st ⟨o.col, upd_same, (o.rs.up st.up).app (r.up st.up), o.new⟩⟩
/-- a slice -/
theorem slice_end {K : PySem.W.Frag} {lo hi : Option Int} (hx : rB K A c H v xs) (w : Wf c H) (n0 : ∀ p, H p = none → H0 p = none) {Q : VK}
    (q : ∀ p us' c' H', H p = none → Step [] c H c' H' → Own A H0 c' H' p us' ((xs.drop (HT.sIx xs.length 0 lo)).take (HT.sIx xs.length xs.length hi - HT.sIx xs.length 0 lo)) → Q (.ref p) H') : rSlL K v lo hi H Q := by
  obtain ⟨a, us, rfl, h, r⟩ := hx
  refine ⟨a, us, rfl, h, new_end w fun p c' H' st cp hp np => q p _ c' H' np st ⟨cp, hp, ?_, n0 p np⟩⟩
  unfold cutV
  rw [r.len]
  exact ((r.up st.up).drop _).take _
def rListOf (K : PySem.W.Frag) : List V → Hp → VK → Prop := fun xs H Q => ∃ p ys, xs = [V.ref p] ∧ (SqL K H p ys ∨ SqT K H p ys) ∧ ∀ l, H l = none → Q (.ref l) (upd H l (.lst ys))
theorem cr_list {X : Cx} : CallR X (.type "list") (rListOf X.K) := call_list_of
/-- list(xs) -/
theorem listof_end {K : PySem.W.Frag} (hx : rB K A c H v xs) (w : Wf c H) (n0 : ∀ p, H p = none → H0 p = none) {Q : VK} (q : ∀ p us' c' H', H p = none → Step [] c H c' H' → Own A H0 c' H' p us' xs → Q (.ref p) H') :
    rListOf K [v] H Q := by
  obtain ⟨a, us, rfl, h, r⟩ := hx
  exact ⟨a, us, rfl, .inl h, new_end w fun p c' H' st cp hp np => q p _ c' H' np st ⟨cp, hp, r.up st.up, n0 p np⟩⟩
/-- the part of a list that a slice tells -/
def sliceL {α : Type} (xs : List α) (lo hi : Option Int) : List α := (xs.drop (HT.sIx xs.length 0 lo)).take (HT.sIx xs.length xs.length hi - HT.sIx xs.length 0 lo)
/-- xs + ys -/
theorem cat_end {ys : List α} {x y : V} {a b : Addr} {us vs : List V} (ex : x = .ref a) (ey : y = .ref b) (hx : H a = some (.lst us)) (rx : Rs A c H us xs) (hy : H b = some (.lst vs)) (ry : Rs A c H vs ys) (w : Wf c H) (n0 : ∀ p, H p = none → H0 p = none) (hl : xs.length + ys.length ≤ sizeLine) {Q : VK}
    (q : ∀ p us' c' H', H p = none → Step [] c H c' H' → Own A H0 c' H' p us' (xs ++ ys) → Q (.ref p) H') : rCat x y H Q := by
  subst ex ey
  exact ⟨a, b, us, vs, rfl, rfl, hx, hy, by rw [rx.len, ry.len]; exact hl, new_end w fun p c' H' st cp hp np => q p _ c' H' np st ⟨cp, hp, (rx.up st.up).app (ry.up st.up), n0 p np⟩⟩
end
end
/-! #### loops -/
section
variable {β τ α : Type} [DecidableEq α] {A : Ty α} {P : β → Cl → Hp → Prop} {PE : Err → Cl → Hp → Prop} {S : List Addr} {c0 c : Cl} {H0 H : Hp} {σ : L2.St} {g : TG} {tb : TS} {D : Ends} {K : PySem.W.Frag} {a : Addr} {us : List V} {xs : List α} {s0 : τ}
theorem Kont.turn {m : Res τ} {f : τ → Res β} (k : Kont P PE S c0 H0 (m.bind f)) : Kont (fun s _ _ => Kont P PE S c0 H0 (f s)) PE S c0 H0 m := by
  cases m with
  | ok x => exact fun _ _ _ => k
  | err e => exact k
  | stk => exact k.elim
theorem drop_at {l : List α} {i : Nat} {x : α} (h : l[i]? = some x) : l.drop i = x :: l.drop (i + 1) := by
  obtain ⟨hi, e⟩ := List.getElem?_eq_some_iff.mp h
  rw [List.drop_eq_getElem_cons hi, e]
theorem for_n {f : τ → α → Res τ} {rest : τ → Res β} (k : Kont P PE S c0 H0 ((forN xs s0 f).bind rest)) (I : τ → Cl → Hp → L2.St → Prop) (h0 : I s0 c H σ) (hl : ∀ s c H σ, I s c H σ → SqL K H a us ∧ Rs A c H us xs)
    (hb : ∀ s x v c H σ (N : L2.St → Hp → Prop), I s c H σ → A.r c H v x → Kont (fun s' c' H' => ∀ σ', I s' c' H' σ' → N σ' H') PE S c0 H0 (f s x) → g v σ H fun σ2 H2 => tb { D with nx := N, ct := N, bk := D.nx } σ2 H2)
    (hd : ∀ s c H σ, I s c H σ → Kont P PE S c0 H0 (rest s) → D.nx σ H) :
    ∃ W : Nat → Nat → L2.St → Hp → Prop, (∃ m, W 0 m σ H) ∧ ∀ i m σ H, W i m σ H →
      ((Itl K a).stop i H ∧ D.nx σ H) ∨ ((Itl K a).go i H ∧ ∃ N : L2.St → Hp → Prop, (∀ σ' H', N σ' H' → ∃ m', m' < m ∧ W (i + 1) m' σ' H') ∧ ∀ x H', (Itl K a).yld i H x H' → g x σ H' fun σ2 H2 => tb { D with nx := N, ct := N, bk := D.nx } σ2 H2) := by
  refine for_list (K := K) (a := a) (xs := us) (fun i σ H => ∃ s c, I s c H σ ∧ Kont P PE S c0 H0 ((forN (xs.drop i) s f).bind rest)) ⟨s0, c, h0, k⟩ (fun i σ H _ ⟨s, c, h, _⟩ => (hl s c H σ h).1) ?_ ?_
  · rintro i v σ1 H1 hi ⟨s, c1, h, k1⟩
    obtain ⟨_, r⟩ := hl s c1 H1 σ1 h
    obtain ⟨x, hx, rx⟩ := r.get hi
    rw [drop_at hx, forN_cons, bind_assoc] at k1
    refine hb s x v c1 H1 σ1 _ h rx (k1.turn.imp (fun s' c' H' st q σ' h' => ⟨s', c', h', q⟩) fun _ _ _ _ q => q)
  · rintro σ1 H1 ⟨s, c1, h, k1⟩
    obtain ⟨_, r⟩ := hl s c1 H1 σ1 h
    rw [List.drop_eq_nil_of_le (by rw [r.len]; exact Nat.le_refl _)] at k1
    exact hd s c1 H1 σ1 h k1
theorem for_r {ρ : Type} {f : τ → α → Res (Ctl τ ρ)} {rest : Ctl τ ρ → Res β} {Rr : Cl → Hp → V → ρ → Prop} (k : Kont P PE S c0 H0 ((forR xs s0 f).bind rest)) (I : τ → Cl → Hp → L2.St → Prop) (h0 : I s0 c H σ) (hl : ∀ s c H σ, I s c H σ → SqL K H a us ∧ Rs A c H us xs)
    (hb : ∀ s x v c H σ (N : L2.St → Hp → Prop), I s c H σ → A.r c H v x → Kont (fun y c' H' => match y with | .nx s' => ∀ σ', I s' c' H' σ' → N σ' H' | .ret r => ∀ v, Rr c' H' v r → D.rt v H') PE S c0 H0 (f s x) → g v σ H fun σ2 H2 => tb { D with nx := N, ct := N, bk := D.nx } σ2 H2)
    (hr : ∀ r, Kont P PE S c0 H0 (rest (.ret r)) → ∀ c H, Step S c0 H0 c H → ∀ v, Rr c H v r → D.rt v H)
    (hd : ∀ s c H σ, I s c H σ → Kont P PE S c0 H0 (rest (.nx s)) → D.nx σ H) :
    ∃ W : Nat → Nat → L2.St → Hp → Prop, (∃ m, W 0 m σ H) ∧ ∀ i m σ H, W i m σ H →
      ((Itl K a).stop i H ∧ D.nx σ H) ∨ ((Itl K a).go i H ∧ ∃ N : L2.St → Hp → Prop, (∀ σ' H', N σ' H' → ∃ m', m' < m ∧ W (i + 1) m' σ' H') ∧ ∀ x H', (Itl K a).yld i H x H' → g x σ H' fun σ2 H2 => tb { D with nx := N, ct := N, bk := D.nx } σ2 H2) := by
  refine for_list (K := K) (a := a) (xs := us) (fun i σ H => ∃ s c, I s c H σ ∧ Kont P PE S c0 H0 ((forR (xs.drop i) s f).bind rest)) ⟨s0, c, h0, k⟩ (fun i σ H _ ⟨s, c, h, _⟩ => (hl s c H σ h).1) ?_ ?_
  · rintro i v σ1 H1 hi ⟨s, c1, h, k1⟩
    obtain ⟨_, r⟩ := hl s c1 H1 σ1 h
    obtain ⟨x, hx, rx⟩ := r.get hi
    rw [drop_at hx, forR_cons, bind_assoc] at k1
    refine hb s x v c1 H1 σ1 _ h rx (k1.turn.imp (fun y c' H' st q => ?_) fun _ _ _ _ q => q)
    cases y with
    | nx s' => exact fun σ' h' => ⟨s', c', h', q⟩
    | ret r' => exact fun v hv => hr r' q c' H' st v hv
  · rintro σ1 H1 ⟨s, c1, h, k1⟩
    obtain ⟨_, r⟩ := hl s c1 H1 σ1 h
    rw [List.drop_eq_nil_of_le (by rw [r.len]; exact Nat.le_refl _)] at k1
    exact hd s c1 H1 σ1 h k1
/-- range(lo, ..), n turns: the items are lo, lo + 1, .. -/
def rng (lo : Int) : Nat → List Int
  | 0 => []
  | n + 1 => lo :: rng (lo + 1) n
theorem ints_len : ∀ (n : Nat) (lo : Int), (rng lo n).length = n
  | 0, _ => rfl
  | n + 1, lo => by show (rng (lo + 1) n).length + 1 = n + 1; rw [ints_len n]
theorem ints_at : ∀ (n : Nat) (lo : Int) (i : Nat), i < n → (rng lo n)[i]? = some (lo + i)
  | 0, _, i, h => absurd h (Nat.not_lt_zero _)
  | n + 1, lo, 0, _ => by show some lo = some (lo + ((0 : Nat) : Int)); simp
  | n + 1, lo, i + 1, h => by
    show (rng (lo + 1) n)[i]? = some (lo + ((i + 1 : Nat) : Int))
    rw [ints_at n (lo + 1) i (Nat.lt_of_succ_lt_succ h)]
    congr 1
    omega
theorem for_rgn {lo : Int} {n : Nat} {f : τ → Int → Res τ} {rest : τ → Res β} (k : Kont P PE S c0 H0 ((forN (rng lo n) s0 f).bind rest)) (I : τ → Cl → Hp → L2.St → Prop) (h0 : I s0 c H σ)
    (hb : ∀ s x c H σ (N : L2.St → Hp → Prop), I s c H σ → Kont (fun s' c' H' => ∀ σ', I s' c' H' σ' → N σ' H') PE S c0 H0 (f s x) → g (.int x) σ H fun σ2 H2 => tb { D with nx := N, ct := N, bk := D.nx } σ2 H2)
    (hd : ∀ s c H σ, I s c H σ → Kont P PE S c0 H0 (rest s) → D.nx σ H) :
    ∃ W : Nat → Nat → L2.St → Hp → Prop, (∃ m, W 0 m σ H) ∧ ∀ i m σ H, W i m σ H →
      ((Itr lo n).stop i H ∧ D.nx σ H) ∨ ((Itr lo n).go i H ∧ ∃ N : L2.St → Hp → Prop, (∀ σ' H', N σ' H' → ∃ m', m' < m ∧ W (i + 1) m' σ' H') ∧ ∀ x H', (Itr lo n).yld i H x H' → g x σ H' fun σ2 H2 => tb { D with nx := N, ct := N, bk := D.nx } σ2 H2) := by
  refine for_range (lo := lo) (n := n) (fun i σ H => ∃ s c, I s c H σ ∧ Kont P PE S c0 H0 ((forN ((rng lo n).drop i) s f).bind rest)) ⟨s0, c, h0, k⟩ ?_ ?_
  · rintro i σ1 H1 hi ⟨s, c1, h, k1⟩
    rw [drop_at (ints_at n lo i hi), forN_cons, bind_assoc] at k1
    exact hb s _ c1 H1 σ1 _ h (k1.turn.imp (fun s' c' H' st q σ' h' => ⟨s', c', h', q⟩) fun _ _ _ _ q => q)
  · rintro σ1 H1 ⟨s, c1, h, k1⟩
    rw [List.drop_eq_nil_of_le (by rw [ints_len]; exact Nat.le_refl _)] at k1
    exact hd s c1 H1 σ1 h k1
theorem for_rgr {ρ : Type} {lo : Int} {n : Nat} {f : τ → Int → Res (Ctl τ ρ)} {rest : Ctl τ ρ → Res β} {Rr : Cl → Hp → V → ρ → Prop} (k : Kont P PE S c0 H0 ((forR (rng lo n) s0 f).bind rest)) (I : τ → Cl → Hp → L2.St → Prop) (h0 : I s0 c H σ)
    (hb : ∀ s x c H σ (N : L2.St → Hp → Prop), I s c H σ → Kont (fun y c' H' => match y with | .nx s' => ∀ σ', I s' c' H' σ' → N σ' H' | .ret r => ∀ v, Rr c' H' v r → D.rt v H') PE S c0 H0 (f s x) → g (.int x) σ H fun σ2 H2 => tb { D with nx := N, ct := N, bk := D.nx } σ2 H2)
    (hr : ∀ r, Kont P PE S c0 H0 (rest (.ret r)) → ∀ c H, Step S c0 H0 c H → ∀ v, Rr c H v r → D.rt v H)
    (hd : ∀ s c H σ, I s c H σ → Kont P PE S c0 H0 (rest (.nx s)) → D.nx σ H) :
    ∃ W : Nat → Nat → L2.St → Hp → Prop, (∃ m, W 0 m σ H) ∧ ∀ i m σ H, W i m σ H →
      ((Itr lo n).stop i H ∧ D.nx σ H) ∨ ((Itr lo n).go i H ∧ ∃ N : L2.St → Hp → Prop, (∀ σ' H', N σ' H' → ∃ m', m' < m ∧ W (i + 1) m' σ' H') ∧ ∀ x H', (Itr lo n).yld i H x H' → g x σ H' fun σ2 H2 => tb { D with nx := N, ct := N, bk := D.nx } σ2 H2) := by
  refine for_range (lo := lo) (n := n) (fun i σ H => ∃ s c, I s c H σ ∧ Kont P PE S c0 H0 ((forR ((rng lo n).drop i) s f).bind rest)) ⟨s0, c, h0, k⟩ ?_ ?_
  · rintro i σ1 H1 hi ⟨s, c1, h, k1⟩
    rw [drop_at (ints_at n lo i hi), forR_cons, bind_assoc] at k1
    refine hb s _ c1 H1 σ1 _ h (k1.turn.imp (fun y c' H' st q => ?_) fun _ _ _ _ q => q)
    cases y with
    | nx s' => exact fun σ' h' => ⟨s', c', h', q⟩
    | ret r' => exact fun v hv => hr r' q c' H' st v hv
  · rintro σ1 H1 ⟨s, c1, h, k1⟩
    rw [List.drop_eq_nil_of_le (by rw [ints_len]; exact Nat.le_refl _)] at k1
    exact hd s c1 H1 σ1 h k1
/-- a while -/
def WhI (P : β → Cl → Hp → Prop) (PE : Err → Cl → Hp → Prop) (S : List Addr) (c0 : Cl) (H0 : Hp) (I : τ → Cl → Hp → L2.St → Prop) (t : τ → Res Bool) (f : τ → Res τ) (rest : τ → Res β) (n : Nat) (σ : L2.St) (H : Hp) : Prop :=
  ∃ s c, I s c H σ ∧ Kont P PE S c0 H0 ((whileN n s t f).bind rest)
theorem while_n {tc : TT} {fuel : Nat} {t : τ → Res Bool} {f : τ → Res τ} {rest : τ → Res β} (k : Kont P PE S c0 H0 ((whileN fuel s0 t f).bind rest)) (I : τ → Cl → Hp → L2.St → Prop) (h0 : I s0 c H σ)
    (hb : ∀ n s c H σ, I s c H σ → Kont P PE S c0 H0 ((t s).bind fun b => br b ((f s).bind fun s' => (whileN n s' t f).bind rest) (rest s)) →
      tc σ H fun b H1 => if b = true then ∃ N : L2.St → Hp → Prop, (∀ σ' H', N σ' H' → WhI P PE S c0 H0 I t f rest n σ' H') ∧ tb { D with nx := N, ct := N, bk := D.nx } σ H1 else D.nx σ H1)
    (mono : ∀ σ H Q Q', (∀ b H1, Q b H1 → Q' b H1) → tc σ H Q → tc σ H Q') : tWhile tc tb D σ H := by
  refine ⟨fun m σ H => WhI P PE S c0 H0 I t f rest m σ H, ⟨fuel, s0, c, h0, k⟩, ?_⟩
  rintro m σ1 H1 ⟨s, c1, h, k1⟩
  cases m with
  | zero => exact k1.elim
  | succ n =>
    have k2 : Kont P PE S c0 H0 ((t s).bind fun b => br b ((f s).bind fun s' => (whileN n s' t f).bind rest) (rest s)) := by
      have e : ((whileN (n + 1) s t f).bind rest) = ((t s).bind fun b => br b ((f s).bind fun s' => (whileN n s' t f).bind rest) (rest s)) := by
        show (((t s).bind fun b => br b ((f s).bind fun s' => whileN n s' t f) (.ok s)).bind rest) = _
        rw [bind_assoc]
        congr 1
        funext b
        cases b with
        | true => show (((f s).bind fun s' => whileN n s' t f).bind rest) = ((f s).bind fun s' => (whileN n s' t f).bind rest); rw [bind_assoc]
        | false => rfl
      rw [← e]
      exact k1
    refine mono _ _ _ _ (fun b H2 q => ?_) (hb n s c1 H1 σ1 h k2)
    cases b with
    | true =>
      obtain ⟨N, hN, q⟩ := q
      exact ⟨N, fun σ' H' q' => ⟨n, Nat.lt_succ_self _, hN σ' H' q'⟩, q⟩
    | false => exact q
end
/-! #### comprehensions -/
section
variable {γ β α : Type} [DecidableEq α] [DecidableEq β] {A : Ty α} {B : Ty β} {P : γ → Cl → Hp → Prop} {PE : Err → Cl → Hp → Prop} {S : List Addr} {c0 c : Cl} {H0 H : Hp} {σ : L2.St} {g : TG} {te : TE} {K : PySem.W.Frag} {a : Addr} {us : List V} {xs : List α}
theorem yes_u {te : TE} {σ : L2.St} {H : Hp} {Q : VK} {Qn : Hp → Prop} (h : te σ H Q) : tYes σ H fun b H3 => if b = true then te σ H3 Q else Qn H3 := by
  show (if true = true then te σ H Q else Qn H)
  rw [if_pos rfl]
  exact h
theorem compN_cons {x : α} {xs : List α} {f : α → Res β} : compN (x :: xs) f = (nx (f x)).bind fun y => (compN xs f).bind fun ys => .ok (y :: ys) := rfl
/-- the list that is made so far -/
structure Acc (B : Ty β) (H0 : Hp) (c : Cl) (H : Hp) (ci : Cl) (Hi : Hp) (d : Addr) (vs : List V) (ys : List β) : Prop where
  st : Step [] c H ci Hi
  own : Own B H0 ci Hi d vs ys
theorem Acc.start (w : Wf c H) {d : Addr} (n : H d = none) (n0 : H0 d = none) : Acc B H0 c H (setC c d (some d)) (upd H d (.lst [])) d [] [] :=
  ⟨Step.new w n fun r e => by cases e; exact .inl rfl, ⟨setC_same, upd_same, trivial, n0⟩⟩
theorem Acc.push {ci ci' : Cl} {Hi Hi' : Hp} {d : Addr} {vs : List V} {ys : List β} {u : V} {y : β} (h : Acc B H0 c H ci Hi d vs ys) (n : H d = none) (st : Step [] ci Hi ci' Hi') (r : B.r ci' Hi' u y) : Acc B H0 c H ci' (upd Hi' d (.lst (vs ++ [u]))) d (vs ++ [u]) (ys ++ [y]) := by
  have o := h.own.step0 st
  have m : Step [d] ci' Hi' ci' (upd Hi' d (.lst (vs ++ [u]))) := Step.mut st.wf o.obj o.col
  exact ⟨(h.st.tr0 st).tr1 m (.inr n), ⟨o.col, upd_same, (o.rs.up m.up).app ⟨B.up m.up r, trivial⟩, o.new⟩⟩
theorem comp_list {f : α → Res β} {rest : List β → Res γ} {vs : List Nat} {Q : VK} (k : Kont P PE S c0 H0 ((compN xs f).bind rest)) (w : Wf c H) (gs : Step S c0 H0 c H) (hx : SqL K H a us) (hr : Rs A c H us xs) (hl : xs.length ≤ sizeLine)
    (hk : ∀ ci Hi, Step [] c H ci Hi → SqL K Hi a us)
    (hb : ∀ x v ci Hi (Qe : VK) (Qn : Hp → Prop), Step [] c H ci Hi → Step S c0 H0 ci Hi → A.r ci Hi v x → Kont (fun y c' H' => Step [] ci Hi c' H' → ∀ u, B.r c' H' u y → Qe u H') (fun _ _ _ => False) S c0 H0 (f x) → g v (wipe σ vs) Hi fun σ2 H2 => wipe σ2 vs = wipe σ vs ∧ tYes σ2 H2 fun b H3 => if b = true then te σ2 H3 Qe else Qn H3)
    (hd : ∀ ys p us' c' H', H p = none → Step [] c H c' H' → Own B H0 c' H' p us' ys → Kont P PE S c0 H0 (rest ys) → Q (.ref p) H') : ∀ d, H d = none →
    ∃ W : Nat → Nat → Hp → Prop, (∃ m, W 0 m (upd H d (.lst []))) ∧ ∀ i m H, W i m H →
      ((Itl K a).stop i H ∧ Q (.ref d) H) ∨ ((Itl K a).go i H ∧ ∃ Nx : Hp → Prop, (∀ H', Nx H' → ∃ m', m' < m ∧ W (i + 1) m' H') ∧ ∀ x H', (Itl K a).yld i H x H' → g x (wipe σ vs) H' fun σ2 H2 => wipe σ2 vs = wipe σ vs ∧ tYes σ2 H2 fun b H3 =>
        if b = true then te σ2 H3 fun y H4 => ∃ acc, H4 d = some (.lst acc) ∧ acc.length < sizeLine ∧ Nx (upd H4 d (.lst (acc ++ [y]))) else Nx H3) := by
  intro d nd
  have n0 : H0 d = none := gs.fresh nd
  refine lc_list (K := K) (a := a) (xs := us) (Qd := fun H' => Q (.ref d) H') (fun i Hi => ∃ ci zs ys, Acc B H0 c H ci Hi d zs ys ∧ ys.length = i ∧ Kont P PE S c0 H0 ((compN (xs.drop i) f).bind fun r => rest (ys ++ r))) ⟨_, [], [], Acc.start w nd n0, rfl, k⟩ ?_ ?_ ?_
  · rintro i Hi _ ⟨ci, zs, ys, ac, _, _⟩
    exact hk ci Hi ac.st
  · rintro i v Hi hi ⟨ci, zs, ys, ac, el, k1⟩
    obtain ⟨x, hxi, rx⟩ := (hr.up ac.st.up).get hi
    rw [drop_at hxi, compN_cons, bind_assoc] at k1
    have gi : Step S c0 H0 ci Hi := gs.tr0 ac.st
    refine (hb x v ci Hi _ _ ac.st gi rx (k1.turn.nx.imp (fun y c' H' _ q st u ru => ?_) fun e cc HH _ q => q))
    have ac' := ac.push nd st ru
    have hlt : ys.length < xs.length := by rw [el]; exact (List.getElem?_eq_some_iff.mp hxi).1
    refine ⟨zs, (ac.own.step0 st).obj, by rw [ac.own.rs.len]; omega, c', _, _, ac', by rw [List.length_append, el]; rfl, ?_⟩
    rw [bind_assoc] at q
    rw [show (fun r => rest (ys ++ [y] ++ r)) = fun r => rest (ys ++ (y :: r)) from by funext r; rw [List.append_assoc]; rfl]
    exact q
  · rintro Hi ⟨ci, zs, ys, ac, el, k1⟩
    rw [List.drop_eq_nil_of_le (by rw [hr.len]; exact Nat.le_refl _)] at k1
    have k2 : Kont P PE S c0 H0 (rest (ys ++ [])) := k1
    rw [List.append_nil] at k2
    exact hd ys d zs ci Hi nd ac.st ac.own k2
end
end Kb
/-! Kb5: sorted of tuples of ints and texts -/
namespace Kb
open PySem L2 PyProof.Rows PyProof.Rows.G
abbrev SK := List (Int ⊕ List Nat)
def ltK (a b : SK) : Bool := lexLt itemOrd a b
def leK (a b : SK) : Bool := !ltK b a
def itemV : V → Option (Int ⊕ List Nat)
  | .int i => some (.inl i)
  | .str x => some (.inr x.cps.toList)
  | _ => none
def isS : V → Bool
  | .str _ => true
  | _ => false
def keyV : List V → Option SK
  | [] => some []
  | v :: vs => (itemV v).bind fun a => (keyV vs).map (a :: ·)
theorem key_items {sh : Nat → Bool} : ∀ {vs : List V} {its : List Value} {k : SK} (i : Nat), Vals vs its → keyV vs = some k → (∀ j v, vs[j]? = some v → isS v = sh (i + j)) → tupItems sh i its = some k
  | _, _, k, i, .nil, h, _ => by
    have e : ([] : SK) = k := Option.some.inj h
    subst e
    rfl
  | v :: vs, u :: its, k, i, .cons r t, h, s => by
    have s0 := s 0 v rfl
    have st : ∀ j w, vs[j]? = some w → isS w = sh (i + 1 + j) := fun j w e => by
      have z := s (j + 1) w (by simpa using e)
      rw [show i + 1 + j = i + (j + 1) from by omega]
      exact z
    unfold keyV at h
    cases v with
    | int n =>
      obtain ⟨tk, rfl⟩ := r
      have s0' : sh i = false := s0.symm
      cases q : keyV vs with
      | none => rw [q] at h; cases h
      | some k' =>
        rw [q] at h
        have e : (Sum.inl n :: k' : SK) = k := Option.some.inj h
        subst e
        have ih := key_items (i + 1) t q st
        show (if sh i = true then none else (tupItems sh (i + 1) its).map (Sum.inl n :: ·)) = _
        rw [s0', if_neg Bool.false_ne_true, ih]
        rfl
    | str x =>
      obtain ⟨tk, rfl⟩ := r
      have s0' : sh i = true := s0.symm
      cases q : keyV vs with
      | none => rw [q] at h; cases h
      | some k' =>
        rw [q] at h
        have e : (Sum.inr x.cps.toList :: k' : SK) = k := Option.some.inj h
        subst e
        have ih := key_items (i + 1) t q st
        show (if sh i = true then (tupItems sh (i + 1) its).map (Sum.inr x.cps.toList :: ·) else none) = _
        rw [s0', if_pos rfl, ih]
        rfl
    | _ => cases h
/-- sorted(xs), xs a list of tuples of ints and texts of one shape, any length -/
def rSortT (K : PySem.W.Frag) : List V → Hp → VK → Prop := fun vs H Q => ∃ (a : Addr) (us : List V) (kf : V → SK) (sh : Nat → Bool), vs = [V.ref a] ∧ SqL K H a us ∧
  (∀ u ∈ us, ∃ t ws, u = V.ref t ∧ Rd H t (.tup ws) ∧ ws ≠ [] ∧ keyV ws = some (kf u) ∧ ∀ j v, ws[j]? = some v → isS v = sh j) ∧
  ∀ ys p, ys.Perm us → ys.Pairwise (fun x y => leK (kf x) (kf y) = true) → H p = none → Q (.ref p) (upd H p (.lst ys))
section
variable {X : Cx}
theorem back_ref {v : Value} (h : ∃ a, v = Value.ref a) : ∃ a, v = Value.ref a ∧ backV v = V.ref a := by
  obtain ⟨a, rfl⟩ := h
  exact ⟨a, rfl, rfl⟩
theorem tups_of {h : Heap} {sh : Nat → Bool} : ∀ {its : List Value}, (∀ u ∈ its, ∃ f, TupOf h sh u f) → ∃ fs, TupsOf h sh its fs
  | [], _ => ⟨[], .nil⟩
  | u :: its, q => by
    obtain ⟨f, t⟩ := q u List.mem_cons_self
    obtain ⟨fs, r⟩ := tups_of fun v hv => q v (List.mem_cons_of_mem _ hv)
    exact ⟨f :: fs, .cons t r⟩
theorem cr_sortT : CallR X (.builtin "sorted") (rSortT X.K) := by
  intro pins s σ H vs us' Q I r h
  obtain ⟨a, us, kf, sh, rfl, hs, hx, q⟩ := h
  obtain ⟨its, rv, hl, hz⟩ := I.list hs
  obtain ⟨u, rfl, ru⟩ := vals1 r
  obtain rfl : u = Value.ref a := ru
  obtain ⟨e1, e2⟩ := refs_back rv fun x m => by
    obtain ⟨t, _, e, _⟩ := hx x m
    exact ⟨t, e⟩
  -- each value: a tuple of the shape
  have each : ∀ v ∈ its, ∃ t o xs n f, v = .ref t ∧ s.heap.get? t = some o ∧ o.cls = .type "tuple" ∧ o.data = .seq xs n ∧ tupItems sh 0 xs.toList = some (kf (backV v)) ∧ xs[0]? = some f ∧
      (sh 0 = false → ∃ k t, f = .int k t) ∧ (sh 0 = true → ∃ x t, f = .str x t) := fun v hv => by
    obtain ⟨t, rfl⟩ := e2 v hv
    have hm : V.ref t ∈ us := by rw [e1]; exact List.mem_map.mpr ⟨_, hv, rfl⟩
    obtain ⟨t', ws, e, hr, hne, hk, hsh⟩ := hx _ hm
    cases e
    obtain ⟨_, ws', r2, o, ho, hc, n, hd⟩ := hr.ok I.hok
    have hi := key_items (sh := sh) 0 r2 hk fun j v e => by rw [Nat.zero_add]; exact hsh j v e
    cases r2 with
    | nil => exact absurd rfl hne
    | cons r0 rt =>
      rename_i w wv ws0 its0 hlen
      have s0 := hsh 0 w rfl
      refine ⟨t, o, _, n, wv, rfl, ho, hc, hd, hi, rfl, fun z => ?_, fun z => ?_⟩
      · rw [z] at s0
        cases w with
        | int i => obtain ⟨tk, e⟩ := r0; exact ⟨i, tk, e⟩
        | str x => exact absurd s0 (by simp [isS])
        | _ => exact absurd hk (by simp [keyV, itemV])
      · rw [z] at s0
        cases w with
        | str x => obtain ⟨tk, e⟩ := r0; exact ⟨x, tk, e⟩
        | int i => exact absurd s0 (by simp [isS])
        | _ => exact absurd hk (by simp [keyV, itemV])
  have hkey : ∀ v ∈ its, tupKeyC s.heap sh v = some (kf (backV v)) := fun v hv => by
    obtain ⟨t, o, xs, n, f, rfl, ho, hc, hd, hi, _⟩ := each v hv
    unfold tupKeyC
    have e1 : isTupObj s.heap (.ref t) = true := by simp [isTupObj, ho, hc]
    rw [if_pos e1]
    simp only [tupKey, ho, hd]
    exact hi
  obtain ⟨fs, ht⟩ : ∃ fs, TupsOf s.heap sh its fs := tups_of fun v hv => by
    obtain ⟨t, o, xs, n, f, rfl, ho, hc, hd, hi, h0, f1, f2⟩ := each v hv
    exact ⟨f, t, o, xs, n, rfl, ho, hc, hd, h0, f1, f2⟩
  refine sorted_tups hl.isList ht (fun v hv => ⟨_, hkey v hv⟩) (by rw [← rv.length]; exact hz) fun st' hp hso _ => ?_
  have pl : (arrOf st').toList.Perm (its.zip its) := by
    have e := Array.perm_iff_toList_perm.mp hp
    rw [pairsOf_toList] at e
    exact e
  have both : ∀ p ∈ (arrOf st').toList, p.1 = p.2 ∧ p.1 ∈ its := fun p m => by
    have m' := pl.mem_iff.mp m
    exact mem_zip_self m'
  have outP : ((arrOf st').map (·.2)).toList.Perm its := by
    rw [Array.toList_map]
    have e := pl.map (·.2)
    rw [show (its.zip its).map (·.2) = its from by rw [List.map_snd_zip]; exact Nat.le_refl _] at e
    exact e
  have outR : ∀ u ∈ ((arrOf st').map (·.2)).toList, ∃ a, u = Value.ref a := fun u hu => e2 u (outP.mem_iff.mp hu)
  obtain ⟨n, hn⟩ := sortedAll_at s.heap its ((arrOf st').map (·.2))
  have pw : (((arrOf st').map (·.2)).toList.map backV).Pairwise (fun x y => leK (kf x) (kf y) = true) := by
    rw [Array.toList_map, List.map_map, List.pairwise_iff_getElem]
    intro i j hi hj hij
    rw [List.length_map] at hi hj
    have hsz : (pairsOf its).size = (arrOf st').toList.length := by
      have z := pl.length_eq
      rw [z, ← pairsOf_toList, Array.length_toList]
    have o := hso i j (Nat.le_of_lt hij) (by rw [hsz]; exact hj)
    have kk : ∀ m (hm : m < (arrOf st').toList.length), KK (tupKindC s.heap sh) (arrOf st') m = kf (backV ((arrOf st').toList[m]).2) := fun m hm => by
      have hm' : m < (arrOf st').size := by rw [Array.length_toList] at hm; exact hm
      obtain ⟨b1, b2⟩ := both _ (List.getElem_mem hm)
      unfold KK
      rw [show (arrOf st')[m]? = some ((arrOf st').toList[m]) from by rw [Array.getElem_toList]; exact Array.getElem?_eq_getElem hm']
      show ((tupKeyC s.heap sh ((arrOf st').toList[m]).1).getD []) = _
      rw [hkey _ b2, b1]
      rfl
    rw [kk i hi, kk j hj] at o
    rw [List.getElem_map, List.getElem_map]
    show (!ltK _ _) = true
    have o' : lexLt itemOrd (kf (backV ((arrOf st').toList[j]).2)) (kf (backV ((arrOf st').toList[i]).2)) = false := o
    unfold ltK
    show (!lexLt itemOrd (kf (backV ((arrOf st').toList[j]).2)) (kf (backV ((arrOf st').toList[i]).2))) = true
    rw [o']
    rfl
  refine ⟨.ref (s.heap.objs.size + 1), upd H (s.heap.objs.size + 1) (.lst (((arrOf st').map (·.2)).toList.map backV)), I.laid (t' := s.toks) (fun b o hb => sortedAll_old hb) (Nat.le_succ _) ⟨?_, ((arrOf st').map (·.2)).toList, n, vals_back outR, ?_⟩, rfl, q _ _ ?_ pw (I.hok.fresh (Nat.le_succ _))⟩
  · rw [List.length_map, outP.length_eq, ← rv.length]
    exact hz
  · rw [Array.toArray_toList]
    exact hn
  · rw [e1]
    exact outP.map backV
end

/-! #### by data -/
def kfH (H : Hp) : V → SK
  | .ref t => match H t with
    | some (.tup ws) => (keyV ws).getD []
    | some (.frz _ (.tup ws)) => (keyV ws).getD []
    | _ => []
  | _ => []
/-- data that tuples stand for, sorted as tuples are -/
structure SKey {α : Type} [DecidableEq α] (A : Ty α) (key : α → SK) (sh : Nat → Bool) : Prop where
  ok : ∀ {c H v x}, A.r c H v x → ∃ t ws, v = V.ref t ∧ Rd H t (.tup ws) ∧ ws ≠ [] ∧ keyV ws = some (key x) ∧ ∀ j v, ws[j]? = some v → isS v = sh j
  inj : ∀ x y, key x = key y → x = y
theorem kfH_of {H : Hp} {t : Addr} {ws : List V} {k : SK} (r : Rd H t (.tup ws)) (h : keyV ws = some k) : kfH H (.ref t) = k := by
  unfold kfH
  rcases r with r | ⟨o, r⟩ <;> simp only [r, h] <;> rfl
/-- insertion -/
def insK {α : Type} (key : α → SK) (x : α) : List α → List α
  | [] => [x]
  | y :: ys => if leK (key x) (key y) = true then x :: y :: ys else y :: insK key x ys
def sortK {α : Type} (key : α → SK) : List α → List α
  | [] => []
  | x :: xs => insK key x (sortK key xs)
theorem le_refl' (a : SK) : leK a a = true := by
  have z : lexLt itemOrd a a = false := (listOrd itemOrd).irrefl a
  unfold leK ltK
  rw [z]; rfl
theorem le_trans' {a b c : SK} (h1 : leK a b = true) (h2 : leK b c = true) : leK a c = true := by
  have e : ∀ {x y : SK}, leK x y = true → (listOrd itemOrd).kle x y := fun {x y} h => by
    unfold leK ltK at h
    show lexLt itemOrd y x = false
    simpa using h
  have z : lexLt itemOrd c a = false := KeyOrd.kle_trans (O := listOrd itemOrd) (e h1) (e h2)
  unfold leK ltK
  rw [z]; rfl
theorem le_total' (a b : SK) : leK a b = true ∨ leK b a = true := by
  unfold leK ltK
  cases h : lexLt itemOrd b a with
  | false => exact .inl rfl
  | true =>
    refine .inr ?_
    have z : (listOrd itemOrd).kle b a := KeyOrd.kle_of_klt (O := listOrd itemOrd) h
    have z' : lexLt itemOrd a b = false := z
    rw [z']; rfl
theorem le_anti' {a b : SK} (h1 : leK a b = true) (h2 : leK b a = true) : a = b := by
  unfold leK ltK at h1 h2
  exact (listOrd itemOrd).total a b (by simpa using h2) (by simpa using h1)
theorem insK_perm {α : Type} {key : α → SK} {x : α} : ∀ l : List α, (insK key x l).Perm (x :: l)
  | [] => .refl _
  | y :: ys => by
    unfold insK
    split
    · exact .refl _
    · exact ((insK_perm ys).cons y).trans (.swap x y ys)
theorem sortK_perm {α : Type} {key : α → SK} : ∀ l : List α, (sortK key l).Perm l
  | [] => .refl _
  | x :: xs => (insK_perm _).trans ((sortK_perm xs).cons x)
theorem insK_sorted {α : Type} {key : α → SK} {x : α} : ∀ {l : List α}, l.Pairwise (fun a b => leK (key a) (key b) = true) → (insK key x l).Pairwise (fun a b => leK (key a) (key b) = true)
  | [], _ => List.pairwise_singleton _ _
  | y :: ys, h => by
    obtain ⟨h1, h2⟩ := List.pairwise_cons.mp h
    unfold insK
    split
    · rename_i c
      refine List.pairwise_cons.mpr ⟨fun z hz => ?_, h⟩
      rcases List.mem_cons.mp hz with rfl | hz
      · exact c
      · exact le_trans' c (h1 z hz)
    · rename_i c
      refine List.pairwise_cons.mpr ⟨fun z hz => ?_, insK_sorted h2⟩
      have hz' := (insK_perm ys).mem_iff.mp hz
      rcases List.mem_cons.mp hz' with rfl | hz'
      · exact (le_total' _ _).resolve_left c
      · exact h1 z hz'
theorem sortK_sorted {α : Type} {key : α → SK} : ∀ l : List α, (sortK key l).Pairwise (fun a b => leK (key a) (key b) = true)
  | [] => .nil
  | x :: xs => insK_sorted (sortK_sorted xs)
theorem sorted_uniq {α : Type} {key : α → SK} (inj : ∀ x y, key x = key y → x = y) : ∀ {l m : List α}, l.Pairwise (fun a b => leK (key a) (key b) = true) → m.Pairwise (fun a b => leK (key a) (key b) = true) → l.Perm m → l = m
  | [], m, _, _, p => (List.Perm.nil_eq p)
  | x :: l, [], _, _, p => by have z := p.length_eq; simp at z
  | x :: l, y :: m, h1, h2, p => by
    obtain ⟨a1, a2⟩ := List.pairwise_cons.mp h1
    obtain ⟨b1, b2⟩ := List.pairwise_cons.mp h2
    have hx : leK (key x) (key y) = true := by
      have hm : y ∈ x :: l := p.mem_iff.mpr List.mem_cons_self
      rcases List.mem_cons.mp hm with e | hm
      · rw [e]; exact le_refl' _
      · exact a1 y hm
    have hy : leK (key y) (key x) = true := by
      have hm : x ∈ y :: m := p.mem_iff.mp List.mem_cons_self
      rcases List.mem_cons.mp hm with e | hm
      · rw [e]; exact le_refl' _
      · exact b1 x hm
    have e : x = y := inj _ _ (le_anti' hx hy)
    subst e
    rw [sorted_uniq inj a2 b2 (List.Perm.cons_inv p)]
section
variable {α : Type} [DecidableEq α] {A : Ty α} {c : Cl} {H H0 : Hp} {key : α → SK} {sh : Nat → Bool}
theorem Rs.perm {us vs : List V} (p : vs.Perm us) : ∀ {xs : List α}, Rs A c H us xs → ∃ ys, ys.Perm xs ∧ Rs A c H vs ys := by
  induction p with
  | nil =>
    intro xs h
    cases xs with
    | nil => exact ⟨[], .refl _, trivial⟩
    | cons _ _ => exact h.elim
  | cons u p ih =>
    intro xs h
    cases xs with
    | nil => exact h.elim
    | cons x xs =>
      obtain ⟨ys, p', r⟩ := ih h.2
      exact ⟨x :: ys, p'.cons x, h.1, r⟩
  | swap u v l =>
    intro xs h
    cases xs with
    | nil => exact h.elim
    | cons x xs =>
      cases xs with
      | nil => exact h.2.elim
      | cons y xs => exact ⟨y :: x :: xs, .swap _ _ _, h.2.1, h.1, h.2.2⟩
  | trans p q ih1 ih2 =>
    intro xs h
    obtain ⟨ys, p1, r1⟩ := ih2 h
    obtain ⟨zs, p2, r2⟩ := ih1 r1
    exact ⟨zs, p2.trans p1, r2⟩
theorem Rs.pw (K : SKey A key sh) : ∀ {us : List V} {xs : List α}, Rs A c H us xs → us.Pairwise (fun x y => leK (kfH H x) (kfH H y) = true) → xs.Pairwise (fun x y => leK (key x) (key y) = true)
  | [], [], _, _ => .nil
  | u :: us, x :: xs, h, p => by
    obtain ⟨p1, p2⟩ := List.pairwise_cons.mp p
    refine List.pairwise_cons.mpr ⟨fun y hy => ?_, Rs.pw K h.2 p2⟩
    obtain ⟨i, hi, e⟩ := List.getElem_of_mem hy
    obtain ⟨v, e1, r⟩ := h.2.getX (i := i) (x := y) (by rw [← e]; exact List.getElem?_eq_getElem hi)
    have q := p1 v (List.mem_of_getElem? e1)
    obtain ⟨t, ws, rfl, hr, _, hk, _⟩ := K.ok h.1
    obtain ⟨t', ws', rfl, hr', _, hk', _⟩ := K.ok r
    rw [kfH_of hr hk, kfH_of hr' hk'] at q
    exact q
  | [], _ :: _, h, _ => h.elim
  | _ :: _, [], h, _ => h.elim
theorem sorted_end {K : PySem.W.Frag} {v : V} {xs : List α} (SKx : SKey A key sh) (hx : rB K A c H v xs) (w : Wf c H) (n0 : ∀ p, H p = none → H0 p = none) {Q : VK} (q : ∀ p us' c' H', H p = none → Step [] c H c' H' → Own A H0 c' H' p us' (sortK key xs) → Q (.ref p) H') : rSortT K [v] H Q := by
  obtain ⟨a, us, rfl, h, r⟩ := hx
  refine ⟨a, us, kfH H, sh, rfl, h, fun u hu => ?_, fun ys p hp hs np => ?_⟩
  · obtain ⟨i, hi, e⟩ := List.getElem_of_mem hu
    obtain ⟨x, _, rx⟩ := r.get (i := i) (u := u) (by rw [← e]; exact List.getElem?_eq_getElem hi)
    obtain ⟨t, ws, rfl, hr, h1, h2, h3⟩ := SKx.ok rx
    exact ⟨t, ws, rfl, hr, h1, by rw [kfH_of hr h2]; exact h2, h3⟩
  · obtain ⟨zs, pz, rz⟩ := r.perm hp
    have e : zs = sortK key xs := sorted_uniq SKx.inj (rz.pw SKx hs) (sortK_sorted xs) (pz.trans (sortK_perm xs).symm)
    rw [← e] at q
    have st : Step [] c H (setC c p (some p)) (upd H p (.lst ys)) := Step.new w np fun r e => by cases e; exact .inl rfl
    exact q p ys _ _ np st ⟨setC_same, upd_same, rz.up st.up, n0 p np⟩
end
end Kb
/-! Kb6: own errors, isinstance -/
namespace Kb
open PySem L2
/-- isinstance(e, c), e the exception that the suite holds, whatever it is -/
def rIsX (K : PySem.W.Frag) (a : Addr) (cls : Value) (d : Option Addr) : List V → Hp → VK → Prop := fun xs H Q => ∃ (D : Addr) (c : V) (cv : Value) (b : Bool), cls = .ref D ∧ d = none ∧ ExcC K D ∧ xs = [.ref a, c] ∧ (∀ u, RelV c u → u = cv) ∧ PySem.W.kitOne K (.ref D) cv = some b ∧ Q (.bl b) H
theorem call_isX {X : Cx} {a : Addr} {cls : Value} {d : Option Addr} {oe : Obj} {pn : List (Addr × Obj)} (hz : Zc cls d oe) (hf : ∃ vs, oe.data = .fields vs) : CallR (X.suite a ((a, oe) :: pn)) (.builtin "isinstance") (rIsX X.K a cls d) := by
  intro pins s σ H xs us Q I r h
  obtain ⟨D, c, cv, b, rfl, rfl, C, e1, h1, h2, q⟩ := h
  exact call_isE C hz hf pins s σ H xs us Q I r ⟨c, cv, b, e1, h1, h2, q⟩
theorem rc_isX {K : PySem.W.Frag} {a : Addr} {D : Addr} {H : Hp} {c : V} {cv : Value} {b : Bool} (C : ExcC K D) (hk : PySem.W.kitOne K (.ref D) cv = some b) (hc : ∀ u, RelV c u → u = cv := by intro u h; exact h) : Rc (rIsX K a (.ref D) none) [.ref a, c] H (.bl b) := fun _ q => ⟨D, c, cv, b, rfl, rfl, C, rfl, hc, hk, q⟩
/-- the classes of errors, as the top has made them: ea e is e's class, kerb the base's -/
structure ErrC (K : PySem.W.Frag) (mg : Str → Option Value) (x : Str) (C : Addr) (tail : List Value) : Prop where
  g : mg x = some (.ref C)
  ex : PySem.W.excIn K C tail "ValueError.__new__" = true
  kp : PySem.W.keepIn K (.ref C) = true
  sub : PySem.W.subIn K (.ref C) (.type "BaseException") = some true
  ty : PySem.W.typeIn K (.ref C) = some (.type "type")
  ec : ExcC K C
theorem ErrC.raises {X : Cx} {x : Str} {C : Addr} {tail : List Value} (e : ErrC X.K X.mg x C tail) : Raises X (.ref C) := raises_own e.sub e.ty
/-- a def of the text, called by its name -/
structure Df (K : PySem.W.Frag) (mg : Str → Option Value) (x : Str) (st : Stmt) (f : Addr) (fd : FuncData) (ps : List Str) : Prop where
  F : Fun K x x st f fd
  g : mg x = some (.ref f)
  b : Binds K fd ps []
/-- isinstance of data whose kind is known -/
theorem rc_isi {K : PySem.W.Frag} {H : Hp} {x c : V} {t u : Value} {b : Bool} (hc : ClsV c u) (ht : TyX K H x t) (hk : PySem.W.kitOne K t u = some b) : Rc (rIsi K) [x, c] H (.bl b) := fun _ q => ⟨x, c, t, u, b, rfl, hc, ht, hk, q⟩
theorem tyx_int {K : PySem.W.Frag} {H : Hp} {i : Int} : TyX K H (.int i) (.type "int") := .base (by first | exact .int i | exact .int | constructor)
theorem tyx_bl {K : PySem.W.Frag} {H : Hp} {i : Bool} : TyX K H (.bl i) (.type "bool") := .base (by first | exact .bl i | exact .bl | constructor)
theorem tyx_str {K : PySem.W.Frag} {H : Hp} {i : Str} : TyX K H (.str i) (.type "str") := .base (by first | exact .str i | exact .str | constructor)
end Kb
/-! Kb7: steps by data -/
namespace Kb
open PySem L2
theorem lift {α : Type} [DecidableEq α] {A : Ty α} {c c' : Cl} {H H' : Hp} {T : List Addr} {v : V} {x : α} (h : A.r c H v x) (st : Step T c H c' H') : A.r c' H' v x := A.up st.up h
theorem liftF {α : Type} [DecidableEq α] {A : Ty α} {c : Cl} {H : Hp} {p : Addr} {v : V} {x : α} (h : A.r c H v x) : A.r (frz c p) H v x := A.up frz_up h
/-- a frozen list, opened -/
structure Fzl {α : Type} [DecidableEq α] (A : Ty α) (c : Cl) (H : Hp) (a : Addr) (us : List V) (xs : List α) : Prop where
  col : c a = none
  obj : H a = some (.lst us)
  rs : Rs A c H us xs
section
variable {α : Type} [DecidableEq α] {A : Ty α} {c c' c0 : Cl} {H H' H0 : Hp} {S T : List Addr} {p a : Addr} {us : List V} {xs : List α} {v x y : V} {σ : L2.St} {t ta tb : TE}
theorem tyL_open (h : (tyL A).r c H v xs) : ∃ a us, v = .ref a ∧ Fzl A c H a us xs := let ⟨a, us, e, k, q, r⟩ := h; ⟨a, us, e, k, q, r⟩
theorem Fzl.lift (h : Fzl A c H a us xs) (st : Step T c H c' H') : Fzl A c' H' a us xs := ⟨st.up.col a _ h.obj h.col, st.up.obj a _ h.obj h.col, h.rs.up st.up⟩
theorem Fzl.liftF (h : Fzl A c H a us xs) : Fzl A (frz c p) H a us xs := ⟨frz_none h.col, h.obj, h.rs.up frz_up⟩
theorem Fzl.rd {K : PySem.W.Frag} (h : Fzl A c H a us xs) : SqL K H a us := .inl (.inl h.obj)
theorem Fzl.b {K : PySem.W.Frag} (h : Fzl A c H a us xs) : rB K A c H (.ref a) xs := ⟨a, us, rfl, .inl (.inl h.obj), h.rs⟩
theorem Fzl.pl (h : Fzl A c H a us xs) : rP A c H (.ref a) xs := ⟨a, us, rfl, h.obj, h.rs⟩
theorem Fzl.ty (h : Fzl A c H a us xs) : (tyL A).r c H (.ref a) xs := ⟨a, us, rfl, h.col, h.obj, h.rs⟩
/-- what the base knows of a list that is read alone, opened -/
structure Bl (K : PySem.W.Frag) (A : Ty α) (c0 : Cl) (H0 : Hp) (a : Addr) (us : List V) (xs : List α) : Prop where
  rd : SqL K H0 a us
  rs : Rs A c0 H0 us xs
theorem rB_open {K : PySem.W.Frag} (h : rB K A c H v xs) : ∃ a us, v = .ref a ∧ Bl K A c H a us xs := let ⟨a, us, e, q, r⟩ := h; ⟨a, us, e, q, r⟩
theorem Bl.b {K : PySem.W.Frag} (h : Bl K A c H a us xs) : rB K A c H (.ref a) xs := ⟨a, us, rfl, h.rd, h.rs⟩
theorem Bl.at {K : PySem.W.Frag} (h : Bl K A c0 H0 a us xs) (g : Step [] c0 H0 c H) : Bl K A c H a us xs := by
  exact ⟨g.sq0 h.rd, h.rs.up g.up⟩
theorem rv_ixB {K : PySem.W.Frag} {i : Int} {z : α} (h : rB K A c H v xs) (e : atI xs i = some z) : ∃ u, A.r c H u z ∧ Rv (rIxL K) v (.int i) H u := by
  obtain ⟨a, us, rfl, q, r⟩ := h
  obtain ⟨u, e1, ru⟩ := r.at e
  exact ⟨u, ru, fun _ z => ⟨a, us, i, u, rfl, rfl, q, e1, z⟩⟩
theorem len_B {K : PySem.W.Frag} (h : rB K A c H v xs) (hv : Pv t σ H v) : Pv (tCB (fun xs H Q => ∃ p ys, xs = [.ref p] ∧ (SqL K H p ys ∨ SqT K H p ys) ∧ Q (.int ys.length) H) (tCons t tNil)) σ H (.int xs.length) := pv_cb (pa_c hv pa_n) (rc_lenB h)
theorem tyx_lst {K : PySem.W.Frag} (h : rP A c H v xs) : TyX K H v (.type "list") := by
  obtain ⟨a, us, rfl, q, r⟩ := h
  exact .base (.lst q)
theorem nx_go {a : L2.St → Hp → Prop} {b : VK} {cc d : L2.St → Hp → Prop} (h : a σ H) : Ends.nx ⟨a, b, cc, d⟩ σ H := h
theorem for_u {wi : TI} {g : TG} {tb : TS} {D : Ends} (h : wi σ H fun J H1 => ∃ W : Nat → Nat → L2.St → Hp → Prop, (∃ m, W 0 m σ H1) ∧ ∀ i m σ H, W i m σ H →
  (J.stop i H ∧ D.nx σ H) ∨ (J.go i H ∧ ∃ N : L2.St → Hp → Prop, (∀ σ' H', N σ' H' → ∃ m', m' < m ∧ W (i + 1) m' σ' H') ∧ ∀ x H', J.yld i H x H' → g x σ H' fun σ2 H2 => tb { D with nx := N, ct := N, bk := D.nx } σ2 H2)) : tFor wi g tb D σ H := h
def LIt (K : PySem.W.Frag) (R : It → Hp → Prop) (x : V) (H1 : Hp) : Prop := ∃ a, x = .ref a ∧ (∃ xs, SqL K H1 a xs) ∧ R (Itl K a) H1
theorem ilist_u {K : PySem.W.Frag} {tl : TE} {R : It → Hp → Prop} (h : tl σ H (LIt K R)) : iList K tl σ H R := h
theorem ilist_e {K : PySem.W.Frag} {R : It → Hp → Prop} (hr : SqL K H a us) (q : R (Itl K a) H) : LIt K R (V.ref a) H := ⟨a, rfl, ⟨us, hr⟩, q⟩
def RIt1 (R : It → Hp → Prop) (vs : List V) (H1 : Hp) : Prop := ∃ j : Int, vs = [.int j] ∧ -(2 ^ 62) ≤ j ∧ j < 2 ^ 62 ∧ R (Itr 0 j.toNat) H1
theorem irng1_u {ta : TA} {R : It → Hp → Prop} (h : ta σ H (RIt1 R)) : iRng1 ta σ H R := h
def RIt2 (R : It → Hp → Prop) (vs : List V) (H1 : Hp) : Prop := ∃ i j : Int, vs = [.int i, .int j] ∧ (-(2 ^ 62) ≤ i ∧ i < 2 ^ 62 ∧ -(2 ^ 62) ≤ j ∧ j < 2 ^ 62) ∧ R (Itr i (j - i).toNat) H1
theorem irng2_u {ta : TA} {R : It → Hp → Prop} (h : ta σ H (RIt2 R)) : iRng2 ta σ H R := h
@[irreducible] def rngOk (i : Int) : Bool := decide (-(2 ^ 62) ≤ i) && decide (i < 2 ^ 62)
theorem rngOk_iff {i : Int} (h : rngOk i = true) : -(2 ^ 62) ≤ i ∧ i < 2 ^ 62 := by
  unfold rngOk at h
  rw [Bool.and_eq_true] at h
  exact ⟨of_decide_eq_true h.1, of_decide_eq_true h.2⟩
theorem irng1_e {R : It → Hp → Prop} {j : Int} (h : rngOk j = true) (q : R (Itr 0 j.toNat) H) : RIt1 R [V.int j] H := ⟨j, rfl, (rngOk_iff h).1, (rngOk_iff h).2, q⟩
theorem irng2_e {R : It → Hp → Prop} {i j : Int} (h : rngOk i = true) (h' : rngOk j = true) (q : R (Itr i (j - i).toNat) H) : RIt2 R [V.int i, V.int j] H := ⟨i, j, rfl, ⟨(rngOk_iff h).1, (rngOk_iff h).2, (rngOk_iff h').1, (rngOk_iff h').2⟩, q⟩
@[irreducible] def mulOk (a b : Int) : Bool := decide (a.natAbs.log2 + b.natAbs.log2 < 1000000)
theorem rv_mul {i j : Int} (h : mulOk i j = true) : Rv (rI CMulW fun i j => .int (i * j)) (.int i) (.int j) H (.int (i * j)) := rv_ic (C := CMulW) (g := fun i j => .int (i * j)) (show i.natAbs.log2 + j.natAbs.log2 < 1000000 by unfold mulOk at h; exact of_decide_eq_true h)
@[irreducible] def divOk (b : Int) : Bool := decide (0 < b) && decide (b.natAbs.log2 < 9000)
theorem rv_div {i j : Int} (h : divOk j = true) : Rv (rI CDivW fun i j => .int (i / j)) (.int i) (.int j) H (.int (i / j)) := rv_ic (C := CDivW) (g := fun i j => .int (i / j)) (by
  unfold divOk at h
  rw [Bool.and_eq_true] at h
  exact ⟨of_decide_eq_true h.1, of_decide_eq_true h.2⟩)
theorem rv_mod {i j : Int} (h : decide (0 < j) = true) : Rv (rI (fun _ j => 0 < j) fun i j => .int (i % j)) (.int i) (.int j) H (.int (i % j)) := rv_ic (C := fun _ j => 0 < j) (g := fun i j => .int (i % j)) (of_decide_eq_true h)
theorem rv_modL {i j : Int} (h : 0 < j) : Rv (rI (fun _ j => 0 < j) fun i j => .int (i % j)) (.int i) (.int j) H (.int (i % j)) := rv_ic (C := fun _ j => 0 < j) (g := fun i j => .int (i % j)) h
theorem rv_divL {i j : Int} (h : CDiv i j) : Rv (rI CDiv fun i j => .int (i / j)) (.int i) (.int j) H (.int (i / j)) := rv_ic (C := CDiv) (g := fun i j => .int (i / j)) h
theorem rv_pow {i j : Int} (h : CPow i j) : Rv (rI CPow fun i j => .int (i ^ j.toNat)) (.int i) (.int j) H (.int (i ^ j.toNat)) := rv_ic (C := CPow) (g := fun i j => .int (i ^ j.toNat)) h
theorem pv_neg {i : Int} (h : Pv t σ H (.int i)) : Pv (tUn (rU fun i => .int (-i)) t) σ H (.int (-i)) := pv_1 h fun _ q => ⟨i, rfl, q⟩
/-- truth of a list -/
theorem pt_list {K : PySem.W.Frag} (h : rB K A c H v xs) (hv : Pv t σ H v) : PvT (fun σ H Q => t σ H fun x H' => ∃ k, TruV K x H' k ∧ Q k H') σ H (!xs.isEmpty) := by
  obtain ⟨a, us, rfl, q, r⟩ := h
  refine fun Q q1 => hv _ ⟨!xs.isEmpty, .inl ⟨us, q, ?_⟩, q1⟩
  have e := r.len
  cases us <;> cases xs <;> simp_all
/-- a test whose ways meet behind it -/
theorem if_cut {β τ : Type} {P : β → Cl → Hp → Prop} {PE : Err → Cl → Hp → Prop} {m : Res τ} {rest : τ → Res β} {cc : TT} {t u : TS} {D : Ends} (k : Kont P PE S c0 H0 (m.bind rest)) (I : τ → Cl → Hp → L2.St → Prop) (kk : ∀ s c H σ, I s c H σ → Kont P PE S c0 H0 (rest s) → D.nx σ H)
    (h : Kont (fun s c' H' => ∀ σ', I s c' H' σ' → D.nx σ' H') PE S c0 H0 m → tIfS cc t u D σ H) : tIfS cc t u D σ H := h (k.turn.imp (fun s c H _ q σ i => kk s c H σ i q) fun _ _ _ _ q => q)
theorem Own.base {c1 : Cl} {H1 : Hp} (h : Own A H1 c H p us xs) (g : Step S c0 H0 c1 H1) : Own A H0 c H p us xs := ⟨h.col, h.obj, h.rs, g.fresh h.new⟩
theorem PvT.ifS {cc : TT} {t u : TS} {D : Ends} {b : Bool} (h : PvT cc σ H b) (ht : b = true → t D σ H) (hf : b = false → u D σ H) : tIfS cc t u D σ H := h _ (by
  cases b with
  | true => exact iteT (ht rfl)
  | false => exact iteF (hf rfl))
theorem ite_b {b : Bool} {A B : Prop} (ht : b = true → A) (hf : b = false → B) : if b = true then A else B := by
  cases b with
  | true => exact iteT (ht rfl)
  | false => exact iteF (hf rfl)
theorem not_s {t : TT} {A B : Hp → Prop} (h : t σ H fun c H1 => if c = true then B H1 else A H1) : tNot t σ H fun b H1 => if b = true then A H1 else B H1 := by
  show t σ H fun c H1 => if (!c) = true then A H1 else B H1
  have e : (fun (c : Bool) (H1 : Hp) => if (!c) = true then A H1 else B H1) = fun c H1 => if c = true then B H1 else A H1 := by
    funext c H1
    cases c <;> rfl
  rw [e]
  exact h
theorem and_s {t u : TT} {A B : Hp → Prop} (h : t σ H fun c H1 => if c = true then (u σ H1 fun b H2 => if b = true then A H2 else B H2) else B H1) : tAnd t u σ H fun b H1 => if b = true then A H1 else B H1 := by
  show t σ H fun c H1 => if c = true then (u σ H1 fun b H2 => if b = true then A H2 else B H2) else (if false = true then A H1 else B H1)
  have e : (fun (c : Bool) (H1 : Hp) => if c = true then (u σ H1 fun b H2 => if b = true then A H2 else B H2) else (if false = true then A H1 else B H1)) = fun c H1 => if c = true then (u σ H1 fun b H2 => if b = true then A H2 else B H2) else B H1 := by
    funext c H1
    cases c <;> rfl
  rw [e]
  exact h
theorem or_s {t u : TT} {A B : Hp → Prop} (h : t σ H fun c H1 => if c = true then A H1 else (u σ H1 fun b H2 => if b = true then A H2 else B H2)) : tOr t u σ H fun b H1 => if b = true then A H1 else B H1 := by
  show t σ H fun c H1 => if c = true then (if true = true then A H1 else B H1) else (u σ H1 fun b H2 => if b = true then A H2 else B H2)
  have e : (fun (c : Bool) (H1 : Hp) => if c = true then (if true = true then A H1 else B H1) else (u σ H1 fun b H2 => if b = true then A H2 else B H2)) = fun c H1 => if c = true then A H1 else (u σ H1 fun b H2 => if b = true then A H2 else B H2) := by
    funext c H1
    cases c <;> rfl
  rw [e]
  exact h
theorem cat_B {ys : List α} (hx : rP A c H v xs) (hy : rP A c H x ys) (w : Wf c H) (n0 : ∀ p, H p = none → H0 p = none) (hl : xs.length + ys.length ≤ sizeLine) {Q : VK}
    (q : ∀ p us' c' H', H p = none → Step [] c H c' H' → Own A H0 c' H' p us' (xs ++ ys) → Q (.ref p) H') : rCat v x H Q := by
  obtain ⟨a, us, rfl, h1, r1⟩ := hx
  obtain ⟨b, vs, rfl, h2, r2⟩ := hy
  exact cat_end rfl rfl h1 r1 h2 r2 w n0 hl q
theorem ok_cat {x y : Str} (h1 : PyData.strOk x = true) (h2 : PyData.strOk y = true) : PyData.strOk (x ++ y) = true := by
  unfold PyData.strOk at *
  show (x.cps ++ y.cps).all _ = true
  rw [Array.all_append, h1, h2]; rfl
theorem ok_at {x : Str} {i : Int} {n : Nat} (h : PyData.strOk x = true) (e : atI x.cps.toList i = some n) : PyData.strOk ⟨#[n]⟩ = true := by
  unfold PyData.strOk at *
  rw [Array.all_eq_true] at h
  unfold atI at e
  cases q : ixN x.cps.toList.length i with
  | none => rw [q] at e; cases e
  | some j =>
    rw [q] at e
    have e' : x.cps.toList[j]? = some n := e
    obtain ⟨hj, ej⟩ := List.getElem?_eq_some_iff.mp e'
    have hj' : j < x.cps.size := by rw [← Array.length_toList]; exact hj
    have z := h j hj'
    rw [← Array.getElem_toList] at z
    rw [ej] at z
    simpa using z
/-- from a base to a list's places -/
theorem base_ok (w : Wf c H) : Step [] c H c H := Step.refl w
end

theorem ix2_0 {α0 : Type} [DecidableEq α0] {A0 : Ty α0} {α1 : Type} [DecidableEq α1] {A1 : Ty α1} {c : Cl} {H : Hp} {v : V} {x : α0 × α1} (h : (tyT2 A0 A1).r c H v x) : ∃ u, A0.r c H u (x.1) ∧ ∀ {K : PySem.W.Frag}, Rv (rIxT K) v (.int 0) H u := by
  obtain ⟨a, u0, u1, rfl, _, q, h0, h1⟩ := h
  exact ⟨u0, h0, rv_ixt q rfl⟩
theorem ix2_1 {α0 : Type} [DecidableEq α0] {A0 : Ty α0} {α1 : Type} [DecidableEq α1] {A1 : Ty α1} {c : Cl} {H : Hp} {v : V} {x : α0 × α1} (h : (tyT2 A0 A1).r c H v x) : ∃ u, A1.r c H u (x.2) ∧ ∀ {K : PySem.W.Frag}, Rv (rIxT K) v (.int 1) H u := by
  obtain ⟨a, u0, u1, rfl, _, q, h0, h1⟩ := h
  exact ⟨u1, h1, rv_ixt q rfl⟩
theorem open2 {α0 : Type} [DecidableEq α0] {A0 : Ty α0} {α1 : Type} [DecidableEq α1] {A1 : Ty α1} {c : Cl} {H : Hp} {v : V} {x : α0 × α1} (h : (tyT2 A0 A1).r c H v x) : ∃ (a : Addr) (u0 u1 : V), v = .ref a ∧ Rd H a (.tup [u0, u1]) ∧ A0.r c H u0 (x.1) ∧ A1.r c H u1 (x.2) := by
  obtain ⟨a, u0, u1, e, _, q, h0, h1⟩ := h
  exact ⟨a, u0, u1, e, q, h0, h1⟩
theorem tyx2 {α0 : Type} [DecidableEq α0] {A0 : Ty α0} {α1 : Type} [DecidableEq α1] {A1 : Ty α1} {c : Cl} {H : Hp} {v : V} {x : α0 × α1} {K : PySem.W.Frag} (h : (tyT2 A0 A1).r c H v x) : TyX K H v (.type "tuple") := by
  obtain ⟨a, u0, u1, rfl, _, q, h0, h1⟩ := h
  rcases q with q | ⟨o, q⟩
  · exact .base (.tup q)
  · exact .fTuple q
theorem lenT2 {α0 : Type} [DecidableEq α0] {A0 : Ty α0} {α1 : Type} [DecidableEq α1] {A1 : Ty α1} {c : Cl} {H : Hp} {v : V} {x : α0 × α1} {K : PySem.W.Frag} {σ : L2.St} {t : TE} (h : (tyT2 A0 A1).r c H v x) (hv : Pv t σ H v) : Pv (tCB (fun xs H Q => ∃ p ys, xs = [.ref p] ∧ (SqL K H p ys ∨ SqT K H p ys) ∧ Q (.int ys.length) H) (tCons t tNil)) σ H (.int 2) := by
  obtain ⟨a, u0, u1, rfl, _, q, h0, h1⟩ := h
  exact pv_cb (pa_c hv pa_n) (rc_lent q)
theorem ix3_0 {α0 : Type} [DecidableEq α0] {A0 : Ty α0} {α1 : Type} [DecidableEq α1] {A1 : Ty α1} {α2 : Type} [DecidableEq α2] {A2 : Ty α2} {c : Cl} {H : Hp} {v : V} {x : α0 × α1 × α2} (h : (tyT3 A0 A1 A2).r c H v x) : ∃ u, A0.r c H u (x.1) ∧ ∀ {K : PySem.W.Frag}, Rv (rIxT K) v (.int 0) H u := by
  obtain ⟨a, u0, u1, u2, rfl, _, q, h0, h1, h2⟩ := h
  exact ⟨u0, h0, rv_ixt q rfl⟩
theorem ix3_1 {α0 : Type} [DecidableEq α0] {A0 : Ty α0} {α1 : Type} [DecidableEq α1] {A1 : Ty α1} {α2 : Type} [DecidableEq α2] {A2 : Ty α2} {c : Cl} {H : Hp} {v : V} {x : α0 × α1 × α2} (h : (tyT3 A0 A1 A2).r c H v x) : ∃ u, A1.r c H u (x.2.1) ∧ ∀ {K : PySem.W.Frag}, Rv (rIxT K) v (.int 1) H u := by
  obtain ⟨a, u0, u1, u2, rfl, _, q, h0, h1, h2⟩ := h
  exact ⟨u1, h1, rv_ixt q rfl⟩
theorem ix3_2 {α0 : Type} [DecidableEq α0] {A0 : Ty α0} {α1 : Type} [DecidableEq α1] {A1 : Ty α1} {α2 : Type} [DecidableEq α2] {A2 : Ty α2} {c : Cl} {H : Hp} {v : V} {x : α0 × α1 × α2} (h : (tyT3 A0 A1 A2).r c H v x) : ∃ u, A2.r c H u (x.2.2) ∧ ∀ {K : PySem.W.Frag}, Rv (rIxT K) v (.int 2) H u := by
  obtain ⟨a, u0, u1, u2, rfl, _, q, h0, h1, h2⟩ := h
  exact ⟨u2, h2, rv_ixt q rfl⟩
theorem open3 {α0 : Type} [DecidableEq α0] {A0 : Ty α0} {α1 : Type} [DecidableEq α1] {A1 : Ty α1} {α2 : Type} [DecidableEq α2] {A2 : Ty α2} {c : Cl} {H : Hp} {v : V} {x : α0 × α1 × α2} (h : (tyT3 A0 A1 A2).r c H v x) : ∃ (a : Addr) (u0 u1 u2 : V), v = .ref a ∧ Rd H a (.tup [u0, u1, u2]) ∧ A0.r c H u0 (x.1) ∧ A1.r c H u1 (x.2.1) ∧ A2.r c H u2 (x.2.2) := by
  obtain ⟨a, u0, u1, u2, e, _, q, h0, h1, h2⟩ := h
  exact ⟨a, u0, u1, u2, e, q, h0, h1, h2⟩
theorem tyx3 {α0 : Type} [DecidableEq α0] {A0 : Ty α0} {α1 : Type} [DecidableEq α1] {A1 : Ty α1} {α2 : Type} [DecidableEq α2] {A2 : Ty α2} {c : Cl} {H : Hp} {v : V} {x : α0 × α1 × α2} {K : PySem.W.Frag} (h : (tyT3 A0 A1 A2).r c H v x) : TyX K H v (.type "tuple") := by
  obtain ⟨a, u0, u1, u2, rfl, _, q, h0, h1, h2⟩ := h
  rcases q with q | ⟨o, q⟩
  · exact .base (.tup q)
  · exact .fTuple q
theorem lenT3 {α0 : Type} [DecidableEq α0] {A0 : Ty α0} {α1 : Type} [DecidableEq α1] {A1 : Ty α1} {α2 : Type} [DecidableEq α2] {A2 : Ty α2} {c : Cl} {H : Hp} {v : V} {x : α0 × α1 × α2} {K : PySem.W.Frag} {σ : L2.St} {t : TE} (h : (tyT3 A0 A1 A2).r c H v x) (hv : Pv t σ H v) : Pv (tCB (fun xs H Q => ∃ p ys, xs = [.ref p] ∧ (SqL K H p ys ∨ SqT K H p ys) ∧ Q (.int ys.length) H) (tCons t tNil)) σ H (.int 3) := by
  obtain ⟨a, u0, u1, u2, rfl, _, q, h0, h1, h2⟩ := h
  exact pv_cb (pa_c hv pa_n) (rc_lent q)
theorem ix4_0 {α0 : Type} [DecidableEq α0] {A0 : Ty α0} {α1 : Type} [DecidableEq α1] {A1 : Ty α1} {α2 : Type} [DecidableEq α2] {A2 : Ty α2} {α3 : Type} [DecidableEq α3] {A3 : Ty α3} {c : Cl} {H : Hp} {v : V} {x : α0 × α1 × α2 × α3} (h : (tyT4 A0 A1 A2 A3).r c H v x) : ∃ u, A0.r c H u (x.1) ∧ ∀ {K : PySem.W.Frag}, Rv (rIxT K) v (.int 0) H u := by
  obtain ⟨a, u0, u1, u2, u3, rfl, _, q, h0, h1, h2, h3⟩ := h
  exact ⟨u0, h0, rv_ixt q rfl⟩
theorem ix4_1 {α0 : Type} [DecidableEq α0] {A0 : Ty α0} {α1 : Type} [DecidableEq α1] {A1 : Ty α1} {α2 : Type} [DecidableEq α2] {A2 : Ty α2} {α3 : Type} [DecidableEq α3] {A3 : Ty α3} {c : Cl} {H : Hp} {v : V} {x : α0 × α1 × α2 × α3} (h : (tyT4 A0 A1 A2 A3).r c H v x) : ∃ u, A1.r c H u (x.2.1) ∧ ∀ {K : PySem.W.Frag}, Rv (rIxT K) v (.int 1) H u := by
  obtain ⟨a, u0, u1, u2, u3, rfl, _, q, h0, h1, h2, h3⟩ := h
  exact ⟨u1, h1, rv_ixt q rfl⟩
theorem ix4_2 {α0 : Type} [DecidableEq α0] {A0 : Ty α0} {α1 : Type} [DecidableEq α1] {A1 : Ty α1} {α2 : Type} [DecidableEq α2] {A2 : Ty α2} {α3 : Type} [DecidableEq α3] {A3 : Ty α3} {c : Cl} {H : Hp} {v : V} {x : α0 × α1 × α2 × α3} (h : (tyT4 A0 A1 A2 A3).r c H v x) : ∃ u, A2.r c H u (x.2.2.1) ∧ ∀ {K : PySem.W.Frag}, Rv (rIxT K) v (.int 2) H u := by
  obtain ⟨a, u0, u1, u2, u3, rfl, _, q, h0, h1, h2, h3⟩ := h
  exact ⟨u2, h2, rv_ixt q rfl⟩
theorem ix4_3 {α0 : Type} [DecidableEq α0] {A0 : Ty α0} {α1 : Type} [DecidableEq α1] {A1 : Ty α1} {α2 : Type} [DecidableEq α2] {A2 : Ty α2} {α3 : Type} [DecidableEq α3] {A3 : Ty α3} {c : Cl} {H : Hp} {v : V} {x : α0 × α1 × α2 × α3} (h : (tyT4 A0 A1 A2 A3).r c H v x) : ∃ u, A3.r c H u (x.2.2.2) ∧ ∀ {K : PySem.W.Frag}, Rv (rIxT K) v (.int 3) H u := by
  obtain ⟨a, u0, u1, u2, u3, rfl, _, q, h0, h1, h2, h3⟩ := h
  exact ⟨u3, h3, rv_ixt q rfl⟩
theorem open4 {α0 : Type} [DecidableEq α0] {A0 : Ty α0} {α1 : Type} [DecidableEq α1] {A1 : Ty α1} {α2 : Type} [DecidableEq α2] {A2 : Ty α2} {α3 : Type} [DecidableEq α3] {A3 : Ty α3} {c : Cl} {H : Hp} {v : V} {x : α0 × α1 × α2 × α3} (h : (tyT4 A0 A1 A2 A3).r c H v x) : ∃ (a : Addr) (u0 u1 u2 u3 : V), v = .ref a ∧ Rd H a (.tup [u0, u1, u2, u3]) ∧ A0.r c H u0 (x.1) ∧ A1.r c H u1 (x.2.1) ∧ A2.r c H u2 (x.2.2.1) ∧ A3.r c H u3 (x.2.2.2) := by
  obtain ⟨a, u0, u1, u2, u3, e, _, q, h0, h1, h2, h3⟩ := h
  exact ⟨a, u0, u1, u2, u3, e, q, h0, h1, h2, h3⟩
theorem tyx4 {α0 : Type} [DecidableEq α0] {A0 : Ty α0} {α1 : Type} [DecidableEq α1] {A1 : Ty α1} {α2 : Type} [DecidableEq α2] {A2 : Ty α2} {α3 : Type} [DecidableEq α3] {A3 : Ty α3} {c : Cl} {H : Hp} {v : V} {x : α0 × α1 × α2 × α3} {K : PySem.W.Frag} (h : (tyT4 A0 A1 A2 A3).r c H v x) : TyX K H v (.type "tuple") := by
  obtain ⟨a, u0, u1, u2, u3, rfl, _, q, h0, h1, h2, h3⟩ := h
  rcases q with q | ⟨o, q⟩
  · exact .base (.tup q)
  · exact .fTuple q
theorem lenT4 {α0 : Type} [DecidableEq α0] {A0 : Ty α0} {α1 : Type} [DecidableEq α1] {A1 : Ty α1} {α2 : Type} [DecidableEq α2] {A2 : Ty α2} {α3 : Type} [DecidableEq α3] {A3 : Ty α3} {c : Cl} {H : Hp} {v : V} {x : α0 × α1 × α2 × α3} {K : PySem.W.Frag} {σ : L2.St} {t : TE} (h : (tyT4 A0 A1 A2 A3).r c H v x) (hv : Pv t σ H v) : Pv (tCB (fun xs H Q => ∃ p ys, xs = [.ref p] ∧ (SqL K H p ys ∨ SqT K H p ys) ∧ Q (.int ys.length) H) (tCons t tNil)) σ H (.int 4) := by
  obtain ⟨a, u0, u1, u2, u3, rfl, _, q, h0, h1, h2, h3⟩ := h
  exact pv_cb (pa_c hv pa_n) (rc_lent q)
theorem ix5_0 {α0 : Type} [DecidableEq α0] {A0 : Ty α0} {α1 : Type} [DecidableEq α1] {A1 : Ty α1} {α2 : Type} [DecidableEq α2] {A2 : Ty α2} {α3 : Type} [DecidableEq α3] {A3 : Ty α3} {α4 : Type} [DecidableEq α4] {A4 : Ty α4} {c : Cl} {H : Hp} {v : V} {x : α0 × α1 × α2 × α3 × α4} (h : (tyT5 A0 A1 A2 A3 A4).r c H v x) : ∃ u, A0.r c H u (x.1) ∧ ∀ {K : PySem.W.Frag}, Rv (rIxT K) v (.int 0) H u := by
  obtain ⟨a, u0, u1, u2, u3, u4, rfl, _, q, h0, h1, h2, h3, h4⟩ := h
  exact ⟨u0, h0, rv_ixt q rfl⟩
theorem ix5_1 {α0 : Type} [DecidableEq α0] {A0 : Ty α0} {α1 : Type} [DecidableEq α1] {A1 : Ty α1} {α2 : Type} [DecidableEq α2] {A2 : Ty α2} {α3 : Type} [DecidableEq α3] {A3 : Ty α3} {α4 : Type} [DecidableEq α4] {A4 : Ty α4} {c : Cl} {H : Hp} {v : V} {x : α0 × α1 × α2 × α3 × α4} (h : (tyT5 A0 A1 A2 A3 A4).r c H v x) : ∃ u, A1.r c H u (x.2.1) ∧ ∀ {K : PySem.W.Frag}, Rv (rIxT K) v (.int 1) H u := by
  obtain ⟨a, u0, u1, u2, u3, u4, rfl, _, q, h0, h1, h2, h3, h4⟩ := h
  exact ⟨u1, h1, rv_ixt q rfl⟩
theorem ix5_2 {α0 : Type} [DecidableEq α0] {A0 : Ty α0} {α1 : Type} [DecidableEq α1] {A1 : Ty α1} {α2 : Type} [DecidableEq α2] {A2 : Ty α2} {α3 : Type} [DecidableEq α3] {A3 : Ty α3} {α4 : Type} [DecidableEq α4] {A4 : Ty α4} {c : Cl} {H : Hp} {v : V} {x : α0 × α1 × α2 × α3 × α4} (h : (tyT5 A0 A1 A2 A3 A4).r c H v x) : ∃ u, A2.r c H u (x.2.2.1) ∧ ∀ {K : PySem.W.Frag}, Rv (rIxT K) v (.int 2) H u := by
  obtain ⟨a, u0, u1, u2, u3, u4, rfl, _, q, h0, h1, h2, h3, h4⟩ := h
  exact ⟨u2, h2, rv_ixt q rfl⟩
theorem ix5_3 {α0 : Type} [DecidableEq α0] {A0 : Ty α0} {α1 : Type} [DecidableEq α1] {A1 : Ty α1} {α2 : Type} [DecidableEq α2] {A2 : Ty α2} {α3 : Type} [DecidableEq α3] {A3 : Ty α3} {α4 : Type} [DecidableEq α4] {A4 : Ty α4} {c : Cl} {H : Hp} {v : V} {x : α0 × α1 × α2 × α3 × α4} (h : (tyT5 A0 A1 A2 A3 A4).r c H v x) : ∃ u, A3.r c H u (x.2.2.2.1) ∧ ∀ {K : PySem.W.Frag}, Rv (rIxT K) v (.int 3) H u := by
  obtain ⟨a, u0, u1, u2, u3, u4, rfl, _, q, h0, h1, h2, h3, h4⟩ := h
  exact ⟨u3, h3, rv_ixt q rfl⟩
theorem ix5_4 {α0 : Type} [DecidableEq α0] {A0 : Ty α0} {α1 : Type} [DecidableEq α1] {A1 : Ty α1} {α2 : Type} [DecidableEq α2] {A2 : Ty α2} {α3 : Type} [DecidableEq α3] {A3 : Ty α3} {α4 : Type} [DecidableEq α4] {A4 : Ty α4} {c : Cl} {H : Hp} {v : V} {x : α0 × α1 × α2 × α3 × α4} (h : (tyT5 A0 A1 A2 A3 A4).r c H v x) : ∃ u, A4.r c H u (x.2.2.2.2) ∧ ∀ {K : PySem.W.Frag}, Rv (rIxT K) v (.int 4) H u := by
  obtain ⟨a, u0, u1, u2, u3, u4, rfl, _, q, h0, h1, h2, h3, h4⟩ := h
  exact ⟨u4, h4, rv_ixt q rfl⟩
theorem open5 {α0 : Type} [DecidableEq α0] {A0 : Ty α0} {α1 : Type} [DecidableEq α1] {A1 : Ty α1} {α2 : Type} [DecidableEq α2] {A2 : Ty α2} {α3 : Type} [DecidableEq α3] {A3 : Ty α3} {α4 : Type} [DecidableEq α4] {A4 : Ty α4} {c : Cl} {H : Hp} {v : V} {x : α0 × α1 × α2 × α3 × α4} (h : (tyT5 A0 A1 A2 A3 A4).r c H v x) : ∃ (a : Addr) (u0 u1 u2 u3 u4 : V), v = .ref a ∧ Rd H a (.tup [u0, u1, u2, u3, u4]) ∧ A0.r c H u0 (x.1) ∧ A1.r c H u1 (x.2.1) ∧ A2.r c H u2 (x.2.2.1) ∧ A3.r c H u3 (x.2.2.2.1) ∧ A4.r c H u4 (x.2.2.2.2) := by
  obtain ⟨a, u0, u1, u2, u3, u4, e, _, q, h0, h1, h2, h3, h4⟩ := h
  exact ⟨a, u0, u1, u2, u3, u4, e, q, h0, h1, h2, h3, h4⟩
theorem tyx5 {α0 : Type} [DecidableEq α0] {A0 : Ty α0} {α1 : Type} [DecidableEq α1] {A1 : Ty α1} {α2 : Type} [DecidableEq α2] {A2 : Ty α2} {α3 : Type} [DecidableEq α3] {A3 : Ty α3} {α4 : Type} [DecidableEq α4] {A4 : Ty α4} {c : Cl} {H : Hp} {v : V} {x : α0 × α1 × α2 × α3 × α4} {K : PySem.W.Frag} (h : (tyT5 A0 A1 A2 A3 A4).r c H v x) : TyX K H v (.type "tuple") := by
  obtain ⟨a, u0, u1, u2, u3, u4, rfl, _, q, h0, h1, h2, h3, h4⟩ := h
  rcases q with q | ⟨o, q⟩
  · exact .base (.tup q)
  · exact .fTuple q
theorem lenT5 {α0 : Type} [DecidableEq α0] {A0 : Ty α0} {α1 : Type} [DecidableEq α1] {A1 : Ty α1} {α2 : Type} [DecidableEq α2] {A2 : Ty α2} {α3 : Type} [DecidableEq α3] {A3 : Ty α3} {α4 : Type} [DecidableEq α4] {A4 : Ty α4} {c : Cl} {H : Hp} {v : V} {x : α0 × α1 × α2 × α3 × α4} {K : PySem.W.Frag} {σ : L2.St} {t : TE} (h : (tyT5 A0 A1 A2 A3 A4).r c H v x) (hv : Pv t σ H v) : Pv (tCB (fun xs H Q => ∃ p ys, xs = [.ref p] ∧ (SqL K H p ys ∨ SqT K H p ys) ∧ Q (.int ys.length) H) (tCons t tNil)) σ H (.int 5) := by
  obtain ⟨a, u0, u1, u2, u3, u4, rfl, _, q, h0, h1, h2, h3, h4⟩ := h
  exact pv_cb (pa_c hv pa_n) (rc_lent q)
theorem ix6_0 {α0 : Type} [DecidableEq α0] {A0 : Ty α0} {α1 : Type} [DecidableEq α1] {A1 : Ty α1} {α2 : Type} [DecidableEq α2] {A2 : Ty α2} {α3 : Type} [DecidableEq α3] {A3 : Ty α3} {α4 : Type} [DecidableEq α4] {A4 : Ty α4} {α5 : Type} [DecidableEq α5] {A5 : Ty α5} {c : Cl} {H : Hp} {v : V} {x : α0 × α1 × α2 × α3 × α4 × α5} (h : (tyT6 A0 A1 A2 A3 A4 A5).r c H v x) : ∃ u, A0.r c H u (x.1) ∧ ∀ {K : PySem.W.Frag}, Rv (rIxT K) v (.int 0) H u := by
  obtain ⟨a, u0, u1, u2, u3, u4, u5, rfl, _, q, h0, h1, h2, h3, h4, h5⟩ := h
  exact ⟨u0, h0, rv_ixt q rfl⟩
theorem ix6_1 {α0 : Type} [DecidableEq α0] {A0 : Ty α0} {α1 : Type} [DecidableEq α1] {A1 : Ty α1} {α2 : Type} [DecidableEq α2] {A2 : Ty α2} {α3 : Type} [DecidableEq α3] {A3 : Ty α3} {α4 : Type} [DecidableEq α4] {A4 : Ty α4} {α5 : Type} [DecidableEq α5] {A5 : Ty α5} {c : Cl} {H : Hp} {v : V} {x : α0 × α1 × α2 × α3 × α4 × α5} (h : (tyT6 A0 A1 A2 A3 A4 A5).r c H v x) : ∃ u, A1.r c H u (x.2.1) ∧ ∀ {K : PySem.W.Frag}, Rv (rIxT K) v (.int 1) H u := by
  obtain ⟨a, u0, u1, u2, u3, u4, u5, rfl, _, q, h0, h1, h2, h3, h4, h5⟩ := h
  exact ⟨u1, h1, rv_ixt q rfl⟩
theorem ix6_2 {α0 : Type} [DecidableEq α0] {A0 : Ty α0} {α1 : Type} [DecidableEq α1] {A1 : Ty α1} {α2 : Type} [DecidableEq α2] {A2 : Ty α2} {α3 : Type} [DecidableEq α3] {A3 : Ty α3} {α4 : Type} [DecidableEq α4] {A4 : Ty α4} {α5 : Type} [DecidableEq α5] {A5 : Ty α5} {c : Cl} {H : Hp} {v : V} {x : α0 × α1 × α2 × α3 × α4 × α5} (h : (tyT6 A0 A1 A2 A3 A4 A5).r c H v x) : ∃ u, A2.r c H u (x.2.2.1) ∧ ∀ {K : PySem.W.Frag}, Rv (rIxT K) v (.int 2) H u := by
  obtain ⟨a, u0, u1, u2, u3, u4, u5, rfl, _, q, h0, h1, h2, h3, h4, h5⟩ := h
  exact ⟨u2, h2, rv_ixt q rfl⟩
theorem ix6_3 {α0 : Type} [DecidableEq α0] {A0 : Ty α0} {α1 : Type} [DecidableEq α1] {A1 : Ty α1} {α2 : Type} [DecidableEq α2] {A2 : Ty α2} {α3 : Type} [DecidableEq α3] {A3 : Ty α3} {α4 : Type} [DecidableEq α4] {A4 : Ty α4} {α5 : Type} [DecidableEq α5] {A5 : Ty α5} {c : Cl} {H : Hp} {v : V} {x : α0 × α1 × α2 × α3 × α4 × α5} (h : (tyT6 A0 A1 A2 A3 A4 A5).r c H v x) : ∃ u, A3.r c H u (x.2.2.2.1) ∧ ∀ {K : PySem.W.Frag}, Rv (rIxT K) v (.int 3) H u := by
  obtain ⟨a, u0, u1, u2, u3, u4, u5, rfl, _, q, h0, h1, h2, h3, h4, h5⟩ := h
  exact ⟨u3, h3, rv_ixt q rfl⟩
theorem ix6_4 {α0 : Type} [DecidableEq α0] {A0 : Ty α0} {α1 : Type} [DecidableEq α1] {A1 : Ty α1} {α2 : Type} [DecidableEq α2] {A2 : Ty α2} {α3 : Type} [DecidableEq α3] {A3 : Ty α3} {α4 : Type} [DecidableEq α4] {A4 : Ty α4} {α5 : Type} [DecidableEq α5] {A5 : Ty α5} {c : Cl} {H : Hp} {v : V} {x : α0 × α1 × α2 × α3 × α4 × α5} (h : (tyT6 A0 A1 A2 A3 A4 A5).r c H v x) : ∃ u, A4.r c H u (x.2.2.2.2.1) ∧ ∀ {K : PySem.W.Frag}, Rv (rIxT K) v (.int 4) H u := by
  obtain ⟨a, u0, u1, u2, u3, u4, u5, rfl, _, q, h0, h1, h2, h3, h4, h5⟩ := h
  exact ⟨u4, h4, rv_ixt q rfl⟩
theorem ix6_5 {α0 : Type} [DecidableEq α0] {A0 : Ty α0} {α1 : Type} [DecidableEq α1] {A1 : Ty α1} {α2 : Type} [DecidableEq α2] {A2 : Ty α2} {α3 : Type} [DecidableEq α3] {A3 : Ty α3} {α4 : Type} [DecidableEq α4] {A4 : Ty α4} {α5 : Type} [DecidableEq α5] {A5 : Ty α5} {c : Cl} {H : Hp} {v : V} {x : α0 × α1 × α2 × α3 × α4 × α5} (h : (tyT6 A0 A1 A2 A3 A4 A5).r c H v x) : ∃ u, A5.r c H u (x.2.2.2.2.2) ∧ ∀ {K : PySem.W.Frag}, Rv (rIxT K) v (.int 5) H u := by
  obtain ⟨a, u0, u1, u2, u3, u4, u5, rfl, _, q, h0, h1, h2, h3, h4, h5⟩ := h
  exact ⟨u5, h5, rv_ixt q rfl⟩
theorem open6 {α0 : Type} [DecidableEq α0] {A0 : Ty α0} {α1 : Type} [DecidableEq α1] {A1 : Ty α1} {α2 : Type} [DecidableEq α2] {A2 : Ty α2} {α3 : Type} [DecidableEq α3] {A3 : Ty α3} {α4 : Type} [DecidableEq α4] {A4 : Ty α4} {α5 : Type} [DecidableEq α5] {A5 : Ty α5} {c : Cl} {H : Hp} {v : V} {x : α0 × α1 × α2 × α3 × α4 × α5} (h : (tyT6 A0 A1 A2 A3 A4 A5).r c H v x) : ∃ (a : Addr) (u0 u1 u2 u3 u4 u5 : V), v = .ref a ∧ Rd H a (.tup [u0, u1, u2, u3, u4, u5]) ∧ A0.r c H u0 (x.1) ∧ A1.r c H u1 (x.2.1) ∧ A2.r c H u2 (x.2.2.1) ∧ A3.r c H u3 (x.2.2.2.1) ∧ A4.r c H u4 (x.2.2.2.2.1) ∧ A5.r c H u5 (x.2.2.2.2.2) := by
  obtain ⟨a, u0, u1, u2, u3, u4, u5, e, _, q, h0, h1, h2, h3, h4, h5⟩ := h
  exact ⟨a, u0, u1, u2, u3, u4, u5, e, q, h0, h1, h2, h3, h4, h5⟩
theorem tyx6 {α0 : Type} [DecidableEq α0] {A0 : Ty α0} {α1 : Type} [DecidableEq α1] {A1 : Ty α1} {α2 : Type} [DecidableEq α2] {A2 : Ty α2} {α3 : Type} [DecidableEq α3] {A3 : Ty α3} {α4 : Type} [DecidableEq α4] {A4 : Ty α4} {α5 : Type} [DecidableEq α5] {A5 : Ty α5} {c : Cl} {H : Hp} {v : V} {x : α0 × α1 × α2 × α3 × α4 × α5} {K : PySem.W.Frag} (h : (tyT6 A0 A1 A2 A3 A4 A5).r c H v x) : TyX K H v (.type "tuple") := by
  obtain ⟨a, u0, u1, u2, u3, u4, u5, rfl, _, q, h0, h1, h2, h3, h4, h5⟩ := h
  rcases q with q | ⟨o, q⟩
  · exact .base (.tup q)
  · exact .fTuple q
theorem lenT6 {α0 : Type} [DecidableEq α0] {A0 : Ty α0} {α1 : Type} [DecidableEq α1] {A1 : Ty α1} {α2 : Type} [DecidableEq α2] {A2 : Ty α2} {α3 : Type} [DecidableEq α3] {A3 : Ty α3} {α4 : Type} [DecidableEq α4] {A4 : Ty α4} {α5 : Type} [DecidableEq α5] {A5 : Ty α5} {c : Cl} {H : Hp} {v : V} {x : α0 × α1 × α2 × α3 × α4 × α5} {K : PySem.W.Frag} {σ : L2.St} {t : TE} (h : (tyT6 A0 A1 A2 A3 A4 A5).r c H v x) (hv : Pv t σ H v) : Pv (tCB (fun xs H Q => ∃ p ys, xs = [.ref p] ∧ (SqL K H p ys ∨ SqT K H p ys) ∧ Q (.int ys.length) H) (tCons t tNil)) σ H (.int 6) := by
  obtain ⟨a, u0, u1, u2, u3, u4, u5, rfl, _, q, h0, h1, h2, h3, h4, h5⟩ := h
  exact pv_cb (pa_c hv pa_n) (rc_lent q)
theorem ix7_0 {α0 : Type} [DecidableEq α0] {A0 : Ty α0} {α1 : Type} [DecidableEq α1] {A1 : Ty α1} {α2 : Type} [DecidableEq α2] {A2 : Ty α2} {α3 : Type} [DecidableEq α3] {A3 : Ty α3} {α4 : Type} [DecidableEq α4] {A4 : Ty α4} {α5 : Type} [DecidableEq α5] {A5 : Ty α5} {α6 : Type} [DecidableEq α6] {A6 : Ty α6} {c : Cl} {H : Hp} {v : V} {x : α0 × α1 × α2 × α3 × α4 × α5 × α6} (h : (tyT7 A0 A1 A2 A3 A4 A5 A6).r c H v x) : ∃ u, A0.r c H u (x.1) ∧ ∀ {K : PySem.W.Frag}, Rv (rIxT K) v (.int 0) H u := by
  obtain ⟨a, u0, u1, u2, u3, u4, u5, u6, rfl, _, q, h0, h1, h2, h3, h4, h5, h6⟩ := h
  exact ⟨u0, h0, rv_ixt q rfl⟩
theorem ix7_1 {α0 : Type} [DecidableEq α0] {A0 : Ty α0} {α1 : Type} [DecidableEq α1] {A1 : Ty α1} {α2 : Type} [DecidableEq α2] {A2 : Ty α2} {α3 : Type} [DecidableEq α3] {A3 : Ty α3} {α4 : Type} [DecidableEq α4] {A4 : Ty α4} {α5 : Type} [DecidableEq α5] {A5 : Ty α5} {α6 : Type} [DecidableEq α6] {A6 : Ty α6} {c : Cl} {H : Hp} {v : V} {x : α0 × α1 × α2 × α3 × α4 × α5 × α6} (h : (tyT7 A0 A1 A2 A3 A4 A5 A6).r c H v x) : ∃ u, A1.r c H u (x.2.1) ∧ ∀ {K : PySem.W.Frag}, Rv (rIxT K) v (.int 1) H u := by
  obtain ⟨a, u0, u1, u2, u3, u4, u5, u6, rfl, _, q, h0, h1, h2, h3, h4, h5, h6⟩ := h
  exact ⟨u1, h1, rv_ixt q rfl⟩
theorem ix7_2 {α0 : Type} [DecidableEq α0] {A0 : Ty α0} {α1 : Type} [DecidableEq α1] {A1 : Ty α1} {α2 : Type} [DecidableEq α2] {A2 : Ty α2} {α3 : Type} [DecidableEq α3] {A3 : Ty α3} {α4 : Type} [DecidableEq α4] {A4 : Ty α4} {α5 : Type} [DecidableEq α5] {A5 : Ty α5} {α6 : Type} [DecidableEq α6] {A6 : Ty α6} {c : Cl} {H : Hp} {v : V} {x : α0 × α1 × α2 × α3 × α4 × α5 × α6} (h : (tyT7 A0 A1 A2 A3 A4 A5 A6).r c H v x) : ∃ u, A2.r c H u (x.2.2.1) ∧ ∀ {K : PySem.W.Frag}, Rv (rIxT K) v (.int 2) H u := by
  obtain ⟨a, u0, u1, u2, u3, u4, u5, u6, rfl, _, q, h0, h1, h2, h3, h4, h5, h6⟩ := h
  exact ⟨u2, h2, rv_ixt q rfl⟩
theorem ix7_3 {α0 : Type} [DecidableEq α0] {A0 : Ty α0} {α1 : Type} [DecidableEq α1] {A1 : Ty α1} {α2 : Type} [DecidableEq α2] {A2 : Ty α2} {α3 : Type} [DecidableEq α3] {A3 : Ty α3} {α4 : Type} [DecidableEq α4] {A4 : Ty α4} {α5 : Type} [DecidableEq α5] {A5 : Ty α5} {α6 : Type} [DecidableEq α6] {A6 : Ty α6} {c : Cl} {H : Hp} {v : V} {x : α0 × α1 × α2 × α3 × α4 × α5 × α6} (h : (tyT7 A0 A1 A2 A3 A4 A5 A6).r c H v x) : ∃ u, A3.r c H u (x.2.2.2.1) ∧ ∀ {K : PySem.W.Frag}, Rv (rIxT K) v (.int 3) H u := by
  obtain ⟨a, u0, u1, u2, u3, u4, u5, u6, rfl, _, q, h0, h1, h2, h3, h4, h5, h6⟩ := h
  exact ⟨u3, h3, rv_ixt q rfl⟩
theorem ix7_4 {α0 : Type} [DecidableEq α0] {A0 : Ty α0} {α1 : Type} [DecidableEq α1] {A1 : Ty α1} {α2 : Type} [DecidableEq α2] {A2 : Ty α2} {α3 : Type} [DecidableEq α3] {A3 : Ty α3} {α4 : Type} [DecidableEq α4] {A4 : Ty α4} {α5 : Type} [DecidableEq α5] {A5 : Ty α5} {α6 : Type} [DecidableEq α6] {A6 : Ty α6} {c : Cl} {H : Hp} {v : V} {x : α0 × α1 × α2 × α3 × α4 × α5 × α6} (h : (tyT7 A0 A1 A2 A3 A4 A5 A6).r c H v x) : ∃ u, A4.r c H u (x.2.2.2.2.1) ∧ ∀ {K : PySem.W.Frag}, Rv (rIxT K) v (.int 4) H u := by
  obtain ⟨a, u0, u1, u2, u3, u4, u5, u6, rfl, _, q, h0, h1, h2, h3, h4, h5, h6⟩ := h
  exact ⟨u4, h4, rv_ixt q rfl⟩
theorem ix7_5 {α0 : Type} [DecidableEq α0] {A0 : Ty α0} {α1 : Type} [DecidableEq α1] {A1 : Ty α1} {α2 : Type} [DecidableEq α2] {A2 : Ty α2} {α3 : Type} [DecidableEq α3] {A3 : Ty α3} {α4 : Type} [DecidableEq α4] {A4 : Ty α4} {α5 : Type} [DecidableEq α5] {A5 : Ty α5} {α6 : Type} [DecidableEq α6] {A6 : Ty α6} {c : Cl} {H : Hp} {v : V} {x : α0 × α1 × α2 × α3 × α4 × α5 × α6} (h : (tyT7 A0 A1 A2 A3 A4 A5 A6).r c H v x) : ∃ u, A5.r c H u (x.2.2.2.2.2.1) ∧ ∀ {K : PySem.W.Frag}, Rv (rIxT K) v (.int 5) H u := by
  obtain ⟨a, u0, u1, u2, u3, u4, u5, u6, rfl, _, q, h0, h1, h2, h3, h4, h5, h6⟩ := h
  exact ⟨u5, h5, rv_ixt q rfl⟩
theorem ix7_6 {α0 : Type} [DecidableEq α0] {A0 : Ty α0} {α1 : Type} [DecidableEq α1] {A1 : Ty α1} {α2 : Type} [DecidableEq α2] {A2 : Ty α2} {α3 : Type} [DecidableEq α3] {A3 : Ty α3} {α4 : Type} [DecidableEq α4] {A4 : Ty α4} {α5 : Type} [DecidableEq α5] {A5 : Ty α5} {α6 : Type} [DecidableEq α6] {A6 : Ty α6} {c : Cl} {H : Hp} {v : V} {x : α0 × α1 × α2 × α3 × α4 × α5 × α6} (h : (tyT7 A0 A1 A2 A3 A4 A5 A6).r c H v x) : ∃ u, A6.r c H u (x.2.2.2.2.2.2) ∧ ∀ {K : PySem.W.Frag}, Rv (rIxT K) v (.int 6) H u := by
  obtain ⟨a, u0, u1, u2, u3, u4, u5, u6, rfl, _, q, h0, h1, h2, h3, h4, h5, h6⟩ := h
  exact ⟨u6, h6, rv_ixt q rfl⟩
theorem open7 {α0 : Type} [DecidableEq α0] {A0 : Ty α0} {α1 : Type} [DecidableEq α1] {A1 : Ty α1} {α2 : Type} [DecidableEq α2] {A2 : Ty α2} {α3 : Type} [DecidableEq α3] {A3 : Ty α3} {α4 : Type} [DecidableEq α4] {A4 : Ty α4} {α5 : Type} [DecidableEq α5] {A5 : Ty α5} {α6 : Type} [DecidableEq α6] {A6 : Ty α6} {c : Cl} {H : Hp} {v : V} {x : α0 × α1 × α2 × α3 × α4 × α5 × α6} (h : (tyT7 A0 A1 A2 A3 A4 A5 A6).r c H v x) : ∃ (a : Addr) (u0 u1 u2 u3 u4 u5 u6 : V), v = .ref a ∧ Rd H a (.tup [u0, u1, u2, u3, u4, u5, u6]) ∧ A0.r c H u0 (x.1) ∧ A1.r c H u1 (x.2.1) ∧ A2.r c H u2 (x.2.2.1) ∧ A3.r c H u3 (x.2.2.2.1) ∧ A4.r c H u4 (x.2.2.2.2.1) ∧ A5.r c H u5 (x.2.2.2.2.2.1) ∧ A6.r c H u6 (x.2.2.2.2.2.2) := by
  obtain ⟨a, u0, u1, u2, u3, u4, u5, u6, e, _, q, h0, h1, h2, h3, h4, h5, h6⟩ := h
  exact ⟨a, u0, u1, u2, u3, u4, u5, u6, e, q, h0, h1, h2, h3, h4, h5, h6⟩
theorem tyx7 {α0 : Type} [DecidableEq α0] {A0 : Ty α0} {α1 : Type} [DecidableEq α1] {A1 : Ty α1} {α2 : Type} [DecidableEq α2] {A2 : Ty α2} {α3 : Type} [DecidableEq α3] {A3 : Ty α3} {α4 : Type} [DecidableEq α4] {A4 : Ty α4} {α5 : Type} [DecidableEq α5] {A5 : Ty α5} {α6 : Type} [DecidableEq α6] {A6 : Ty α6} {c : Cl} {H : Hp} {v : V} {x : α0 × α1 × α2 × α3 × α4 × α5 × α6} {K : PySem.W.Frag} (h : (tyT7 A0 A1 A2 A3 A4 A5 A6).r c H v x) : TyX K H v (.type "tuple") := by
  obtain ⟨a, u0, u1, u2, u3, u4, u5, u6, rfl, _, q, h0, h1, h2, h3, h4, h5, h6⟩ := h
  rcases q with q | ⟨o, q⟩
  · exact .base (.tup q)
  · exact .fTuple q
theorem lenT7 {α0 : Type} [DecidableEq α0] {A0 : Ty α0} {α1 : Type} [DecidableEq α1] {A1 : Ty α1} {α2 : Type} [DecidableEq α2] {A2 : Ty α2} {α3 : Type} [DecidableEq α3] {A3 : Ty α3} {α4 : Type} [DecidableEq α4] {A4 : Ty α4} {α5 : Type} [DecidableEq α5] {A5 : Ty α5} {α6 : Type} [DecidableEq α6] {A6 : Ty α6} {c : Cl} {H : Hp} {v : V} {x : α0 × α1 × α2 × α3 × α4 × α5 × α6} {K : PySem.W.Frag} {σ : L2.St} {t : TE} (h : (tyT7 A0 A1 A2 A3 A4 A5 A6).r c H v x) (hv : Pv t σ H v) : Pv (tCB (fun xs H Q => ∃ p ys, xs = [.ref p] ∧ (SqL K H p ys ∨ SqT K H p ys) ∧ Q (.int ys.length) H) (tCons t tNil)) σ H (.int 7) := by
  obtain ⟨a, u0, u1, u2, u3, u4, u5, u6, rfl, _, q, h0, h1, h2, h3, h4, h5, h6⟩ := h
  exact pv_cb (pa_c hv pa_n) (rc_lent q)

/-! #### sort keys -/
def keySII (x : Str × Int × Int) : SK := [.inr x.1.cps.toList, .inl x.2.1, .inl x.2.2]
def shSII : Nat → Bool := fun i => i == 0
theorem sk_SII : SKey (tyT3 tyS tyI tyI) keySII shSII where
  ok := by
    intro c H v x h
    obtain ⟨a, u0, u1, u2, e, _, q, ⟨h0, _⟩, h1, h2⟩ := h
    have h1' : u1 = V.int x.2.1 := h1
    have h2' : u2 = V.int x.2.2 := h2
    subst h0 h1' h2'
    refine ⟨a, _, e, q, by simp, rfl, fun j v hj => ?_⟩
    match j, hj with
    | 0, hj => cases hj; rfl
    | 1, hj => cases hj; rfl
    | 2, hj => cases hj; rfl
    | j + 3, hj => simp at hj
  inj := by
    rintro ⟨⟨⟨a⟩⟩, b, c⟩ ⟨⟨⟨a'⟩⟩, b', c'⟩ h
    simp only [keySII, List.cons.injEq, Sum.inr.injEq, Sum.inl.injEq, and_true] at h
    obtain ⟨h1, h2, h3⟩ := h
    subst h2 h3
    have h1' : a = a' := h1
    subst h1'
    rfl
end Kb
/-! Kb8: what the top has made -/
namespace Kb
open PySem L2 PySem.W
section
variable {K : PySem.W.Frag} {mg : Str → Option Value} {h : Heap}
theorem df_mk {x : Str} {st : Stmt} {ps : List Str} {f : Addr} {oc : Value} {od an : Option Addr} {sl : Array (Option Value)} {kV dc pm cd ct : Value} (X : K.In h) (G : h.Ns mainGlobals mg) (a : nsIn K mainGlobals x = some (some (.ref f)))
    (l : K.lookup f = some ⟨oc, od, .func (fnOf x x (defArgs st) (defBody st) (defScope st) .none kV dc pm an cd ct), sl⟩) (c : codeIn K cd x = true) (k : keepIn K (.ref f) = true)
    (hb : ∀ (kV doc pm : Value) (an : Option Addr) (cdv ct : Value) (us : List Value), us.length = ps.length → bindArgs (fnOf x x (defArgs st) (defBody st) (defScope st) .none kV doc pm an cdv ct) ⟨us, []⟩ = pure (ps.zip us)) :
    Df K mg x st f (fnOf x x (defArgs st) (defBody st) (defScope st) .none kV dc pm an cd ct) ps :=
  ⟨fun_mk l c k, mg_of X G a, (fun_mk (st := st) l c k).binds hb⟩
theorem err_mk {x : Str} {C : Addr} {tail : List Value} (X : K.In h) (G : h.Ns mainGlobals mg) (a : nsIn K mainGlobals x = some (some (.ref C))) (ex : excIn K C tail "ValueError.__new__" = true) (kp : keepIn K (.ref C) = true) (sb : subIn K (.ref C) (.type "BaseException") = some true) (ty : typeIn K (.ref C) = some (.type "type"))
    (hg : findIn K (.ref C) "__getattribute__" = some (some (.builtin "BaseException.__getattribute__"))) (hk : findIn K (.ref C) "__getattr__" = some none) (hd : hasDictIn K C = true) (ha : findIn K (.ref C) "__class__" = some (some (.builtin "object.__class__"))) (hm : mroIn K C (.type "object") = some true)
    (hn : specialIn K (.builtin "object.__class__") "__get__" = some (some (.builtin "getset_descriptor.__get__"))) (ht : takesIn K (.builtin "object.__class__") = some true) : ErrC K mg x C tail :=
  ⟨mg_of X G a, ex, kp, sb, ty, ⟨hg, hk, sb, hd, ha, hn, ht, hm⟩⟩
theorem kit_own {t : Value} {C : Addr} {b : Bool} (h1 : isClsIn K C = true) (h2 : typeIn K (.ref C) = some (.type "type")) (h3 : subIn K t (.ref C) = some b) (hs : subIn K (.ref C) (.ref C) = some true) : kitOne K t (.ref C) = some b := by
  have e2 : ((clsIn K C).isSome && typeIn K (.ref C) == some (.type "type")) = true := by
    have h1' : (clsIn K C).isSome = true := h1
    rw [h1', h2] <;> rfl
  unfold kitOne
  split
  · rename_i e
    have e' : t = .ref C := by simpa using e
    rw [e', hs] at h3
    exact h3
  · show (if ((clsIn K C).isSome && typeIn K (.ref C) == some (.type "type")) = true then subIn K t (.ref C) else none) = some b
    rw [if_pos e2]
    exact h3
theorem kit_ty1 {D : Addr} {T : String} {b : Bool} (hm : kitMeta T = true) (h3 : subIn K (.ref D) (.type T) = some b) : kitOne K (.ref D) (.type T) = some b := by
  unfold kitOne
  rw [if_neg (by simp)]
  show (if kitMeta T = true then subIn K (.ref D) (.type T) else none) = some b
  rw [if_pos hm]
  exact h3
theorem rs_ints {c : Cl} {H : Hp} : ∀ ns : List Int, Rs tyI c H (ns.map V.int) ns
  | [] => trivial
  | _ :: ns => ⟨rfl, rs_ints ns⟩
/-- the law's end -/
theorem law_end {H : Hp} {a : Addr} {ns : List Int} {m : List Int → Res Bool} (hm : m ns = .ok true) (hS : SqL K H a (ns.map V.int)) :
    ∃ (c : Cl) (v : V) (x : List Int), [V.ref a] = [v] ∧ Wf c H ∧ rB K tyI c H v x ∧ Kont (fun y c' H' => ∀ v, tyB.r c' H' v y → (fun (v : V) (_ : Hp) => v = .bl true) v H') (fun _ _ _ => False) [] c H (m x) := by
  refine ⟨fun _ => none, .ref a, ns, rfl, (fun _ _ _ _ e => by cases e), ⟨a, _, rfl, hS, rs_ints ns⟩, ?_⟩
  rw [hm]
  exact fun c H' st v hv => hv
end
end Kb
/-! Kb9: loops and comprehensions over whatever yields data and leaves the heap alone -/
namespace Kb
open PySem L2
structure PIt {α : Type} [DecidableEq α] (J : It) (A : Ty α) (xs : List α) (c : Cl) (H : Hp) : Prop where
  go : ∀ i, i < xs.length → J.go i H
  stop : J.stop xs.length H
  item : ∀ i x v H', xs[i]? = some x → J.yld i H v H' → H' = H ∧ A.r c H v x
section
variable {α : Type} [DecidableEq α] {A : Ty α} {c : Cl} {H : Hp} {a : Addr} {us : List V} {xs : List α} {K : PySem.W.Frag}
theorem pit_l (h : SqL K H a us) (r : Rs A c H us xs) : PIt (Itl K a) A xs c H where
  go i hi := by
    have hu : i < us.length := by rw [r.len]; exact hi
    exact ⟨us, us[i], h, List.getElem?_eq_getElem hu⟩
  stop := ⟨us, h, by rw [r.len]; exact Nat.le_refl _⟩
  item i x v H' hx hy := by
    obtain ⟨e, q⟩ := hy
    refine ⟨e, ?_⟩
    obtain ⟨u, eu, ru⟩ := r.getX hx
    have z := q us h
    rw [eu] at z
    rw [← Option.some.inj z]
    exact ru
theorem pit_t (h : SqT K H a us) (r : Rs A c H us xs) : PIt (Itt K a) A xs c H where
  go i hi := by
    have hu : i < us.length := by rw [r.len]; exact hi
    exact ⟨us, us[i], h, List.getElem?_eq_getElem hu⟩
  stop := ⟨us, h, by rw [r.len]; exact Nat.le_refl _⟩
  item i x v H' hx hy := by
    obtain ⟨e, q⟩ := hy
    refine ⟨e, ?_⟩
    obtain ⟨u, eu, ru⟩ := r.getX hx
    have z := q us h
    rw [eu] at z
    rw [← Option.some.inj z]
    exact ru
theorem pit_v (h : SqL K H a us) (r : Rs A c H us xs) : PIt (Itv K a us.length) A xs.reverse c H where
  go i hi := by
    rw [List.length_reverse, ← r.len] at hi
    exact ⟨hi, us, us[us.length - 1 - i]'(by omega), h, List.getElem?_eq_getElem (by omega)⟩
  stop := by
    rw [List.length_reverse, ← r.len]
    exact Nat.le_refl _
  item i x v H' hx hy := by
    obtain ⟨e, q⟩ := hy
    refine ⟨e, ?_⟩
    have hi : i < xs.length := by
      have z := (List.getElem?_eq_some_iff.mp hx).1
      rw [List.length_reverse] at z
      exact z
    rw [List.getElem?_reverse hi] at hx
    obtain ⟨u, eu, ru⟩ := r.getX hx
    have z := q us h
    rw [r.len, eu] at z
    rw [← Option.some.inj z]
    exact ru
theorem pit_r {lo : Int} {n : Nat} : PIt (Itr lo n) tyI (rng lo n) c H where
  go i hi := by rw [ints_len] at hi; exact hi
  stop := by rw [ints_len]; exact Nat.le_refl _
  item i x v H' hx hy := by
    obtain ⟨e, e2⟩ := hy
    refine ⟨e, ?_⟩
    have hl : i < n := by
      have z := (List.getElem?_eq_some_iff.mp hx).1
      rw [ints_len] at z
      exact z
    rw [ints_at n lo i hl] at hx
    rw [e2, ← Option.some.inj hx]
    rfl
/-- the signs of a text -/
def signs (s : Str) : List Str := s.cps.toList.map fun n => ⟨#[n]⟩
theorem pit_s {s : Str} (ok : PyData.strOk s = true) : PIt (Its s) tyS (signs s) c H where
  go i hi := by
    unfold signs at hi
    rw [List.length_map, Array.length_toList] at hi
    exact hi
  stop := by
    unfold signs
    rw [List.length_map, Array.length_toList]
    exact Nat.le_refl _
  item i x v H' hx hy := by
    obtain ⟨e, n, hn, e2⟩ := hy
    refine ⟨e, ?_⟩
    unfold signs at hx
    rw [List.getElem?_map, Array.getElem?_toList, hn] at hx
    have ex : (⟨#[n]⟩ : Str) = x := Option.some.inj hx
    rw [e2, ex]
    refine ⟨rfl, ?_⟩
    rw [← ex]
    unfold PyData.strOk at *
    rw [Array.all_eq_true] at ok
    obtain ⟨hi, ei⟩ := Array.getElem?_eq_some_iff.mp hn
    have z := ok i hi
    rw [ei] at z
    simpa using z
end
section
variable {β τ α : Type} [DecidableEq α] {A : Ty α} {P : β → Cl → Hp → Prop} {PE : Err → Cl → Hp → Prop} {S : List Addr} {c0 c : Cl} {H0 H : Hp} {σ : L2.St} {g : TG} {tb : TS} {D : Ends} {xs : List α} {s0 : τ} {J : It}
theorem for_p {f : τ → α → Res τ} {rest : τ → Res β} (k : Kont P PE S c0 H0 ((forN xs s0 f).bind rest)) (I : τ → Cl → Hp → L2.St → Prop) (h0 : I s0 c H σ) (hl : ∀ s c H σ, I s c H σ → PIt J A xs c H)
    (hb : ∀ s x v c H σ (N : L2.St → Hp → Prop), I s c H σ → A.r c H v x → Kont (fun s' c' H' => ∀ σ', I s' c' H' σ' → N σ' H') PE S c0 H0 (f s x) → g v σ H fun σ2 H2 => tb { D with nx := N, ct := N, bk := D.nx } σ2 H2)
    (hd : ∀ s c H σ, I s c H σ → Kont P PE S c0 H0 (rest s) → D.nx σ H) :
    ∃ W : Nat → Nat → L2.St → Hp → Prop, (∃ m, W 0 m σ H) ∧ ∀ i m σ H, W i m σ H →
      (J.stop i H ∧ D.nx σ H) ∨ (J.go i H ∧ ∃ N : L2.St → Hp → Prop, (∀ σ' H', N σ' H' → ∃ m', m' < m ∧ W (i + 1) m' σ' H') ∧ ∀ x H', J.yld i H x H' → g x σ H' fun σ2 H2 => tb { D with nx := N, ct := N, bk := D.nx } σ2 H2) := by
  refine ⟨fun i m σ H => m = xs.length - i ∧ i ≤ xs.length ∧ ∃ s c, I s c H σ ∧ Kont P PE S c0 H0 ((forN (xs.drop i) s f).bind rest), ⟨xs.length, by simp, Nat.zero_le _, s0, c, h0, k⟩, ?_⟩
  rintro i m σ1 H1 ⟨rfl, hi, s, c1, h, k1⟩
  have p := hl s c1 H1 σ1 h
  by_cases hlt : i < xs.length
  · have hx : xs[i]? = some xs[i] := List.getElem?_eq_getElem hlt
    rw [drop_at hx, forN_cons, bind_assoc] at k1
    refine .inr ⟨p.go i hlt, fun σ' H' => ∃ s c, I s c H' σ' ∧ Kont P PE S c0 H0 ((forN (xs.drop (i + 1)) s f).bind rest), fun σ' H' q => ⟨xs.length - (i + 1), by omega, rfl, hlt, q⟩, fun v H' hy => ?_⟩
    obtain ⟨e, r⟩ := p.item i _ v H' hx hy
    subst e
    exact hb s _ v c1 _ σ1 _ h r (k1.turn.imp (fun s' c' H' st q σ' h' => ⟨s', c', h', q⟩) fun _ _ _ _ q => q)
  · have e : i = xs.length := by omega
    subst e
    rw [List.drop_length] at k1
    exact .inl ⟨p.stop, hd s c1 H1 σ1 h k1⟩
theorem for_pr {ρ : Type} {f : τ → α → Res (Ctl τ ρ)} {rest : Ctl τ ρ → Res β} {Rr : Cl → Hp → V → ρ → Prop} (k : Kont P PE S c0 H0 ((forR xs s0 f).bind rest)) (I : τ → Cl → Hp → L2.St → Prop) (h0 : I s0 c H σ) (hl : ∀ s c H σ, I s c H σ → PIt J A xs c H)
    (hb : ∀ s x v c H σ (N : L2.St → Hp → Prop), I s c H σ → A.r c H v x → Kont (fun y c' H' => match y with | .nx s' => ∀ σ', I s' c' H' σ' → N σ' H' | .ret r => ∀ v, Rr c' H' v r → D.rt v H') PE S c0 H0 (f s x) → g v σ H fun σ2 H2 => tb { D with nx := N, ct := N, bk := D.nx } σ2 H2)
    (hr : ∀ r, Kont P PE S c0 H0 (rest (.ret r)) → ∀ c H, Step S c0 H0 c H → ∀ v, Rr c H v r → D.rt v H)
    (hd : ∀ s c H σ, I s c H σ → Kont P PE S c0 H0 (rest (.nx s)) → D.nx σ H) :
    ∃ W : Nat → Nat → L2.St → Hp → Prop, (∃ m, W 0 m σ H) ∧ ∀ i m σ H, W i m σ H →
      (J.stop i H ∧ D.nx σ H) ∨ (J.go i H ∧ ∃ N : L2.St → Hp → Prop, (∀ σ' H', N σ' H' → ∃ m', m' < m ∧ W (i + 1) m' σ' H') ∧ ∀ x H', J.yld i H x H' → g x σ H' fun σ2 H2 => tb { D with nx := N, ct := N, bk := D.nx } σ2 H2) := by
  refine ⟨fun i m σ H => m = xs.length - i ∧ i ≤ xs.length ∧ ∃ s c, I s c H σ ∧ Kont P PE S c0 H0 ((forR (xs.drop i) s f).bind rest), ⟨xs.length, by simp, Nat.zero_le _, s0, c, h0, k⟩, ?_⟩
  rintro i m σ1 H1 ⟨rfl, hi, s, c1, h, k1⟩
  have p := hl s c1 H1 σ1 h
  by_cases hlt : i < xs.length
  · have hx : xs[i]? = some xs[i] := List.getElem?_eq_getElem hlt
    rw [drop_at hx, forR_cons, bind_assoc] at k1
    refine .inr ⟨p.go i hlt, fun σ' H' => ∃ s c, I s c H' σ' ∧ Kont P PE S c0 H0 ((forR (xs.drop (i + 1)) s f).bind rest), fun σ' H' q => ⟨xs.length - (i + 1), by omega, rfl, hlt, q⟩, fun v H' hy => ?_⟩
    obtain ⟨e, r⟩ := p.item i _ v H' hx hy
    subst e
    refine hb s _ v c1 _ σ1 _ h r (k1.turn.imp (fun y c' H' st q => ?_) fun _ _ _ _ q => q)
    cases y with
    | nx s' => exact fun σ' h' => ⟨s', c', h', q⟩
    | ret r' => exact fun v hv => hr r' q c' H' st v hv
  · have e : i = xs.length := by omega
    subst e
    rw [List.drop_length] at k1
    exact .inl ⟨p.stop, hd s c1 H1 σ1 h k1⟩
end
/-! #### comprehensions -/
section
variable {γ β α : Type} [DecidableEq α] [DecidableEq β] {A : Ty α} {B : Ty β} {P : γ → Cl → Hp → Prop} {PE : Err → Cl → Hp → Prop} {S : List Addr} {c0 c : Cl} {H0 H : Hp} {σ : L2.St} {g : TG} {tt : TT} {te : TE} {xs : List α} {J : It}
def LcK (g : TG) (tt : TT) (te : TE) (vs : List Nat) (σ : L2.St) (Q : VK) : It → Hp → Prop := fun J H1 => ∀ D, H1 D = none → ∃ W : Nat → Nat → Hp → Prop, (∃ m, W 0 m (upd H1 D (.lst []))) ∧ ∀ i m H, W i m H →
  (J.stop i H ∧ Q (.ref D) H) ∨ (J.go i H ∧ ∃ Nx : Hp → Prop, (∀ H', Nx H' → ∃ m', m' < m ∧ W (i + 1) m' H') ∧ ∀ x H', J.yld i H x H' → g x (wipe σ vs) H' fun σ2 H2 => wipe σ2 vs = wipe σ vs ∧ tt σ2 H2 fun b H3 =>
    if b = true then te σ2 H3 fun y H4 => ∃ acc, H4 D = some (.lst acc) ∧ acc.length < sizeLine ∧ Nx (upd H4 D (.lst (acc ++ [y]))) else Nx H3)
theorem lc_u {wi : TI} {vs : List Nat} {Q : VK} (h : wi σ H (LcK g tt te vs σ Q)) : tLc wi g tt te vs σ H Q := h
theorem comp_p {f : α → Res β} {rest : List β → Res γ} {vs : List Nat} {Q : VK} (k : Kont P PE S c0 H0 ((compN xs f).bind rest)) (gs : Step S c0 H0 c H) (hl : xs.length ≤ sizeLine)
    (hp : ∀ ci Hi, Step [] c H ci Hi → PIt J A xs ci Hi)
    (hb : ∀ x v ci Hi (Qe : VK) (Qn : Hp → Prop), Step [] c H ci Hi → Step S c0 H0 ci Hi → A.r ci Hi v x → Kont (fun y c' H' => Step [] ci Hi c' H' → ∀ u, B.r c' H' u y → Qe u H') (fun _ _ _ => False) S c0 H0 (f x) → g v (wipe σ vs) Hi fun σ2 H2 => wipe σ2 vs = wipe σ vs ∧ tYes σ2 H2 fun b H3 => if b = true then te σ2 H3 Qe else Qn H3)
    (hd : ∀ ys p us' c' H', H p = none → Step [] c H c' H' → Own B H0 c' H' p us' ys → Kont P PE S c0 H0 (rest ys) → Q (.ref p) H') : LcK g tYes te vs σ Q J H := by
  intro d nd
  have n0 : H0 d = none := gs.fresh nd
  refine ⟨fun i m Hi => m = xs.length - i ∧ i ≤ xs.length ∧ ∃ ci zs ys, Acc B H0 c H ci Hi d zs ys ∧ ys.length = i ∧ Kont P PE S c0 H0 ((compN (xs.drop i) f).bind fun r => rest (ys ++ r)), ⟨xs.length, by simp, Nat.zero_le _, _, [], [], Acc.start gs.wf nd n0, rfl, k⟩, ?_⟩
  rintro i m Hi ⟨rfl, hi, ci, zs, ys, ac, el, k1⟩
  have p := hp ci Hi ac.st
  by_cases hlt : i < xs.length
  · have hx : xs[i]? = some xs[i] := List.getElem?_eq_getElem hlt
    rw [drop_at hx, compN_cons, bind_assoc] at k1
    refine .inr ⟨p.go i hlt, fun Hi => ∃ ci zs ys, Acc B H0 c H ci Hi d zs ys ∧ ys.length = i + 1 ∧ Kont P PE S c0 H0 ((compN (xs.drop (i + 1)) f).bind fun r => rest (ys ++ r)), fun H' q => ⟨xs.length - (i + 1), by omega, rfl, hlt, q⟩, fun v H' hy => ?_⟩
    obtain ⟨e, rx⟩ := p.item i _ v H' hx hy
    subst e
    refine hb _ v ci _ _ _ ac.st (gs.tr0 ac.st) rx (k1.turn.nx.imp (fun y c' H' _ q st u ru => ?_) fun e cc HH _ q => q)
    have ac' := ac.push nd st ru
    refine ⟨zs, (ac.own.step0 st).obj, by rw [ac.own.rs.len]; omega, c', _, _, ac', by rw [List.length_append, el]; rfl, ?_⟩
    rw [bind_assoc] at q
    rw [show (fun r => rest (ys ++ [y] ++ r)) = fun r => rest (ys ++ (y :: r)) from by funext r; rw [List.append_assoc]; rfl]
    exact q
  · have e : i = xs.length := by omega
    subst e
    rw [List.drop_length] at k1
    have k2 : Kont P PE S c0 H0 (rest (ys ++ [])) := k1
    rw [List.append_nil] at k2
    exact .inl ⟨p.stop, hd ys d zs ci Hi nd ac.st ac.own k2⟩
theorem compF_cons {x : α} {xs : List α} {f : α → Res (Option β)} : compF (x :: xs) f = (nx (f x)).bind fun y => (compF xs f).bind fun ys => .ok (match y with | some z => z :: ys | none => ys) := rfl
/-- with a test: the item's value, or none -/
theorem comp_f {f : α → Res (Option β)} {rest : List β → Res γ} {vs : List Nat} {Q : VK} (k : Kont P PE S c0 H0 ((compF xs f).bind rest)) (gs : Step S c0 H0 c H) (hl : xs.length ≤ sizeLine)
    (hp : ∀ ci Hi, Step [] c H ci Hi → PIt J A xs ci Hi)
    (hb : ∀ x v ci Hi (Qe : VK) (Qn : Hp → Prop), Step [] c H ci Hi → Step S c0 H0 ci Hi → A.r ci Hi v x → Kont (fun y c' H' => match y with | some y => Step [] ci Hi c' H' → ∀ u, B.r c' H' u y → Qe u H' | none => Step [] ci Hi c' H' → Qn H') (fun _ _ _ => False) S c0 H0 (f x) → g v (wipe σ vs) Hi fun σ2 H2 => wipe σ2 vs = wipe σ vs ∧ tt σ2 H2 fun b H3 => if b = true then te σ2 H3 Qe else Qn H3)
    (hd : ∀ ys p us' c' H', H p = none → Step [] c H c' H' → Own B H0 c' H' p us' ys → Kont P PE S c0 H0 (rest ys) → Q (.ref p) H') : LcK g tt te vs σ Q J H := by
  intro d nd
  have n0 : H0 d = none := gs.fresh nd
  refine ⟨fun i m Hi => m = xs.length - i ∧ i ≤ xs.length ∧ ∃ ci zs ys, Acc B H0 c H ci Hi d zs ys ∧ ys.length ≤ i ∧ Kont P PE S c0 H0 ((compF (xs.drop i) f).bind fun r => rest (ys ++ r)), ⟨xs.length, by simp, Nat.zero_le _, _, [], [], Acc.start gs.wf nd n0, Nat.le_refl _, k⟩, ?_⟩
  rintro i m Hi ⟨rfl, hi, ci, zs, ys, ac, el, k1⟩
  have p := hp ci Hi ac.st
  by_cases hlt : i < xs.length
  · have hx : xs[i]? = some xs[i] := List.getElem?_eq_getElem hlt
    rw [drop_at hx, compF_cons, bind_assoc] at k1
    refine .inr ⟨p.go i hlt, fun Hi => ∃ ci zs ys, Acc B H0 c H ci Hi d zs ys ∧ ys.length ≤ i + 1 ∧ Kont P PE S c0 H0 ((compF (xs.drop (i + 1)) f).bind fun r => rest (ys ++ r)), fun H' q => ⟨xs.length - (i + 1), by omega, rfl, hlt, q⟩, fun v H' hy => ?_⟩
    obtain ⟨e, rx⟩ := p.item i _ v H' hx hy
    subst e
    refine hb _ v ci _ _ _ ac.st (gs.tr0 ac.st) rx (k1.turn.nx.imp (fun y c' H' _ q => ?_) fun e cc HH _ q => q)
    rw [bind_assoc] at q
    cases y with
    | some y =>
      refine fun st u ru => ?_
      have ac' := ac.push nd st ru
      refine ⟨zs, (ac.own.step0 st).obj, by rw [ac.own.rs.len]; omega, c', _, _, ac', by rw [List.length_append, List.length_singleton]; omega, ?_⟩
      rw [show (fun r => rest (ys ++ [y] ++ r)) = fun r => rest (ys ++ (y :: r)) from by funext r; rw [List.append_assoc]; rfl]
      exact q
    | none =>
      exact fun st => ⟨c', zs, ys, ⟨ac.st.tr0 st, ac.own.step0 st⟩, by omega, q⟩
  · have e : i = xs.length := by omega
    subst e
    rw [List.drop_length] at k1
    have k2 : Kont P PE S c0 H0 (rest (ys ++ [])) := k1
    rw [List.append_nil] at k2
    exact .inl ⟨p.stop, hd ys d zs ci Hi nd ac.st ac.own k2⟩
end
/-! #### what walks -/
section
variable {σ : L2.St} {H : Hp} {a : Addr} {us : List V} {K : PySem.W.Frag} {R : It → Hp → Prop}
def SIt (R : It → Hp → Prop) (v : V) (H1 : Hp) : Prop := ∃ x, v = .str x ∧ R (Its x) H1
theorem istr_u {te : TE} (h : te σ H (SIt R)) : iStr te σ H R := h
theorem istr_e {s : Str} (q : R (Its s) H) : SIt R (.str s) H := ⟨s, rfl, q⟩
def VIt (K : PySem.W.Frag) (R : It → Hp → Prop) (vs : List V) (H1 : Hp) : Prop := ∃ (a : Addr) (xs : List V), vs = [.ref a] ∧ SqL K H1 a xs ∧ R (Itv K a xs.length) H1
theorem irev_u {ta : TA} (h : ta σ H (VIt K R)) : iRev K ta σ H R := h
theorem irev_e (hs : SqL K H a us) (q : R (Itv K a us.length) H) : VIt K R [.ref a] H := ⟨a, us, rfl, hs, q⟩
def TIt (K : PySem.W.Frag) (R : It → Hp → Prop) (x : V) (H1 : Hp) : Prop := ∃ a, x = .ref a ∧ (∃ xs, SqT K H1 a xs) ∧ R (Itt K a) H1
theorem itup_u {tl : TE} (h : tl σ H (TIt K R)) : iTup K tl σ H R := h
theorem itup_e (hr : SqT K H a us) (q : R (Itt K a) H) : TIt K R (V.ref a) H := ⟨a, rfl, ⟨us, hr⟩, q⟩
end
/-! #### sum, slices of texts -/
section
variable {σ : L2.St} {H : Hp} {c : Cl} {K : PySem.W.Frag} {v : V} {ns : List Int}
theorem ints_of : ∀ {us : List V} {ns : List Int}, Rs tyI c H us ns → us = ns.map V.int
  | [], [], _ => rfl
  | u :: us, n :: ns, h => by
    have e : u = V.int n := h.1
    rw [e, ints_of h.2]
    rfl
  | [], _ :: _, h => h.elim
  | _ :: _, [], h => h.elim
theorem sl_s {te : TE} {tl th : TO} {s : Str} {lo hi : Option Int} (h : Pv te σ H (.str s)) (h1 : PvO tl σ H lo) (h2 : PvO th σ H hi) (hs : s.length ≤ sizeLine) : Pv (tSl rSlS te tl th) σ H (.str (cutS s lo hi)) := fun _ q => h _ (h1 _ (h2 _ ⟨s, rfl, hs, q⟩))
theorem ok_cut {s : Str} {lo hi : Option Int} (h : PyData.strOk s = true) : PyData.strOk (cutS s lo hi) = true := by
  unfold PyData.strOk cutS at *
  rw [Array.all_eq_true] at *
  intro i hi
  simp only [List.size_toArray, List.length_take, List.length_drop, Array.length_toList] at hi
  simp only [List.getElem_toArray, List.getElem_take, List.getElem_drop, Array.getElem_toList]
  exact h _ _
end
end Kb
/-! Kb10: list(reversed(xs)) -/
namespace Kb
open PySem L2 PySem.Spec PyProof.Rows RT
section
variable {prog : Program} {w : World} {A : Around} {E : Value → Shared → Prop} {s : Shared}
theorem ext_rev {S it l : Addr} {items : Array Value} {R : Result → Shared → Prop} {c₀ : Nat} {res : Value} (hh : A.handled = none) (hit : s.heap.IsRevIter it l ((items.size : Int) - 1)) (hl : s.heap.IsList l items) (hne : l ≠ it) (hn : items.size ≤ sizeLine) (hSi : S ≠ it) (hSl : S ≠ l)
    (hS : s.heap.get? S = some { cls := .type "list", data := .seq #[] c₀ })
    (hR : ∀ s' acc' c', Moved (S :: [it]) (fun a b => b = a) s s' → s'.heap.get? S = some { cls := .type "list", dict := none, data := .seq acc' c', slots := #[] } → ItemsOf (fun i v => items[items.size - 1 - i]? = some v) acc' items.size → R (.ok (.ret res)) s') :
    wpAny (model prog w) A.in1 (Builtin.List.listExtendWith (.ref S) (.ref it) res)
      (fun fin s' => match fin with | .done f => R (.ok f) s' | .again c' => c'.quiet = true ∧ codeAny (model prog w) A c' R s') (fun e s' => R (.error e) s') s := by
  have W := (Walks.listRev (prog := prog) (w := w) (A := A.in1) hh it l hne items).toS
  have hSf : S ∉ [it, l] := by simp only [List.mem_cons, List.not_mem_nil, or_false, not_or]; exact ⟨hSi, hSl⟩
  have hT : s.TypeIs (.ref it) "list_reverseiterator" := Heap.IsRevIter.typeIs hit
  unfold Builtin.List.listExtendWith
  refine wpAny_bind (wpAny_typeOf hT ?_)
  rw [if_neg (by rw [show Builtin.List.listSameRef (.ref S) (.ref it) = false from by simp [Builtin.List.listSameRef, hSi]]; decide)]
  refine wpAny_bind (wpAny_pyIter_revIter hit ?_)
  refine wpAny_bind (wpAny_holding ?_)
  unfold Builtin.List.listLengthHint
  refine wpAny_bind (wpAny_specialOf hT nolen_lri ?_)
  refine wpAny_bind (wpAny_specialOf hT hint_lri ?_)
  generalize hid : ("list_reverseiterator.__length_hint__" : String) = id0
  wp_delta
  rw [show splitId id0 = some ("list_reverseiterator", "__length_hint__") from by subst hid; decide +kernel]
  subst hid
  refine wpAny_bind (wpAny_isInstance (b := true) hT (by rw [isSubtype_type]; kernel_rfl) ?_)
  refine wpAny_pure ?_
  rw [if_neg (by decide)]
  have e0 : ((items.size : Nat) : Int) - 1 - ((0 : Nat) : Int) = (items.size : Int) - 1 := by omega
  exact wpAny_pure ⟨plainId_quiet F.plain_extend_loop _, codeAny_extend_loopS W hn _ hSf _ items.size 0 _ _ _ rfl (Nat.zero_le _) ⟨Nat.zero_le _, by rw [e0]; exact hit, hl⟩ hS (ItemsOf.nil _) fun s' acc' c' hm hS' hacc => hR s' acc' c' hm hS' hacc⟩
theorem init_rev {S it l : Addr} {items : Array Value} {R : Result → Shared → Prop} (hh : A.handled = none) (hit : s.heap.IsRevIter it l ((items.size : Int) - 1)) (hl : s.heap.IsList l items) (hne : l ≠ it) (hn : items.size ≤ sizeLine) (hSi : S ≠ it) (hSl : S ≠ l)
    (hS : s.heap.get? S = some { cls := .type "list", data := .seq #[] })
    (hR : ∀ (h' : Heap) (tk : Nat) acc' c', (∀ b o, b ≠ S → b ≠ it → s.heap.get? b = some o → h'.get? b = some o) → h'.get? S = some { cls := .type "list", dict := none, data := .seq acc' c', slots := #[] } → ItemsOf (fun i v => items[items.size - 1 - i]? = some v) acc' items.size → R (.ok (.ret .none)) { s with heap := h', toks := tk }) :
    wpAny (model prog w) A.in1 (Builtin.«list.__init__» ⟨[.ref S, .ref it], []⟩)
      (fun fin s' => match fin with | .done f => R (.ok f) s' | .again c' => c'.quiet = true ∧ codeAny (model prog w) A c' R s') (fun e s' => R (.error e) s') s := by
  show wpAny _ A.in1 (Builtin.List.listItems (.ref S) >>= fun old => Builtin.List.listUpdate (.ref S) (fun _ => #[]) >>= fun _ => letGo old.toList.reverse >>= fun _ => Builtin.List.listExtendWith (.ref S) (.ref it) .none) _ _ s
  refine wpAny_bind ?_
  unfold Builtin.List.listItems
  refine wpAny_bind (wpAny_seqItems hS rfl (wpAny_pure ?_))
  show wpAny _ A.in1 (updateSeq S (fun _ => #[]) >>= fun _ => letGo (#[] : Array Value).toList.reverse >>= fun _ => Builtin.List.listExtendWith (.ref S) (.ref it) .none) _ _ s
  refine wpAny_bind (wpAny_updateSeq hS rfl (wpAny_bind (wpAny_letGo ?_)))
  have hS2 := Heap.get?_update_self (Obj.mapSeq (fun _ => (#[] : Array Value))) hS rfl
  have oth : ∀ b o, b ≠ S → s.heap.get? b = some o → (s.heap.update S (Obj.mapSeq (fun _ => (#[] : Array Value)))).get? b = some o := fun b o hb e => (Heap.get?_update_other _ _ (Ne.symm hb)).trans e
  refine ext_rev hh (hit.at fun o e => oth it o (Ne.symm hSi) e) ?_ hne hn hSi hSl hS2 fun s' acc' c' hm hS' hacc => ?_
  · obtain ⟨o, h1, h2⟩ := hl
    exact ⟨o, oth l o (Ne.symm hSl) h1, h2⟩
  · rw [Moved.eq_with hm]
    exact hR s'.heap s'.toks acc' c' (fun b o hb hi e => hm.heap b o (by simp [hb, hi]) (oth b o hb e)) hS' hacc
theorem call_list_rev {it l : Addr} {items : Array Value} {Q : Value → Shared → Prop} (hh : A.handled = none) (hit : s.heap.IsRevIter it l ((items.size : Int) - 1)) (hl : s.heap.IsList l items) (hne : l ≠ it) (hn : items.size ≤ sizeLine)
    (hQ : ∀ (h' : Heap) (tk : Nat) (acc : Array Value) (c' : Nat), (∀ b o, b ≠ it → s.heap.get? b = some o → h'.get? b = some o) → h'.get? s.heap.objs.size = some { cls := .type "list", dict := none, data := .seq acc c', slots := #[] } → ItemsOf (fun i v => items[items.size - 1 - i]? = some v) acc items.size →
      Q (.ref s.heap.objs.size) { s with heap := h', toks := tk }) : wpAny (model prog w) A (call (.type "list") [.ref it]) Q E s := by
  obtain ⟨oi, hoi, _⟩ := id hit
  obtain ⟨ol, hol, _⟩ := id hl
  refine callType_codes (Q₁ := fun obj s1 => obj = .ref s.heap.objs.size ∧ s1 = { s with heap := s.heap.push { cls := .type "list", data := .seq #[] } }) F.called_list (F.typeCall_list_1 _) F.entry_list_init (code_list_new _ ⟨rfl, rfl⟩) fun obj s1 h1 => ?_
  obtain ⟨rfl, rfl⟩ := h1
  have hS : (s.heap.push { cls := .type "list", data := .seq #[] }).get? s.heap.objs.size = some { cls := .type "list", data := .seq #[] } := Heap.get?_push_size _ rfl
  refine ⟨⟨_, hS, rfl⟩, F.args_list_init_2 _ _, init_rev (s := { s with heap := s.heap.push { cls := .type "list", data := .seq #[] } }) hh (hit.at fun o e => Heap.get?_push_of_some _ e) (hl.push _) hne hn (Nat.ne_of_gt (Heap.lt_size hoi)) (Nat.ne_of_gt (Heap.lt_size hol)) hS fun h' tk acc' c' hk hS' hacc => ?_⟩
  exact ⟨rfl, hQ h' tk acc' c' (fun b o hb e => hk b o (Nat.ne_of_lt (Heap.lt_size e)) hb (Heap.get?_push_of_some _ e)) hS' hacc⟩
end
/-- list(reversed(e)) -/
def tListRev (K : PySem.W.Frag) (te : TE) : TE := fun σ H Q => te σ H fun v H1 => ∃ a xs, v = .ref a ∧ SqL K H1 a xs ∧ ∀ p, H1 p = none → Q (.ref p) (upd H1 p (.lst xs.reverse))
theorem vals_rev' {xs : List V} {its : List Value} {acc : Array Value} (r : Vals xs its) (h : ItemsOf (fun i v => its.toArray[its.toArray.size - 1 - i]? = some v) acc its.toArray.size) : Vals xs.reverse acc.toList := RT.vals_rev r h
section
variable {X : Cx}
theorem pe_listRev {e : Expr} {te : TE} {p p2 pos pos2 : Pos} (hc : X.calm = true) (hg : Gl X "list") (hm : X.mg "list" = none) (hg2 : Gl X "reversed") (hm2 : X.mg "reversed" = none) (he : PE X e te)
    (hs : starEach [e] X.env = (false, eval e X.env) :: starEach [] X.env := by rfl)
    (hs2 : starEach [.Call (.Name "reversed" p2) [e] [] pos2] X.env = (false, eval (.Call (.Name "reversed" p2) [e] [] pos2) X.env) :: starEach [] X.env := by rfl) :
    PE X (.Call (.Name "list" p) [.Call (.Name "reversed" p2) [e] [] pos2] [] pos) (tListRev X.K te) := by
  refine ⟨fun pins s σ H Q I h => ?_⟩
  refine Call_ (ld_blt I hg hm boot_list (PyProof.Rows.callWith_type1 (args_cons (Call_ (ld_blt I hg2 hm2 PyProof.Rows.boot_reversed (PyProof.Rows.callWith_type1 (args_cons (thn (he.run pins s σ H _ I h) fun u s1 ⟨v, H1, I1, r1, q1⟩ => args_nil ?_) hs) hs rfl))) hs2) hs2 rfl))
  obtain ⟨a, xs, ev, hq, q⟩ := q1
  subst ev
  obtain rfl : u = Value.ref a := r1
  obtain ⟨its, rv, p', hz⟩ := I1.list hq
  refine call_reversed_list p'.isList (args_nil ?_)
  have hl := p'.isList
  obtain ⟨ol, hol, _⟩ := id hl
  have hne : a ≠ s1.heap.objs.size := Nat.ne_of_lt (Heap.lt_size hol)
  have hn : its.toArray.size ≤ sizeLine := by rw [List.size_toArray, ← rv.length]; exact hz
  refine call_list_rev (s := { s1 with heap := s1.heap.push (revObj a ((its.toArray.size : Int) - 1)) }) (I1.ok.hd hc) ⟨_, Heap.get?_push_size _ rfl, rfl, rfl⟩ (hl.push _) hne hn fun h' tk acc c' hk hS hi => ?_
  have sz : (s1.heap.push (revObj a ((its.toArray.size : Int) - 1))).objs.size = s1.heap.objs.size + 1 := by simp [Heap.push]
  have hT : s1.heap.objs.size ≤ (s1.heap.push (revObj a ((its.toArray.size : Int) - 1))).objs.size := by rw [sz]; exact Nat.le_succ _
  have hnT := I1.hok.fresh hT
  have la : acc.toList.length = xs.length := by
    rw [Array.length_toList, hi.1, List.size_toArray, ← rv.length]
  have rvv := vals_rev' rv hi
  refine ⟨V.ref (s1.heap.push (revObj a ((its.toArray.size : Int) - 1))).objs.size, upd H1 _ (.lst xs.reverse), I1.turnedNew (ch := [s1.heap.objs.size]) (T := (s1.heap.push (revObj a ((its.toArray.size : Int) - 1))).objs.size) (fun b o hb e => hk b o (fun z => hb (by rw [z]; exact List.mem_singleton.mpr rfl)) (Heap.get?_push_of_some _ e)) (fun b hb => by
    rw [List.mem_singleton.mp hb]
    exact I1.fpOk (Nat.le_refl _) (I1.hok.fresh (Nat.le_refl _))) hT ⟨by rw [List.length_reverse]; exact hz, acc.toList, c', rvv, by rw [Array.toArray_toList]; exact hS⟩, rfl, q _ hnT⟩
end
end Kb
/-! Kb11: values of and/or with calls; comprehensions on their own base; while; sums; tuples walked -/
namespace Kb
open PySem L2
section
variable {β : Type} {P : β → Cl → Hp → Prop} {PE : Err → Cl → Hp → Prop} {S : List Addr} {c0 : Cl} {H0 : Hp}
theorem Kont.rebase {m : Res β} {ci : Cl} {Hi : Hp} (k : Kont P PE S c0 H0 m) (g : Step S c0 H0 ci Hi) : Kont P PE [] ci Hi m := by
  cases m with
  | ok y => exact fun c H st => k c H (g.tr0 st)
  | err e => exact fun c H st => k c H (g.tr0 st)
  | stk => exact k.elim
end
section
variable {γ β α : Type} [DecidableEq α] [DecidableEq β] {A : Ty α} {B : Ty β} {P : γ → Cl → Hp → Prop} {PE : Err → Cl → Hp → Prop} {S : List Addr} {c0 c : Cl} {H0 H : Hp} {σ : L2.St} {g : TG} {tt : TT} {te : TE} {xs : List α} {J : It}
theorem comp_pB {f : α → Res β} {rest : List β → Res γ} {vs : List Nat} {Q : VK} (k : Kont P PE S c0 H0 ((compN xs f).bind rest)) (gs : Step S c0 H0 c H) (hl : decide (xs.length ≤ sizeLine) = true)
    (hp : ∀ ci Hi, Step [] c H ci Hi → PIt J A xs ci Hi)
    (hb : ∀ x v ci Hi (Qe : VK) (Qn : Hp → Prop), Step [] c H ci Hi → Step S c0 H0 ci Hi → A.r ci Hi v x → Kont (fun y c' H' => ∀ u, B.r c' H' u y → Qe u H') (fun _ _ _ => False) [] ci Hi (f x) → g v (wipe σ vs) Hi fun σ2 H2 => wipe σ2 vs = wipe σ vs ∧ tYes σ2 H2 fun b H3 => if b = true then te σ2 H3 Qe else Qn H3)
    (hd : ∀ ys p us' c' H', H p = none → Step [] c H c' H' → Own B H0 c' H' p us' ys → Kont P PE S c0 H0 (rest ys) → Q (.ref p) H') : LcK g tYes te vs σ Q J H :=
  comp_p k gs (of_decide_eq_true hl) hp (fun x v ci Hi Qe Qn st gi r k => hb x v ci Hi Qe Qn st gi r ((k.rebase gi).imp (fun y c' H' s q => q s) fun _ _ _ _ q => q)) hd
theorem comp_fB {f : α → Res (Option β)} {rest : List β → Res γ} {vs : List Nat} {Q : VK} (k : Kont P PE S c0 H0 ((compF xs f).bind rest)) (gs : Step S c0 H0 c H) (hl : decide (xs.length ≤ sizeLine) = true)
    (hp : ∀ ci Hi, Step [] c H ci Hi → PIt J A xs ci Hi)
    (hb : ∀ x v ci Hi (Qe : VK) (Qn : Hp → Prop), Step [] c H ci Hi → Step S c0 H0 ci Hi → A.r ci Hi v x → Kont (fun y c' H' => (match y with | some y => ∀ u, B.r c' H' u y → Qe u H' | none => Qn H')) (fun _ _ _ => False) [] ci Hi (f x) → g v (wipe σ vs) Hi fun σ2 H2 => wipe σ2 vs = wipe σ vs ∧ tt σ2 H2 fun b H3 => if b = true then te σ2 H3 Qe else Qn H3)
    (hd : ∀ ys p us' c' H', H p = none → Step [] c H c' H' → Own B H0 c' H' p us' ys → Kont P PE S c0 H0 (rest ys) → Q (.ref p) H') : LcK g tt te vs σ Q J H :=
  comp_f k gs (of_decide_eq_true hl) hp (fun x v ci Hi Qe Qn st gi r k => hb x v ci Hi Qe Qn st gi r ((k.rebase gi).imp (fun y c' H' s q => by
    cases y with
    | some y => exact q s
    | none => exact q s) fun _ _ _ _ q => q)) hd
end
section
variable {β τ : Type} {P : β → Cl → Hp → Prop} {PE : Err → Cl → Hp → Prop} {S : List Addr} {c0 c : Cl} {H0 H : Hp} {σ : L2.St} {tb : TS} {D : Ends} {s0 : τ}
theorem while_m {tc : TT} {fuel : Nat} {t : τ → Res Bool} {f : τ → Res τ} {rest : τ → Res β} (k : Kont P PE S c0 H0 ((whileN fuel s0 t f).bind rest)) (I : τ → Cl → Hp → L2.St → Prop) (h0 : I s0 c H σ)
    (hb : ∀ n s c H σ (M : L2.St → Hp → Prop), I s c H σ → (∀ s' c' H' σ', I s' c' H' σ' → Kont P PE S c0 H0 ((whileN n s' t f).bind rest) → M σ' H') → Kont P PE S c0 H0 ((t s).bind fun b => br b ((f s).bind fun s' => (whileN n s' t f).bind rest) (rest s)) →
      tc σ H fun b H1 => if b = true then ∃ N : L2.St → Hp → Prop, (∀ σ' H', N σ' H' → M σ' H') ∧ tb { D with nx := N, ct := N, bk := D.nx } σ H1 else D.nx σ H1) : tWhile tc tb D σ H := by
  refine ⟨fun m σ H => WhI P PE S c0 H0 I t f rest m σ H, ⟨fuel, s0, c, h0, k⟩, ?_⟩
  rintro m σ1 H1 ⟨s, c1, h, k1⟩
  cases m with
  | zero => exact k1.elim
  | succ n =>
    have k2 : Kont P PE S c0 H0 ((t s).bind fun b => br b ((f s).bind fun s' => (whileN n s' t f).bind rest) (rest s)) := by
      have e : ((whileN (n + 1) s t f).bind rest) = ((t s).bind fun b => br b ((f s).bind fun s' => (whileN n s' t f).bind rest) (rest s)) := by
        show (((t s).bind fun b => br b ((f s).bind fun s' => whileN n s' t f) (.ok s)).bind rest) = _
        rw [bind_assoc]
        congr 1
        funext b
        cases b with
        | true => show (((f s).bind fun s' => whileN n s' t f).bind rest) = ((f s).bind fun s' => (whileN n s' t f).bind rest); rw [bind_assoc]
        | false => rfl
      rw [← e]
      exact k1
    exact hb n s c1 H1 σ1 (fun σ' H' => ∃ m', m' < n + 1 ∧ WhI P PE S c0 H0 I t f rest m' σ' H') h (fun s' c' H' σ' h' k' => ⟨n, Nat.lt_succ_self _, s', c', h', k'⟩) k2
end
section
variable {α : Type} [DecidableEq α] {A : Ty α} {c : Cl} {H H0 : Hp} {v : V} {xs : List α} {σ : L2.St} {K : PySem.W.Frag}
theorem sum_end {ns : List Int} (h : rB K tyI c H v ns) {Q : VK} (q : Q (.int ns.sum) H) : rSum K [v] H Q := by
  obtain ⟨a, us, rfl, r, rs⟩ := h
  rw [ints_of rs] at r
  exact ⟨a, ns, rfl, r, q⟩
theorem vb_cut {β : Type} {P : β → Cl → Hp → Prop} {PE : Err → Cl → Hp → Prop} {S : List Addr} {c0 : Cl} {te : TE} {Q : VK} {m : Res Bool} {rest : Bool → Res β} (k : Kont P PE S c0 H0 (m.bind rest)) (I : Unit → Cl → Hp → L2.St → Prop) (hd : ∀ b c H, I () c H σ → Kont P PE S c0 H0 (rest b) → Q (.bl b) H) (hb : Kont (fun b c H => I () c H σ → Q (.bl b) H) PE S c0 H0 m → te σ H Q) : te σ H Q :=
  hb ((k.turn).imp (fun b c H _ q i => hd b c H i q) (fun _ _ _ _ q => q))
def LRv (K : PySem.W.Frag) (Q : VK) : VK := fun v H1 => ∃ a xs, v = .ref a ∧ SqL K H1 a xs ∧ ∀ p, H1 p = none → Q (.ref p) (upd H1 p (.lst xs.reverse))
theorem lrev_u {te : TE} {Q : VK} (h : te σ H (LRv K Q)) : tListRev K te σ H Q := h
theorem lrev_end (h : rB K A c H v xs) (w : Wf c H) (n0 : ∀ p, H p = none → H0 p = none) {Q : VK} (q : ∀ p us' c' H', H p = none → Step [] c H c' H' → Own A H0 c' H' p us' xs.reverse → Q (.ref p) H') : LRv K Q v H := by
  obtain ⟨a, us, rfl, r, rs⟩ := h
  exact ⟨a, us, rfl, r, new_end w fun p c' H' st cp hp np => q p _ c' H' np st ⟨cp, hp, rs.rev.up st.up, n0 p np⟩⟩
theorem pitT2 {a : Addr} {x0 x1 : α} (h : (tyT2 A A).r c H (.ref a) (x0, x1)) : PIt (Itt K a) A [x0, x1] c H := by
  obtain ⟨b, u0, u1, e, q, h0, h1⟩ := open2 h
  cases e
  exact pit_t ((Or.inl q : SqT K H a _)) ⟨h0, ⟨h1, trivial⟩⟩
theorem sqT2 {a : Addr} {x0 x1 : α} (h : (tyT2 A A).r c H (.ref a) (x0, x1)) : ∃ us, SqT K H a us := by
  obtain ⟨b, u0, u1, e, q, h0, h1⟩ := open2 h
  cases e
  exact ⟨_, (Or.inl q : SqT K H a _)⟩
theorem pitT3 {a : Addr} {x0 x1 x2 : α} (h : (tyT3 A A A).r c H (.ref a) (x0, x1, x2)) : PIt (Itt K a) A [x0, x1, x2] c H := by
  obtain ⟨b, u0, u1, u2, e, q, h0, h1, h2⟩ := open3 h
  cases e
  exact pit_t ((Or.inl q : SqT K H a _)) ⟨h0, ⟨h1, ⟨h2, trivial⟩⟩⟩
theorem sqT3 {a : Addr} {x0 x1 x2 : α} (h : (tyT3 A A A).r c H (.ref a) (x0, x1, x2)) : ∃ us, SqT K H a us := by
  obtain ⟨b, u0, u1, u2, e, q, h0, h1, h2⟩ := open3 h
  cases e
  exact ⟨_, (Or.inl q : SqT K H a _)⟩
theorem pitT4 {a : Addr} {x0 x1 x2 x3 : α} (h : (tyT4 A A A A).r c H (.ref a) (x0, x1, x2, x3)) : PIt (Itt K a) A [x0, x1, x2, x3] c H := by
  obtain ⟨b, u0, u1, u2, u3, e, q, h0, h1, h2, h3⟩ := open4 h
  cases e
  exact pit_t ((Or.inl q : SqT K H a _)) ⟨h0, ⟨h1, ⟨h2, ⟨h3, trivial⟩⟩⟩⟩
theorem sqT4 {a : Addr} {x0 x1 x2 x3 : α} (h : (tyT4 A A A A).r c H (.ref a) (x0, x1, x2, x3)) : ∃ us, SqT K H a us := by
  obtain ⟨b, u0, u1, u2, u3, e, q, h0, h1, h2, h3⟩ := open4 h
  cases e
  exact ⟨_, (Or.inl q : SqT K H a _)⟩
theorem pitT5 {a : Addr} {x0 x1 x2 x3 x4 : α} (h : (tyT5 A A A A A).r c H (.ref a) (x0, x1, x2, x3, x4)) : PIt (Itt K a) A [x0, x1, x2, x3, x4] c H := by
  obtain ⟨b, u0, u1, u2, u3, u4, e, q, h0, h1, h2, h3, h4⟩ := open5 h
  cases e
  exact pit_t ((Or.inl q : SqT K H a _)) ⟨h0, ⟨h1, ⟨h2, ⟨h3, ⟨h4, trivial⟩⟩⟩⟩⟩
theorem sqT5 {a : Addr} {x0 x1 x2 x3 x4 : α} (h : (tyT5 A A A A A).r c H (.ref a) (x0, x1, x2, x3, x4)) : ∃ us, SqT K H a us := by
  obtain ⟨b, u0, u1, u2, u3, u4, e, q, h0, h1, h2, h3, h4⟩ := open5 h
  cases e
  exact ⟨_, (Or.inl q : SqT K H a _)⟩
theorem pitT6 {a : Addr} {x0 x1 x2 x3 x4 x5 : α} (h : (tyT6 A A A A A A).r c H (.ref a) (x0, x1, x2, x3, x4, x5)) : PIt (Itt K a) A [x0, x1, x2, x3, x4, x5] c H := by
  obtain ⟨b, u0, u1, u2, u3, u4, u5, e, q, h0, h1, h2, h3, h4, h5⟩ := open6 h
  cases e
  exact pit_t ((Or.inl q : SqT K H a _)) ⟨h0, ⟨h1, ⟨h2, ⟨h3, ⟨h4, ⟨h5, trivial⟩⟩⟩⟩⟩⟩
theorem sqT6 {a : Addr} {x0 x1 x2 x3 x4 x5 : α} (h : (tyT6 A A A A A A).r c H (.ref a) (x0, x1, x2, x3, x4, x5)) : ∃ us, SqT K H a us := by
  obtain ⟨b, u0, u1, u2, u3, u4, u5, e, q, h0, h1, h2, h3, h4, h5⟩ := open6 h
  cases e
  exact ⟨_, (Or.inl q : SqT K H a _)⟩
theorem itup_e' {R : It → Hp → Prop} {a : Addr} (hr : ∃ us, SqT K H a us) (q : R (Itt K a) H) : TIt K R (V.ref a) H := ⟨a, rfl, hr, q⟩
theorem Own.sqv {K : PySem.W.Frag} {p : Addr} {us : List V} (h : Own A H0 c H p us xs) : SqL K H p us := .inl (.inl h.obj)
end
end Kb
/-! Kb12: rules that tell the fragment's name, for the blocks of comprehensions -/
namespace Kb
open PySem L2
theorem brF_eq {α : Type} {b : Bool} {x y : Res α} (h : b = false) : br b x y = y := by subst h; rfl
theorem brT_eq {α : Type} {b : Bool} {x y : Res α} (h : b = true) : br b x y = x := by subst h; rfl
section
variable {X : Cx} {K : PySem.W.Frag}
theorem ix_tupK (e : X.K = K) : IxR X (rIxT K) := e ▸ ix_tup
theorem ix_listK (e : X.K = K) : IxR X (rIxL K) := e ▸ ix_list
theorem op_eqDK (e : X.K = K) (hu : X.A.units + 64 < cLine) : OpR X (compareOp .Eq) (rEqD K) := e ▸ op_eqD hu
theorem op_neDK (e : X.K = K) (hu : X.A.units + 64 < cLine) : OpR X (compareOp .NotEq) (rNeD K) := e ▸ op_neD hu
theorem call_len_seqK (e : X.K = K) : CallR X (.builtin "len") (fun xs H Q => ∃ p ys, xs = [.ref p] ∧ (SqL K H p ys ∨ SqT K H p ys) ∧ Q (.int ys.length) H) := e ▸ call_len_seq
theorem cr_sumK (e : X.K = K) (hc : X.calm = true) : CallR X (.builtin "sum") (rSum K) := e ▸ cr_sum hc
theorem call_isiK (e : X.K = K) : CallR X (.builtin "isinstance") (rIsi K) := e ▸ call_isi
theorem sl_listK (e : X.K = K) : SlR X (rSlL K) := e ▸ sl_list
theorem pg_tupK {es : List Expr} {k : Nat} {t : TGs} {n : Nat} {pos : Pos} (e : X.K = K) (hc : X.calm = true) (h : PGs X es t)
    (hn : (assignEach es X.env).length = n := by rfl) (hst : (assignEach es X.env).findIdx? (·.1) = none := by rfl) : PG X (.Tuple es k pos) (gTup K n t) := e ▸ pg_tup hc h hn hst
theorem pt_truthK {a : Expr} {ta : TE} (e : X.K = K) (ha : PE X a ta) (he : ∀ whole, isTrue a X.env whole = (do let v ← whole; standAt a.pos; holding [v] (truthy v))) :
    PT X a (fun σ H Q => ta σ H fun x H' => ∃ k, TruV K x H' k ∧ Q k H') := e ▸ pt_truth ha he
theorem cr_sortTK (e : X.K = K) : CallR X (.builtin "sorted") (rSortT K) := e ▸ cr_sortT
theorem cr_listK (e : X.K = K) : CallR X (.type "list") (rListOf K) := e ▸ cr_list
end
end Kb
/-! Kb13: values of any kind -/
namespace Kb
open PySem L2
inductive Dyn | i (n : Int) | b (x : Bool) | o
  deriving DecidableEq
def Dyn.isNum : Dyn → Bool
  | .i _ => true
  | .b _ => true
  | .o => false
def Dyn.isB : Dyn → Bool
  | .b _ => true
  | _ => false
def Dyn.int? : Dyn → Option Int
  | .i n => some n
  | _ => none
theorem Dyn.int_of {x : Dyn} {n : Int} (h : x.int? = some n) : x = .i n := by
  cases x with
  | i m => exact congrArg Dyn.i (Option.some.inj h)
  | b m => cases h
  | o => cases h
def OthO (u : HO) : Prop := (∃ xs, u = .lst xs) ∨ (∃ xs, u = .tup xs) ∨ (∃ kvs, u = .dK kvs) ∨ ∃ o xs, u = .frz o (.tup xs)
def rD (c : Cl) (H : Hp) (v : V) : Dyn → Prop
  | .i n => v = .int n
  | .b x => v = .bl x
  | .o => v = .non ∨ (∃ s, v = .str s) ∨ ∃ a u, v = .ref a ∧ c a = none ∧ H a = some u ∧ OthO u
section
variable {c c' : Cl} {H H' H0 : Hp} {v : V} {x : Dyn} {T : List Addr} {p : Addr} {σ : L2.St} {K : PySem.W.Frag}
theorem upD (g : Up c H c' H') (h : rD c H v x) : rD c' H' v x := by
  cases x with
  | i n => exact h
  | b n => exact h
  | o =>
    rcases h with h | h | ⟨a, u, e, k, q, t⟩
    · exact .inl h
    · exact .inr (.inl h)
    · exact .inr (.inr ⟨a, u, e, g.col a _ q k, g.obj a _ q k, t⟩)
theorem liftD (h : rD c H v x) (st : Step T c H c' H') : rD c' H' v x := upD st.up h
theorem liftDF (h : rD c H v x) : rD (frz c p) H v x := upD frz_up h
theorem rD_non : rD c H .non .o := .inl rfl
theorem rD_str {s : Str} : rD c H (.str s) .o := .inr (.inl ⟨s, rfl⟩)
theorem rD_lst {α : Type} [DecidableEq α] {A : Ty α} {xs : List α} (h : (tyL A).r c H v xs) : rD c H v .o := by
  obtain ⟨a, us, e, k, q, _⟩ := h
  exact .inr (.inr ⟨a, _, e, k, q, .inl ⟨_, rfl⟩⟩)
theorem rD_t2 {α β : Type} [DecidableEq α] [DecidableEq β] {A : Ty α} {B : Ty β} {y : α × β} (h : (tyT2 A B).r c H v y) : rD c H v .o := by
  obtain ⟨a, u0, u1, e, k, q, _⟩ := h
  rcases q with q | ⟨o, q⟩
  · exact .inr (.inr ⟨a, _, e, k, q, .inr (.inl ⟨_, rfl⟩)⟩)
  · exact .inr (.inr ⟨a, _, e, k, q, .inr (.inr (.inr ⟨_, _, rfl⟩))⟩)
def DNK (Q : VK) (H : Hp) : Prop := ∀ d, H d = none → Q (.ref d) (upd H d (.dK []))
theorem dnew_u {Q : VK} (h : DNK Q H) : tDNewK σ H Q := h
def ParK (D : Ends) (σ : L2.St) (i j : Nat) (vs : List V) (H1 : Hp) : Prop := ∃ v w, vs = [v, w] ∧ D.nx ((σ.set i (some v)).set j (some w)) H1
theorem par_u {D : Ends} {i j : Nat} {ta : TA} (h : ta σ H (ParK D σ i j)) : tPar i j ta D σ H := h
theorem par_e {D : Ends} {i j : Nat} {v w : V} (h : D.nx ((σ.set i (some v)).set j (some w)) H) : ParK D σ i j [v, w] H := ⟨v, w, rfl, h⟩
theorem dnew_end (w : Wf c H) {Q : VK} (q : ∀ p c' H', Step [] c H c' H' → rD c' H' (.ref p) .o → H p = none → Q (.ref p) H') : DNK Q H :=
  fun p n => q p (setC c p none) _ (Step.new w n fun r e => by cases e) (.inr (.inr ⟨p, _, rfl, setC_same, upd_same, .inr (.inr (.inl ⟨_, rfl⟩))⟩)) n
theorem oth_ty (h : rD c H v .o) : ∃ t, TyX K H v (.type t) ∧ (t = "NoneType" ∨ t = "str" ∨ t = "list" ∨ t = "tuple" ∨ t = "dict") := by
  rcases h with rfl | ⟨s, rfl⟩ | ⟨a, u, rfl, k, q, t⟩
  · exact ⟨_, .base .non, .inl rfl⟩
  · exact ⟨_, .base (.str s), .inr (.inl rfl)⟩
  · rcases t with ⟨xs, rfl⟩ | ⟨xs, rfl⟩ | ⟨kvs, rfl⟩ | ⟨o, xs, rfl⟩
    · exact ⟨_, .base (.lst q), .inr (.inr (.inl rfl))⟩
    · exact ⟨_, .base (.tup q), .inr (.inr (.inr (.inl rfl)))⟩
    · exact ⟨_, .base (.dK q), .inr (.inr (.inr (.inr rfl)))⟩
    · exact ⟨_, .fTuple q, .inr (.inr (.inr (.inl rfl)))⟩
theorem rc_isD_int (h : rD c H v x) : Rc (rIsi K) [v, V.ty "int"] H (.bl x.isNum) := by
  cases x with
  | i n => have e : v = .int n := h; subst e; exact rc_isi (b := true) (.ty _) tyx_int (kit_ty (by decide +kernel))
  | b n => have e : v = .bl n := h; subst e; exact rc_isi (b := true) (.ty _) tyx_bl (kit_ty (by decide +kernel))
  | o =>
    obtain ⟨t, ht, h5⟩ := oth_ty (K := K) h
    rcases h5 with rfl | rfl | rfl | rfl | rfl <;> exact rc_isi (b := false) (.ty _) ht (kit_ty (by decide +kernel))
theorem rc_isD_bool (h : rD c H v x) : Rc (rIsi K) [v, V.ty "bool"] H (.bl x.isB) := by
  cases x with
  | i n => have e : v = .int n := h; subst e; exact rc_isi (b := false) (.ty _) tyx_int (kit_ty (by decide +kernel))
  | b n => have e : v = .bl n := h; subst e; exact rc_isi (b := true) (.ty _) tyx_bl (kit_ty (by decide +kernel))
  | o =>
    obtain ⟨t, ht, h5⟩ := oth_ty (K := K) h
    rcases h5 with rfl | rfl | rfl | rfl | rfl <;> exact rc_isi (b := false) (.ty _) ht (kit_ty (by decide +kernel))
def RsD (c : Cl) (H : Hp) : List V → List Dyn → Prop
  | [], [] => True
  | v :: vs, x :: xs => rD c H v x ∧ RsD c H vs xs
  | _, _ => False
theorem RsD.up (g : Up c H c' H') : ∀ {vs : List V} {xs : List Dyn}, RsD c H vs xs → RsD c' H' vs xs
  | [], [], _ => trivial
  | v :: vs, x :: xs, h => ⟨upD g h.1, RsD.up g h.2⟩
  | [], _ :: _, h => h.elim
  | _ :: _, [], h => h.elim
theorem RsD.len : ∀ {vs : List V} {xs : List Dyn}, RsD c H vs xs → vs.length = xs.length
  | [], [], _ => rfl
  | v :: vs, x :: xs, h => by rw [List.length_cons, List.length_cons, RsD.len h.2]
  | [], _ :: _, h => h.elim
  | _ :: _, [], h => h.elim
theorem RsD.getX : ∀ {vs : List V} {xs : List Dyn} {i : Nat} {x : Dyn}, RsD c H vs xs → xs[i]? = some x → ∃ u, vs[i]? = some u ∧ rD c H u x
  | [], [], _, _, _, e => by cases e
  | v :: vs, y :: xs, 0, x, h, e => ⟨v, rfl, by rw [← Option.some.inj e]; exact h.1⟩
  | v :: vs, y :: xs, i + 1, x, h, e => RsD.getX (i := i) h.2 (by simpa using e)
  | [], _ :: _, _, _, h, _ => h.elim
  | _ :: _, [], _, _, h, _ => h.elim
/-- a tuple of values of any kind -/
structure DTup (c : Cl) (H : Hp) (a : Addr) (us : List V) (xs : List Dyn) : Prop where
  col : c a = none
  rd : Rd H a (.tup us)
  rs : RsD c H us xs
theorem DTup.lift {a : Addr} {us : List V} {xs : List Dyn} (h : DTup c H a us xs) (st : Step T c H c' H') : DTup c' H' a us xs := ⟨st.up.colR h.col h.rd, st.up.rd h.col h.rd, h.rs.up st.up⟩
theorem DTup.liftF {a : Addr} {us : List V} {xs : List Dyn} (h : DTup c H a us xs) : DTup (frz c p) H a us xs := ⟨frz_none h.col, h.rd, h.rs.up frz_up⟩
structure PIr {α : Type} (J : It) (R : Cl → Hp → V → α → Prop) (xs : List α) (c : Cl) (H : Hp) : Prop where
  go : ∀ i, i < xs.length → J.go i H
  stop : J.stop xs.length H
  item : ∀ i x v H', xs[i]? = some x → J.yld i H v H' → H' = H ∧ R c H v x
theorem DTup.pir {a : Addr} {us : List V} {xs : List Dyn} (h : DTup c H a us xs) : PIr (Itt K a) rD xs c H where
  go i hi := by
    have hu : i < us.length := by rw [h.rs.len]; exact hi
    exact ⟨us, us[i], .inl h.rd, List.getElem?_eq_getElem hu⟩
  stop := ⟨us, .inl h.rd, by rw [h.rs.len]; exact Nat.le_refl _⟩
  item i x v H' hx hy := by
    obtain ⟨e, q⟩ := hy
    refine ⟨e, ?_⟩
    obtain ⟨u, eu, ru⟩ := h.rs.getX hx
    have z := q us (.inl h.rd)
    rw [eu] at z
    rw [← Option.some.inj z]
    exact ru
end
section
variable {β τ α : Type} [DecidableEq α] {A : Cl → Hp → V → α → Prop} {P : β → Cl → Hp → Prop} {PE : Err → Cl → Hp → Prop} {S : List Addr} {c0 c : Cl} {H0 H : Hp} {σ : L2.St} {g : TG} {tb : TS} {D : Ends} {xs : List α} {s0 : τ} {J : It}
theorem for_rD {ρ : Type} {f : τ → α → Res (Ctl τ ρ)} {rest : Ctl τ ρ → Res β} {Rr : Cl → Hp → V → ρ → Prop} (k : Kont P PE S c0 H0 ((forR xs s0 f).bind rest)) (I : τ → Cl → Hp → L2.St → Prop) (h0 : I s0 c H σ) (hl : ∀ s c H σ, I s c H σ → PIr J A xs c H)
    (hb : ∀ s x v c H σ (N : L2.St → Hp → Prop), I s c H σ → A c H v x → Kont (fun y c' H' => match y with | .nx s' => ∀ σ', I s' c' H' σ' → N σ' H' | .ret r => ∀ v, Rr c' H' v r → D.rt v H') PE S c0 H0 (f s x) → g v σ H fun σ2 H2 => tb { D with nx := N, ct := N, bk := D.nx } σ2 H2)
    (hr : ∀ r, Kont P PE S c0 H0 (rest (.ret r)) → ∀ c H, Step S c0 H0 c H → ∀ v, Rr c H v r → D.rt v H)
    (hd : ∀ s c H σ, I s c H σ → Kont P PE S c0 H0 (rest (.nx s)) → D.nx σ H) :
    ∃ W : Nat → Nat → L2.St → Hp → Prop, (∃ m, W 0 m σ H) ∧ ∀ i m σ H, W i m σ H →
      (J.stop i H ∧ D.nx σ H) ∨ (J.go i H ∧ ∃ N : L2.St → Hp → Prop, (∀ σ' H', N σ' H' → ∃ m', m' < m ∧ W (i + 1) m' σ' H') ∧ ∀ x H', J.yld i H x H' → g x σ H' fun σ2 H2 => tb { D with nx := N, ct := N, bk := D.nx } σ2 H2) := by
  refine ⟨fun i m σ H => m = xs.length - i ∧ i ≤ xs.length ∧ ∃ s c, I s c H σ ∧ Kont P PE S c0 H0 ((forR (xs.drop i) s f).bind rest), ⟨xs.length, by simp, Nat.zero_le _, s0, c, h0, k⟩, ?_⟩
  rintro i m σ1 H1 ⟨rfl, hi, s, c1, h, k1⟩
  have p := hl s c1 H1 σ1 h
  by_cases hlt : i < xs.length
  · have hx : xs[i]? = some xs[i] := List.getElem?_eq_getElem hlt
    rw [drop_at hx, forR_cons, bind_assoc] at k1
    refine .inr ⟨p.go i hlt, fun σ' H' => ∃ s c, I s c H' σ' ∧ Kont P PE S c0 H0 ((forR (xs.drop (i + 1)) s f).bind rest), fun σ' H' q => ⟨xs.length - (i + 1), by omega, rfl, hlt, q⟩, fun v H' hy => ?_⟩
    obtain ⟨e, r⟩ := p.item i _ v H' hx hy
    subst e
    refine hb s _ v c1 _ σ1 _ h r (k1.turn.imp (fun y c' H' st q => ?_) fun _ _ _ _ q => q)
    cases y with
    | nx s' => exact fun σ' h' => ⟨s', c', h', q⟩
    | ret r' => exact fun v hv => hr r' q c' H' st v hv
  · have e : i = xs.length := by omega
    subst e
    rw [List.drop_length] at k1
    exact .inl ⟨p.stop, hd s c1 H1 σ1 h k1⟩
end
end Kb
namespace Lw
open PySem L2 Kb
@[irreducible] def m_greatest_divisor (a0 : Int) (a1 : Int) : Res Int := (whileN ((((if a1 < 0 then -a1 else a1)).toNat + 1)) (((if a0 < 0 then -a0 else a0), (if a1 < 0 then -a1 else a1)) : Int × Int) (fun s1 => (.ok (decide ((0 : Int) < s1.2)))) (fun s1 => chk (decide (0 < s1.2)) <| .ok (s1.2, (s1.1 % s1.2)))).bind fun s1 => .ok s1.1
@[irreducible] def m_is_integer (a0 : Dyn) : Res Bool := .ok ((Dyn.isNum a0) && (!(Dyn.isB a0)))
@[irreducible] def m_ratio (a0 : Dyn) (a1 : Dyn) : Res (Int × Int) := (nx (m_is_integer a0)).bind fun y1 => br y1 ((nx (m_is_integer a1)).bind fun y10 => br y10 (opt (Dyn.int? a1) fun n19 => br (decide (n19 < (1 : Int))) (.err .ratio) (opt (Dyn.int? a0) fun n23 => (nx (m_greatest_divisor n23 n19)).bind fun y26 => chk (divOk y26) <| chk (divOk y26) <| .ok ((n23 / y26), (n19 / y26)))) (.err .ratio)) (.err .ratio)
@[irreducible] def m_law_cell (a0 : List Int) (a1 : Int) : Res Int := br (decide (a1 < (a0.length : Int))) (opt (atI a0 a1) fun x5 => .ok x5) (chk (mulOk (7 : Int) a1) <| .ok ((7 : Int) * a1))
@[irreducible] def m_law_number (a0 : Int) : Res Int := opt (atI ([(((a0 / (5 : Int)) % (19 : Int)) - (9 : Int)), (((a0 / (5 : Int)) % (2000 : Int)) - (1000 : Int)), (((10 : Int) ^ (15 : Int).toNat) + ((a0 / (5 : Int)) % (99 : Int))), (((0 : Int) - ((10 : Int) ^ (15 : Int).toNat)) - ((a0 / (5 : Int)) % (99 : Int))), ((a0 / (5 : Int)) % (7 : Int))] : List Int) (a0 % (5 : Int))) fun x14 => .ok x14
@[irreducible] def m_law_raises (a0 : Dyn) (a1 : Dyn) : Res Bool := tryM ((m_ratio a0 a1).bind fun y1 => .ok ()) (fun e => match e with | .ratio => some (.ok (true && true)) | _ => some .stk) (fun _ => .ok false)
@[irreducible] def m_law (a0 : List Int) : Res Bool := (m_law_cell a0 (0 : Int)).bind fun y1 => (m_law_number y1).bind fun y9 => chk (rngOk (1 : Int)) <| chk (rngOk (12 : Int)) <| (forR (rng (1 : Int) ((12 : Int) - (1 : Int)).toNat) () (fun s19 x22 => (m_law_cell a0 x22).bind fun y28 => (m_law_number y28).bind fun y36 => (m_law_raises (Dyn.i y9) (Dyn.i y36)).bind fun y44 => br (!decide (y44 = (decide (y36 < (1 : Int))))) (.ok (.ret false)) (.ok (.nx ())))).bind fun cc => ctl cc (fun s19 => (forR ([(Dyn.b true), (Dyn.b false), Dyn.o, Dyn.o, Dyn.o, Dyn.o, Dyn.o, Dyn.o, Dyn.o, Dyn.o] : List Dyn) () (fun s117 x119 => (m_law_raises x119 (Dyn.i (1 : Int))).bind fun y125 => br y125 ((m_law_raises (Dyn.i y9) x119).bind fun y134 => br y134 (.ok (.nx ())) (.ok (.ret false))) (.ok (.ret false)))).bind fun cc => ctl cc (fun s117 => .ok true) (fun r => .ok r)) (fun r => .ok r)
end Lw
/-! Kb14: a def with one default (an int), called with all its arguments -/
namespace Kb
open PySem L2 PySem.W
structure DfD (K : PySem.W.Frag) (mg : Str → Option Value) (x : Str) (st : Stmt) (f : Addr) (fd : FuncData) (ps : List Str) : Prop where
  F : ∃ i : Int, FunD K x x (defArgs st) (defBody st) (defScope st) [V.int i] [] f fd
  kp : PySem.W.keepIn K (.ref f) = true
  g : mg x = some (.ref f)
  b : Binds K fd ps []
section
variable {K : PySem.W.Frag} {mg : Str → Option Value} {h : Heap}
theorem dfd_mk {x : Str} {st : Stmt} {ps : List Str} {f T : Addr} {oc tc : Value} {od an td : Option Addr} {sl ts : Array (Option Value)} {kV dc pm cd ct : Value} {i : Int} {tk : Tok} {tn : Nat} (X : K.In h) (G : h.Ns mainGlobals mg) (a : nsIn K mainGlobals x = some (some (.ref f)))
    (l : K.lookup f = some ⟨oc, od, .func (fnOf x x (defArgs st) (defBody st) (defScope st) (.ref T) kV dc pm an cd ct), sl⟩) (t : K.lookup T = some ⟨tc, td, .seq #[.int i tk] tn, ts⟩) (c : codeIn K cd x = true) (k : keepIn K (.ref f) = true)
    (hb : ∀ (T : Addr) (kV doc pm : Value) (an : Option Addr) (cdv ct : Value) (us its : List Value), us.length = ps.length → its.length = 1 →
      ∃ k, bindArgs (PySem.W.fnOf x x (defArgs st) (defBody st) (defScope st) (.ref T) kV doc pm an cdv ct) ⟨us, []⟩ = seqItems? (.ref T) >>= k ∧ k (some its.toArray) = pure (ps.zip (us ++ its.drop 1))) :
    DfD K mg x st f (fnOf x x (defArgs st) (defBody st) (defScope st) (.ref T) kV dc pm an cd ct) ps := by
  have F : FunD K x x (defArgs st) (defBody st) (defScope st) [V.int i] [] f (fnOf x x (defArgs st) (defBody st) (defScope st) (.ref T) kV dc pm an cd ct) :=
    ⟨⟨oc, od, .ref T, kV, dc, pm, an, cd, ct, sl, rfl, l, c, .inr ⟨by simp, T, _, [.int i tk], tn, rfl, t, rfl, .cons ⟨tk, rfl⟩ .nil⟩, .inl rfl⟩, k⟩
  obtain ⟨ds, hv, hbs⟩ := F.binds1 (ps := ps) ps.length 1 (by simp) (by simp) hb
  have e : ds = [] := by cases hv; rfl
  rw [e] at hbs
  exact ⟨⟨i, F⟩, k, mg_of X G a, hbs⟩
end
end Kb
namespace Lw
open PySem L2 Kb
def topS (i : Nat) : Stmt := PySem.Challenge.pw_kerbmark_k13_errors_of_ratios.main.body.getD i (.Pass ⟨0, 0, 0, 0⟩)
abbrev s_greatest_divisor : Stmt := topS 4
abbrev s_is_integer : Stmt := topS 5
abbrev s_ratio : Stmt := topS 6
abbrev s_law_cell : Stmt := topS 8
abbrev s_law_number : Stmt := topS 9
abbrev s_law_raises : Stmt := topS 10
abbrev s_law : Stmt := topS 11
structure Ad where
  ea : Err → Addr
  kerb : Addr
  greatest_divisor : Addr
  greatest_divisor_fd : FuncData
  is_integer : Addr
  is_integer_fd : FuncData
  ratio : Addr
  ratio_fd : FuncData
  law_cell : Addr
  law_cell_fd : FuncData
  law_number : Addr
  law_number_fd : FuncData
  law_raises : Addr
  law_raises_fd : FuncData
  law : Addr
  law_fd : FuncData
structure Txt (K : PySem.W.Frag) (mg : Str → Option Value) (a : Ad) : Prop where
  greatest_divisor : Df K mg "greatest_divisor" s_greatest_divisor a.greatest_divisor a.greatest_divisor_fd ["a", "b"]
  is_integer : Df K mg "is_integer" s_is_integer a.is_integer a.is_integer_fd ["value"]
  ratio : DfD K mg "ratio" s_ratio a.ratio a.ratio_fd ["n", "d"]
  law_cell : Df K mg "_law_cell" s_law_cell a.law_cell a.law_cell_fd ["_law_script", "_law_k"]
  law_number : Df K mg "_law_number" s_law_number a.law_number a.law_number_fd ["_law_cell_here"]
  law_raises : Df K mg "_law_raises" s_law_raises a.law_raises a.law_raises_fd ["_law_n", "_law_d"]
  law : Df K mg "law" s_law a.law a.law_fd ["_law_script"]
  e_ratio : ErrC K mg "InvalidRatio" (a.ea .ratio) [.type "ValueError", .type "Exception", .type "BaseException", .type "object"]
  exm_ratio_ratio : PySem.W.exmOne K (.ref (a.ea .ratio)) (.ref (a.ea .ratio)) = some true
  exm_ratio_kerb : PySem.W.exmOne K (.ref (a.ea .ratio)) (.ref a.kerb) = some true
  is_ratio_kerb : PySem.W.kitOne K (.ref (a.ea .ratio)) (.ref a.kerb) = some true
  is_ratio_VE : PySem.W.kitOne K (.ref (a.ea .ratio)) (.type "ValueError") = some true
  kerb_g : mg "KerbError" = some (.ref a.kerb)
  b_ValueError : mg "ValueError" = none
  b_abs : mg "abs" = none
  b_bool : mg "bool" = none
  b_int : mg "int" = none
  b_isinstance : mg "isinstance" = none
  b_len : mg "len" = none
  b_range : mg "range" = none
def sp_greatest_divisor (K : PySem.W.Frag) (ea : Err → Addr) : Sp := fun vs H Q E => ∃ (c : Cl) (w0 : V) (a0 : Int) (w1 : V) (a1 : Int), vs = [w0, w1] ∧ Wf c H ∧ tyI.r c H w0 a0 ∧ tyI.r c H w1 a1 ∧ Kont (fun y c' H' => ∀ v, tyI.r c' H' v y → Q v H') (fun _ _ _ => False) [] c H (m_greatest_divisor a0 a1)
theorem ok_greatest_divisor {P : Program} {w : World} {K : PySem.W.Frag} {mg : Str → Option Value} {base : Heap} {a : Ad} (T : Txt K mg a) : FnOk P w K mg base CX0 1 a.greatest_divisor a.greatest_divisor_fd ["a", "b"] (sp_greatest_divisor K a.ea) := by
  have sc : FnScope ["a", "b"] ["a", "b"] (defScope s_greatest_divisor) := ⟨rfl, rfl, rfl, by decide +kernel, rfl, by decide +kernel, by decide +kernel⟩
  refine T.greatest_divisor.F.ok sc (fun vs H Q E h => ?_) (fun cdv A outer s H0 vs Q E hr h => ?_)
  · obtain ⟨_, _, _, _, _, rfl, _⟩ := h
    rfl
  · obtain ⟨c0, w0, a0, w1, a1, rfl, wf0, h0, h1, k⟩ := h
    refine ⟨_, (pss_cons (ps_set (i := 0) sc.nd rfl (Or.inl rfl) (pe_callB call_abs (by rfl) T.b_abs (by decide +kernel) (pa_cons (pv 0) pa_nil))) (pss_cons (ps_set (i := 1) sc.nd rfl (Or.inl rfl) (pe_callB call_abs (by rfl) T.b_abs (by decide +kernel) (pa_cons (pv 1) pa_nil))) (pss_cons (ps_while PassesOwn.never (pt_cmpR op_gt (pv 1) pe_int (nomark _)) (pss_one (ps_par (i := 0) (j := 1) (by rfl) sc.nd rfl rfl (by decide) rfl rfl (pa_cons (pv 1) (pa_cons (pe_op op_mod (pv 0) (pv 1)) pa_nil)) (by rfl)))) (pss_one (ps_ret (pv 0)))))), ?_⟩
    have h0 : w0 = (V.int a0) := h0
    subst h0
    have h1 : w1 = (V.int a1) := h1
    subst h1
    have g0 : Step [] c0 H0 c0 H0 := Step.refl wf0
    unfold m_greatest_divisor at k
    refine seq_u ?_
    refine asg_u ?_
    refine Pv.go (pv_cb (pa_c (pv_v rfl) pa_n) rc_abs) ?_
    refine gname_u ?_
    refine nx_go ?_
    refine seq_u ?_
    refine asg_u ?_
    refine Pv.go (pv_cb (pa_c (pv_v rfl) pa_n) rc_abs) ?_
    refine gname_u ?_
    refine nx_go ?_
    refine seq_u ?_
    refine while_m (s0 := (((if a0 < 0 then -a0 else a0), (if a1 < 0 then -a1 else a1)) : Int × Int)) k (fun (s1 : Int × Int) (c : Cl) (H : Hp) (σ : L2.St) => σ = [some (V.int s1.1), some (V.int s1.2)] ∧ Step [] c0 H0 c H) ⟨rfl, g0⟩ ?_
    intro n s1 c2 H3 σ M i hM k
    obtain ⟨rfl, g4⟩ := i
    obtain ⟨b5, e6, k⟩ := k.bindP ne_ok
    refine PvT.go (b := b5) ?_ ?_
    · exact (by have h := e6; exact PvT.is (pt_t (pv_2 (pv_v rfl) pv_c rv_i)) (Res.ok.inj h))
    refine ite_b (b := b5) (fun b7 => ?_) (fun b7 => ?_)
    · have k := (k.brT b7).turn
      refine ⟨_, fun _ _ q => q, ?_⟩
      have hM7 := hM
      refine par_u ?_
      obtain ⟨e8, k⟩ := k.chk
      refine PvA.go (pa_c (pv_v rfl) (pa_c (pv_2 (pv_v rfl) (pv_v rfl) (rv_mod e8)) pa_n)) ?_
      refine par_e ?_
      refine nx_go ?_
      exact hM7 _ _ _ _ ⟨rfl, g4⟩ (k.done g4)
    · rw [brF_eq b7] at k
      refine nx_go ?_
      refine ret_u ?_
      refine Pv.go (pv_v rfl) ?_
      exact (k.done g4) _ rfl
def sp_is_integer (K : PySem.W.Frag) (ea : Err → Addr) : Sp := fun vs H Q E => ∃ (c : Cl) (w0 : V) (a0 : Dyn), vs = [w0] ∧ Wf c H ∧ rD c H w0 a0 ∧ Kont (fun y c' H' => ∀ v, tyB.r c' H' v y → Q v H') (fun _ _ _ => False) [] c H (m_is_integer a0)
theorem ok_is_integer {P : Program} {w : World} {K : PySem.W.Frag} {mg : Str → Option Value} {base : Heap} {a : Ad} (T : Txt K mg a) : FnOk P w K mg base CX0 1 a.is_integer a.is_integer_fd ["value"] (sp_is_integer K a.ea) := by
  have sc : FnScope ["value"] ["value"] (defScope s_is_integer) := ⟨rfl, rfl, rfl, by decide +kernel, rfl, by decide +kernel, by decide +kernel⟩
  refine T.is_integer.F.ok sc (fun vs H Q E h => ?_) (fun cdv A outer s H0 vs Q E hr h => ?_)
  · obtain ⟨_, _, _, rfl, _⟩ := h
    rfl
  · obtain ⟨c0, w0, a0, rfl, wf0, h0, k⟩ := h
    refine ⟨_, (pss_one (ps_ret (pe_and (pe_callB call_isi (by rfl) T.b_isinstance (by decide +kernel) (pa_cons (pv 0) (pa_cons (pe_bltn (v := .ty "int") (by rfl) T.b_int (by decide +kernel) rfl) pa_nil))) (pe_one (pe_not (pe_callB call_isi (by rfl) T.b_isinstance (by decide +kernel) (pa_cons (pv 0) (pa_cons (pe_bltn (v := .ty "bool") (by rfl) T.b_bool (by decide +kernel) rfl) pa_nil)))))))), ?_⟩
    have g0 : Step [] c0 H0 c0 H0 := Step.refl wf0
    unfold m_is_integer at k
    refine ret_u ?_
    refine Pv.go (pv_andV (pv_cb (pa_c (pv_v rfl) (pa_c pv_c pa_n)) (rc_isD_int h0)) (fun _ => (pv_notV (pv_cb (pa_c (pv_v rfl) (pa_c pv_c pa_n)) (rc_isD_bool h0))))) ?_
    exact (k.done g0) _ rfl
def sp_ratio (K : PySem.W.Frag) (ea : Err → Addr) : Sp := fun vs H Q E => ∃ (c : Cl) (w0 : V) (a0 : Dyn) (w1 : V) (a1 : Dyn), vs = [w0, w1] ∧ Wf c H ∧ rD c H w0 a0 ∧ rD c H w1 a1 ∧ Kont (fun y c' H' => ∀ v, (tyT2 tyI tyI).r c' H' v y → Q v H') (fun e _ H' => E (.ref (ea e)) none H') [] c H (m_ratio a0 a1)
theorem ok_ratio {P : Program} {w : World} {K : PySem.W.Frag} {mg : Str → Option Value} {base : Heap} {a : Ad} (T : Txt K mg a) (G_greatest_divisor : FnOk P w K mg base CX0 1 a.greatest_divisor a.greatest_divisor_fd ["a", "b"] (sp_greatest_divisor K a.ea)) (G_is_integer : FnOk P w K mg base CX0 1 a.is_integer a.is_integer_fd ["value"] (sp_is_integer K a.ea)) : FnOk P w K mg base (L2.CX P w) 2 a.ratio a.ratio_fd ["n", "d"] (sp_ratio K a.ea) := by
  have sc : FnScope ["n", "d", "divisor"] ["n", "d"] (defScope s_ratio) := ⟨rfl, rfl, rfl, by decide +kernel, rfl, by decide +kernel, by decide +kernel⟩
  obtain ⟨i0, F0⟩ := T.ratio.F
  refine F0.ok (CX := L2.CX P w) sc (fun vs H Q E h => ?_) (fun cdv A outer s H0 vs Q E hr h => ?_)
  · obtain ⟨_, _, _, _, _, rfl, _⟩ := h
    rfl
  · obtain ⟨c0, w0, a0, w1, a1, rfl, wf0, h0, h1, k⟩ := h
    refine ⟨_, (pss_cons (ps_if (PW.pt (pw_or (pt_not (pt_val (pe_call G_is_integer hr (by rfl) T.is_integer.g T.is_integer.F.kp T.is_integer.b .nil pass0 (pa_cons (pv 0) pa_nil)))) (pw_or (pt_not (pt_val (pe_call G_is_integer hr (by rfl) T.is_integer.g T.is_integer.F.kp T.is_integer.b .nil pass0 (pa_cons (pv 1) pa_nil)))) (pw_or1 (pt_cmpR op_lt (pv 1) pe_int (nomark _)))))) (pss_one (ps_raise rfl (takes_of rfl rfl rfl rfl) (pmk_own PySem.F.excBase_ValueError T.e_ratio.ex T.e_ratio.g T.e_ratio.kp T.e_ratio.raises (by rfl)))) pss_nil) (pss_cons (ps_set (i := 2) sc.nd rfl (Or.inl rfl) (pe_call G_greatest_divisor hr (by rfl) T.greatest_divisor.g T.greatest_divisor.F.kp T.greatest_divisor.b .nil pass0 (pa_cons (pv 0) (pa_cons (pv 1) pa_nil)))) (pss_one (ps_ret (pe_tup (pa_cons (pe_op op_fdivW (pv 0) (pv 2)) (pa_cons (pe_op op_fdivW (pv 1) (pv 2)) pa_nil))))))), ?_⟩
    have g0 : Step [] c0 H0 c0 H0 := Step.refl wf0
    unfold m_ratio at k
    refine seq_u ?_
    refine ifS_u ?_
    refine or_s ?_
    refine not_s ?_
    refine tB_u ?_
    refine call_u ?_
    refine PvA.go (pa_c (pv_v rfl) pa_n) ?_
    refine ⟨c0, _, a0, rfl, g0.wf, h0, ?_⟩
    refine Kont.call0 k g0 (fun _ z => by cases z) (fun y1 e2 k c3 H4 st5 g6 v7 r8 => ?_)
    have r8 : v7 = (V.bl y1) := r8
    subst r8
    have h0 := liftD h0 st5
    have h1 := liftD h1 st5
    refine ⟨_, rfl, ?_⟩
    refine ite_b (b := y1) (fun b9 => ?_) (fun b9 => ?_)
    · have k := k.brT b9
      refine or_s ?_
      refine not_s ?_
      refine tB_u ?_
      refine call_u ?_
      refine PvA.go (pa_c (pv_v rfl) pa_n) ?_
      refine ⟨c3, _, a1, rfl, g6.wf, h1, ?_⟩
      refine Kont.call0 k g6 (fun _ z => by cases z) (fun y10 e11 k c12 H13 st14 g15 v16 r17 => ?_)
      have r17 : v16 = (V.bl y10) := r17
      subst r17
      have h0 := liftD h0 st14
      have h1 := liftD h1 st14
      refine ⟨_, rfl, ?_⟩
      refine ite_b (b := y10) (fun b18 => ?_) (fun b18 => ?_)
      · have k := k.brT b18
        obtain ⟨n19, e20, kk21⟩ := k.opt
        have e20 := Dyn.int_of e20
        subst e20
        have h1 : w1 = V.int n19 := h1
        subst h1
        have k := kk21
        refine PvT.go (pt_t (pv_2 (pv_v rfl) pv_c rv_i)) ?_
        refine ite_b (b := (decide (n19 < (1 : Int)))) (fun b22 => ?_) (fun b22 => ?_)
        · have k := k.brT b22
          exact k.fail g15
        · rw [brF_eq b22] at k
          refine next_u ?_
          refine nx_go ?_
          refine seq_u ?_
          refine asg_u ?_
          obtain ⟨n23, e24, kk25⟩ := k.opt
          have e24 := Dyn.int_of e24
          subst e24
          have h0 : w0 = V.int n23 := h0
          subst h0
          have k := kk25
          refine call_u ?_
          refine PvA.go (pa_c (pv_v rfl) (pa_c (pv_v rfl) pa_n)) ?_
          refine ⟨c12, _, n23, _, n19, rfl, g15.wf, rfl, rfl, ?_⟩
          refine Kont.call0 k g15 (fun _ z => by cases z) (fun y26 e27 k c28 H29 st30 g31 v32 r33 => ?_)
          have r33 : v32 = (V.int y26) := r33
          subst r33
          refine gname_u ?_
          refine nx_go ?_
          refine ret_u ?_
          refine tup_u ?_
          obtain ⟨e34, k⟩ := k.chk
          obtain ⟨e35, k⟩ := k.chk
          refine PvA.go (pa_c (pv_2 (pv_v rfl) (pv_v rfl) (rv_div e34)) (pa_c (pv_2 (pv_v rfl) (pv_v rfl) (rv_div e35)) pa_n)) ?_
          refine tup_end (Nat.le_of_ble_eq_true rfl) g31.wf fun p36 c37 H38 st39 cp40 rd41 np42 => ?_
          have g44 := g31.tr0 st39
          have h43 : (tyT2 tyI tyI).r c37 H38 (V.ref p36) ((n23 / y26), (n19 / y26)) := ⟨p36, _, _, rfl, cp40, rd41, rfl, rfl⟩
          exact (k.done g44) _ h43
      · rw [brF_eq b18] at k
        exact k.fail g15
    · rw [brF_eq b9] at k
      exact k.fail g6
def sp_law_cell (K : PySem.W.Frag) (ea : Err → Addr) : Sp := fun vs H Q E => ∃ (c : Cl) (w0 : V) (a0 : List Int) (w1 : V) (a1 : Int), vs = [w0, w1] ∧ Wf c H ∧ rB K tyI c H w0 a0 ∧ tyI.r c H w1 a1 ∧ Kont (fun y c' H' => ∀ v, tyI.r c' H' v y → Q v H') (fun _ _ _ => False) [] c H (m_law_cell a0 a1)
theorem ok_law_cell {P : Program} {w : World} {K : PySem.W.Frag} {mg : Str → Option Value} {base : Heap} {a : Ad} (T : Txt K mg a) : FnOk P w K mg base CX0 1 a.law_cell a.law_cell_fd ["_law_script", "_law_k"] (sp_law_cell K a.ea) := by
  have sc : FnScope ["_law_script", "_law_k"] ["_law_script", "_law_k"] (defScope s_law_cell) := ⟨rfl, rfl, rfl, by decide +kernel, rfl, by decide +kernel, by decide +kernel⟩
  refine T.law_cell.F.ok sc (fun vs H Q E h => ?_) (fun cdv A outer s H0 vs Q E hr h => ?_)
  · obtain ⟨_, _, _, _, _, rfl, _⟩ := h
    rfl
  · obtain ⟨c0, w0, a0, w1, a1, rfl, wf0, h0, h1, k⟩ := h
    refine ⟨_, (pss_cons (ps_if (pt_cmpR op_lt (pv 1) (pe_callB call_len_seq (by rfl) T.b_len PySem.boot_len (pa_cons (pv 0) pa_nil)) (nomark _)) (pss_one (ps_ret (pe_callTy call_int1 (by rfl) T.b_int (by decide +kernel) (pa_cons (pe_ix ix_list (pv 0) (pv 1) (fun _ _ => rfl)) pa_nil)))) pss_nil) (pss_one (ps_ret (pe_op op_mulW pe_int (pv 1))))), ?_⟩
    have h1 : w1 = (V.int a1) := h1
    subst h1
    have g0 : Step [] c0 H0 c0 H0 := Step.refl wf0
    unfold m_law_cell at k
    refine seq_u ?_
    refine PvT.ifS (b := (decide (a1 < (a0.length : Int)))) ?_ (fun b1 => ?_) (fun b1 => ?_)
    · exact (show PvT _ _ _ (decide (a1 < (a0.length : Int))) from (pt_t (pv_2 (pv_v rfl) (len_B (g0.b0 h0) (pv_v rfl)) rv_i)))
    · have k := k.brT b1
      refine ret_u ?_
      obtain ⟨x5, e6, k⟩ := k.opt
      obtain ⟨u2, h3, q4⟩ := rv_ixB (g0.b0 h0) e6
      have h3 : u2 = (V.int x5) := h3
      subst h3
      refine Pv.go (pv_cb (pa_c (pv_2 (pv_v rfl) (pv_v rfl) (q4)) pa_n) rc_int) ?_
      exact (k.done g0) _ rfl
    · rw [brF_eq b1] at k
      refine next_u ?_
      refine nx_go ?_
      refine ret_u ?_
      obtain ⟨e7, k⟩ := k.chk
      refine Pv.go (pv_2 pv_c (pv_v rfl) (rv_mul e7)) ?_
      exact (k.done g0) _ rfl
def sp_law_number (K : PySem.W.Frag) (ea : Err → Addr) : Sp := fun vs H Q E => ∃ (c : Cl) (w0 : V) (a0 : Int), vs = [w0] ∧ Wf c H ∧ tyI.r c H w0 a0 ∧ Kont (fun y c' H' => ∀ v, tyI.r c' H' v y → Q v H') (fun _ _ _ => False) [] c H (m_law_number a0)
theorem ok_law_number {P : Program} {w : World} {K : PySem.W.Frag} {mg : Str → Option Value} {base : Heap} {a : Ad} (T : Txt K mg a) : FnOk P w K mg base CX0 1 a.law_number a.law_number_fd ["_law_cell_here"] (sp_law_number K a.ea) := by
  have sc : FnScope ["_law_cell_here"] ["_law_cell_here"] (defScope s_law_number) := ⟨rfl, rfl, rfl, by decide +kernel, rfl, by decide +kernel, by decide +kernel⟩
  refine T.law_number.F.ok sc (fun vs H Q E h => ?_) (fun cdv A outer s H0 vs Q E hr h => ?_)
  · obtain ⟨_, _, _, rfl, _⟩ := h
    rfl
  · obtain ⟨c0, w0, a0, rfl, wf0, h0, k⟩ := h
    refine ⟨_, (pss_one (ps_ret (pe_ix ix_list (pe_lst (pa_cons (pe_op op_sub (pe_op op_mod (pe_op op_fdiv (pv 0) pe_int) pe_int) pe_int) (pa_cons (pe_op op_sub (pe_op op_mod (pe_op op_fdiv (pv 0) pe_int) pe_int) pe_int) (pa_cons (pe_op op_add (pe_op op_pow pe_int pe_int) (pe_op op_mod (pe_op op_fdiv (pv 0) pe_int) pe_int)) (pa_cons (pe_op op_sub (pe_op op_sub pe_int (pe_op op_pow pe_int pe_int)) (pe_op op_mod (pe_op op_fdiv (pv 0) pe_int) pe_int)) (pa_cons (pe_op op_mod (pe_op op_fdiv (pv 0) pe_int) pe_int) pa_nil)))))) (pe_op op_mod (pv 0) pe_int) (fun _ _ => rfl)))), ?_⟩
    have h0 : w0 = (V.int a0) := h0
    subst h0
    have g0 : Step [] c0 H0 c0 H0 := Step.refl wf0
    unfold m_law_number at k
    refine ret_u ?_
    refine op_u ?_
    refine lst_u ?_
    refine PvA.go (pa_c (pv_2 (pv_2 (pv_2 (pv_v rfl) pv_c (rv_divL ⟨by decide, by decide⟩)) pv_c (rv_modL (by decide))) pv_c rv_i) (pa_c (pv_2 (pv_2 (pv_2 (pv_v rfl) pv_c (rv_divL ⟨by decide, by decide⟩)) pv_c (rv_modL (by decide))) pv_c rv_i) (pa_c (pv_2 (pv_2 pv_c pv_c (rv_pow ⟨by decide, by decide, by decide⟩)) (pv_2 (pv_2 (pv_v rfl) pv_c (rv_divL ⟨by decide, by decide⟩)) pv_c (rv_modL (by decide))) rv_i) (pa_c (pv_2 (pv_2 pv_c (pv_2 pv_c pv_c (rv_pow ⟨by decide, by decide, by decide⟩)) rv_i) (pv_2 (pv_2 (pv_v rfl) pv_c (rv_divL ⟨by decide, by decide⟩)) pv_c (rv_modL (by decide))) rv_i) (pa_c (pv_2 (pv_2 (pv_v rfl) pv_c (rv_divL ⟨by decide, by decide⟩)) pv_c (rv_modL (by decide))) pa_n))))) ?_
    refine lst_end (Nat.le_of_ble_eq_true rfl) g0.wf fun p1 c2 H3 st4 cp5 ob6 np7 => ?_
    have w9 := g0.fresh np7
    have g10 := g0.tr0 st4
    have o8 : Own tyI H0 c2 H3 p1 [(V.int (((a0 / (5 : Int)) % (19 : Int)) - (9 : Int))), (V.int (((a0 / (5 : Int)) % (2000 : Int)) - (1000 : Int))), (V.int (((10 : Int) ^ (15 : Int).toNat) + ((a0 / (5 : Int)) % (99 : Int)))), (V.int (((0 : Int) - ((10 : Int) ^ (15 : Int).toNat)) - ((a0 / (5 : Int)) % (99 : Int)))), (V.int ((a0 / (5 : Int)) % (7 : Int)))] ([(((a0 / (5 : Int)) % (19 : Int)) - (9 : Int)), (((a0 / (5 : Int)) % (2000 : Int)) - (1000 : Int)), (((10 : Int) ^ (15 : Int).toNat) + ((a0 / (5 : Int)) % (99 : Int))), (((0 : Int) - ((10 : Int) ^ (15 : Int).toNat)) - ((a0 / (5 : Int)) % (99 : Int))), ((a0 / (5 : Int)) % (7 : Int))] : List Int) := ⟨cp5, ob6, ⟨rfl, ⟨rfl, ⟨rfl, ⟨rfl, ⟨rfl, trivial⟩⟩⟩⟩⟩, w9⟩
    refine Pv.go (pv_2 (pv_v rfl) pv_c (rv_modL (by decide))) ?_
    obtain ⟨x14, e15, k⟩ := k.opt
    obtain ⟨u11, h12, q13⟩ := rv_ixB o8.b e15
    have h12 : u11 = (V.int x14) := h12
    subst h12
    refine q13 _ ?_
    exact (k.done g10) _ rfl
def sp_law_raises (K : PySem.W.Frag) (ea : Err → Addr) : Sp := fun vs H Q E => ∃ (c : Cl) (w0 : V) (a0 : Dyn) (w1 : V) (a1 : Dyn), vs = [w0, w1] ∧ Wf c H ∧ rD c H w0 a0 ∧ rD c H w1 a1 ∧ Kont (fun y c' H' => ∀ v, tyB.r c' H' v y → Q v H') (fun _ _ _ => False) [] c H (m_law_raises a0 a1)
theorem ok_law_raises {P : Program} {w : World} {K : PySem.W.Frag} {mg : Str → Option Value} {base : Heap} {a : Ad} (T : Txt K mg a) (G_ratio : FnOk P w K mg base (L2.CX P w) 2 a.ratio a.ratio_fd ["n", "d"] (sp_ratio K a.ea)) : FnOk P w K mg base CX0 3 a.law_raises a.law_raises_fd ["_law_n", "_law_d"] (sp_law_raises K a.ea) := by
  have sc : FnScope ["_law_n", "_law_d", "error"] ["_law_n", "_law_d"] (defScope s_law_raises) := ⟨rfl, rfl, rfl, by decide +kernel, rfl, by decide +kernel, by decide +kernel⟩
  refine T.law_raises.F.ok sc (fun vs H Q E h => ?_) (fun cdv A outer s H0 vs Q E hr h => ?_)
  · obtain ⟨_, _, _, _, _, rfl, _⟩ := h
    rfl
  · obtain ⟨c0, w0, a0, w1, a1, rfl, wf0, h0, h1, k⟩ := h
    refine ⟨_, (pss_cons (ps_try_as (i := 2) (Wout := (fun _ _ _ _ => False)) rfl rfl sc.nd rfl rfl ⟨rfl, by decide, .inl T.e_ratio.g⟩ takes0 (fun W pn xe tk _ => (pss_one (ps_expr (pe_callS G_ratio hr (by rfl) T.ratio.g T.ratio.kp T.ratio.b (fun σ => passAt tk σ) (pa_cons (pv 0) (pa_cons (pv 1) pa_nil)))))) (fun xa oe cls d pn hz hf => (pss_one (ps_ret (pe_and (pe_callB (call_isX hz hf) (by rfl) T.b_isinstance (by decide +kernel) (pa_cons (pv 2) (pa_cons (pe_glob (by rfl) T.kerb_g (v := .ref a.kerb) rfl) pa_nil))) (pe_one (pe_callB (call_isX hz hf) (by rfl) T.b_isinstance (by decide +kernel) (pa_cons (pv 2) (pa_cons (pe_bltn (v := .ty "ValueError") (by rfl) T.b_ValueError (by decide +kernel) rfl) pa_nil))))))))) (pss_one (ps_ret pe_bl))), ?_⟩
    have g0 : Step [] c0 H0 c0 H0 := Step.refl wf0
    unfold m_law_raises at k
    refine seq_u ?_
    have k := k.tryM
    refine drop_u ?_
    refine callS_u ?_
    refine PvA.go (pa_c (pv_v rfl) (pa_c (pv_v rfl) pa_n)) ?_
    refine ⟨c0, _, a0, _, a1, rfl, g0.wf, h0, h1, ?_⟩
    refine Kont.call k g0 (fun _ z => by cases z) (fun y1 e2 k c3 H4 st5 g6 v7 r8 => ?_) (fun e e2 c3 H4 st5 g6 pe => ?_)
    rotate_left
    · cases e with
      | ratio =>
        refine ⟨true, T.exm_ratio_ratio, fun _ ad9 na10 => ?_, fun z => by cases z⟩
        have k := pe
        have h0 := liftD h0 st5
        have h1 := liftD h1 st5
        refine ret_u ?_
        refine Pv.go (pv_andV (pv_cb (pa_c (pv_v rfl) (pa_c pv_c pa_n)) (rc_isX T.e_ratio.ec T.is_ratio_kerb)) (fun _ => (pv_cb (pa_c (pv_v rfl) (pa_c pv_c pa_n)) (rc_isX T.e_ratio.ec T.is_ratio_VE)))) ?_
        exact (k.done g6) _ rfl
      | _ => exact pe.elim
    have h0 := liftD h0 st5
    have h1 := liftD h1 st5
    have k := k.done g6
    refine nx_go ?_
    refine ret_u ?_
    refine Pv.go pv_c ?_
    exact (k.done g6) _ rfl
def sp_law (K : PySem.W.Frag) (ea : Err → Addr) : Sp := fun vs H Q E => ∃ (c : Cl) (w0 : V) (a0 : List Int), vs = [w0] ∧ Wf c H ∧ rB K tyI c H w0 a0 ∧ Kont (fun y c' H' => ∀ v, tyB.r c' H' v y → Q v H') (fun _ _ _ => False) [] c H (m_law a0)
theorem ok_law {P : Program} {w : World} {K : PySem.W.Frag} {mg : Str → Option Value} {base : Heap} {a : Ad} (T : Txt K mg a) (G_law_cell : FnOk P w K mg base CX0 1 a.law_cell a.law_cell_fd ["_law_script", "_law_k"] (sp_law_cell K a.ea)) (G_law_number : FnOk P w K mg base CX0 1 a.law_number a.law_number_fd ["_law_cell_here"] (sp_law_number K a.ea)) (G_law_raises : FnOk P w K mg base CX0 3 a.law_raises a.law_raises_fd ["_law_n", "_law_d"] (sp_law_raises K a.ea)) : FnOk P w K mg base CX0 4 a.law a.law_fd ["_law_script"] (sp_law K a.ea) := by
  have sc : FnScope ["_law_script", "_law_n", "_law_k", "_law_d", "_law_bad"] ["_law_script"] (defScope s_law) := ⟨rfl, rfl, rfl, by decide +kernel, rfl, by decide +kernel, by decide +kernel⟩
  refine T.law.F.ok sc (fun vs H Q E h => ?_) (fun cdv A outer s H0 vs Q E hr h => ?_)
  · obtain ⟨_, _, _, rfl, _⟩ := h
    rfl
  · obtain ⟨c0, w0, a0, rfl, wf0, h0, k⟩ := h
    refine ⟨_, (pss_cons (ps_set (i := 1) sc.nd rfl (Or.inl rfl) (pe_call G_law_number (hr.mono (by decide)) (by rfl) T.law_number.g T.law_number.F.kp T.law_number.b .nil pass0 (pa_cons (pe_call G_law_cell (hr.mono (by decide)) (by rfl) T.law_cell.g T.law_cell.F.kp T.law_cell.b .nil pass0 (pa_cons (pv 0) (pa_cons pe_int pa_nil))) pa_nil))) (pss_cons (ps_for PassesOwn.never rfl (pi_range2 (by rfl) T.b_range (pa_cons pe_int (pa_cons pe_int pa_nil))) (pg_name (i := 2) sc.nd rfl (Or.inl rfl)) (pss_cons (ps_set (i := 3) sc.nd rfl (Or.inl rfl) (pe_call G_law_number (hr.mono (by decide)) (by rfl) T.law_number.g T.law_number.F.kp T.law_number.b .nil pass0 (pa_cons (pe_call G_law_cell (hr.mono (by decide)) (by rfl) T.law_cell.g T.law_cell.F.kp T.law_cell.b .nil pass0 (pa_cons (pv 0) (pa_cons (pv 2) pa_nil))) pa_nil))) (pss_one (ps_if (pt_cmpR op_ne (pe_call G_law_raises hr (by rfl) T.law_raises.g T.law_raises.F.kp T.law_raises.b .nil pass0 (pa_cons (pv 1) (pa_cons (pv 3) pa_nil))) (pe_cmpR op_lt (pv 3) pe_int (nomark _)) (nomark _)) (pss_one (ps_ret pe_bl)) pss_nil)))) (pss_cons (ps_for PassesOwn.never rfl (pi_tup (pe_tup (pa_cons pe_bl (pa_cons pe_bl (pa_cons pe_str (pa_cons pe_non (pa_cons pe_str (pa_cons (pe_tup (pa_cons pe_int (pa_cons pe_int pa_nil))) (pa_cons (pe_tup (pa_cons pe_int (pa_cons pe_int pa_nil))) (pa_cons (pe_lst (pa_cons pe_int pa_nil)) (pa_cons (pe_lst pa_nil) (pa_cons pe_dnewK pa_nil)))))))))))) (pg_name (i := 4) sc.nd rfl (Or.inl rfl)) (pss_one (ps_if (PW.pt (pw_or (pt_not (pt_val (pe_call G_law_raises hr (by rfl) T.law_raises.g T.law_raises.F.kp T.law_raises.b .nil pass0 (pa_cons (pv 4) (pa_cons pe_int pa_nil))))) (pw_or1 (pt_not (pt_val (pe_call G_law_raises hr (by rfl) T.law_raises.g T.law_raises.F.kp T.law_raises.b .nil pass0 (pa_cons (pv 1) (pa_cons (pv 4) pa_nil)))))))) (pss_one (ps_ret pe_bl)) pss_nil))) (pss_one (ps_ret pe_bl))))), ?_⟩
    have g0 : Step [] c0 H0 c0 H0 := Step.refl wf0
    unfold m_law at k
    refine seq_u ?_
    refine asg_u ?_
    refine call_u ?_
    refine cons_u ?_
    refine call_u ?_
    refine PvA.go (pa_c (pv_v rfl) (pa_c pv_c pa_n)) ?_
    refine ⟨c0, _, a0, _, (0 : Int), rfl, g0.wf, (g0.b0 h0), rfl, ?_⟩
    refine Kont.call k g0 (fun _ z => by cases z) (fun y1 e2 k c3 H4 st5 g6 v7 r8 => ?_) (fun _ _ _ _ _ _ z => z)
    have r8 : v7 = (V.int y1) := r8
    subst r8
    refine nil_u ?_
    refine ⟨c3, _, y1, rfl, g6.wf, rfl, ?_⟩
    refine Kont.call k g6 (fun _ z => by cases z) (fun y9 e10 k c11 H12 st13 g14 v15 r16 => ?_) (fun _ _ _ _ _ _ z => z)
    have r16 : v15 = (V.int y9) := r16
    subst r16
    refine gname_u ?_
    refine nx_go ?_
    refine seq_u ?_
    refine for_u ?_
    refine irng2_u ?_
    refine PvA.go (pa_c pv_c (pa_c pv_c pa_n)) ?_
    obtain ⟨e17, k⟩ := k.chk
    obtain ⟨e18, k⟩ := k.chk
    refine irng2_e e17 e18 ?_
    refine for_rgr (s0 := (() : Unit)) (Rr := tyB.r) k (fun (s19 : Unit) (c : Cl) (H : Hp) (σ : L2.St) => ∃ (y20 : Option V) (y21 : Option V), σ = [some w0, some (V.int y9), y20, y21, none] ∧ Step [] c0 H0 c H) ⟨_, _, rfl, g14⟩ ?_ (fun r k c H g v hv => (k.done g) v hv) ?_
    · intro s19 x22 c25 H26 σ N i k
      obtain ⟨y20, y21, rfl, g27⟩ := i
      refine gname_u ?_
      refine seq_u ?_
      refine asg_u ?_
      refine call_u ?_
      refine cons_u ?_
      refine call_u ?_
      refine PvA.go (pa_c (pv_v rfl) (pa_c (pv_v rfl) pa_n)) ?_
      refine ⟨c25, _, a0, _, x22, rfl, g27.wf, (g27.b0 h0), rfl, ?_⟩
      refine Kont.call k g27 (fun _ z => by cases z) (fun y28 e29 k c30 H31 st32 g33 v34 r35 => ?_) (fun _ _ _ _ _ _ z => z)
      have r35 : v34 = (V.int y28) := r35
      subst r35
      refine nil_u ?_
      refine ⟨c30, _, y28, rfl, g33.wf, rfl, ?_⟩
      refine Kont.call k g33 (fun _ z => by cases z) (fun y36 e37 k c38 H39 st40 g41 v42 r43 => ?_) (fun _ _ _ _ _ _ z => z)
      have r43 : v42 = (V.int y36) := r43
      subst r43
      refine gname_u ?_
      refine nx_go ?_
      refine ifS_u ?_
      refine test_u ?_
      refine op_u ?_
      refine call_u ?_
      refine PvA.go (pa_c (pv_v rfl) (pa_c (pv_v rfl) pa_n)) ?_
      refine ⟨c38, _, (Dyn.i y9), _, (Dyn.i y36), rfl, g41.wf, rfl, rfl, ?_⟩
      refine Kont.call k g41 (fun _ z => by cases z) (fun y44 e45 k c46 H47 st48 g49 v50 r51 => ?_) (fun _ _ _ _ _ _ z => z)
      have r51 : v50 = (V.bl y44) := r51
      subst r51
      refine Pv.go (pv_2 (pv_v rfl) pv_c rv_i) ?_
      refine rv_neb _ ?_
      refine ⟨_, rfl, ?_⟩
      refine ite_b (b := (!decide (y44 = (decide (y36 < (1 : Int)))))) (fun b52 => ?_) (fun b52 => ?_)
      · have k := k.brT b52
        refine ret_u ?_
        refine Pv.go pv_c ?_
        exact (k.done g49) _ rfl
      · rw [brF_eq b52] at k
        refine next_u ?_
        refine nx_go ?_
        exact (k.done g49) _ ⟨_, _, rfl, g49⟩
    · intro s19 c53 H54 σ i k
      obtain ⟨y20, y21, rfl, g55⟩ := i
      refine nx_go ?_
      refine seq_u ?_
      refine for_u ?_
      refine itup_u ?_
      refine tup_u ?_
      refine cons_u ?_
      refine Pv.go pv_c ?_
      refine cons_u ?_
      refine Pv.go pv_c ?_
      refine cons_u ?_
      refine Pv.go pv_c ?_
      refine cons_u ?_
      refine Pv.go pv_c ?_
      refine cons_u ?_
      refine Pv.go pv_c ?_
      refine cons_u ?_
      refine tup_u ?_
      refine PvA.go (pa_c pv_c (pa_c pv_c pa_n)) ?_
      refine tup_end (Nat.le_of_ble_eq_true rfl) g55.wf fun p56 c57 H58 st59 cp60 rd61 np62 => ?_
      have g64 := g55.tr0 st59
      have h63 : (tyT2 tyI tyI).r c57 H58 (V.ref p56) ((1 : Int), (2 : Int)) := ⟨p56, _, _, rfl, cp60, rd61, rfl, rfl⟩
      refine cons_u ?_
      refine tup_u ?_
      refine PvA.go (pa_c pv_c (pa_c pv_c pa_n)) ?_
      refine tup_end (Nat.le_of_ble_eq_true rfl) g64.wf fun p65 c66 H67 st68 cp69 rd70 np71 => ?_
      have g73 := g64.tr0 st68
      have h63 := lift h63 st68
      have h72 : (tyT2 tyI tyI).r c66 H67 (V.ref p65) ((1 : Int), (1 : Int)) := ⟨p65, _, _, rfl, cp69, rd70, rfl, rfl⟩
      refine cons_u ?_
      refine lst_u ?_
      refine PvA.go (pa_c pv_c pa_n) ?_
      refine lst_end (Nat.le_of_ble_eq_true rfl) g73.wf fun p74 c75 H76 st77 cp78 ob79 np80 => ?_
      have w82 := g73.fresh np80
      have g83 := g73.tr0 st77
      have h63 := lift h63 st77
      have h72 := lift h72 st77
      have o81 : Own tyI H0 c75 H76 p74 [(V.int (1 : Int))] ([(1 : Int)] : List Int) := ⟨cp78, ob79, ⟨rfl, trivial⟩, w82⟩
      refine cons_u ?_
      refine lst_u ?_
      refine PvA.go pa_n ?_
      refine lst_end (Nat.le_of_ble_eq_true rfl) g83.wf fun p84 c85 H86 st87 cp88 ob89 np90 => ?_
      have n92 : p74 ≠ p84 := ne_of_none o81.obj np90
      have w93 := g83.fresh np90
      have g94 := g83.tr0 st87
      have h63 := lift h63 st87
      have h72 := lift h72 st87
      have o81 := o81.step0 st87
      have o91 : Own tyI H0 c85 H86 p84 [] ([] : List Int) := ⟨cp88, ob89, trivial, w93⟩
      refine cons_u ?_
      refine dnew_u ?_
      refine dnew_end g94.wf fun p95 c96 H97 st98 h99 np100 => ?_
      have n101 : p74 ≠ p95 := ne_of_none o81.obj np100
      have n102 : p84 ≠ p95 := ne_of_none o91.obj np100
      have g103 := g94.tr0 st98
      have h63 := lift h63 st98
      have h72 := lift h72 st98
      have o81 := o81.step0 st98
      have o91 := o91.step0 st98
      refine nil_u ?_
      have h104 := o81.frz
      have g105 := g103.frz (p := p74) o81.new
      have h63 := liftF (p := p74) h63
      have h72 := liftF (p := p74) h72
      have o91 := o91.other (Ne.symm n92)
      have h99 := liftDF (p := p74) h99
      have h106 := o91.frz
      have g107 := g105.frz (p := p84) o91.new
      have h63 := liftF (p := p84) h63
      have h72 := liftF (p := p84) h72
      have h104 := liftF (p := p84) h104
      have h99 := liftDF (p := p84) h99
      refine tup_end (Nat.le_of_ble_eq_true rfl) g107.wf fun p108 c109 H110 st111 cp112 rd113 np114 => ?_
      have g116 := g107.tr0 st111
      have h63 := lift h63 st111
      have h72 := lift h72 st111
      have h104 := lift h104 st111
      have h106 := lift h106 st111
      have h99 := liftD h99 st111
      have h115 : DTup c109 H110 p108 [(V.bl true), (V.bl false), (V.str ("1" : PySem.Str)), V.non, (V.str ("" : PySem.Str)), (V.ref p56), (V.ref p65), (V.ref p74), (V.ref p84), (V.ref p95)] ([(Dyn.b true), (Dyn.b false), Dyn.o, Dyn.o, Dyn.o, Dyn.o, Dyn.o, Dyn.o, Dyn.o, Dyn.o] : List Dyn) := ⟨cp112, rd113, ⟨rfl, ⟨rfl, ⟨rD_str, ⟨rD_non, ⟨rD_str, ⟨(rD_t2 h63), ⟨(rD_t2 h72), ⟨(rD_lst h104), ⟨(rD_lst h106), ⟨h99, trivial⟩⟩⟩⟩⟩⟩⟩⟩⟩⟩⟩
      refine itup_e' ⟨_, .inl h115.rd⟩ ?_
      refine for_rD (A := rD) (s0 := (() : Unit)) (Rr := tyB.r) k (fun (s117 : Unit) (c : Cl) (H : Hp) (σ : L2.St) => ∃ (y118 : Option V), σ = [some w0, some (V.int y9), y20, y21, y118] ∧ Step [] c0 H0 c H ∧ DTup c H p108 [(V.bl true), (V.bl false), (V.str ("1" : PySem.Str)), V.non, (V.str ("" : PySem.Str)), (V.ref p56), (V.ref p65), (V.ref p74), (V.ref p84), (V.ref p95)] ([(Dyn.b true), (Dyn.b false), Dyn.o, Dyn.o, Dyn.o, Dyn.o, Dyn.o, Dyn.o, Dyn.o, Dyn.o] : List Dyn)) ⟨_, rfl, g116, h115⟩ ?_ ?_ (fun r k c H g v hv => (k.done g) v hv) ?_
      · exact fun s c H σ ⟨y118, _, g, hit⟩ => (hit).pir
      · intro s117 x119 v120 c122 H123 σ N i h121 k
        obtain ⟨y118, rfl, g124, h115⟩ := i
        refine gname_u ?_
        refine ifS_u ?_
        refine or_s ?_
        refine not_s ?_
        refine tB_u ?_
        refine call_u ?_
        refine PvA.go (pa_c (pv_v rfl) (pa_c pv_c pa_n)) ?_
        refine ⟨c122, _, x119, _, (Dyn.i (1 : Int)), rfl, g124.wf, h121, rfl, ?_⟩
        refine Kont.call k g124 (fun _ z => by cases z) (fun y125 e126 k c127 H128 st129 g130 v131 r132 => ?_) (fun _ _ _ _ _ _ z => z)
        have r132 : v131 = (V.bl y125) := r132
        subst r132
        have h115 := h115.lift st129
        have h121 := liftD h121 st129
        refine ⟨_, rfl, ?_⟩
        refine ite_b (b := y125) (fun b133 => ?_) (fun b133 => ?_)
        · have k := k.brT b133
          refine not_s ?_
          refine tB_u ?_
          refine call_u ?_
          refine PvA.go (pa_c (pv_v rfl) (pa_c (pv_v rfl) pa_n)) ?_
          refine ⟨c127, _, (Dyn.i y9), _, x119, rfl, g130.wf, rfl, h121, ?_⟩
          refine Kont.call k g130 (fun _ z => by cases z) (fun y134 e135 k c136 H137 st138 g139 v140 r141 => ?_) (fun _ _ _ _ _ _ z => z)
          have r141 : v140 = (V.bl y134) := r141
          subst r141
          have h115 := h115.lift st138
          have h121 := liftD h121 st138
          refine ⟨_, rfl, ?_⟩
          refine ite_b (b := y134) (fun b142 => ?_) (fun b142 => ?_)
          · have k := k.brT b142
            refine next_u ?_
            refine nx_go ?_
            exact (k.done g139) _ ⟨_, rfl, g139, h115⟩
          · rw [brF_eq b142] at k
            refine ret_u ?_
            refine Pv.go pv_c ?_
            exact (k.done g139) _ rfl
        · rw [brF_eq b133] at k
          refine ret_u ?_
          refine Pv.go pv_c ?_
          exact (k.done g130) _ rfl
      · intro s117 c143 H144 σ i k
        obtain ⟨y118, rfl, g145, h115⟩ := i
        refine nx_go ?_
        refine ret_u ?_
        refine Pv.go pv_c ?_
        exact (k.done g145) _ rfl
theorem all_ok {P : Program} {w : World} {K : PySem.W.Frag} {mg : Str → Option Value} {base : Heap} {a : Ad} (T : Txt K mg a) : FnOk P w K mg base CX0 4 a.law a.law_fd ["_law_script"] (sp_law K a.ea) := by
  have G_greatest_divisor := ok_greatest_divisor (P := P) (w := w) (base := base) T
  have G_is_integer := ok_is_integer (P := P) (w := w) (base := base) T
  have G_ratio := ok_ratio (P := P) (w := w) (base := base) T G_greatest_divisor G_is_integer
  have G_law_cell := ok_law_cell (P := P) (w := w) (base := base) T
  have G_law_number := ok_law_number (P := P) (w := w) (base := base) T
  have G_law_raises := ok_law_raises (P := P) (w := w) (base := base) T G_ratio
  have G_law := ok_law (P := P) (w := w) (base := base) T G_law_cell G_law_number G_law_raises
  exact G_law
theorem all_mk {P : Program} {w : World} {K : PySem.W.Frag} {h : Heap} {mg : Str → Option Value} {fa : Addr} (X : K.In h) (G : h.Ns mainGlobals mg) (hfa : mg "law" = some (.ref fa))
    {f0 : Addr} {od0 an0 : Option Addr} {sl0 : Array (Option Value)} {oc0 kV0 dc0 pm0 cd0 ct0 : Value}
    {f1 : Addr} {od1 an1 : Option Addr} {sl1 : Array (Option Value)} {oc1 kV1 dc1 pm1 cd1 ct1 : Value}
    {f2 : Addr} {od2 an2 : Option Addr} {sl2 : Array (Option Value)} {oc2 kV2 dc2 pm2 cd2 ct2 : Value}
    {D2 : Addr} {Dc2 : Value} {Dd2 : Option Addr} {Ds2 : Array (Option Value)} {Di2 : Int} {Dt2 : Tok} {Dn2 : Nat}
    {f3 : Addr} {od3 an3 : Option Addr} {sl3 : Array (Option Value)} {oc3 kV3 dc3 pm3 cd3 ct3 : Value}
    {f4 : Addr} {od4 an4 : Option Addr} {sl4 : Array (Option Value)} {oc4 kV4 dc4 pm4 cd4 ct4 : Value}
    {f5 : Addr} {od5 an5 : Option Addr} {sl5 : Array (Option Value)} {oc5 kV5 dc5 pm5 cd5 ct5 : Value}
    {f6 : Addr} {od6 an6 : Option Addr} {sl6 : Array (Option Value)} {oc6 kV6 dc6 pm6 cd6 ct6 : Value}
    {Cratio Ckerb : Addr}
    (a0 : PySem.W.nsIn K mainGlobals "greatest_divisor" = some (some (.ref f0)))
    (l0 : K.lookup f0 = some ⟨oc0, od0, .func (PySem.W.fnOf "greatest_divisor" "greatest_divisor" (defArgs s_greatest_divisor) (defBody s_greatest_divisor) (defScope s_greatest_divisor) .none kV0 dc0 pm0 an0 cd0 ct0), sl0⟩)
    (c0 : PySem.W.codeIn K cd0 "greatest_divisor" = true)
    (k0 : PySem.W.keepIn K (.ref f0) = true)
    (a1 : PySem.W.nsIn K mainGlobals "is_integer" = some (some (.ref f1)))
    (l1 : K.lookup f1 = some ⟨oc1, od1, .func (PySem.W.fnOf "is_integer" "is_integer" (defArgs s_is_integer) (defBody s_is_integer) (defScope s_is_integer) .none kV1 dc1 pm1 an1 cd1 ct1), sl1⟩)
    (c1 : PySem.W.codeIn K cd1 "is_integer" = true)
    (k1 : PySem.W.keepIn K (.ref f1) = true)
    (a2 : PySem.W.nsIn K mainGlobals "ratio" = some (some (.ref f2)))
    (l2 : K.lookup f2 = some ⟨oc2, od2, .func (PySem.W.fnOf "ratio" "ratio" (defArgs s_ratio) (defBody s_ratio) (defScope s_ratio) (.ref D2) kV2 dc2 pm2 an2 cd2 ct2), sl2⟩)
    (D_2 : K.lookup D2 = some ⟨Dc2, Dd2, .seq #[.int Di2 Dt2] Dn2, Ds2⟩)
    (c2 : PySem.W.codeIn K cd2 "ratio" = true)
    (k2 : PySem.W.keepIn K (.ref f2) = true)
    (a3 : PySem.W.nsIn K mainGlobals "_law_cell" = some (some (.ref f3)))
    (l3 : K.lookup f3 = some ⟨oc3, od3, .func (PySem.W.fnOf "_law_cell" "_law_cell" (defArgs s_law_cell) (defBody s_law_cell) (defScope s_law_cell) .none kV3 dc3 pm3 an3 cd3 ct3), sl3⟩)
    (c3 : PySem.W.codeIn K cd3 "_law_cell" = true)
    (k3 : PySem.W.keepIn K (.ref f3) = true)
    (a4 : PySem.W.nsIn K mainGlobals "_law_number" = some (some (.ref f4)))
    (l4 : K.lookup f4 = some ⟨oc4, od4, .func (PySem.W.fnOf "_law_number" "_law_number" (defArgs s_law_number) (defBody s_law_number) (defScope s_law_number) .none kV4 dc4 pm4 an4 cd4 ct4), sl4⟩)
    (c4 : PySem.W.codeIn K cd4 "_law_number" = true)
    (k4 : PySem.W.keepIn K (.ref f4) = true)
    (a5 : PySem.W.nsIn K mainGlobals "_law_raises" = some (some (.ref f5)))
    (l5 : K.lookup f5 = some ⟨oc5, od5, .func (PySem.W.fnOf "_law_raises" "_law_raises" (defArgs s_law_raises) (defBody s_law_raises) (defScope s_law_raises) .none kV5 dc5 pm5 an5 cd5 ct5), sl5⟩)
    (c5 : PySem.W.codeIn K cd5 "_law_raises" = true)
    (k5 : PySem.W.keepIn K (.ref f5) = true)
    (a6 : PySem.W.nsIn K mainGlobals "law" = some (some (.ref f6)))
    (l6 : K.lookup f6 = some ⟨oc6, od6, .func (PySem.W.fnOf "law" "law" (defArgs s_law) (defBody s_law) (defScope s_law) .none kV6 dc6 pm6 an6 cd6 ct6), sl6⟩)
    (c6 : PySem.W.codeIn K cd6 "law" = true)
    (k6 : PySem.W.keepIn K (.ref f6) = true)
    (aC_ratio : PySem.W.nsIn K mainGlobals "InvalidRatio" = some (some (.ref Cratio)))
    (ex_ratio : PySem.W.excIn K Cratio [.type "ValueError", .type "Exception", .type "BaseException", .type "object"] "ValueError.__new__" = true)
    (kp_ratio : PySem.W.keepIn K (.ref Cratio) = true)
    (hg_ratio : PySem.W.findIn K (.ref Cratio) "__getattribute__" = some (some (.builtin "BaseException.__getattribute__")))
    (hk_ratio : PySem.W.findIn K (.ref Cratio) "__getattr__" = some none)
    (hac_ratio : PySem.W.findIn K (.ref Cratio) "__class__" = some (some (.builtin "object.__class__")))
    (hm_ratio : PySem.W.mroIn K Cratio (.type "object") = some true)
    (sb_ratio : PySem.W.subIn K (.ref Cratio) (.type "BaseException") = some true)
    (ty_ratio : PySem.W.typeIn K (.ref Cratio) = some (.type "type"))
    (hd_ratio : PySem.W.hasDictIn K Cratio = true)
    (ic_ratio : PySem.W.isClsIn K Cratio = true)
    (sv_ratio : PySem.W.subIn K (.ref Cratio) (.type "ValueError") = some true)
    (aC_kerb : PySem.W.nsIn K mainGlobals "KerbError" = some (some (.ref Ckerb)))
    (sb_kerb : PySem.W.subIn K (.ref Ckerb) (.type "BaseException") = some true)
    (ty_kerb : PySem.W.typeIn K (.ref Ckerb) = some (.type "type"))
    (hd_kerb : PySem.W.hasDictIn K Ckerb = true)
    (ic_kerb : PySem.W.isClsIn K Ckerb = true)
    (sv_kerb : PySem.W.subIn K (.ref Ckerb) (.type "ValueError") = some true)
    (hn : PySem.W.specialIn K (.builtin "object.__class__") "__get__" = some (some (.builtin "getset_descriptor.__get__")))
    (htk : PySem.W.takesIn K (.builtin "object.__class__") = some true)
    (su_ratio_ratio : PySem.W.subIn K (.ref Cratio) (.ref Cratio) = some true)
    (su_ratio_kerb : PySem.W.subIn K (.ref Cratio) (.ref Ckerb) = some true)
    (su_kerb_ratio : PySem.W.subIn K (.ref Ckerb) (.ref Cratio) = some false)
    (su_kerb_kerb : PySem.W.subIn K (.ref Ckerb) (.ref Ckerb) = some true)
    (z_ValueError : PySem.W.nsIn K mainGlobals "ValueError" = some none)
    (z_abs : PySem.W.nsIn K mainGlobals "abs" = some none)
    (z_bool : PySem.W.nsIn K mainGlobals "bool" = some none)
    (z_int : PySem.W.nsIn K mainGlobals "int" = some none)
    (z_isinstance : PySem.W.nsIn K mainGlobals "isinstance" = some none)
    (z_len : PySem.W.nsIn K mainGlobals "len" = some none)
    (z_range : PySem.W.nsIn K mainGlobals "range" = some none) :
    ∃ fd : FuncData, (∀ (s : Shared) (v : Value), BindsTo s fd ⟨[v], []⟩ [("_law_script", v)]) ∧ ∀ base : Heap, K.In base → base.Ns mainGlobals mg → FnOk P w K mg base CX0 4 fa fd ["_law_script"] (sp_law K (fun _ => 0)) := by
  have e := hfa.symm.trans (PySem.W.mg_of X G a6)
  cases e
  have T : Txt K mg ⟨(fun e => match e with | .ratio => Cratio | _ => 0), Ckerb, f0, (PySem.W.fnOf "greatest_divisor" "greatest_divisor" (defArgs s_greatest_divisor) (defBody s_greatest_divisor) (defScope s_greatest_divisor) .none kV0 dc0 pm0 an0 cd0 ct0), f1, (PySem.W.fnOf "is_integer" "is_integer" (defArgs s_is_integer) (defBody s_is_integer) (defScope s_is_integer) .none kV1 dc1 pm1 an1 cd1 ct1), f2, (PySem.W.fnOf "ratio" "ratio" (defArgs s_ratio) (defBody s_ratio) (defScope s_ratio) (.ref D2) kV2 dc2 pm2 an2 cd2 ct2), f3, (PySem.W.fnOf "_law_cell" "_law_cell" (defArgs s_law_cell) (defBody s_law_cell) (defScope s_law_cell) .none kV3 dc3 pm3 an3 cd3 ct3), f4, (PySem.W.fnOf "_law_number" "_law_number" (defArgs s_law_number) (defBody s_law_number) (defScope s_law_number) .none kV4 dc4 pm4 an4 cd4 ct4), f5, (PySem.W.fnOf "_law_raises" "_law_raises" (defArgs s_law_raises) (defBody s_law_raises) (defScope s_law_raises) .none kV5 dc5 pm5 an5 cd5 ct5), fa, (PySem.W.fnOf "law" "law" (defArgs s_law) (defBody s_law) (defScope s_law) .none kV6 dc6 pm6 an6 cd6 ct6)⟩ :=
    { greatest_divisor := df_mk X G a0 l0 c0 k0 (fun _ _ _ _ _ _ us hl => match us, hl with | [_, _], _ => rfl),
      is_integer := df_mk X G a1 l1 c1 k1 (fun _ _ _ _ _ _ us hl => match us, hl with | [_], _ => rfl),
      ratio := dfd_mk X G a2 l2 D_2 c2 k2 (fun _ _ _ _ _ _ _ us its hu hi => match us, its, hu, hi with | [_, _], [_], _, _ => ⟨_, rfl, rfl⟩),
      law_cell := df_mk X G a3 l3 c3 k3 (fun _ _ _ _ _ _ us hl => match us, hl with | [_, _], _ => rfl),
      law_number := df_mk X G a4 l4 c4 k4 (fun _ _ _ _ _ _ us hl => match us, hl with | [_], _ => rfl),
      law_raises := df_mk X G a5 l5 c5 k5 (fun _ _ _ _ _ _ us hl => match us, hl with | [_, _], _ => rfl),
      law := df_mk X G a6 l6 c6 k6 (fun _ _ _ _ _ _ us hl => match us, hl with | [_], _ => rfl),
      e_ratio := err_mk X G aC_ratio ex_ratio kp_ratio sb_ratio ty_ratio hg_ratio hk_ratio hd_ratio hac_ratio hm_ratio hn htk,
      exm_ratio_ratio := PySem.W.exm_ref sb_ratio hd_ratio ty_ratio su_ratio_ratio,
      exm_ratio_kerb := PySem.W.exm_ref sb_kerb hd_kerb ty_kerb su_ratio_kerb,
      is_ratio_kerb := kit_own ic_kerb ty_kerb su_ratio_kerb su_kerb_kerb,
      is_ratio_VE := kit_ty1 (by decide +kernel) sv_ratio,
      kerb_g := PySem.W.mg_of X G aC_kerb,
      b_ValueError := PySem.W.mg_none_of X G z_ValueError,
      b_abs := PySem.W.mg_none_of X G z_abs,
      b_bool := PySem.W.mg_none_of X G z_bool,
      b_int := PySem.W.mg_none_of X G z_int,
      b_isinstance := PySem.W.mg_none_of X G z_isinstance,
      b_len := PySem.W.mg_none_of X G z_len,
      b_range := PySem.W.mg_none_of X G z_range }
  exact ⟨_, fun s v => .of_eq rfl, fun base _ _ => all_ok (P := P) (w := w) (base := base) T⟩
end Lw
/-! Km: mathematics for mirrors -/
namespace Kb
open PySem L2
theorem sizeLine_big : 1000000 ≤ sizeLine := by decide
theorem forN_inv {α σ : Type} {f : σ → α → Res σ} (I : Nat → σ → Prop) : ∀ {xs : List α} {s0 : σ} {k : Nat}, I k s0 → (∀ i s x, xs[i]? = some x → I (k + i) s → ∃ s', f s x = .ok s' ∧ I (k + i + 1) s') → ∃ s, forN xs s0 f = .ok s ∧ I (k + xs.length) s
  | [], s0, k, h0, _ => ⟨s0, rfl, h0⟩
  | x :: xs, s0, k, h0, st => by
    obtain ⟨s1, e1, h1⟩ := st 0 s0 x rfl h0
    obtain ⟨s2, e2, h2⟩ := forN_inv I (xs := xs) (s0 := s1) (k := k + 1) h1 (fun i s y hy hi => by
      have z := st (i + 1) s y (by simpa using hy) (by rw [show k + (i + 1) = k + 1 + i from by omega]; exact hi)
      rw [show k + 1 + i + 1 = k + (i + 1) + 1 from by omega]
      exact z)
    refine ⟨s2, by rw [forN_cons, e1]; exact e2, ?_⟩
    rw [List.length_cons, show k + (xs.length + 1) = k + 1 + xs.length from by omega]
    exact h2
theorem forN_inv0 {α σ : Type} {f : σ → α → Res σ} {xs : List α} {s0 : σ} (I : Nat → σ → Prop) (h0 : I 0 s0) (st : ∀ i s x, xs[i]? = some x → I i s → ∃ s', f s x = .ok s' ∧ I (i + 1) s') : ∃ s, forN xs s0 f = .ok s ∧ I xs.length s := by
  obtain ⟨s, e, h⟩ := forN_inv I (k := 0) h0 (fun i s x hx hi => by
    rw [Nat.zero_add] at hi ⊢
    exact st i s x hx hi)
  exact ⟨s, e, by rw [Nat.zero_add] at h; exact h⟩
/-- a loop whose turns are a plain function -/
theorem forN_fold {α σ : Type} {f : σ → α → Res σ} (g : σ → α → σ) : ∀ {xs : List α} {s0 : σ}, (∀ s x, x ∈ xs → f s x = .ok (g s x)) → forN xs s0 f = .ok (xs.foldl g s0)
  | [], _, _ => rfl
  | x :: xs, s0, h => by
    rw [forN_cons, h s0 x List.mem_cons_self, bind_ok, forN_fold g fun s y hy => h s y (List.mem_cons_of_mem _ hy)]
    rfl
theorem compN_c {α β : Type} {x : α} {xs : List α} {f : α → Res β} : compN (x :: xs) f = (nx (f x)).bind fun y => (compN xs f).bind fun ys => .ok (y :: ys) := rfl
theorem compN_map {α β : Type} {f : α → Res β} (g : α → β) : ∀ {xs : List α}, (∀ x ∈ xs, f x = .ok (g x)) → compN xs f = .ok (xs.map g)
  | [], _ => rfl
  | x :: xs, h => by
    rw [compN_c, h x List.mem_cons_self, nx_ok, bind_ok, compN_map g fun y hy => h y (List.mem_cons_of_mem _ hy)]
    rfl
theorem atI_of {α : Type} {xs : List α} {i : Int} {x : α} (h0 : 0 ≤ i) (h : xs[i.toNat]? = some x) : atI xs i = some x := by
  have z := atI_nat h
  rw [show ((i.toNat : Nat) : Int) = i from by omega] at z
  exact z
theorem atI_in {α : Type} {xs : List α} {i : Int} (h0 : 0 ≤ i) (h : i < xs.length) : ∃ x, atI xs i = some x ∧ x ∈ xs := by
  have hl : i.toNat < xs.length := by omega
  exact ⟨xs[i.toNat], atI_of h0 (List.getElem?_eq_getElem hl), List.getElem_mem hl⟩
theorem atI_getD {α : Type} {xs : List α} {i : Int} (d : α) (h0 : 0 ≤ i) (h : i < xs.length) : atI xs i = some (xs.getD i.toNat d) := by
  have hl : i.toNat < xs.length := by omega
  rw [List.getD_eq_getElem?_getD, List.getElem?_eq_getElem hl]
  exact atI_of h0 (List.getElem?_eq_getElem hl)
theorem atI_neg1 {α : Type} {xs : List α} {x : α} (h : xs.getLast? = some x) : atI xs (-(1 : Int)) = some x := by
  cases xs with
  | nil => cases h
  | cons y ys =>
    have e : (y :: ys) = (y :: ys).dropLast ++ [x] := by
      rw [List.getLast?_eq_getLast (List.cons_ne_nil y ys)] at h
      have h' := Option.some.inj h
      rw [← h']
      exact (List.dropLast_concat_getLast (List.cons_ne_nil y ys)).symm
    rw [e]
    exact atI_last _ _
theorem ixN_neg1 {n : Nat} (h : 0 < n) : ixN n (-(1 : Int)) = some (n - 1) := by
  unfold ixN
  rw [if_neg (by decide), if_pos (by omega)]
  congr 1
  omega
theorem log2_le_self (n : Nat) : n.log2 ≤ n := by
  cases n with
  | zero => decide
  | succ n => exact Nat.le_of_lt ((Nat.log2_lt (by omega)).mpr (Nat.lt_pow_self (by decide)))
theorem mulOk_of {a b : Int} {m n : Nat} (ha : a.natAbs ≤ m) (hb : b.natAbs ≤ n) (h : m + n < 1000000) : mulOk a b = true := by
  unfold mulOk
  have h1 := log2_le_self a.natAbs
  have h2 := log2_le_self b.natAbs
  exact decide_eq_true (by omega)
theorem rngOk_of {i : Int} (h1 : -4611686018427387904 ≤ i) (h2 : i < 4611686018427387904) : rngOk i = true := by
  unfold rngOk
  rw [decide_eq_true (show -(2 ^ 62) ≤ i from h1), decide_eq_true (show i < 2 ^ 62 from h2)]
  rfl
theorem rng_mem {lo : Int} : ∀ {n : Nat} {x : Int}, x ∈ rng lo n ↔ lo ≤ x ∧ x < lo + n := by
  intro n
  induction n generalizing lo with
  | zero =>
    intro x
    show x ∈ ([] : List Int) ↔ _
    constructor
    · intro h; cases h
    · intro h; omega
  | succ n ih =>
    intro x
    show x ∈ lo :: rng (lo + 1) n ↔ _
    rw [List.mem_cons, ih]
    constructor
    · rintro (h | h) <;> omega
    · intro h
      by_cases e : x = lo
      · exact .inl e
      · exact .inr (by omega)
theorem rng_get {lo : Int} {n i : Nat} {x : Int} (h : (rng lo n)[i]? = some x) : x = lo + i ∧ i < n := by
  have hl : i < n := by
    have z := (List.getElem?_eq_some_iff.mp h).1
    rw [ints_len] at z
    exact z
  have e := ints_at n lo i hl
  rw [h] at e
  exact ⟨Option.some.inj e, hl⟩

/-! #### it ends well, and what it gives -/
def Ok {α : Type} (r : Res α) (P : α → Prop) : Prop := ∃ y, r = .ok y ∧ P y
section
variable {α β σ ρ : Type}
theorem Ok.ret {x : α} {P : α → Prop} (h : P x) : Ok (.ok x) P := ⟨x, rfl, h⟩
theorem Ok.of {r : Res α} {x : α} {P : α → Prop} (e : r = .ok x) (h : P x) : Ok r P := ⟨x, e, h⟩
theorem Ok.imp {r : Res α} {P Q : α → Prop} (h : Ok r P) (q : ∀ x, P x → Q x) : Ok r Q := let ⟨x, e, p⟩ := h; ⟨x, e, q x p⟩
theorem Ok.bind {m : Res α} {f : α → Res β} {R : α → Prop} {P : β → Prop} (h : Ok m R) (q : ∀ y, R y → Ok (f y) P) : Ok (m.bind f) P := by
  obtain ⟨y, rfl, hy⟩ := h
  exact q y hy
/-- with the equation kept -/
theorem Ok.bindE {m : Res α} {f : α → Res β} {R : α → Prop} {P : β → Prop} (h : Ok m R) (q : ∀ y, m = .ok y → R y → Ok (f y) P) : Ok (m.bind f) P := by
  obtain ⟨y, e, hy⟩ := h
  rw [e]
  exact q y e hy
theorem Ok.nx {m : Res α} {P : α → Prop} (h : Ok m P) : Ok (Kb.nx m) P := by
  obtain ⟨y, rfl, hy⟩ := h
  exact ⟨y, rfl, hy⟩
theorem Ok.chk {b : Bool} {r : Res α} {P : α → Prop} (hb : b = true) (h : Ok r P) : Ok (Kb.chk b r) P := by subst hb; exact h
theorem Ok.chkD {c : Prop} [Decidable c] {r : Res α} {P : α → Prop} (hc : c) (h : Ok r P) : Ok (Kb.chk (decide c) r) P := Ok.chk (decide_eq_true hc) h
theorem Ok.opt {o : Option α} {f : α → Res β} {x : α} {P : β → Prop} (e : o = some x) (h : Ok (f x) P) : Ok (Kb.opt o f) P := by subst e; exact h
theorem Ok.br {b : Bool} {x y : Res α} {P : α → Prop} (ht : b = true → Ok x P) (hf : b = false → Ok y P) : Ok (Kb.br b x y) P := by
  cases b with
  | true => exact ht rfl
  | false => exact hf rfl
theorem Ok.brT {b : Bool} {x y : Res α} {P : α → Prop} (hb : b = true) (h : Ok x P) : Ok (Kb.br b x y) P := by subst hb; exact h
theorem Ok.brF {b : Bool} {x y : Res α} {P : α → Prop} (hb : b = false) (h : Ok y P) : Ok (Kb.br b x y) P := by subst hb; exact h
theorem Ok.forN {xs : List α} {s0 : σ} {f : σ → α → Res σ} {rest : σ → Res β} {P : β → Prop} (I : Nat → σ → Prop) (h0 : I 0 s0) (st : ∀ i s x, xs[i]? = some x → I i s → Ok (f s x) (I (i + 1))) (q : ∀ s, I xs.length s → Ok (rest s) P) : Ok ((Kb.forN xs s0 f).bind rest) P := by
  obtain ⟨s, e, h⟩ := forN_inv0 (f := f) (xs := xs) (s0 := s0) I h0 fun i s x hx hi => st i s x hx hi
  rw [e]
  exact q s h
/-- a loop with a return: each turn goes on, or returns what is wanted -/
theorem Ok.forR {xs : List α} {s0 : σ} {f : σ → α → Res (Ctl σ ρ)} {rest : Ctl σ ρ → Res β} {P : β → Prop} (I : Nat → σ → Prop) (R : ρ → Prop) (h0 : I 0 s0) (st : ∀ i s x, xs[i]? = some x → I i s → Ok (f s x) (fun c => match c with | .nx s' => I (i + 1) s' | .ret r => R r)) (q : ∀ s, I xs.length s → Ok (rest (.nx s)) P) (qr : ∀ r, R r → Ok (rest (.ret r)) P) : Ok ((Kb.forR xs s0 f).bind rest) P := by
  have key : ∀ (l : List α) (k : Nat) (s : σ), I k s → (∀ i s x, l[i]? = some x → I (k + i) s → Ok (f s x) (fun c => match c with | .nx s' => I (k + i + 1) s' | .ret r => R r)) → Ok (Kb.forR l s f) (fun c => match c with | .nx s' => I (k + l.length) s' | .ret r => R r) := by
    intro l
    induction l with
    | nil => intro k s h _; exact ⟨_, rfl, h⟩
    | cons x l ih =>
      intro k s h st
      rw [forR_cons]
      obtain ⟨c, e, hc⟩ := st 0 s x rfl h
      rw [e, bind_ok]
      cases c with
      | ret r => exact ⟨_, rfl, hc⟩
      | nx s' =>
        have z := ih (k + 1) s' hc fun i s y hy hi => by
          have z := st (i + 1) s y (by simpa using hy) (by rw [show k + (i + 1) = k + 1 + i from by omega]; exact hi)
          rw [show k + 1 + i + 1 = k + (i + 1) + 1 from by omega]
          exact z
        rw [List.length_cons, show k + (l.length + 1) = k + 1 + l.length from by omega]
        exact z
  obtain ⟨c, e, hc⟩ := key xs 0 s0 h0 fun i s x hx hi => by
    rw [Nat.zero_add] at hi ⊢
    exact st i s x hx hi
  rw [e, bind_ok]
  cases c with
  | ret r => exact qr r hc
  | nx s =>
    rw [Nat.zero_add] at hc
    exact q s hc
theorem Ok.compN {xs : List α} {f : α → Res β} {R : α → β → Prop} (h : ∀ x ∈ xs, Ok (f x) (R x)) : Ok (Kb.compN xs f) (fun ys => ys.length = xs.length ∧ ∀ (i : Nat) x y, xs[i]? = some x → ys[i]? = some y → R x y) := by
  induction xs with
  | nil => exact ⟨[], rfl, rfl, fun i x y e _ => by simp at e⟩
  | cons x xs ih =>
    obtain ⟨y, e, hy⟩ := h x List.mem_cons_self
    obtain ⟨ys, es, hl, hs⟩ := ih fun z hz => h z (List.mem_cons_of_mem _ hz)
    refine ⟨y :: ys, by rw [compN_c, e, nx_ok, bind_ok, es]; rfl, by simp [hl], fun i a b ea eb => ?_⟩
    cases i with
    | zero =>
      have e1 : x = a := by simpa using ea
      have e2 : y = b := by simpa using eb
      rw [← e1, ← e2]; exact hy
    | succ i => exact hs i a b (by simpa using ea) (by simpa using eb)
/-- it is the one value -/
theorem Ok.eq {r : Res α} {x : α} (h : Ok r (fun y => y = x)) : r = .ok x := by
  obtain ⟨y, e, rfl⟩ := h
  exact e
end
theorem mod_lt' (a : Int) {m : Int} (h : 0 < m) : 0 ≤ a % m ∧ a % m < m := ⟨Int.emod_nonneg _ (by omega), Int.emod_lt_of_pos _ h⟩
theorem pick {α : Type} {xs : List α} {a m : Int} (h : 0 < m) (hl : m = xs.length) : ∃ x, atI xs (a % m) = some x ∧ x ∈ xs := atI_in (mod_lt' a h).1 (by have := (mod_lt' a h).2; omega)
theorem sliceL_len {α : Type} (xs : List α) (lo hi : Option Int) : (sliceL xs lo hi).length ≤ xs.length := by
  unfold sliceL
  rw [List.length_take, List.length_drop]
  omega
end Kb
namespace Lw
open PySem L2 Kb
theorem whileN_s {σ : Type} {n : Nat} {s : σ} {t : σ → Res Bool} {f : σ → Res σ} : whileN (n + 1) s t f = (t s).bind fun b => br b ((f s).bind fun s' => whileN n s' t f) (.ok s) := rfl
theorem gcd_loop {B : Int} : ∀ (n : Nat) (a b : Int), 0 ≤ a → 0 ≤ b → (0 < a ∨ 0 < b) → a ≤ B → b ≤ B → b.toNat < n →
    Ok (whileN n ((a, b) : Int × Int) (fun s1 => (.ok (decide ((0 : Int) < s1.2)))) (fun s1 => chk (decide (0 < s1.2)) <| .ok (s1.2, (s1.1 % s1.2)))) (fun s => 0 < s.1 ∧ s.1 ≤ B)
  | 0, a, b, _, _, _, _, _, h => absurd h (Nat.not_lt_zero _)
  | n + 1, a, b, ha, hb, hp, hA, hB, h => by
    rw [whileN_s, bind_ok]
    by_cases z : 0 < b
    · have m := mod_lt' a z
      rw [decide_eq_true (show (0 : Int) < (a, b).2 from z), br_true, chk_true, bind_ok]
      exact gcd_loop n b (a % b) hb m.1 (.inl z) hB (by omega) (by omega)
    · rw [decide_eq_false (show ¬ (0 : Int) < (a, b).2 from z), br_false]
      exact Ok.ret ⟨by show 0 < a; omega, hA⟩
def big (n : Int) : Prop := -10000000000000000 ≤ n ∧ n ≤ 10000000000000000
theorem gcd_ok {a b : Int} (ha : big a) (hb : big b) (h : 0 < b) : Ok (m_greatest_divisor a b) (fun g => 0 < g ∧ g ≤ 10000000000000000) := by
  unfold m_greatest_divisor
  unfold big at ha hb
  refine Ok.bind (gcd_loop (B := 10000000000000000) _ _ _ ?_ ?_ ?_ ?_ ?_ ?_) fun s hs => Ok.ret hs
  · split <;> omega
  · split <;> omega
  · rw [if_neg (show ¬ b < 0 by omega)]; exact .inr h
  · split <;> omega
  · split <;> omega
  · exact Nat.lt_succ_self _
theorem divOk_of {g : Int} (h : 0 < g) (h2 : g ≤ 10000000000000000) : divOk g = true := by
  unfold divOk
  rw [decide_eq_true h, Bool.true_and]
  refine decide_eq_true ?_
  have e : g.natAbs < 2 ^ 60 := by
    have : (2 : Nat) ^ 60 = 1152921504606846976 := by decide
    omega
  have : g.natAbs.log2 < 60 := (Nat.log2_lt (by omega)).mpr e
  omega
theorem isint_i (n : Int) : m_is_integer (.i n) = .ok true := by unfold m_is_integer; rfl
theorem isint_b (n : Bool) : m_is_integer (.b n) = .ok false := by unfold m_is_integer; rfl
theorem isint_o : m_is_integer .o = .ok false := by unfold m_is_integer; rfl
theorem ratio_err {n d : Int} (h : d < 1) : m_ratio (.i n) (.i d) = .err .ratio := by
  unfold m_ratio
  rw [isint_i, isint_i, nx_ok, bind_ok, br_true, bind_ok, br_true]
  show br (decide (d < 1)) (.err .ratio) _ = _
  rw [decide_eq_true h]
  rfl
theorem ratio_ok {n d : Int} (hn : big n) (hd : big d) (h : ¬ d < 1) : Ok (m_ratio (.i n) (.i d)) (fun _ => True) := by
  unfold m_ratio
  rw [isint_i, isint_i, nx_ok, bind_ok, br_true, bind_ok, br_true]
  refine Ok.opt (x := d) rfl ?_
  rw [decide_eq_false h, br_false]
  refine Ok.opt (x := n) rfl ?_
  refine Ok.bind (Ok.nx (gcd_ok hn hd (by omega))) fun g hg => ?_
  exact Ok.chk (divOk_of hg.1 hg.2) (Ok.chk (divOk_of hg.1 hg.2) (Ok.ret trivial))
theorem raises_int {n d : Int} (hn : big n) (hd : big d) : m_law_raises (.i n) (.i d) = .ok (decide (d < 1)) := by
  unfold m_law_raises
  by_cases h : d < 1
  · rw [ratio_err h, decide_eq_true h]
    rfl
  · obtain ⟨r, e, _⟩ := ratio_ok hn hd h
    rw [e, decide_eq_false h]
    rfl
theorem raises_l {x y : Dyn} (h : m_is_integer x = .ok false) : m_law_raises x y = .ok true := by
  unfold m_law_raises m_ratio
  rw [h]
  rfl
theorem raises_r {n : Int} {y : Dyn} (h : m_is_integer y = .ok false) : m_law_raises (.i n) y = .ok true := by
  unfold m_law_raises m_ratio
  rw [isint_i, h]
  rfl
theorem number_ok (c : Int) : Ok (m_law_number c) big := by
  unfold m_law_number
  have m1 := mod_lt' (c / 5) (m := 19) (by decide)
  have m2 := mod_lt' (c / 5) (m := 2000) (by decide)
  have m3 := mod_lt' (c / 5) (m := 99) (by decide)
  have m4 := mod_lt' (c / 5) (m := 7) (by decide)
  have e15 : ((10 : Int) ^ (15 : Int).toNat) = 1000000000000000 := by decide
  rw [e15]
  obtain ⟨x, ex, mx⟩ := pick (xs := ([(((c / (5 : Int)) % (19 : Int)) - (9 : Int)), (((c / (5 : Int)) % (2000 : Int)) - (1000 : Int)), (1000000000000000 + ((c / (5 : Int)) % (99 : Int))), (((0 : Int) - 1000000000000000) - ((c / (5 : Int)) % (99 : Int))), ((c / (5 : Int)) % (7 : Int))] : List Int)) (a := c) (m := 5) (by decide) rfl
  refine Ok.opt ex (Ok.ret ?_)
  unfold big
  simp only [List.mem_cons, List.not_mem_nil, or_false] at mx
  rcases mx with rfl | rfl | rfl | rfl | rfl <;> omega
theorem cell_ok (ns : List Int) {k : Int} (h0 : 0 ≤ k) (h1 : k ≤ 1000) : ∃ v, m_law_cell ns k = .ok v := by
  unfold m_law_cell
  by_cases h : k < (ns.length : Int)
  · rw [decide_eq_true h]
    obtain ⟨x, e, _⟩ := atI_in h0 h
    exact ⟨x, by rw [br_true, e]; rfl⟩
  · rw [decide_eq_false h, mulOk_of (m := 7) (n := 1000) (by decide) (by omega) (by decide)]
    exact ⟨_, rfl⟩
theorem law_ok (ns : List Int) (h : ns.length ≤ 63) : m_law ns = .ok true := by
  refine Ok.eq ?_
  unfold m_law
  obtain ⟨c0, e0⟩ := cell_ok ns (k := 0) (by decide) (by decide)
  obtain ⟨n, en, hn⟩ := number_ok c0
  rw [e0, bind_ok, en, bind_ok]
  refine Ok.chk (rngOk_of (by decide) (by decide)) (Ok.chk (rngOk_of (by decide) (by decide)) ?_)
  refine Ok.forR (fun _ _ => True) (fun _ => False) trivial ?_ ?_ (fun _ h => h.elim)
  · rintro i s x hx _
    obtain ⟨ex, hi⟩ := rng_get hx
    have hi' : i < 11 := hi
    obtain ⟨c, ec⟩ := cell_ok ns (k := x) (by omega) (by omega)
    obtain ⟨d, ed, hd⟩ := number_ok c
    rw [ec, bind_ok, ed, bind_ok, raises_int hn hd, bind_ok]
    exact Ok.brF (by rw [decide_eq_true rfl]; rfl) (Ok.ret trivial)
  rintro s _
  refine Ok.forR (fun _ _ => True) (fun _ => False) trivial ?_ (fun s _ => Ok.ret rfl) (fun _ h => h.elim)
  rintro i s x hx _
  have mx : x ∈ _ := List.mem_of_getElem? hx
  have bad : m_is_integer x = .ok false := by
    simp only [List.mem_cons, List.not_mem_nil, or_false] at mx
    rcases mx with rfl | rfl | rfl | rfl | rfl | rfl | rfl | rfl | rfl | rfl <;> first | exact isint_b _ | exact isint_o
  rw [raises_l bad, bind_ok, br_true, raises_r bad, bind_ok, br_true]
  exact Ok.ret trivial
end Lw
open PySem PySem.W PyProof.Rows
set_option maxRecDepth 100000 in
set_option maxHeartbeats 0 in
theorem PySem.Challenge.cw_kerbmark_k13_errors_of_ratios_holds : PySem.Challenge.rw_kerbmark_k13_errors_of_ratios.Holds := by
  w_on; o_law; k_head; (case hw => w_witness2)
  k_fill
  refine L2.walk_ofK (l := PySem.Challenge.rw_kerbmark_k13_errors_of_ratios) (n := 63) (k := 4) (x := "_law_script") (CX := L2.CX0) (sp := fun K => Lw.sp_law K (fun _ => 0)) rfl (by decide) rfl ⟨rfl, by decide, by decide⟩ (fun w h Y => PySem.W.kIn_of Y) ?F (fun _ _ a ns hl _ hS => Kb.law_end (Lw.law_ok ns hl) hS) (fun _ _ _ _ h => h)
  case F =>
    intro w mg fa h KX G hmg
    refine' Lw.all_mk KX G hmg ?a0 ?l0 ?c0 ?k0 ?a1 ?l1 ?c1 ?k1 ?a2 ?l2 ?D_2 ?c2 ?k2 ?a3 ?l3 ?c3 ?k3 ?a4 ?l4 ?c4 ?k4 ?a5 ?l5 ?c5 ?k5 ?a6 ?l6 ?c6 ?k6 ?aC_ratio ?ex_ratio ?kp_ratio ?hg_ratio ?hk_ratio ?hac_ratio ?hm_ratio ?sb_ratio ?ty_ratio ?hd_ratio ?ic_ratio ?sv_ratio ?aC_kerb ?sb_kerb ?ty_kerb ?hd_kerb ?ic_kerb ?sv_kerb ?hn ?htk ?su_ratio_ratio ?su_ratio_kerb ?su_kerb_ratio ?su_kerb_kerb ?z_ValueError ?z_abs ?z_bool ?z_int ?z_isinstance ?z_len ?z_range
    (case a0 => k_is)
    (case l0 => k_is)
    (case c0 => k_is)
    (case k0 => k_is)
    (case a1 => k_is)
    (case l1 => k_is)
    (case c1 => k_is)
    (case k1 => k_is)
    (case a2 => k_is)
    (case l2 => k_is)
    (case D_2 => k_is)
    (case c2 => k_is)
    (case k2 => k_is)
    (case a3 => k_is)
    (case l3 => k_is)
    (case c3 => k_is)
    (case k3 => k_is)
    (case a4 => k_is)
    (case l4 => k_is)
    (case c4 => k_is)
    (case k4 => k_is)
    (case a5 => k_is)
    (case l5 => k_is)
    (case c5 => k_is)
    (case k5 => k_is)
    (case a6 => k_is)
    (case l6 => k_is)
    (case c6 => k_is)
    (case k6 => k_is)
    (case aC_ratio => k_is)
    (case ex_ratio => k_exc)
    (case kp_ratio => k_is)
    (case hg_ratio => k_is)
    (case hk_ratio => k_is)
    (case hac_ratio => k_is)
    (case hm_ratio => k_is)
    (case sb_ratio => k_is)
    (case ty_ratio => k_is)
    (case hd_ratio => k_is)
    (case ic_ratio => k_is)
    (case sv_ratio => k_is)
    (case aC_kerb => k_is)
    (case sb_kerb => k_is)
    (case ty_kerb => k_is)
    (case hd_kerb => k_is)
    (case ic_kerb => k_is)
    (case sv_kerb => k_is)
    (case hn => k_is)
    (case htk => k_is)
    (case su_ratio_ratio => first | rfl | k_is)
    (case su_ratio_kerb => first | rfl | k_is)
    (case su_kerb_ratio => first | rfl | k_is)
    (case su_kerb_kerb => first | rfl | k_is)
    (case z_ValueError => k_is)
    (case z_abs => k_is)
    (case z_bool => k_is)
    (case z_int => k_is)
    (case z_isinstance => k_is)
    (case z_len => k_is)
    (case z_range => k_is)
