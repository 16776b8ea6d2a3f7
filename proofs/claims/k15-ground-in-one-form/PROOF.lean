import PyProof.Rows.All
import Wide.All
import OpenK.AllK
import Wide.FinOn
import HandS.ForMost
import HandS.ForExc
import HandS.Wide
import KE.KSortTupG
import HandS.Sort
import HandS.ForSpec
import HandS.RaiseMore
import HandS.IsInst
import HandS.ExcIs
import HandS.TryMany
import HandS.Rev
import HandS.RevTup
import HandS.Iter
import PySem.Challenge.RW_kerbmark_k15_ground_in_one_form
set_option Elab.async false
set_option linter.all false
set_option maxRecDepth 100000
set_option maxHeartbeats 4000000
set_option synthInstance.maxSize 4000
/-! Kb: typed representation, colours, mirrored results -/
namespace Kb
open PySem L2

/-! ### colours: whose an address is (none: frozen, some r: of the structure rooted at r) -/
abbrev Cl := Addr → Option Addr
def setC (c : Cl) (p : Addr) (o : Option Addr) : Cl := fun a => if a = p then o else c a
theorem setC_same {c : Cl} {p : Addr} {o : Option Addr} : setC c p o p = o := by unfold setC; rw [if_pos rfl]
theorem setC_ne {c : Cl} {p a : Addr} {o : Option Addr} (h : a ≠ p) : setC c p o a = c a := by unfold setC; rw [if_neg h]
def Wf (c : Cl) (H : Hp) : Prop := ∀ a o r, H a = some o → c a = some r → ∃ u, H r = some u

/-- the frozen part has grown -/
structure Up (c : Cl) (H : Hp) (c' : Cl) (H' : Hp) : Prop where
  obj : ∀ a o, H a = some o → c a = none → H' a = some o
  col : ∀ a o, H a = some o → c a = none → c' a = none
theorem Up.refl (c : Cl) (H : Hp) : Up c H c H := ⟨fun _ _ h _ => h, fun _ _ _ h => h⟩
theorem Up.trans {c H c1 H1 c2 H2} (a : Up c H c1 H1) (b : Up c1 H1 c2 H2) : Up c H c2 H2 :=
  ⟨fun x o h k => b.obj x o (a.obj x o h k) (a.col x o h k), fun x o h k => b.col x o (a.obj x o h k) (a.col x o h k)⟩

/-- a step that touches the structures rooted in S alone -/
structure Step (S : List Addr) (c : Cl) (H : Hp) (c' : Cl) (H' : Hp) : Prop where
  keep : ∀ a o, H a = some o → (∀ r, c a = some r → r ∉ S) → H' a = some o
  col : ∀ a o, H a = some o → c' a = c a
  live : ∀ a o, H a = some o → ∃ u, H' a = some u
  wf : Wf c' H'
  wf0 : Wf c H
theorem Step.refl {S : List Addr} {c : Cl} {H : Hp} (w : Wf c H) : Step S c H c H := ⟨fun _ _ h _ => h, fun _ _ _ => rfl, fun _ o h => ⟨o, h⟩, w, w⟩
theorem Step.up {S c H c' H'} (g : Step S c H c' H') : Up c H c' H' :=
  ⟨fun a o h k => g.keep a o h (fun r e => by rw [k] at e; cases e), fun a o h k => (g.col a o h).trans k⟩
theorem Step.fresh {S c H c' H'} (g : Step S c H c' H') {p : Addr} (h : H' p = none) : H p = none := by
  cases e : H p with
  | none => rfl
  | some o => obtain ⟨u, q⟩ := g.live p o e; rw [h] at q; cases q
/-- one more: T's roots are S's or fresh ones -/
theorem Step.trans {S T : List Addr} {c H c1 H1 c2 H2} (a : Step S c H c1 H1) (b : Step T c1 H1 c2 H2) (t : ∀ r ∈ T, r ∈ S ∨ H r = none) : Step S c H c2 H2 where
  keep x o h k := by
    refine b.keep x o (a.keep x o h k) fun r e hr => ?_
    rw [a.col x o h] at e
    rcases t r hr with q | q
    · exact k r e q
    · obtain ⟨u, z⟩ := a.wf0 x o r h e; rw [q] at z; cases z
  col x o h := by
    obtain ⟨u, q⟩ := a.live x o h
    rw [b.col x u q, a.col x o h]
  live x o h := by
    obtain ⟨u, q⟩ := a.live x o h
    exact b.live x u q
  wf := b.wf
  wf0 := a.wf0
theorem Step.tr0 {S : List Addr} {c H c1 H1 c2 H2} (a : Step S c H c1 H1) (b : Step [] c1 H1 c2 H2) : Step S c H c2 H2 := a.trans b fun _ h => by cases h
theorem Step.tr1 {S : List Addr} {p : Addr} {c H c1 H1 c2 H2} (a : Step S c H c1 H1) (b : Step [p] c1 H1 c2 H2) (n : p ∈ S ∨ H p = none) : Step S c H c2 H2 := a.trans b fun r h => by
  rcases List.mem_singleton.mp h with rfl
  exact n
theorem Step.weak {S T : List Addr} {c H c1 H1} (a : Step S c H c1 H1) (h : ∀ r ∈ S, r ∈ T) : Step T c H c1 H1 := ⟨fun x o e k => a.keep x o e fun r q z => k r q (h r z), a.col, a.live, a.wf, a.wf0⟩

/-- a new object at p with the colour o -/
theorem Step.new {c : Cl} {H : Hp} (w : Wf c H) {p : Addr} {u : HO} {o : Option Addr} (n : H p = none) (ho : ∀ r, o = some r → r = p ∨ ∃ v, H r = some v) : Step [] c H (setC c p o) (upd H p u) where
  keep a x h _ := by rw [upd_ne (ne_of_none h n)]; exact h
  col a x h := setC_ne (ne_of_none h n)
  live a x h := ⟨x, by rw [upd_ne (ne_of_none h n)]; exact h⟩
  wf := by
    intro a x r h e
    by_cases ea : a = p
    · subst ea
      rw [setC_same] at e
      rcases ho r e with rfl | ⟨v, q⟩
      · exact ⟨u, upd_same⟩
      · exact ⟨v, by rw [upd_ne (ne_of_none q n)]; exact q⟩
    · rw [upd_ne ea] at h
      rw [setC_ne ea] at e
      obtain ⟨v, q⟩ := w a x r h e
      exact ⟨v, by rw [upd_ne (ne_of_none q n)]; exact q⟩
  wf0 := w
/-- the object at p, of the structure r, is changed -/
theorem Step.mut {c : Cl} {H : Hp} (w : Wf c H) {p r : Addr} {u v : HO} (h : H p = some u) (hc : c p = some r) : Step [r] c H c (upd H p v) where
  keep a x e k := by
    by_cases ea : a = p
    · subst ea; exact absurd (List.mem_singleton.mpr rfl) (k r hc)
    · rw [upd_ne ea]; exact e
  col a x e := rfl
  live a x e := by
    by_cases ea : a = p
    · subst ea; exact ⟨v, upd_same⟩
    · exact ⟨x, by rw [upd_ne ea]; exact e⟩
  wf := by
    intro a x s e q
    have : ∃ x', H a = some x' := by
      by_cases ea : a = p
      · subst ea; exact ⟨u, h⟩
      · rw [upd_ne ea] at e; exact ⟨x, e⟩
    obtain ⟨x', e'⟩ := this
    obtain ⟨z, q'⟩ := w a x' s e' q
    by_cases es : s = p
    · subst es; exact ⟨v, upd_same⟩
    · exact ⟨z, by rw [upd_ne es]; exact q'⟩
  wf0 := w
/-- the structure rooted at p is frozen -/
def frz (c : Cl) (p : Addr) : Cl := fun a => if c a = some p then none else c a
theorem frz_none {c : Cl} {p a : Addr} (h : c a = none) : frz c p a = none := by unfold frz; split <;> simp_all
theorem frz_self {c : Cl} {p a : Addr} (h : c a = some p) : frz c p a = none := by unfold frz; rw [if_pos h]
theorem frz_ne {c : Cl} {p a q : Addr} (h : c a = some q) (n : q ≠ p) : frz c p a = some q := by
  unfold frz
  rw [if_neg (by rw [h]; intro e; exact n (Option.some.inj e))]
  exact h
theorem frz_wf {c : Cl} {H : Hp} {p : Addr} (w : Wf c H) : Wf (frz c p) H := fun a o r h e => by
  unfold frz at e
  split at e
  · cases e
  · exact w a o r h e
theorem frz_up {c : Cl} {H : Hp} {p : Addr} : Up c H (frz c p) H := ⟨fun _ _ h _ => h, fun _ _ _ h => frz_none h⟩
theorem Step.frz {S c0 H0 c H} {p : Addr} (g : Step S c0 H0 c H) (n : H0 p = none) : Step S c0 H0 (frz c p) H where
  keep := g.keep
  col a o h := by
    have e := g.col a o h
    unfold Kb.frz
    split
    · rename_i q
      rw [e] at q
      obtain ⟨u, z⟩ := g.wf0 a o p h q
      rw [n] at z; cases z
    · exact e
  live := g.live
  wf := frz_wf g.wf
  wf0 := g.wf0

/-! ### mirrored results -/
inductive Err where
  | ratio | ground | route | off | name | dup | unk | edn | gone | use | event | unkEvent | command
  deriving DecidableEq, Repr
inductive Res (α : Type) where
  | ok (x : α) | err (e : Err) | stk
  deriving DecidableEq, Repr
/-- what a turn of a loop comes to: the next turn's state, or the def's end -/
inductive Ctl (σ ρ : Type) where
  | nx (s : σ) | ret (r : ρ)
  deriving DecidableEq, Repr
def Res.bind {α β : Type} (m : Res α) (f : α → Res β) : Res β := match m with
  | .ok x => f x
  | .err e => .err e
  | .stk => .stk
@[simp] theorem bind_ok {α β : Type} {x : α} {f : α → Res β} : (Res.ok x).bind f = f x := rfl
@[simp] theorem bind_err {α β : Type} {e : Err} {f : α → Res β} : (Res.err e : Res α).bind f = .err e := rfl
@[simp] theorem bind_stk {α β : Type} {f : α → Res β} : (Res.stk : Res α).bind f = .stk := rfl
theorem bind_assoc {α β γ : Type} {m : Res α} {f : α → Res β} {g : β → Res γ} : (m.bind f).bind g = m.bind fun x => (f x).bind g := by cases m <;> rfl
/-- a side condition -/
def chk {α : Type} (b : Bool) (r : Res α) : Res α := if b = true then r else .stk
@[simp] theorem chk_true {α : Type} {r : Res α} : chk true r = r := rfl
@[simp] theorem chk_false {α : Type} {r : Res α} : chk false r = .stk := rfl
theorem chk_of {α : Type} {b : Bool} {r : Res α} (h : b = true) : chk b r = r := by rw [h]; rfl
/-- a place that must be there -/
def opt {α β : Type} (o : Option α) (f : α → Res β) : Res β := match o with
  | some x => f x
  | none => .stk
@[simp] theorem opt_some {α β : Type} {x : α} {f : α → Res β} : opt (some x) f = f x := rfl
@[simp] theorem opt_none {α β : Type} {f : α → Res β} : opt (none : Option α) f = .stk := rfl
theorem opt_of {α β : Type} {o : Option α} {x : α} {f : α → Res β} (h : o = some x) : opt o f = f x := by rw [h]; rfl
/-- a name for a value -/
def lt {α β : Type} (x : α) (f : α → β) : β := f x
@[simp] theorem lt_eq {α β : Type} {x : α} {f : α → β} : lt x f = f x := rfl
/-- a test -/
def br {α : Type} (b : Bool) (x y : Res α) : Res α := if b = true then x else y
@[simp] theorem br_true {α : Type} {x y : Res α} : br true x y = x := rfl
@[simp] theorem br_false {α : Type} {x y : Res α} : br false x y = y := rfl
/-- a for loop without a return in it -/
def forN {α σ : Type} : List α → σ → (σ → α → Res σ) → Res σ
  | [], s, _ => .ok s
  | x :: xs, s, f => (f s x).bind fun s' => forN xs s' f
@[simp] theorem forN_nil {α σ : Type} {s : σ} {f : σ → α → Res σ} : forN [] s f = .ok s := rfl
@[simp] theorem forN_cons {α σ : Type} {x : α} {xs : List α} {s : σ} {f : σ → α → Res σ} : forN (x :: xs) s f = (f s x).bind fun s' => forN xs s' f := rfl
/-- a for loop with a return in it -/
def forR {α σ ρ : Type} : List α → σ → (σ → α → Res (Ctl σ ρ)) → Res (Ctl σ ρ)
  | [], s, _ => .ok (.nx s)
  | x :: xs, s, f => (f s x).bind fun c => match c with
    | .nx s' => forR xs s' f
    | .ret r => .ok (.ret r)
@[simp] theorem forR_nil {α σ ρ : Type} {s : σ} {f : σ → α → Res (Ctl σ ρ)} : forR [] s f = .ok (.nx s) := rfl
theorem forR_cons {α σ ρ : Type} {x : α} {xs : List α} {s : σ} {f : σ → α → Res (Ctl σ ρ)} : forR (x :: xs) s f = (f s x).bind fun c => match c with
    | .nx s' => forR xs s' f
    | .ret r => .ok (.ret r) := rfl
/-- behind a loop: its state, or its return handed on -/
def ctl {σ ρ β : Type} (c : Ctl σ ρ) (f : σ → Res β) (g : ρ → Res β) : Res β := match c with
  | .nx s => f s
  | .ret r => g r
@[simp] theorem ctl_nx {σ ρ β : Type} {s : σ} {f : σ → Res β} {g : ρ → Res β} : ctl (.nx s) f g = f s := rfl
@[simp] theorem ctl_ret {σ ρ β : Type} {r : ρ} {f : σ → Res β} {g : ρ → Res β} : ctl (.ret r) f g = g r := rfl
/-- a while loop, with fuel; the test may be stuck -/
def whileN {σ : Type} : Nat → σ → (σ → Res Bool) → (σ → Res σ) → Res σ
  | 0, _, _, _ => .stk
  | n + 1, s, t, f => (t s).bind fun b => br b ((f s).bind fun s' => whileN n s' t f) (.ok s)
/-- no error is let out -/
def nx {α : Type} (m : Res α) : Res α := match m with
  | .ok x => .ok x
  | .err _ => .stk
  | .stk => .stk
@[simp] theorem nx_ok {α : Type} {x : α} : nx (.ok x) = .ok x := rfl
/-- a comprehension -/
def compN {α β : Type} : List α → (α → Res β) → Res (List β)
  | [], _ => .ok []
  | x :: xs, f => (nx (f x)).bind fun y => (compN xs f).bind fun ys => .ok (y :: ys)
/-- a comprehension with a test -/
def compF {α β : Type} : List α → (α → Res (Option β)) → Res (List β)
  | [], _ => .ok []
  | x :: xs, f => (nx (f x)).bind fun y => (compF xs f).bind fun ys => .ok (match y with | some z => z :: ys | none => ys)
/-- try: an error of ours is handed to the clause if it takes it -/
def tryN {α : Type} (m : Res α) (h : Err → Option (Res α)) : Res α := match m with
  | .ok x => .ok x
  | .err e => (h e).getD (.err e)
  | .stk => .stk
@[simp] theorem tryN_ok {α : Type} {x : α} {h : Err → Option (Res α)} : tryN (.ok x) h = .ok x := rfl
@[simp] theorem tryN_err {α : Type} {e : Err} {h : Err → Option (Res α)} : tryN (.err e : Res α) h = (h e).getD (.err e) := rfl

/-- try: body, one clause, what follows -/
def tryM {τ γ : Type} (m : Res τ) (h : Err → Option (Res γ)) (f : τ → Res γ) : Res γ := match m with
  | .ok s => f s
  | .err e => (h e).getD (.err e)
  | .stk => .stk
@[simp] theorem tryM_ok {τ γ : Type} {s : τ} {h : Err → Option (Res γ)} {f : τ → Res γ} : tryM (.ok s) h f = f s := rfl
@[simp] theorem tryM_err {τ γ : Type} {e : Err} {h : Err → Option (Res γ)} {f : τ → Res γ} : tryM (.err e : Res τ) h f = (h e).getD (.err e) := rfl
/-- what is wanted behind a mirrored result: from the base (c0, H0) on -/
def Kont {α : Type} (P : α → Cl → Hp → Prop) (PE : Err → Cl → Hp → Prop) (S : List Addr) (c0 : Cl) (H0 : Hp) : Res α → Prop
  | .ok y => ∀ c H, Step S c0 H0 c H → P y c H
  | .err e => ∀ c H, Step S c0 H0 c H → PE e c H
  | .stk => False
section
variable {α β : Type} {P : β → Cl → Hp → Prop} {PE : Err → Cl → Hp → Prop} {S : List Addr} {c0 : Cl} {H0 : Hp}
theorem Kont.chk {b : Bool} {r : Res β} (k : Kont P PE S c0 H0 (Kb.chk b r)) : b = true ∧ Kont P PE S c0 H0 r := by
  cases b with
  | true => exact ⟨rfl, k⟩
  | false => exact k.elim
theorem Kont.opt {o : Option α} {f : α → Res β} (k : Kont P PE S c0 H0 (Kb.opt o f)) : ∃ x, o = some x ∧ Kont P PE S c0 H0 (f x) := by
  cases o with
  | some x => exact ⟨x, rfl, k⟩
  | none => exact k.elim
theorem Kont.lt {x : α} {f : α → Res β} (k : Kont P PE S c0 H0 (Kb.lt x f)) : Kont P PE S c0 H0 (f x) := k
theorem Kont.brT {b : Bool} {x y : Res β} (k : Kont P PE S c0 H0 (Kb.br b x y)) (h : b = true) : Kont P PE S c0 H0 x := by subst h; exact k
theorem Kont.brF {b : Bool} {x y : Res β} (k : Kont P PE S c0 H0 (Kb.br b x y)) (h : b = false) : Kont P PE S c0 H0 y := by subst h; exact k
theorem Kont.bindT {m : Res α} {f : α → Res β} (k : Kont P PE S c0 H0 (m.bind f)) : Kont (fun y _ _ => Kont P PE S c0 H0 (f y)) (fun e _ _ => ∀ c H, Step S c0 H0 c H → PE e c H) S c0 H0 m := by
  cases m with
  | ok x => exact fun _ _ _ => k
  | err e => exact fun _ _ _ => k
  | stk => exact k.elim
/-- a call: what the callee's result is to bring -/
theorem Kont.call {m : Res α} {f : α → Res β} {T : List Addr} {c : Cl} {H : Hp} (k : Kont P PE S c0 H0 (m.bind f)) (g : Step S c0 H0 c H) (t : ∀ r ∈ T, r ∈ S ∨ H0 r = none) {Pc : α → Cl → Hp → Prop} {PEc : Err → Cl → Hp → Prop}
    (h : ∀ y, m = .ok y → Kont P PE S c0 H0 (f y) → ∀ c' H', Step T c H c' H' → Step S c0 H0 c' H' → Pc y c' H') (he : ∀ e, m = .err e → ∀ c' H', Step T c H c' H' → Step S c0 H0 c' H' → PE e c' H' → PEc e c' H') : Kont Pc PEc T c H m := by
  cases m with
  | ok x => exact fun c' H' st => h x rfl k c' H' st (g.trans st t)
  | err e => exact fun c' H' st => he e rfl c' H' st (g.trans st t) (k c' H' (g.trans st t))
  | stk => exact k.elim
theorem Kont.nx {m : Res α} {P : α → Cl → Hp → Prop} (k : Kont P PE S c0 H0 (Kb.nx m)) : Kont P (fun _ _ _ => False) S c0 H0 m := by
  cases m with
  | ok x => exact k
  | err e => exact k.elim
  | stk => exact k.elim
/-- a call of what raises nothing -/
theorem Kont.call0 {m : Res α} {f : α → Res β} {T : List Addr} {c : Cl} {H : Hp} (k : Kont P PE S c0 H0 ((Kb.nx m).bind f)) (g : Step S c0 H0 c H) (t : ∀ r ∈ T, r ∈ S ∨ H0 r = none) {Pc : α → Cl → Hp → Prop}
    (h : ∀ y, m = .ok y → Kont P PE S c0 H0 (f y) → ∀ c' H', Step T c H c' H' → Step S c0 H0 c' H' → Pc y c' H') : Kont Pc (fun _ _ _ => False) T c H m := by
  cases m with
  | ok x => exact fun c' H' st => h x rfl k c' H' st (g.trans st t)
  | err e => exact k.elim
  | stk => exact k.elim
theorem Kont.tryM {m : Res α} {h : Err → Option (Res β)} {f : α → Res β} (k : Kont P PE S c0 H0 (Kb.tryM m h f)) : Kont (fun s _ _ => Kont P PE S c0 H0 (f s)) (fun e _ _ => Kont P PE S c0 H0 ((h e).getD (.err e))) S c0 H0 m := by
  cases m with
  | ok x => exact fun _ _ _ => k
  | err e => exact fun _ _ _ => k
  | stk => exact k.elim
theorem Kont.imp {m : Res β} {P' : β → Cl → Hp → Prop} {PE' : Err → Cl → Hp → Prop} (k : Kont P PE S c0 H0 m) (h : ∀ y c H, Step S c0 H0 c H → P y c H → P' y c H) (he : ∀ e c H, Step S c0 H0 c H → PE e c H → PE' e c H) : Kont P' PE' S c0 H0 m := by
  cases m with
  | ok x => exact fun c H g => h _ _ _ g (k c H g)
  | err e => exact fun c H g => he _ _ _ g (k c H g)
  | stk => exact k.elim
theorem Kont.done {y : β} {c : Cl} {H : Hp} (k : Kont P PE S c0 H0 (.ok y)) (g : Step S c0 H0 c H) : P y c H := k c H g
theorem Kont.fail {e : Err} {c : Cl} {H : Hp} (k : Kont P PE S c0 H0 (.err e : Res β)) (g : Step S c0 H0 c H) : PE e c H := k c H g
end
end Kb
namespace Kb
open PySem L2

theorem rd_some {H : Hp} {a : Addr} {o : HO} (h : Rd H a o) : ∃ u, H a = some u := by
  rcases h with h | ⟨u, h⟩
  · exact ⟨_, h⟩
  · exact ⟨_, h⟩
theorem Up.rd {c H c' H'} (g : Up c H c' H') {a : Addr} {o : HO} (k : c a = none) (h : Rd H a o) : Rd H' a o := by
  rcases h with h | ⟨u, h⟩
  · exact .inl (g.obj a _ h k)
  · exact .inr ⟨u, g.obj a _ h k⟩
theorem Up.colR {c H c' H'} (g : Up c H c' H') {a : Addr} {o : HO} (k : c a = none) (h : Rd H a o) : c' a = none := by
  obtain ⟨u, e⟩ := rd_some h
  exact g.col a u e k
/-- a kind of data: how a value in the heap stands for it; its data -/
structure Ty (α : Type) [DecidableEq α] where
  r : Cl → Hp → V → α → Prop
  up : ∀ {c H c' H' v x}, Up c H c' H' → r c H v x → r c' H' v x
  enc : α → PyData
  dp : ∀ {K : PySem.W.Frag} {c H v x}, r c H v x → Dp K H v (enc x)
  lay : ∀ {c H v x}, r c H v x → (enc x).canLay0 = true
  dep : Nat
  hdep : ∀ x, (enc x).depth ≤ dep
  eqv : ∀ x y, PyData.eqv (enc x) (enc y) = decide (x = y)
def tyI : Ty Int where
  r _ _ v x := v = .int x
  up _ h := h
  enc x := .int x
  dp h := by subst h; exact .int _
  lay _ := rfl
  dep := 0
  hdep _ := Nat.le_refl _
  eqv x y := by simp only [PyData.eqv]; rw [Bool.eq_iff_iff]; simp
def tyB : Ty Bool where
  r _ _ v x := v = .bl x
  up _ h := h
  enc x := .bool x
  dp h := by subst h; exact .bl _
  lay _ := rfl
  dep := 0
  hdep _ := Nat.le_refl _
  eqv x y := by simp only [PyData.eqv]; rw [Bool.eq_iff_iff]; simp
def tyS : Ty Str where
  r _ _ v x := v = .str x ∧ PyData.strOk x = true
  up _ h := h
  enc x := .str x
  dp h := by obtain ⟨h, _⟩ := h; subst h; exact .str _
  lay h := h.2
  dep := 0
  hdep _ := Nat.le_refl _
  eqv x y := by simp only [PyData.eqv]; rw [Bool.eq_iff_iff]; simp
def tyU : Ty Unit where
  r _ _ v _ := v = .non
  up _ h := h
  enc _ := .none
  dp h := by subst h; exact .non
  lay _ := rfl
  dep := 0
  hdep _ := Nat.le_refl _
  eqv x y := by simp only [PyData.eqv]; simp
/-- None or a thing -/
def tyO {α : Type} [DecidableEq α] (A : Ty α) (hn : ∀ x, PyData.eqv (A.enc x) .none = false ∧ PyData.eqv .none (A.enc x) = false) (hv : ∀ c H x, ¬ A.r c H .non x) : Ty (Option α) where
  r c H v x := match x with
    | none => v = .non
    | some y => A.r c H v y
  up {c H c' H' v x} g h := by
    cases x with
    | none => exact h
    | some y => exact A.up g h
  enc x := match x with
    | none => .none
    | some y => A.enc y
  dp {K c H v x} h := by
    cases x with
    | none => have e : v = .non := h; subst e; exact .non
    | some y => exact A.dp h
  lay {c H v x} h := by
    cases x with
    | none => rfl
    | some y => exact A.lay h
  dep := A.dep
  hdep x := by
    cases x with
    | none => exact Nat.zero_le _
    | some y => exact A.hdep y
  eqv x y := by
    cases x with
    | none =>
      cases y with
      | none => simp [PyData.eqv]
      | some y => simp [(hn y).2]
    | some x =>
      cases y with
      | none => simp [(hn x).1]
      | some y => simp [A.eqv]
/-- a list's values stand for the data -/
def Rs {α : Type} [DecidableEq α] (A : Ty α) (c : Cl) (H : Hp) : List V → List α → Prop
  | [], [] => True
  | u :: us, x :: xs => A.r c H u x ∧ Rs A c H us xs
  | _, _ => False
section
variable {α : Type} [DecidableEq α] {A : Ty α} {c c' : Cl} {H H' : Hp}
theorem Rs.len : ∀ {us : List V} {xs : List α}, Rs A c H us xs → us.length = xs.length
  | [], [], _ => rfl
  | _ :: us, _ :: xs, h => by rw [List.length_cons, List.length_cons, Rs.len h.2]
  | [], _ :: _, h => h.elim
  | _ :: _, [], h => h.elim
theorem Rs.up (g : Up c H c' H') : ∀ {us : List V} {xs : List α}, Rs A c H us xs → Rs A c' H' us xs
  | [], [], _ => trivial
  | _ :: _, _ :: _, h => ⟨A.up g h.1, Rs.up g h.2⟩
  | [], _ :: _, h => h.elim
  | _ :: _, [], h => h.elim
theorem Rs.app : ∀ {us vs : List V} {xs ys : List α}, Rs A c H us xs → Rs A c H vs ys → Rs A c H (us ++ vs) (xs ++ ys)
  | [], _, [], _, _, h => h
  | _ :: _, _, _ :: _, _, h, k => ⟨h.1, Rs.app h.2 k⟩
  | [], _, _ :: _, _, h, _ => h.elim
  | _ :: _, _, [], _, h, _ => h.elim
theorem Rs.get : ∀ {us : List V} {xs : List α} {i : Nat} {u : V}, Rs A c H us xs → us[i]? = some u → ∃ x, xs[i]? = some x ∧ A.r c H u x
  | [], [], _, _, _, e => by simp at e
  | u :: us, x :: xs, 0, v, h, e => by
    have e' : u = v := by simpa using e
    subst e'
    exact ⟨x, rfl, h.1⟩
  | u :: us, x :: xs, i + 1, v, h, e => by
    obtain ⟨y, e1, r⟩ := Rs.get (i := i) (u := v) h.2 (by simpa using e)
    exact ⟨y, by simpa using e1, r⟩
  | [], _ :: _, _, _, h, _ => h.elim
  | _ :: _, [], _, _, h, _ => h.elim
theorem Rs.getX : ∀ {us : List V} {xs : List α} {i : Nat} {x : α}, Rs A c H us xs → xs[i]? = some x → ∃ u, us[i]? = some u ∧ A.r c H u x
  | [], [], _, _, _, e => by simp at e
  | u :: us, x :: xs, 0, y, h, e => by
    have e' : x = y := by simpa using e
    subst e'
    exact ⟨u, rfl, h.1⟩
  | u :: us, x :: xs, i + 1, y, h, e => by
    obtain ⟨v, e1, r⟩ := Rs.getX (i := i) (x := y) h.2 (by simpa using e)
    exact ⟨v, by simpa using e1, r⟩
  | [], _ :: _, _, _, h, _ => h.elim
  | _ :: _, [], _, _, h, _ => h.elim
theorem Rs.set {u : V} {x : α} (r : A.r c H u x) : ∀ {us : List V} {xs : List α} (i : Nat), Rs A c H us xs → Rs A c H (us.set i u) (xs.set i x)
  | [], [], _, _ => trivial
  | _ :: _, _ :: _, 0, h => ⟨r, h.2⟩
  | _ :: _, _ :: _, i + 1, h => ⟨h.1, Rs.set r i h.2⟩
  | [], _ :: _, _, h => h.elim
  | _ :: _, [], _, h => h.elim
theorem Rs.drop : ∀ {us : List V} {xs : List α} (n : Nat), Rs A c H us xs → Rs A c H (us.drop n) (xs.drop n)
  | _, _, 0, h => h
  | [], [], _ + 1, _ => trivial
  | _ :: _, _ :: _, n + 1, h => Rs.drop n h.2
  | [], _ :: _, _, h => h.elim
  | _ :: _, [], _, h => h.elim
theorem Rs.take : ∀ {us : List V} {xs : List α} (n : Nat), Rs A c H us xs → Rs A c H (us.take n) (xs.take n)
  | _, _, 0, h => by simp [Rs]
  | [], [], _ + 1, _ => trivial
  | _ :: _, _ :: _, n + 1, h => ⟨h.1, Rs.take n h.2⟩
  | [], _ :: _, _, h => h.elim
  | _ :: _, [], _, h => h.elim
theorem Rs.rev : ∀ {us : List V} {xs : List α}, Rs A c H us xs → Rs A c H us.reverse xs.reverse
  | [], [], _ => trivial
  | _ :: _, _ :: _, h => by
    rw [List.reverse_cons, List.reverse_cons]
    exact Rs.app (Rs.rev h.2) ⟨h.1, trivial⟩
  | [], _ :: _, h => h.elim
  | _ :: _, [], h => h.elim
theorem Rs.dp {K : PySem.W.Frag} : ∀ {us : List V} {xs : List α}, Rs A c H us xs → DpAll K H us (xs.map A.enc)
  | [], [], _ => .nil
  | _ :: _, _ :: _, h => .cons (A.dp h.1) (Rs.dp h.2)
  | [], _ :: _, h => h.elim
  | _ :: _, [], h => h.elim
theorem Rs.lay : ∀ {us : List V} {xs : List α}, Rs A c H us xs → PyData.canLayAll0 (xs.map A.enc) = true
  | [], [], _ => rfl
  | _ :: _, x :: xs, h => by
    show (PyData.canLay0 (A.enc x) && PyData.canLayAll0 (xs.map A.enc)) = true
    rw [A.lay h.1, Rs.lay h.2]; rfl
  | [], _ :: _, h => h.elim
  | _ :: _, [], h => h.elim
theorem depAll (A : Ty α) : ∀ xs : List α, PyData.depthAll (xs.map A.enc) ≤ A.dep
  | [] => Nat.zero_le _
  | x :: xs => Nat.max_le.mpr ⟨A.hdep x, depAll A xs⟩
theorem eqvAll (A : Ty α) : ∀ xs ys : List α, PyData.eqvAll (xs.map A.enc) (ys.map A.enc) = decide (xs = ys)
  | [], [] => rfl
  | [], _ :: _ => rfl
  | _ :: _, [] => rfl
  | x :: xs, y :: ys => by
    show (PyData.eqv (A.enc x) (A.enc y) && PyData.eqvAll (xs.map A.enc) (ys.map A.enc)) = decide (x :: xs = y :: ys)
    rw [A.eqv, eqvAll A xs ys, Bool.eq_iff_iff]
    simp
end
/-- a frozen list -/
def tyL {α : Type} [DecidableEq α] (A : Ty α) : Ty (List α) where
  r c H v xs := ∃ (a : Addr) (us : List V), v = .ref a ∧ c a = none ∧ H a = some (.lst us) ∧ Rs A c H us xs
  up := fun g ⟨a, us, e, k, q, h⟩ => ⟨a, us, e, g.col a _ q k, g.obj a _ q k, h.up g⟩
  enc xs := .list (xs.map A.enc)
  dp := fun ⟨a, us, e, k, q, h⟩ => by subst e; exact .lst (.inl (.inl q)) h.dp
  lay := fun ⟨a, us, e, k, q, h⟩ => h.lay
  dep := A.dep + 1
  hdep xs := Nat.succ_le_succ (depAll A xs)
  eqv x y := by simp only [PyData.eqv]; exact eqvAll A x y
def tyT2 {α0 : Type} [DecidableEq α0] {α1 : Type} [DecidableEq α1] (A0 : Ty α0) (A1 : Ty α1) : Ty (α0 × α1) where
  r c H v x := ∃ (a : Addr) (u0 u1 : V), v = .ref a ∧ c a = none ∧ Rd H a (.tup [u0, u1]) ∧ A0.r c H u0 x.1 ∧ A1.r c H u1 x.2
  up := fun g ⟨a, u0, u1, e, k, q, h0, h1⟩ => ⟨a, u0, u1, e, g.colR k q, g.rd k q, A0.up g h0, A1.up g h1⟩
  enc x := .tuple [A0.enc x.1, A1.enc x.2]
  dp := fun ⟨a, u0, u1, e, k, q, h0, h1⟩ => by subst e; exact .tup (.inl q) (.cons (A0.dp h0) (.cons (A1.dp h1) (.nil)))
  lay := fun ⟨a, u0, u1, e, k, q, h0, h1⟩ => by simp [PyData.canLay0, PyData.canLayAll0, A0.lay h0, A1.lay h1]
  dep := A0.dep+A1.dep + 1
  hdep x := by
    have h0 := A0.hdep x.1
    have h1 := A1.hdep x.2
    simp only [PyData.depth, PyData.depthAll]; omega
  eqv x y := by
    simp only [PyData.eqv, PyData.eqvAll, Bool.and_true, A0.eqv, A1.eqv]
    rw [Bool.eq_iff_iff]; simp only [Bool.and_eq_true, decide_eq_true_eq, Prod.ext_iff]
def tyT3 {α0 : Type} [DecidableEq α0] {α1 : Type} [DecidableEq α1] {α2 : Type} [DecidableEq α2] (A0 : Ty α0) (A1 : Ty α1) (A2 : Ty α2) : Ty (α0 × α1 × α2) where
  r c H v x := ∃ (a : Addr) (u0 u1 u2 : V), v = .ref a ∧ c a = none ∧ Rd H a (.tup [u0, u1, u2]) ∧ A0.r c H u0 x.1 ∧ A1.r c H u1 x.2.1 ∧ A2.r c H u2 x.2.2
  up := fun g ⟨a, u0, u1, u2, e, k, q, h0, h1, h2⟩ => ⟨a, u0, u1, u2, e, g.colR k q, g.rd k q, A0.up g h0, A1.up g h1, A2.up g h2⟩
  enc x := .tuple [A0.enc x.1, A1.enc x.2.1, A2.enc x.2.2]
  dp := fun ⟨a, u0, u1, u2, e, k, q, h0, h1, h2⟩ => by subst e; exact .tup (.inl q) (.cons (A0.dp h0) (.cons (A1.dp h1) (.cons (A2.dp h2) (.nil))))
  lay := fun ⟨a, u0, u1, u2, e, k, q, h0, h1, h2⟩ => by simp [PyData.canLay0, PyData.canLayAll0, A0.lay h0, A1.lay h1, A2.lay h2]
  dep := A0.dep+A1.dep+A2.dep + 1
  hdep x := by
    have h0 := A0.hdep x.1
    have h1 := A1.hdep x.2.1
    have h2 := A2.hdep x.2.2
    simp only [PyData.depth, PyData.depthAll]; omega
  eqv x y := by
    simp only [PyData.eqv, PyData.eqvAll, Bool.and_true, A0.eqv, A1.eqv, A2.eqv]
    rw [Bool.eq_iff_iff]; simp only [Bool.and_eq_true, decide_eq_true_eq, Prod.ext_iff]
def tyT4 {α0 : Type} [DecidableEq α0] {α1 : Type} [DecidableEq α1] {α2 : Type} [DecidableEq α2] {α3 : Type} [DecidableEq α3] (A0 : Ty α0) (A1 : Ty α1) (A2 : Ty α2) (A3 : Ty α3) : Ty (α0 × α1 × α2 × α3) where
  r c H v x := ∃ (a : Addr) (u0 u1 u2 u3 : V), v = .ref a ∧ c a = none ∧ Rd H a (.tup [u0, u1, u2, u3]) ∧ A0.r c H u0 x.1 ∧ A1.r c H u1 x.2.1 ∧ A2.r c H u2 x.2.2.1 ∧ A3.r c H u3 x.2.2.2
  up := fun g ⟨a, u0, u1, u2, u3, e, k, q, h0, h1, h2, h3⟩ => ⟨a, u0, u1, u2, u3, e, g.colR k q, g.rd k q, A0.up g h0, A1.up g h1, A2.up g h2, A3.up g h3⟩
  enc x := .tuple [A0.enc x.1, A1.enc x.2.1, A2.enc x.2.2.1, A3.enc x.2.2.2]
  dp := fun ⟨a, u0, u1, u2, u3, e, k, q, h0, h1, h2, h3⟩ => by subst e; exact .tup (.inl q) (.cons (A0.dp h0) (.cons (A1.dp h1) (.cons (A2.dp h2) (.cons (A3.dp h3) (.nil)))))
  lay := fun ⟨a, u0, u1, u2, u3, e, k, q, h0, h1, h2, h3⟩ => by simp [PyData.canLay0, PyData.canLayAll0, A0.lay h0, A1.lay h1, A2.lay h2, A3.lay h3]
  dep := A0.dep+A1.dep+A2.dep+A3.dep + 1
  hdep x := by
    have h0 := A0.hdep x.1
    have h1 := A1.hdep x.2.1
    have h2 := A2.hdep x.2.2.1
    have h3 := A3.hdep x.2.2.2
    simp only [PyData.depth, PyData.depthAll]; omega
  eqv x y := by
    simp only [PyData.eqv, PyData.eqvAll, Bool.and_true, A0.eqv, A1.eqv, A2.eqv, A3.eqv]
    rw [Bool.eq_iff_iff]; simp only [Bool.and_eq_true, decide_eq_true_eq, Prod.ext_iff]
def tyT5 {α0 : Type} [DecidableEq α0] {α1 : Type} [DecidableEq α1] {α2 : Type} [DecidableEq α2] {α3 : Type} [DecidableEq α3] {α4 : Type} [DecidableEq α4] (A0 : Ty α0) (A1 : Ty α1) (A2 : Ty α2) (A3 : Ty α3) (A4 : Ty α4) : Ty (α0 × α1 × α2 × α3 × α4) where
  r c H v x := ∃ (a : Addr) (u0 u1 u2 u3 u4 : V), v = .ref a ∧ c a = none ∧ Rd H a (.tup [u0, u1, u2, u3, u4]) ∧ A0.r c H u0 x.1 ∧ A1.r c H u1 x.2.1 ∧ A2.r c H u2 x.2.2.1 ∧ A3.r c H u3 x.2.2.2.1 ∧ A4.r c H u4 x.2.2.2.2
  up := fun g ⟨a, u0, u1, u2, u3, u4, e, k, q, h0, h1, h2, h3, h4⟩ => ⟨a, u0, u1, u2, u3, u4, e, g.colR k q, g.rd k q, A0.up g h0, A1.up g h1, A2.up g h2, A3.up g h3, A4.up g h4⟩
  enc x := .tuple [A0.enc x.1, A1.enc x.2.1, A2.enc x.2.2.1, A3.enc x.2.2.2.1, A4.enc x.2.2.2.2]
  dp := fun ⟨a, u0, u1, u2, u3, u4, e, k, q, h0, h1, h2, h3, h4⟩ => by subst e; exact .tup (.inl q) (.cons (A0.dp h0) (.cons (A1.dp h1) (.cons (A2.dp h2) (.cons (A3.dp h3) (.cons (A4.dp h4) (.nil))))))
  lay := fun ⟨a, u0, u1, u2, u3, u4, e, k, q, h0, h1, h2, h3, h4⟩ => by simp [PyData.canLay0, PyData.canLayAll0, A0.lay h0, A1.lay h1, A2.lay h2, A3.lay h3, A4.lay h4]
  dep := A0.dep+A1.dep+A2.dep+A3.dep+A4.dep + 1
  hdep x := by
    have h0 := A0.hdep x.1
    have h1 := A1.hdep x.2.1
    have h2 := A2.hdep x.2.2.1
    have h3 := A3.hdep x.2.2.2.1
    have h4 := A4.hdep x.2.2.2.2
    simp only [PyData.depth, PyData.depthAll]; omega
  eqv x y := by
    simp only [PyData.eqv, PyData.eqvAll, Bool.and_true, A0.eqv, A1.eqv, A2.eqv, A3.eqv, A4.eqv]
    rw [Bool.eq_iff_iff]; simp only [Bool.and_eq_true, decide_eq_true_eq, Prod.ext_iff]
def tyT6 {α0 : Type} [DecidableEq α0] {α1 : Type} [DecidableEq α1] {α2 : Type} [DecidableEq α2] {α3 : Type} [DecidableEq α3] {α4 : Type} [DecidableEq α4] {α5 : Type} [DecidableEq α5] (A0 : Ty α0) (A1 : Ty α1) (A2 : Ty α2) (A3 : Ty α3) (A4 : Ty α4) (A5 : Ty α5) : Ty (α0 × α1 × α2 × α3 × α4 × α5) where
  r c H v x := ∃ (a : Addr) (u0 u1 u2 u3 u4 u5 : V), v = .ref a ∧ c a = none ∧ Rd H a (.tup [u0, u1, u2, u3, u4, u5]) ∧ A0.r c H u0 x.1 ∧ A1.r c H u1 x.2.1 ∧ A2.r c H u2 x.2.2.1 ∧ A3.r c H u3 x.2.2.2.1 ∧ A4.r c H u4 x.2.2.2.2.1 ∧ A5.r c H u5 x.2.2.2.2.2
  up := fun g ⟨a, u0, u1, u2, u3, u4, u5, e, k, q, h0, h1, h2, h3, h4, h5⟩ => ⟨a, u0, u1, u2, u3, u4, u5, e, g.colR k q, g.rd k q, A0.up g h0, A1.up g h1, A2.up g h2, A3.up g h3, A4.up g h4, A5.up g h5⟩
  enc x := .tuple [A0.enc x.1, A1.enc x.2.1, A2.enc x.2.2.1, A3.enc x.2.2.2.1, A4.enc x.2.2.2.2.1, A5.enc x.2.2.2.2.2]
  dp := fun ⟨a, u0, u1, u2, u3, u4, u5, e, k, q, h0, h1, h2, h3, h4, h5⟩ => by subst e; exact .tup (.inl q) (.cons (A0.dp h0) (.cons (A1.dp h1) (.cons (A2.dp h2) (.cons (A3.dp h3) (.cons (A4.dp h4) (.cons (A5.dp h5) (.nil)))))))
  lay := fun ⟨a, u0, u1, u2, u3, u4, u5, e, k, q, h0, h1, h2, h3, h4, h5⟩ => by simp [PyData.canLay0, PyData.canLayAll0, A0.lay h0, A1.lay h1, A2.lay h2, A3.lay h3, A4.lay h4, A5.lay h5]
  dep := A0.dep+A1.dep+A2.dep+A3.dep+A4.dep+A5.dep + 1
  hdep x := by
    have h0 := A0.hdep x.1
    have h1 := A1.hdep x.2.1
    have h2 := A2.hdep x.2.2.1
    have h3 := A3.hdep x.2.2.2.1
    have h4 := A4.hdep x.2.2.2.2.1
    have h5 := A5.hdep x.2.2.2.2.2
    simp only [PyData.depth, PyData.depthAll]; omega
  eqv x y := by
    simp only [PyData.eqv, PyData.eqvAll, Bool.and_true, A0.eqv, A1.eqv, A2.eqv, A3.eqv, A4.eqv, A5.eqv]
    rw [Bool.eq_iff_iff]; simp only [Bool.and_eq_true, decide_eq_true_eq, Prod.ext_iff]
def tyT7 {α0 : Type} [DecidableEq α0] {α1 : Type} [DecidableEq α1] {α2 : Type} [DecidableEq α2] {α3 : Type} [DecidableEq α3] {α4 : Type} [DecidableEq α4] {α5 : Type} [DecidableEq α5] {α6 : Type} [DecidableEq α6] (A0 : Ty α0) (A1 : Ty α1) (A2 : Ty α2) (A3 : Ty α3) (A4 : Ty α4) (A5 : Ty α5) (A6 : Ty α6) : Ty (α0 × α1 × α2 × α3 × α4 × α5 × α6) where
  r c H v x := ∃ (a : Addr) (u0 u1 u2 u3 u4 u5 u6 : V), v = .ref a ∧ c a = none ∧ Rd H a (.tup [u0, u1, u2, u3, u4, u5, u6]) ∧ A0.r c H u0 x.1 ∧ A1.r c H u1 x.2.1 ∧ A2.r c H u2 x.2.2.1 ∧ A3.r c H u3 x.2.2.2.1 ∧ A4.r c H u4 x.2.2.2.2.1 ∧ A5.r c H u5 x.2.2.2.2.2.1 ∧ A6.r c H u6 x.2.2.2.2.2.2
  up := fun g ⟨a, u0, u1, u2, u3, u4, u5, u6, e, k, q, h0, h1, h2, h3, h4, h5, h6⟩ => ⟨a, u0, u1, u2, u3, u4, u5, u6, e, g.colR k q, g.rd k q, A0.up g h0, A1.up g h1, A2.up g h2, A3.up g h3, A4.up g h4, A5.up g h5, A6.up g h6⟩
  enc x := .tuple [A0.enc x.1, A1.enc x.2.1, A2.enc x.2.2.1, A3.enc x.2.2.2.1, A4.enc x.2.2.2.2.1, A5.enc x.2.2.2.2.2.1, A6.enc x.2.2.2.2.2.2]
  dp := fun ⟨a, u0, u1, u2, u3, u4, u5, u6, e, k, q, h0, h1, h2, h3, h4, h5, h6⟩ => by subst e; exact .tup (.inl q) (.cons (A0.dp h0) (.cons (A1.dp h1) (.cons (A2.dp h2) (.cons (A3.dp h3) (.cons (A4.dp h4) (.cons (A5.dp h5) (.cons (A6.dp h6) (.nil))))))))
  lay := fun ⟨a, u0, u1, u2, u3, u4, u5, u6, e, k, q, h0, h1, h2, h3, h4, h5, h6⟩ => by simp [PyData.canLay0, PyData.canLayAll0, A0.lay h0, A1.lay h1, A2.lay h2, A3.lay h3, A4.lay h4, A5.lay h5, A6.lay h6]
  dep := A0.dep+A1.dep+A2.dep+A3.dep+A4.dep+A5.dep+A6.dep + 1
  hdep x := by
    have h0 := A0.hdep x.1
    have h1 := A1.hdep x.2.1
    have h2 := A2.hdep x.2.2.1
    have h3 := A3.hdep x.2.2.2.1
    have h4 := A4.hdep x.2.2.2.2.1
    have h5 := A5.hdep x.2.2.2.2.2.1
    have h6 := A6.hdep x.2.2.2.2.2.2
    simp only [PyData.depth, PyData.depthAll]; omega
  eqv x y := by
    simp only [PyData.eqv, PyData.eqvAll, Bool.and_true, A0.eqv, A1.eqv, A2.eqv, A3.eqv, A4.eqv, A5.eqv, A6.eqv]
    rw [Bool.eq_iff_iff]; simp only [Bool.and_eq_true, decide_eq_true_eq, Prod.ext_iff]
theorem tyI_no (x : Int) : PyData.eqv (tyI.enc x) .none = false ∧ PyData.eqv .none (tyI.enc x) = false := by simp [tyI, PyData.eqv]
/-- a list whose own colour does not matter (it is read alone) -/
def rB {α : Type} [DecidableEq α] (K : PySem.W.Frag) (A : Ty α) (c : Cl) (H : Hp) (v : V) (xs : List α) : Prop := ∃ (a : Addr) (us : List V), v = .ref a ∧ SqL K H a us ∧ Rs A c H us xs
/-- the same, a list that stands by itself -/
def rP {α : Type} [DecidableEq α] (A : Ty α) (c : Cl) (H : Hp) (v : V) (xs : List α) : Prop := ∃ (a : Addr) (us : List V), v = .ref a ∧ H a = some (.lst us) ∧ Rs A c H us xs
/-- a list of one's own, rooted at p, not there ahead of H0 -/
structure Own {α : Type} [DecidableEq α] (A : Ty α) (H0 : Hp) (c : Cl) (H : Hp) (p : Addr) (us : List V) (xs : List α) : Prop where
  col : c p = some p
  obj : H p = some (.lst us)
  rs : Rs A c H us xs
  new : H0 p = none
def rO {α : Type} [DecidableEq α] (A : Ty α) (H0 : Hp) (c : Cl) (H : Hp) (v : V) (xs : List α) : Prop := ∃ (p : Addr) (us : List V), v = .ref p ∧ Own A H0 c H p us xs
section
variable {K : PySem.W.Frag} {α : Type} [DecidableEq α] {A : Ty α} {c c' c0 : Cl} {H H' H0 : Hp} {S T : List Addr} {p : Addr} {us : List V} {xs : List α}
theorem tyL_b {v : V} (h : (tyL A).r c H v xs) : rB K A c H v xs := let ⟨a, us, e, _, q, r⟩ := h; ⟨a, us, e, .inl (.inl q), r⟩
theorem rP.b {v : V} (h : rP A c H v xs) : rB K A c H v xs := let ⟨a, us, e, q, r⟩ := h; ⟨a, us, e, .inl (.inl q), r⟩
theorem tyL_p {v : V} (h : (tyL A).r c H v xs) : rP A c H v xs := let ⟨a, us, e, _, q, r⟩ := h; ⟨a, us, e, q, r⟩
theorem Own.pl (h : Own A H0 c H p us xs) : rP A c H (.ref p) xs := ⟨p, us, rfl, h.obj, h.rs⟩
theorem Step.pl0 {v : V} (g : Step [] c0 H0 c H) (h : rP A c0 H0 v xs) : rP A c H v xs := by
  obtain ⟨a, us, e, q, r⟩ := h
  exact ⟨a, us, e, g.keep a _ q (fun _ _ z => by cases z), r.up g.up⟩
theorem Own.b (h : Own A H0 c H p us xs) : rB K A c H (.ref p) xs := ⟨p, us, rfl, .inl (.inl h.obj), h.rs⟩
theorem Own.step (h : Own A H0 c H p us xs) (g : Step T c H c' H') (n : p ∉ T) : Own A H0 c' H' p us xs :=
  ⟨(g.col p _ h.obj).trans h.col, g.keep p _ h.obj (fun r e => by rw [h.col] at e; cases e; exact n), h.rs.up g.up, h.new⟩
theorem Own.step0 (h : Own A H0 c H p us xs) (g : Step [] c H c' H') : Own A H0 c' H' p us xs := h.step g (fun z => by cases z)
theorem Own.step1 {q : Addr} (h : Own A H0 c H p us xs) (g : Step [q] c H c' H') (n : p ≠ q) : Own A H0 c' H' p us xs := h.step g (fun z => n (List.mem_singleton.mp z))
/-- it is frozen -/
theorem Own.frz (h : Own A H0 c H p us xs) : (tyL A).r (frz c p) H (.ref p) xs := ⟨p, us, rfl, frz_self h.col, h.obj, h.rs.up frz_up⟩
theorem Own.other {q : Addr} (h : Own A H0 c H p us xs) (n : p ≠ q) : Own A H0 (Kb.frz c q) H p us xs := ⟨frz_ne h.col n, h.obj, h.rs.up frz_up, h.new⟩
/-- what the base knows of a list that is read alone stands -/
theorem Step.sq0 {a : Addr} (g : Step [] c0 H0 c H) (h : SqL K H0 a us) : SqL K H a us := by
  rcases h with (q | ⟨o, q⟩) | q
  · exact .inl (.inl (g.keep a _ q fun _ _ z => by cases z))
  · exact .inl (.inr ⟨o, g.keep a _ q fun _ _ z => by cases z⟩)
  · exact .inr q
theorem Step.b0 {v : V} (g : Step [] c0 H0 c H) (h : rB K A c0 H0 v xs) : rB K A c H v xs := by
  obtain ⟨a, us, e, q, r⟩ := h
  exact ⟨a, us, e, g.sq0 q, r.up g.up⟩
end
end Kb
/-! Kb3: what expressions evaluate to while nothing changes -/
namespace Kb
open PySem L2

def Pv (t : TE) (σ : L2.St) (H : Hp) (v : V) : Prop := ∀ Q : VK, Q v H → t σ H Q
def PvT (t : TT) (σ : L2.St) (H : Hp) (b : Bool) : Prop := ∀ Q : Bool → Hp → Prop, Q b H → t σ H Q
def PvA (t : TA) (σ : L2.St) (H : Hp) (vs : List V) : Prop := ∀ Q : List V → Hp → Prop, Q vs H → t σ H Q
def PvO (t : TO) (σ : L2.St) (H : Hp) (o : Option Int) : Prop := ∀ Q : Option Int → Hp → Prop, Q o H → t σ H Q
/-- an operation by values -/
def Rv (r : R2) (x y : V) (H : Hp) (z : V) : Prop := ∀ Q : VK, Q z H → r x y H Q
def Rc (r : List V → Hp → VK → Prop) (vs : List V) (H : Hp) (z : V) : Prop := ∀ Q : VK, Q z H → r vs H Q
section
variable {t ta tb tc : TE} {σ : L2.St} {H : Hp} {v x y z : V} {r r' : R2}
theorem Pv.go (h : Pv t σ H v) {Q : VK} (q : Q v H) : t σ H Q := h Q q
theorem PvT.go {t : TT} {b : Bool} (h : PvT t σ H b) {Q : Bool → Hp → Prop} (q : Q b H) : t σ H Q := h Q q
theorem PvA.go {t : TA} {vs : List V} (h : PvA t σ H vs) {Q : List V → Hp → Prop} (q : Q vs H) : t σ H Q := h Q q
theorem Pv.is {w : V} (h : Pv t σ H v) (e : v = w) : Pv t σ H w := e ▸ h
theorem PvT.is {t : TT} {a b : Bool} (h : PvT t σ H a) (e : a = b) : PvT t σ H b := e ▸ h
theorem pv_v {i : Nat} (h : σ[i]? = some (some v)) : Pv (tVar i) σ H v := fun _ q => ⟨v, h, q⟩
theorem pv_c : Pv (tC v) σ H v := fun _ q => q
theorem pv_2 (ha : Pv ta σ H x) (hb : Pv tb σ H y) (hr : Rv r x y H z) : Pv (tOp r ta tb) σ H z := fun Q q => ha _ (hb _ (hr Q q))
theorem pv_1 {r : V → Hp → VK → Prop} (ha : Pv ta σ H x) (hr : ∀ Q : VK, Q z H → r x H Q) : Pv (tUn r ta) σ H z := fun Q q => ha _ (hr Q q)
theorem pv_cb {r : List V → Hp → VK → Prop} {ta : TA} {vs : List V} (ha : PvA ta σ H vs) (hr : Rc r vs H z) : Pv (tCB r ta) σ H z := fun Q q => ha _ (hr Q q)
theorem pa_n : PvA tNil σ H [] := fun _ q => q
theorem pa_c {tr : TA} {vs : List V} (ha : Pv ta σ H x) (hr : PvA tr σ H vs) : PvA (tCons ta tr) σ H (x :: vs) := fun _ q => ha _ (hr _ q)
theorem pv_ch {a b : Bool} (ha : Pv ta σ H x) (hb : Pv tb σ H y) (hr : Rv r x y H (.bl a)) (hc : a = true → Pv tc σ H z) (hr' : a = true → Rv r' y z H (.bl b)) : Pv (tChain r r' ta tb tc) σ H (.bl (a && b)) := fun Q q => ha _ (hb _ (hr _ ⟨a, rfl, by
  cases a with
  | true => exact iteT (hc rfl _ (hr' rfl _ q))
  | false => exact iteF q⟩))
theorem pv_if {c : TT} {b : Bool} (hc : PvT c σ H b) (h1 : b = true → Pv ta σ H v) (h2 : b = false → Pv tb σ H v) : Pv (tIf c ta tb) σ H v := fun Q q => hc _ (by
  cases b with
  | true => exact iteT (h1 rfl Q q)
  | false => exact iteF (h2 rfl Q q))
theorem pv_andV {a b : Bool} (h1 : Pv ta σ H (.bl a)) (h2 : a = true → Pv tb σ H (.bl b)) : Pv (tAndV ta tb) σ H (.bl (a && b)) := fun Q q => h1 _ ⟨a, rfl, by
  cases a with
  | true => exact iteT (h2 rfl Q q)
  | false => exact iteF q⟩
theorem pv_orV {a b : Bool} (h1 : Pv ta σ H (.bl a)) (h2 : a = false → Pv tb σ H (.bl b)) : Pv (tOrV ta tb) σ H (.bl (a || b)) := fun Q q => h1 _ ⟨a, rfl, by
  cases a with
  | true => exact iteT q
  | false => exact iteF (h2 rfl Q q)⟩
theorem pv_notV {a : Bool} (h1 : Pv ta σ H (.bl a)) : Pv (tNotV ta) σ H (.bl (!a)) := fun Q q => h1 _ ⟨a, rfl, q⟩
theorem pt_t {b : Bool} (h : Pv t σ H (.bl b)) : PvT (tTest t) σ H b := fun _ q => h _ ⟨b, rfl, q⟩
theorem pt_b {b : Bool} (h : Pv t σ H (.bl b)) : PvT (tB t) σ H b := fun _ q => h _ ⟨b, rfl, q⟩
theorem pt_and {t u : TT} {a b : Bool} (h1 : PvT t σ H a) (h2 : a = true → PvT u σ H b) : PvT (tAnd t u) σ H (a && b) := fun Q q => h1 _ (by
  cases a with
  | true => exact iteT (h2 rfl Q q)
  | false => exact iteF q)
theorem pt_or {t u : TT} {a b : Bool} (h1 : PvT t σ H a) (h2 : a = false → PvT u σ H b) : PvT (tOr t u) σ H (a || b) := fun Q q => h1 _ (by
  cases a with
  | true => exact iteT q
  | false => exact iteF (h2 rfl Q q))
theorem pt_not {t : TT} {a : Bool} (h1 : PvT t σ H a) : PvT (tNot t) σ H (!a) := fun _ q => h1 _ q
theorem po_n : PvO tNoPart σ H none := fun _ q => q
theorem po_s {i : Int} (h : Pv t σ H (.int i)) : PvO (tPart t) σ H (some i) := fun _ q => h _ ⟨i, rfl, q⟩
/-! #### operations -/
theorem rv_i {g : Int → Int → V} {i j : Int} : Rv (rI0 g) (.int i) (.int j) H (g i j) := fun _ q => ⟨i, j, rfl, rfl, q⟩
theorem rv_ic {C : Int → Int → Prop} {g : Int → Int → V} {i j : Int} (hc : C i j) : Rv (rI C g) (.int i) (.int j) H (g i j) := fun _ q => ⟨i, j, rfl, rfl, hc, q⟩
theorem rv_eqi {i j : Int} : Rv rEq (.int i) (.int j) H (.bl (decide (i = j))) := fun _ q => ⟨rfl, by rw [dec_int]; rw [show (decide (i = j)) = (i == j) from by rw [Bool.eq_iff_iff]; simp] at q; exact q⟩
theorem rv_nei {i j : Int} : Rv rNe (.int i) (.int j) H (.bl (!decide (i = j))) := fun _ q => ⟨rfl, by rw [dec_int]; rw [show (decide (i = j)) = (i == j) from by rw [Bool.eq_iff_iff]; simp] at q; exact q⟩
theorem rv_eqs {i j : Str} : Rv rEq (.str i) (.str j) H (.bl (decide (i = j))) := fun _ q => ⟨rfl, by rw [dec_str]; rw [show (decide (i = j)) = (i == j) from by rw [Bool.eq_iff_iff]; simp] at q; exact q⟩
theorem rv_nes {i j : Str} : Rv rNe (.str i) (.str j) H (.bl (!decide (i = j))) := fun _ q => ⟨rfl, by rw [dec_str]; rw [show (decide (i = j)) = (i == j) from by rw [Bool.eq_iff_iff]; simp] at q; exact q⟩
theorem rv_eqb {i j : Bool} : Rv rEq (.bl i) (.bl j) H (.bl (decide (i = j))) := fun _ q => ⟨rfl, by rw [dec_bl]; rw [show (decide (i = j)) = (i == j) from by rw [Bool.eq_iff_iff]; simp] at q; exact q⟩
theorem rv_neb {i j : Bool} : Rv rNe (.bl i) (.bl j) H (.bl (!decide (i = j))) := fun _ q => ⟨rfl, by rw [dec_bl]; rw [show (decide (i = j)) = (i == j) from by rw [Bool.eq_iff_iff]; simp] at q; exact q⟩
/-- == of data -/
theorem rv_eqd {α : Type} [DecidableEq α] {A : Ty α} {K : PySem.W.Frag} {c : Cl} {a b : α} (h1 : A.r c H x a) (h2 : A.r c H y b) (hd : A.dep ≤ 64) : Rv (rEqD K) x y H (.bl (decide (a = b))) := fun Q q =>
  ⟨A.enc a, A.enc b, A.dp h1, A.dp h2, by unfold SeqAt.shaped; rw [A.lay h1, decide_eq_true (Nat.le_trans (A.hdep a) hd)]; rfl, by unfold SeqAt.shaped; rw [A.lay h2, decide_eq_true (Nat.le_trans (A.hdep b) hd)]; rfl, by rw [A.eqv]; exact q⟩
theorem rv_ned {α : Type} [DecidableEq α] {A : Ty α} {K : PySem.W.Frag} {c : Cl} {a b : α} (h1 : A.r c H x a) (h2 : A.r c H y b) (hd : A.dep ≤ 64) : Rv (rNeD K) x y H (.bl (!decide (a = b))) := fun Q q =>
  ⟨A.enc a, A.enc b, A.dp h1, A.dp h2, by unfold SeqAt.shaped; rw [A.lay h1, decide_eq_true (Nat.le_trans (A.hdep a) hd)]; rfl, by unfold SeqAt.shaped; rw [A.lay h2, decide_eq_true (Nat.le_trans (A.hdep b) hd)]; rfl, by rw [A.eqv]; exact q⟩
theorem rB.shape {α : Type} [DecidableEq α] {A : Ty α} {K : PySem.W.Frag} {c : Cl} {v : V} {xs : List α} (h : rB K A c H v xs) (hd : A.dep + 1 ≤ 64) : Dp K H v ((tyL A).enc xs) ∧ SeqAt.shaped ((tyL A).enc xs) = true := by
  obtain ⟨a, us, rfl, q, r⟩ := h
  refine ⟨.lst q r.dp, ?_⟩
  unfold SeqAt.shaped
  rw [show ((tyL A).enc xs).canLay0 = true from r.lay, decide_eq_true (Nat.le_trans ((tyL A).hdep xs) hd)]
  rfl
/-- == of lists, whatever their colours -/
theorem rv_eql {α : Type} [DecidableEq α] {A : Ty α} {K : PySem.W.Frag} {c : Cl} {a b : List α} (h1 : rB K A c H x a) (h2 : rB K A c H y b) (hd : A.dep + 1 ≤ 64) : Rv (rEqD K) x y H (.bl (decide (a = b))) := fun Q q =>
  ⟨_, _, (h1.shape (K := K) hd).1, (h2.shape (K := K) hd).1, (h1.shape (K := K) hd).2, (h2.shape (K := K) hd).2, by rw [(tyL A).eqv]; exact q⟩
theorem rv_nel {α : Type} [DecidableEq α] {A : Ty α} {K : PySem.W.Frag} {c : Cl} {a b : List α} (h1 : rB K A c H x a) (h2 : rB K A c H y b) (hd : A.dep + 1 ≤ 64) : Rv (rNeD K) x y H (.bl (!decide (a = b))) := fun Q q =>
  ⟨_, _, (h1.shape (K := K) hd).1, (h2.shape (K := K) hd).1, (h1.shape (K := K) hd).2, (h2.shape (K := K) hd).2, by rw [(tyL A).eqv]; exact q⟩
theorem rv_isN : Rv (fun x y H Q => y = .non ∧ Q (.bl (decide (x = .non))) H) x .non H (.bl (decide (x = .non))) := fun _ q => ⟨rfl, q⟩
theorem rv_isNN : Rv (fun x y H Q => y = .non ∧ Q (.bl (!decide (x = .non))) H) x .non H (.bl (!decide (x = .non))) := fun _ q => ⟨rfl, q⟩
theorem rv_cats {i j : Str} (h : i.length + j.length ≤ sizeLine) : Rv (fun x y H Q => ∃ i j, x = .str i ∧ y = .str j ∧ i.length + j.length ≤ sizeLine ∧ Q (.str (i ++ j)) H) (.str i) (.str j) H (.str (i ++ j)) := fun _ q => ⟨i, j, rfl, rfl, h, q⟩
/-- xs[i] -/
theorem ixN_map {n m : Nat} (h : n = m) (i : Int) : ixN n i = ixN m i := by rw [h]
theorem Rs.at {α : Type} [DecidableEq α] {A : Ty α} {c : Cl} {us : List V} {xs : List α} {i : Int} {a : α} (h : Rs A c H us xs) (e : atI xs i = some a) : ∃ u, atI us i = some u ∧ A.r c H u a := by
  unfold atI at e ⊢
  rw [h.len]
  cases q : ixN xs.length i with
  | none => rw [q] at e; cases e
  | some j =>
    rw [q] at e
    exact h.getX e
theorem rv_ixl {K : PySem.W.Frag} {a : Addr} {us : List V} {i : Int} (h : Rd H a (.lst us)) (e : atI us i = some v) : Rv (rIxL K) (.ref a) (.int i) H v := fun _ q => ⟨a, us, i, v, rfl, rfl, .inl h, e, q⟩
theorem rv_ixt {K : PySem.W.Frag} {a : Addr} {us : List V} {i : Int} (h : Rd H a (.tup us)) (e : atI us i = some v) : Rv (rIxT K) (.ref a) (.int i) H v := fun _ q => ⟨a, us, i, v, rfl, rfl, .inl h, e, q⟩
theorem rv_ixs {s : Str} {i : Int} {n : Nat} (h : s.length ≤ sizeLine) (e : atI s.cps.toList i = some n) : Rv rIxS (.str s) (.int i) H (.str ⟨#[n]⟩) := fun _ q => ⟨s, i, n, rfl, rfl, h, e, q⟩
/-! #### built-ins -/
theorem rc_abs {i : Int} : Rc (fun xs H Q => ∃ i, xs = [.int i] ∧ Q (.int (if i < 0 then -i else i)) H) [.int i] H (.int (if i < 0 then -i else i)) := fun _ q => ⟨i, rfl, q⟩
theorem rc_max {i j : Int} : Rc (fun xs H Q => ∃ i j, xs = [.int i, .int j] ∧ Q (.int (if j > i then j else i)) H) [.int i, .int j] H (.int (if j > i then j else i)) := fun _ q => ⟨i, j, rfl, q⟩
theorem rc_min {i j : Int} : Rc (fun xs H Q => ∃ i j, xs = [.int i, .int j] ∧ Q (.int (if j < i then j else i)) H) [.int i, .int j] H (.int (if j < i then j else i)) := fun _ q => ⟨i, j, rfl, q⟩
theorem rc_int {i : Int} : Rc (fun xs H Q => (∃ i, xs = [.int i] ∧ Q (.int i) H) ∨ ∃ k, xs = [.bl k] ∧ Q (.int (if k then 1 else 0)) H) [.int i] H (.int i) := fun _ q => .inl ⟨i, rfl, q⟩
theorem rc_lenl {K : PySem.W.Frag} {a : Addr} {us : List V} (h : Rd H a (.lst us)) : Rc (fun xs H Q => ∃ p ys, xs = [.ref p] ∧ (SqL K H p ys ∨ SqT K H p ys) ∧ Q (.int ys.length) H) [.ref a] H (.int us.length) := fun _ q => ⟨a, us, rfl, .inl (.inl h), q⟩
theorem rc_lent {K : PySem.W.Frag} {a : Addr} {us : List V} (h : Rd H a (.tup us)) : Rc (fun xs H Q => ∃ p ys, xs = [.ref p] ∧ (SqL K H p ys ∨ SqT K H p ys) ∧ Q (.int ys.length) H) [.ref a] H (.int us.length) := fun _ q => ⟨a, us, rfl, .inr (.inl h), q⟩
theorem rc_lenB {α : Type} [DecidableEq α] {A : Ty α} {K : PySem.W.Frag} {c : Cl} {xs : List α} (h : rB K A c H v xs) : Rc (fun xs H Q => ∃ p ys, xs = [.ref p] ∧ (SqL K H p ys ∨ SqT K H p ys) ∧ Q (.int ys.length) H) [v] H (.int xs.length) := fun Q q => by
  obtain ⟨a, us, rfl, h1, r⟩ := h
  exact ⟨a, us, rfl, .inl h1, by rw [r.len]; exact q⟩
theorem rc_lens {s : Str} (h : s.length ≤ sizeLine) : Rc (fun xs H Q => ∃ z, xs = [.str z] ∧ z.length ≤ sizeLine ∧ Q (.int z.length) H) [.str s] H (.int s.length) := fun _ q => ⟨s, rfl, h, q⟩
/-- truth of a list -/
theorem ptr_list {K : PySem.W.Frag} {a : Addr} {us : List V} (h : Rd H a (.lst us)) : SqL K H a us := .inl h
end
/-! #### the inverse of partial values -/
theorem opt_inv {α β : Type} {o : Option α} {f : α → Res β} {y : β} (h : opt o f = .ok y) : ∃ x, o = some x ∧ f x = .ok y := by
  cases o with
  | some x => exact ⟨x, rfl, h⟩
  | none => cases h
theorem chk_inv {β : Type} {b : Bool} {r : Res β} {y : β} (h : chk b r = .ok y) : b = true ∧ r = .ok y := by
  cases b with
  | true => exact ⟨rfl, h⟩
  | false => cases h
/-- and, or of partial tests -/
def andN (a b : Res Bool) : Res Bool := a.bind fun x => br x b (.ok false)
def orN (a b : Res Bool) : Res Bool := a.bind fun x => br x (.ok true) b
theorem pt_andN {t u : TT} {σ : L2.St} {H : Hp} {m n : Res Bool} {b : Bool} (h : andN m n = .ok b) (h1 : ∀ a, m = .ok a → PvT t σ H a) (h2 : ∀ a, n = .ok a → PvT u σ H a) : PvT (tAnd t u) σ H b := by
  cases m with
  | ok x =>
    cases x with
    | true => exact fun Q q => h1 true rfl _ (iteT (h2 b h Q q))
    | false =>
      have e : false = b := Res.ok.inj h
      subst e
      exact fun Q q => h1 false rfl _ (iteF q)
  | err e => cases h
  | stk => cases h
theorem pt_orN {t u : TT} {σ : L2.St} {H : Hp} {m n : Res Bool} {b : Bool} (h : orN m n = .ok b) (h1 : ∀ a, m = .ok a → PvT t σ H a) (h2 : ∀ a, n = .ok a → PvT u σ H a) : PvT (tOr t u) σ H b := by
  cases m with
  | ok x =>
    cases x with
    | true =>
      have e : true = b := Res.ok.inj h
      subst e
      exact fun Q q => h1 true rfl _ (iteT q)
    | false => exact fun Q q => h1 false rfl _ (iteF (h2 b h Q q))
  | err e => cases h
  | stk => cases h
theorem pv_andN {t u : TE} {σ : L2.St} {H : Hp} {m n : Res Bool} {b : Bool} (h : andN m n = .ok b) (h1 : ∀ a, m = .ok a → Pv t σ H (.bl a)) (h2 : ∀ a, n = .ok a → Pv u σ H (.bl a)) : Pv (tAndV t u) σ H (.bl b) := by
  cases m with
  | ok x =>
    cases x with
    | true => exact fun Q q => h1 true rfl _ ⟨true, rfl, iteT (h2 b h Q q)⟩
    | false =>
      have e : false = b := Res.ok.inj h
      subst e
      exact fun Q q => h1 false rfl _ ⟨false, rfl, iteF q⟩
  | err e => cases h
  | stk => cases h
theorem pv_orN {t u : TE} {σ : L2.St} {H : Hp} {m n : Res Bool} {b : Bool} (h : orN m n = .ok b) (h1 : ∀ a, m = .ok a → Pv t σ H (.bl a)) (h2 : ∀ a, n = .ok a → Pv u σ H (.bl a)) : Pv (tOrV t u) σ H (.bl b) := by
  cases m with
  | ok x =>
    cases x with
    | true =>
      have e : true = b := Res.ok.inj h
      subst e
      exact fun Q q => h1 true rfl _ ⟨true, rfl, iteT q⟩
    | false => exact fun Q q => h1 false rfl _ ⟨false, rfl, iteF (h2 b h Q q)⟩
  | err e => cases h
  | stk => cases h
/-- a partial value at a step -/
theorem Kont.bindP {α β : Type} {P : β → Cl → Hp → Prop} {PE : Err → Cl → Hp → Prop} {S : List Addr} {c0 : Cl} {H0 : Hp} {m : Res α} {f : α → Res β} (k : Kont P PE S c0 H0 (m.bind f)) (hm : ∀ e, m ≠ .err e) : ∃ x, m = .ok x ∧ Kont P PE S c0 H0 (f x) := by
  cases m with
  | ok x => exact ⟨x, rfl, k⟩
  | err e => exact absurd rfl (hm e)
  | stk => exact k.elim
theorem ne_ok {α : Type} {x : α} (e : Err) : (Res.ok x) ≠ Res.err e := fun h => by cases h
theorem ne_opt {α β : Type} {o : Option α} {f : α → Res β} (h : ∀ x e, f x ≠ .err e) (e : Err) : opt o f ≠ .err e := by
  cases o with
  | some x => exact h x e
  | none => exact fun z => by cases z
theorem ne_chk {β : Type} {b : Bool} {r : Res β} (h : ∀ e, r ≠ .err e) (e : Err) : chk b r ≠ .err e := by
  cases b with
  | true => exact h e
  | false => exact fun z => by cases z
theorem ne_andN {m n : Res Bool} (h1 : ∀ e, m ≠ .err e) (h2 : ∀ e, n ≠ .err e) (e : Err) : andN m n ≠ .err e := by
  cases m with
  | ok x =>
    cases x with
    | true => exact h2 e
    | false => exact fun z => by cases z
  | err x => exact absurd rfl (h1 x)
  | stk => exact fun z => by cases z
theorem ne_orN {m n : Res Bool} (h1 : ∀ e, m ≠ .err e) (h2 : ∀ e, n ≠ .err e) (e : Err) : orN m n ≠ .err e := by
  cases m with
  | ok x =>
    cases x with
    | true => exact fun z => by cases z
    | false => exact h2 e
  | err x => exact absurd rfl (h1 x)
  | stk => exact fun z => by cases z
end Kb
/-! Kb4: what changes the heap; loops -/
namespace Kb
open PySem L2
section
variable {t ta tb : TE} {σ : L2.St} {c c0 : Cl} {H H0 : Hp} {v x y z : V} {S : List Addr}
/-! #### openings -/
theorem op_u {r : R2} {Q : VK} (h : ta σ H fun x H1 => tb σ H1 fun y H2 => r x y H2 Q) : tOp r ta tb σ H Q := h
theorem un_u {r : V → Hp → VK → Prop} {Q : VK} (h : ta σ H fun x H1 => r x H1 Q) : tUn r ta σ H Q := h
theorem cons_u {tr : TA} {Q : List V → Hp → Prop} (h : ta σ H fun x H1 => tr σ H1 fun xs H2 => Q (x :: xs) H2) : tCons ta tr σ H Q := h
theorem nil_u {Q : List V → Hp → Prop} (h : Q [] H) : tNil σ H Q := h
def MkT (Q : VK) (xs : List V) (H1 : Hp) : Prop := xs.length ≤ sizeLine ∧ ∀ p, H1 p = none → Q (.ref p) (upd H1 p (.tup xs))
def MkL (Q : VK) (xs : List V) (H1 : Hp) : Prop := xs.length ≤ sizeLine ∧ ∀ p, H1 p = none → Q (.ref p) (upd H1 p (.lst xs))
theorem tup_u {ta : TA} {Q : VK} (h : ta σ H (MkT Q)) : tTup ta σ H Q := h
theorem lst_u {ta : TA} {Q : VK} (h : ta σ H (MkL Q)) : tLst ta σ H Q := h
theorem cb_u {r : List V → Hp → VK → Prop} {ta : TA} {Q : VK} (h : ta σ H fun vs H1 => r vs H1 Q) : tCB r ta σ H Q := h
theorem call_u {sp : Sp} {dvs : List V} {E : XK} {ta : TA} {Q : VK} (h : ta σ H fun vs H1 => sp (vs ++ dvs) H1 Q E) : tCall sp dvs E ta σ H Q := h
theorem callS_u {sp : Sp} {E : L2.St → XK} {ta : TA} {Q : VK} (h : ta σ H fun vs H1 => sp vs H1 Q (E σ)) : tCallS sp E ta σ H Q := h
theorem test_u {Q : Bool → Hp → Prop} (h : t σ H fun x H' => ∃ k, x = .bl k ∧ Q k H') : tTest t σ H Q := h
theorem tB_u {Q : Bool → Hp → Prop} (h : t σ H fun x H' => ∃ k, x = .bl k ∧ Q k H') : tB t σ H Q := h
theorem and_u {t u : TT} {Q : Bool → Hp → Prop} (h : t σ H fun c H1 => if c = true then u σ H1 Q else Q false H1) : tAnd t u σ H Q := h
theorem or_u {t u : TT} {Q : Bool → Hp → Prop} (h : t σ H fun c H1 => if c = true then Q true H1 else u σ H1 Q) : tOr t u σ H Q := h
theorem not_u {t : TT} {Q : Bool → Hp → Prop} (h : t σ H fun c H1 => Q (!c) H1) : tNot t σ H Q := h
theorem andV_u {Q : VK} (h : ta σ H fun x H1 => ∃ c, x = .bl c ∧ if c = true then tb σ H1 Q else Q (.bl false) H1) : tAndV ta tb σ H Q := h
theorem orV_u {Q : VK} (h : ta σ H fun x H1 => ∃ c, x = .bl c ∧ if c = true then Q (.bl true) H1 else tb σ H1 Q) : tOrV ta tb σ H Q := h
theorem notV_u {Q : VK} (h : ta σ H fun x H1 => ∃ c, x = .bl c ∧ Q (.bl (!c)) H1) : tNotV ta σ H Q := h
theorem ifE_u {c : TT} {Q : VK} (h : c σ H fun b H1 => if b = true then ta σ H1 Q else tb σ H1 Q) : tIf c ta tb σ H Q := h
theorem seq_u {t u : TS} {D : Ends} (h : t { D with nx := u D } σ H) : tSeq t u D σ H := h
theorem next_u {D : Ends} (h : D.nx σ H) : tNext D σ H := h
theorem drop_u {D : Ends} (h : t σ H fun _ H1 => D.nx σ H1) : tDrop t D σ H := h
theorem ret_u {D : Ends} (h : t σ H D.rt) : tRet t D σ H := h
theorem retN_u {D : Ends} (h : D.rt .non H) : tRetN D σ H := h
theorem ifS_u {c : TT} {t u : TS} {D : Ends} (h : c σ H fun b H1 => if b = true then t D σ H1 else u D σ H1) : tIfS c t u D σ H := h
theorem asg_u {g : TG} {D : Ends} (h : t σ H fun x H1 => g x σ H1 D.nx) : tAsg t g D σ H := h
theorem gname_u {i : Nat} {Q : L2.St → Hp → Prop} (h : Q (σ.set i (some v)) H) : gName i v σ H Q := h
theorem gtup_u {K : PySem.W.Frag} {n : Nat} {t : TGs} {a : Addr} {us : List V} {Q : L2.St → Hp → Prop} (r : Rd H a (.tup us)) (hn : us.length = n) (h : t us σ H Q) : gTup K n t (.ref a) σ H Q := ⟨a, us, rfl, .inl r, hn, h⟩
theorem gcons_u {t : TG} {u : TGs} {vs : List V} {Q : L2.St → Hp → Prop} (h : t v σ H fun σ' H' => u vs σ' H' Q) : gCons t u (v :: vs) σ H Q := ⟨v, vs, rfl, h⟩
theorem gnil_u {Q : L2.St → Hp → Prop} (h : Q σ H) : gNil [] σ H Q := ⟨rfl, h⟩
theorem gsub_u {to ti : TE} {t : TSet} {Q : L2.St → Hp → Prop} (h : to σ H fun o H1 => ti σ H1 fun i H2 => t o i v H2 fun H3 => Q σ H3) : gSub to ti t v σ H Q := h
theorem bm_u {K : PySem.W.Frag} {T : String} {r : V → List V → Hp → VK → Prop} {to : TE} {t : TA} {Q : VK} (h : to σ H fun x H1 => tyV K T x H1 ∧ t σ H1 fun xs H2 => r x xs H2 Q) : tBM K T r to t σ H Q := h
theorem bm0_u {K : PySem.W.Frag} {T : String} {r : V → List V → Hp → VK → Prop} {to : TE} {Q : VK} (h : to σ H fun x H1 => tyV K T x H1 ∧ r x [] H1 Q) : tBM0 K T r to σ H Q := h
theorem ty_list {K : PySem.W.Frag} {p : Addr} {us : List V} (h : Rd H p (.lst us)) : tyV K "list" (.ref p) H := .inl ⟨rfl, us, .inl h⟩
theorem sl_u {r : V → Option Int → Option Int → Hp → VK → Prop} {te : TE} {tl th : TO} {Q : VK} (h : te σ H fun x H1 => tl σ H1 fun l H2 => th σ H2 fun u H3 => r x l u H3 Q) : tSl r te tl th σ H Q := h
theorem PvO.go {t : TO} {o : Option Int} (h : PvO t σ H o) {Q : Option Int → Hp → Prop} (q : Q o H) : t σ H Q := h Q q
/-! #### ends that make new objects -/
theorem tup_end {vs : List V} (hl : vs.length ≤ 1000) (w : Wf c H) {Q : VK} (q : ∀ p c' H', Step [] c H c' H' → c' p = none → Rd H' p (.tup vs) → H p = none → Q (.ref p) H') : MkT Q vs H :=
  ⟨Nat.le_trans hl (by decide), fun p n => q p (setC c p none) _ (Step.new w n fun r e => by cases e) setC_same (.inl upd_same) n⟩
theorem lst_end {vs : List V} (hl : vs.length ≤ 1000) (w : Wf c H) {Q : VK} (q : ∀ p c' H', Step [] c H c' H' → c' p = some p → H' p = some (.lst vs) → H p = none → Q (.ref p) H') : MkL Q vs H :=
  ⟨Nat.le_trans hl (by decide), fun p n => q p (setC c p (some p)) _ (Step.new w n fun r e => by cases e; exact .inl rfl) setC_same upd_same n⟩
/-- a new list, wherever it comes from -/
theorem new_end {vs : List V} (w : Wf c H) {Q : VK} (q : ∀ p c' H', Step [] c H c' H' → c' p = some p → H' p = some (.lst vs) → H p = none → Q (.ref p) H') : ∀ p, H p = none → Q (.ref p) (upd H p (.lst vs)) :=
  fun p n => q p (setC c p (some p)) _ (Step.new w n fun r e => by cases e; exact .inl rfl) setC_same upd_same n
theorem newT_end {vs : List V} (w : Wf c H) {Q : VK} (q : ∀ p c' H', Step [] c H c' H' → c' p = none → Rd H' p (.tup vs) → H p = none → Q (.ref p) H') : ∀ p, H p = none → Q (.ref p) (upd H p (.tup vs)) :=
  fun p n => q p (setC c p none) _ (Step.new w n fun r e => by cases e) setC_same (.inl upd_same) n
section
variable {α : Type} [DecidableEq α] {A : Ty α} {p : Addr} {us : List V} {xs : List α} {a : α} {u : V}
theorem append_end (o : Own A H0 c H p us xs) (w : Wf c H) (r : A.r c H u a) (hl : xs.length < sizeLine) {Q : VK} (q : ∀ H', Step [p] c H c H' → Own A H0 c H' p (us ++ [u]) (xs ++ [a]) → Q .non H') : rAppend (.ref p) [u] H Q := by
  have st : Step [p] c H c (upd H p (.lst (us ++ [u]))) := Step.mut w o.obj o.col
  exact ⟨p, us, u, rfl, rfl, o.obj, by rw [o.rs.len]; exact hl, q _ st ⟨o.col, upd_same, (o.rs.up st.up).app ⟨A.up st.up r, trivial⟩, o.new⟩⟩
theorem set_end (o : Own A H0 c H p us xs) (w : Wf c H) (r : A.r c H u a) {i : Int} {j : Nat} (hi : ixN xs.length i = some j) {Q : Hp → Prop} (q : ∀ H', Step [p] c H c H' → Own A H0 c H' p (us.set j u) (xs.set j a) → Q H') : rSetL (.ref p) (.int i) u H Q := by
  have st : Step [p] c H c (upd H p (.lst (us.set j u))) := Step.mut w o.obj o.col
  exact ⟨p, us, i, j, rfl, rfl, o.obj, by rw [o.rs.len]; exact hi, q _ st ⟨o.col, upd_same, (o.rs.up st.up).set (A.up st.up r) j, o.new⟩⟩
theorem reverse_end (o : Own A H0 c H p us xs) (w : Wf c H) {Q : VK} (q : ∀ H', Step [p] c H c H' → Own A H0 c H' p us.reverse xs.reverse → Q .non H') : rReverse (.ref p) [] H Q := by
  have st : Step [p] c H c (upd H p (.lst us.reverse)) := Step.mut w o.obj o.col
  exact ⟨p, us, rfl, rfl, o.obj, q _ st ⟨o.col, upd_same, (o.rs.up st.up).rev, o.new⟩⟩
/-- an extension by a list that is read -/
theorem extend_end {vs : List V} {ys : List α} {b : Addr} (o : Own A H0 c H p us xs) (w : Wf c H) (hb : H b = some (.lst vs)) (r : Rs A c H vs ys) (hl : xs.length + ys.length ≤ sizeLine) {Q : VK} (q : ∀ H', Step [p] c H c H' → Own A H0 c H' p (us ++ vs) (xs ++ ys) → Q .non H') : rExtend (.ref p) [.ref b] H Q := by
  have st : Step [p] c H c (upd H p (.lst (us ++ vs))) := Step.mut w o.obj o.col
  exact ⟨p, b, us, vs, rfl, rfl, o.obj, hb, by rw [o.rs.len, r.len]; exact hl, q _ st ⟨o.col, upd_same, (o.rs.up st.up).app (r.up st.up), o.new⟩⟩
/-- a slice -/
theorem slice_end {K : PySem.W.Frag} {lo hi : Option Int} (hx : rB K A c H v xs) (w : Wf c H) (n0 : ∀ p, H p = none → H0 p = none) {Q : VK}
    (q : ∀ p us' c' H', H p = none → Step [] c H c' H' → Own A H0 c' H' p us' ((xs.drop (HT.sIx xs.length 0 lo)).take (HT.sIx xs.length xs.length hi - HT.sIx xs.length 0 lo)) → Q (.ref p) H') : rSlL K v lo hi H Q := by
  obtain ⟨a, us, rfl, h, r⟩ := hx
  refine ⟨a, us, rfl, h, new_end w fun p c' H' st cp hp np => q p _ c' H' np st ⟨cp, hp, ?_, n0 p np⟩⟩
  unfold cutV
  rw [r.len]
  exact ((r.up st.up).drop _).take _
def rListOf (K : PySem.W.Frag) : List V → Hp → VK → Prop := fun xs H Q => ∃ p ys, xs = [V.ref p] ∧ (SqL K H p ys ∨ SqT K H p ys) ∧ ∀ l, H l = none → Q (.ref l) (upd H l (.lst ys))
theorem cr_list {X : Cx} : CallR X (.type "list") (rListOf X.K) := call_list_of
/-- list(xs) -/
theorem listof_end {K : PySem.W.Frag} (hx : rB K A c H v xs) (w : Wf c H) (n0 : ∀ p, H p = none → H0 p = none) {Q : VK} (q : ∀ p us' c' H', H p = none → Step [] c H c' H' → Own A H0 c' H' p us' xs → Q (.ref p) H') :
    rListOf K [v] H Q := by
  obtain ⟨a, us, rfl, h, r⟩ := hx
  exact ⟨a, us, rfl, .inl h, new_end w fun p c' H' st cp hp np => q p _ c' H' np st ⟨cp, hp, r.up st.up, n0 p np⟩⟩
/-- the part of a list that a slice tells -/
def sliceL {α : Type} (xs : List α) (lo hi : Option Int) : List α := (xs.drop (HT.sIx xs.length 0 lo)).take (HT.sIx xs.length xs.length hi - HT.sIx xs.length 0 lo)
/-- xs + ys -/
theorem cat_end {ys : List α} {x y : V} {a b : Addr} {us vs : List V} (ex : x = .ref a) (ey : y = .ref b) (hx : H a = some (.lst us)) (rx : Rs A c H us xs) (hy : H b = some (.lst vs)) (ry : Rs A c H vs ys) (w : Wf c H) (n0 : ∀ p, H p = none → H0 p = none) (hl : xs.length + ys.length ≤ sizeLine) {Q : VK}
    (q : ∀ p us' c' H', H p = none → Step [] c H c' H' → Own A H0 c' H' p us' (xs ++ ys) → Q (.ref p) H') : rCat x y H Q := by
  subst ex ey
  exact ⟨a, b, us, vs, rfl, rfl, hx, hy, by rw [rx.len, ry.len]; exact hl, new_end w fun p c' H' st cp hp np => q p _ c' H' np st ⟨cp, hp, (rx.up st.up).app (ry.up st.up), n0 p np⟩⟩
end
end
/-! #### loops -/
section
variable {β τ α : Type} [DecidableEq α] {A : Ty α} {P : β → Cl → Hp → Prop} {PE : Err → Cl → Hp → Prop} {S : List Addr} {c0 c : Cl} {H0 H : Hp} {σ : L2.St} {g : TG} {tb : TS} {D : Ends} {K : PySem.W.Frag} {a : Addr} {us : List V} {xs : List α} {s0 : τ}
theorem Kont.turn {m : Res τ} {f : τ → Res β} (k : Kont P PE S c0 H0 (m.bind f)) : Kont (fun s _ _ => Kont P PE S c0 H0 (f s)) PE S c0 H0 m := by
  cases m with
  | ok x => exact fun _ _ _ => k
  | err e => exact k
  | stk => exact k.elim
theorem drop_at {l : List α} {i : Nat} {x : α} (h : l[i]? = some x) : l.drop i = x :: l.drop (i + 1) := by
  obtain ⟨hi, e⟩ := List.getElem?_eq_some_iff.mp h
  rw [List.drop_eq_getElem_cons hi, e]
theorem for_n {f : τ → α → Res τ} {rest : τ → Res β} (k : Kont P PE S c0 H0 ((forN xs s0 f).bind rest)) (I : τ → Cl → Hp → L2.St → Prop) (h0 : I s0 c H σ) (hl : ∀ s c H σ, I s c H σ → SqL K H a us ∧ Rs A c H us xs)
    (hb : ∀ s x v c H σ (N : L2.St → Hp → Prop), I s c H σ → A.r c H v x → Kont (fun s' c' H' => ∀ σ', I s' c' H' σ' → N σ' H') PE S c0 H0 (f s x) → g v σ H fun σ2 H2 => tb { D with nx := N, ct := N, bk := D.nx } σ2 H2)
    (hd : ∀ s c H σ, I s c H σ → Kont P PE S c0 H0 (rest s) → D.nx σ H) :
    ∃ W : Nat → Nat → L2.St → Hp → Prop, (∃ m, W 0 m σ H) ∧ ∀ i m σ H, W i m σ H →
      ((Itl K a).stop i H ∧ D.nx σ H) ∨ ((Itl K a).go i H ∧ ∃ N : L2.St → Hp → Prop, (∀ σ' H', N σ' H' → ∃ m', m' < m ∧ W (i + 1) m' σ' H') ∧ ∀ x H', (Itl K a).yld i H x H' → g x σ H' fun σ2 H2 => tb { D with nx := N, ct := N, bk := D.nx } σ2 H2) := by
  refine for_list (K := K) (a := a) (xs := us) (fun i σ H => ∃ s c, I s c H σ ∧ Kont P PE S c0 H0 ((forN (xs.drop i) s f).bind rest)) ⟨s0, c, h0, k⟩ (fun i σ H _ ⟨s, c, h, _⟩ => (hl s c H σ h).1) ?_ ?_
  · rintro i v σ1 H1 hi ⟨s, c1, h, k1⟩
    obtain ⟨_, r⟩ := hl s c1 H1 σ1 h
    obtain ⟨x, hx, rx⟩ := r.get hi
    rw [drop_at hx, forN_cons, bind_assoc] at k1
    refine hb s x v c1 H1 σ1 _ h rx (k1.turn.imp (fun s' c' H' st q σ' h' => ⟨s', c', h', q⟩) fun _ _ _ _ q => q)
  · rintro σ1 H1 ⟨s, c1, h, k1⟩
    obtain ⟨_, r⟩ := hl s c1 H1 σ1 h
    rw [List.drop_eq_nil_of_le (by rw [r.len]; exact Nat.le_refl _)] at k1
    exact hd s c1 H1 σ1 h k1
theorem for_r {ρ : Type} {f : τ → α → Res (Ctl τ ρ)} {rest : Ctl τ ρ → Res β} {Rr : Cl → Hp → V → ρ → Prop} (k : Kont P PE S c0 H0 ((forR xs s0 f).bind rest)) (I : τ → Cl → Hp → L2.St → Prop) (h0 : I s0 c H σ) (hl : ∀ s c H σ, I s c H σ → SqL K H a us ∧ Rs A c H us xs)
    (hb : ∀ s x v c H σ (N : L2.St → Hp → Prop), I s c H σ → A.r c H v x → Kont (fun y c' H' => match y with | .nx s' => ∀ σ', I s' c' H' σ' → N σ' H' | .ret r => ∀ v, Rr c' H' v r → D.rt v H') PE S c0 H0 (f s x) → g v σ H fun σ2 H2 => tb { D with nx := N, ct := N, bk := D.nx } σ2 H2)
    (hr : ∀ r, Kont P PE S c0 H0 (rest (.ret r)) → ∀ c H, Step S c0 H0 c H → ∀ v, Rr c H v r → D.rt v H)
    (hd : ∀ s c H σ, I s c H σ → Kont P PE S c0 H0 (rest (.nx s)) → D.nx σ H) :
    ∃ W : Nat → Nat → L2.St → Hp → Prop, (∃ m, W 0 m σ H) ∧ ∀ i m σ H, W i m σ H →
      ((Itl K a).stop i H ∧ D.nx σ H) ∨ ((Itl K a).go i H ∧ ∃ N : L2.St → Hp → Prop, (∀ σ' H', N σ' H' → ∃ m', m' < m ∧ W (i + 1) m' σ' H') ∧ ∀ x H', (Itl K a).yld i H x H' → g x σ H' fun σ2 H2 => tb { D with nx := N, ct := N, bk := D.nx } σ2 H2) := by
  refine for_list (K := K) (a := a) (xs := us) (fun i σ H => ∃ s c, I s c H σ ∧ Kont P PE S c0 H0 ((forR (xs.drop i) s f).bind rest)) ⟨s0, c, h0, k⟩ (fun i σ H _ ⟨s, c, h, _⟩ => (hl s c H σ h).1) ?_ ?_
  · rintro i v σ1 H1 hi ⟨s, c1, h, k1⟩
    obtain ⟨_, r⟩ := hl s c1 H1 σ1 h
    obtain ⟨x, hx, rx⟩ := r.get hi
    rw [drop_at hx, forR_cons, bind_assoc] at k1
    refine hb s x v c1 H1 σ1 _ h rx (k1.turn.imp (fun y c' H' st q => ?_) fun _ _ _ _ q => q)
    cases y with
    | nx s' => exact fun σ' h' => ⟨s', c', h', q⟩
    | ret r' => exact fun v hv => hr r' q c' H' st v hv
  · rintro σ1 H1 ⟨s, c1, h, k1⟩
    obtain ⟨_, r⟩ := hl s c1 H1 σ1 h
    rw [List.drop_eq_nil_of_le (by rw [r.len]; exact Nat.le_refl _)] at k1
    exact hd s c1 H1 σ1 h k1
/-- range(lo, ..), n turns: the items are lo, lo + 1, .. -/
def rng (lo : Int) : Nat → List Int
  | 0 => []
  | n + 1 => lo :: rng (lo + 1) n
theorem ints_len : ∀ (n : Nat) (lo : Int), (rng lo n).length = n
  | 0, _ => rfl
  | n + 1, lo => by show (rng (lo + 1) n).length + 1 = n + 1; rw [ints_len n]
theorem ints_at : ∀ (n : Nat) (lo : Int) (i : Nat), i < n → (rng lo n)[i]? = some (lo + i)
  | 0, _, i, h => absurd h (Nat.not_lt_zero _)
  | n + 1, lo, 0, _ => by show some lo = some (lo + ((0 : Nat) : Int)); simp
  | n + 1, lo, i + 1, h => by
    show (rng (lo + 1) n)[i]? = some (lo + ((i + 1 : Nat) : Int))
    rw [ints_at n (lo + 1) i (Nat.lt_of_succ_lt_succ h)]
    congr 1
    omega
theorem for_rgn {lo : Int} {n : Nat} {f : τ → Int → Res τ} {rest : τ → Res β} (k : Kont P PE S c0 H0 ((forN (rng lo n) s0 f).bind rest)) (I : τ → Cl → Hp → L2.St → Prop) (h0 : I s0 c H σ)
    (hb : ∀ s x c H σ (N : L2.St → Hp → Prop), I s c H σ → Kont (fun s' c' H' => ∀ σ', I s' c' H' σ' → N σ' H') PE S c0 H0 (f s x) → g (.int x) σ H fun σ2 H2 => tb { D with nx := N, ct := N, bk := D.nx } σ2 H2)
    (hd : ∀ s c H σ, I s c H σ → Kont P PE S c0 H0 (rest s) → D.nx σ H) :
    ∃ W : Nat → Nat → L2.St → Hp → Prop, (∃ m, W 0 m σ H) ∧ ∀ i m σ H, W i m σ H →
      ((Itr lo n).stop i H ∧ D.nx σ H) ∨ ((Itr lo n).go i H ∧ ∃ N : L2.St → Hp → Prop, (∀ σ' H', N σ' H' → ∃ m', m' < m ∧ W (i + 1) m' σ' H') ∧ ∀ x H', (Itr lo n).yld i H x H' → g x σ H' fun σ2 H2 => tb { D with nx := N, ct := N, bk := D.nx } σ2 H2) := by
  refine for_range (lo := lo) (n := n) (fun i σ H => ∃ s c, I s c H σ ∧ Kont P PE S c0 H0 ((forN ((rng lo n).drop i) s f).bind rest)) ⟨s0, c, h0, k⟩ ?_ ?_
  · rintro i σ1 H1 hi ⟨s, c1, h, k1⟩
    rw [drop_at (ints_at n lo i hi), forN_cons, bind_assoc] at k1
    exact hb s _ c1 H1 σ1 _ h (k1.turn.imp (fun s' c' H' st q σ' h' => ⟨s', c', h', q⟩) fun _ _ _ _ q => q)
  · rintro σ1 H1 ⟨s, c1, h, k1⟩
    rw [List.drop_eq_nil_of_le (by rw [ints_len]; exact Nat.le_refl _)] at k1
    exact hd s c1 H1 σ1 h k1
theorem for_rgr {ρ : Type} {lo : Int} {n : Nat} {f : τ → Int → Res (Ctl τ ρ)} {rest : Ctl τ ρ → Res β} {Rr : Cl → Hp → V → ρ → Prop} (k : Kont P PE S c0 H0 ((forR (rng lo n) s0 f).bind rest)) (I : τ → Cl → Hp → L2.St → Prop) (h0 : I s0 c H σ)
    (hb : ∀ s x c H σ (N : L2.St → Hp → Prop), I s c H σ → Kont (fun y c' H' => match y with | .nx s' => ∀ σ', I s' c' H' σ' → N σ' H' | .ret r => ∀ v, Rr c' H' v r → D.rt v H') PE S c0 H0 (f s x) → g (.int x) σ H fun σ2 H2 => tb { D with nx := N, ct := N, bk := D.nx } σ2 H2)
    (hr : ∀ r, Kont P PE S c0 H0 (rest (.ret r)) → ∀ c H, Step S c0 H0 c H → ∀ v, Rr c H v r → D.rt v H)
    (hd : ∀ s c H σ, I s c H σ → Kont P PE S c0 H0 (rest (.nx s)) → D.nx σ H) :
    ∃ W : Nat → Nat → L2.St → Hp → Prop, (∃ m, W 0 m σ H) ∧ ∀ i m σ H, W i m σ H →
      ((Itr lo n).stop i H ∧ D.nx σ H) ∨ ((Itr lo n).go i H ∧ ∃ N : L2.St → Hp → Prop, (∀ σ' H', N σ' H' → ∃ m', m' < m ∧ W (i + 1) m' σ' H') ∧ ∀ x H', (Itr lo n).yld i H x H' → g x σ H' fun σ2 H2 => tb { D with nx := N, ct := N, bk := D.nx } σ2 H2) := by
  refine for_range (lo := lo) (n := n) (fun i σ H => ∃ s c, I s c H σ ∧ Kont P PE S c0 H0 ((forR ((rng lo n).drop i) s f).bind rest)) ⟨s0, c, h0, k⟩ ?_ ?_
  · rintro i σ1 H1 hi ⟨s, c1, h, k1⟩
    rw [drop_at (ints_at n lo i hi), forR_cons, bind_assoc] at k1
    refine hb s _ c1 H1 σ1 _ h (k1.turn.imp (fun y c' H' st q => ?_) fun _ _ _ _ q => q)
    cases y with
    | nx s' => exact fun σ' h' => ⟨s', c', h', q⟩
    | ret r' => exact fun v hv => hr r' q c' H' st v hv
  · rintro σ1 H1 ⟨s, c1, h, k1⟩
    rw [List.drop_eq_nil_of_le (by rw [ints_len]; exact Nat.le_refl _)] at k1
    exact hd s c1 H1 σ1 h k1
/-- a while -/
def WhI (P : β → Cl → Hp → Prop) (PE : Err → Cl → Hp → Prop) (S : List Addr) (c0 : Cl) (H0 : Hp) (I : τ → Cl → Hp → L2.St → Prop) (t : τ → Res Bool) (f : τ → Res τ) (rest : τ → Res β) (n : Nat) (σ : L2.St) (H : Hp) : Prop :=
  ∃ s c, I s c H σ ∧ Kont P PE S c0 H0 ((whileN n s t f).bind rest)
theorem while_n {tc : TT} {fuel : Nat} {t : τ → Res Bool} {f : τ → Res τ} {rest : τ → Res β} (k : Kont P PE S c0 H0 ((whileN fuel s0 t f).bind rest)) (I : τ → Cl → Hp → L2.St → Prop) (h0 : I s0 c H σ)
    (hb : ∀ n s c H σ, I s c H σ → Kont P PE S c0 H0 ((t s).bind fun b => br b ((f s).bind fun s' => (whileN n s' t f).bind rest) (rest s)) →
      tc σ H fun b H1 => if b = true then ∃ N : L2.St → Hp → Prop, (∀ σ' H', N σ' H' → WhI P PE S c0 H0 I t f rest n σ' H') ∧ tb { D with nx := N, ct := N, bk := D.nx } σ H1 else D.nx σ H1)
    (mono : ∀ σ H Q Q', (∀ b H1, Q b H1 → Q' b H1) → tc σ H Q → tc σ H Q') : tWhile tc tb D σ H := by
  refine ⟨fun m σ H => WhI P PE S c0 H0 I t f rest m σ H, ⟨fuel, s0, c, h0, k⟩, ?_⟩
  rintro m σ1 H1 ⟨s, c1, h, k1⟩
  cases m with
  | zero => exact k1.elim
  | succ n =>
    have k2 : Kont P PE S c0 H0 ((t s).bind fun b => br b ((f s).bind fun s' => (whileN n s' t f).bind rest) (rest s)) := by
      have e : ((whileN (n + 1) s t f).bind rest) = ((t s).bind fun b => br b ((f s).bind fun s' => (whileN n s' t f).bind rest) (rest s)) := by
        show (((t s).bind fun b => br b ((f s).bind fun s' => whileN n s' t f) (.ok s)).bind rest) = _
        rw [bind_assoc]
        congr 1
        funext b
        cases b with
        | true => show (((f s).bind fun s' => whileN n s' t f).bind rest) = ((f s).bind fun s' => (whileN n s' t f).bind rest); rw [bind_assoc]
        | false => rfl
      rw [← e]
      exact k1
    refine mono _ _ _ _ (fun b H2 q => ?_) (hb n s c1 H1 σ1 h k2)
    cases b with
    | true =>
      obtain ⟨N, hN, q⟩ := q
      exact ⟨N, fun σ' H' q' => ⟨n, Nat.lt_succ_self _, hN σ' H' q'⟩, q⟩
    | false => exact q
end
/-! #### comprehensions -/
section
variable {γ β α : Type} [DecidableEq α] [DecidableEq β] {A : Ty α} {B : Ty β} {P : γ → Cl → Hp → Prop} {PE : Err → Cl → Hp → Prop} {S : List Addr} {c0 c : Cl} {H0 H : Hp} {σ : L2.St} {g : TG} {te : TE} {K : PySem.W.Frag} {a : Addr} {us : List V} {xs : List α}
theorem yes_u {te : TE} {σ : L2.St} {H : Hp} {Q : VK} {Qn : Hp → Prop} (h : te σ H Q) : tYes σ H fun b H3 => if b = true then te σ H3 Q else Qn H3 := by
  show (if true = true then te σ H Q else Qn H)
  rw [if_pos rfl]
  exact h
theorem compN_cons {x : α} {xs : List α} {f : α → Res β} : compN (x :: xs) f = (nx (f x)).bind fun y => (compN xs f).bind fun ys => .ok (y :: ys) := rfl
/-- the list that is made so far -/
structure Acc (B : Ty β) (H0 : Hp) (c : Cl) (H : Hp) (ci : Cl) (Hi : Hp) (d : Addr) (vs : List V) (ys : List β) : Prop where
  st : Step [] c H ci Hi
  own : Own B H0 ci Hi d vs ys
theorem Acc.start (w : Wf c H) {d : Addr} (n : H d = none) (n0 : H0 d = none) : Acc B H0 c H (setC c d (some d)) (upd H d (.lst [])) d [] [] :=
  ⟨Step.new w n fun r e => by cases e; exact .inl rfl, ⟨setC_same, upd_same, trivial, n0⟩⟩
theorem Acc.push {ci ci' : Cl} {Hi Hi' : Hp} {d : Addr} {vs : List V} {ys : List β} {u : V} {y : β} (h : Acc B H0 c H ci Hi d vs ys) (n : H d = none) (st : Step [] ci Hi ci' Hi') (r : B.r ci' Hi' u y) : Acc B H0 c H ci' (upd Hi' d (.lst (vs ++ [u]))) d (vs ++ [u]) (ys ++ [y]) := by
  have o := h.own.step0 st
  have m : Step [d] ci' Hi' ci' (upd Hi' d (.lst (vs ++ [u]))) := Step.mut st.wf o.obj o.col
  exact ⟨(h.st.tr0 st).tr1 m (.inr n), ⟨o.col, upd_same, (o.rs.up m.up).app ⟨B.up m.up r, trivial⟩, o.new⟩⟩
theorem comp_list {f : α → Res β} {rest : List β → Res γ} {vs : List Nat} {Q : VK} (k : Kont P PE S c0 H0 ((compN xs f).bind rest)) (w : Wf c H) (gs : Step S c0 H0 c H) (hx : SqL K H a us) (hr : Rs A c H us xs) (hl : xs.length ≤ sizeLine)
    (hk : ∀ ci Hi, Step [] c H ci Hi → SqL K Hi a us)
    (hb : ∀ x v ci Hi (Qe : VK) (Qn : Hp → Prop), Step [] c H ci Hi → Step S c0 H0 ci Hi → A.r ci Hi v x → Kont (fun y c' H' => Step [] ci Hi c' H' → ∀ u, B.r c' H' u y → Qe u H') (fun _ _ _ => False) S c0 H0 (f x) → g v (wipe σ vs) Hi fun σ2 H2 => wipe σ2 vs = wipe σ vs ∧ tYes σ2 H2 fun b H3 => if b = true then te σ2 H3 Qe else Qn H3)
    (hd : ∀ ys p us' c' H', H p = none → Step [] c H c' H' → Own B H0 c' H' p us' ys → Kont P PE S c0 H0 (rest ys) → Q (.ref p) H') : ∀ d, H d = none →
    ∃ W : Nat → Nat → Hp → Prop, (∃ m, W 0 m (upd H d (.lst []))) ∧ ∀ i m H, W i m H →
      ((Itl K a).stop i H ∧ Q (.ref d) H) ∨ ((Itl K a).go i H ∧ ∃ Nx : Hp → Prop, (∀ H', Nx H' → ∃ m', m' < m ∧ W (i + 1) m' H') ∧ ∀ x H', (Itl K a).yld i H x H' → g x (wipe σ vs) H' fun σ2 H2 => wipe σ2 vs = wipe σ vs ∧ tYes σ2 H2 fun b H3 =>
        if b = true then te σ2 H3 fun y H4 => ∃ acc, H4 d = some (.lst acc) ∧ acc.length < sizeLine ∧ Nx (upd H4 d (.lst (acc ++ [y]))) else Nx H3) := by
  intro d nd
  have n0 : H0 d = none := gs.fresh nd
  refine lc_list (K := K) (a := a) (xs := us) (Qd := fun H' => Q (.ref d) H') (fun i Hi => ∃ ci zs ys, Acc B H0 c H ci Hi d zs ys ∧ ys.length = i ∧ Kont P PE S c0 H0 ((compN (xs.drop i) f).bind fun r => rest (ys ++ r))) ⟨_, [], [], Acc.start w nd n0, rfl, k⟩ ?_ ?_ ?_
  · rintro i Hi _ ⟨ci, zs, ys, ac, _, _⟩
    exact hk ci Hi ac.st
  · rintro i v Hi hi ⟨ci, zs, ys, ac, el, k1⟩
    obtain ⟨x, hxi, rx⟩ := (hr.up ac.st.up).get hi
    rw [drop_at hxi, compN_cons, bind_assoc] at k1
    have gi : Step S c0 H0 ci Hi := gs.tr0 ac.st
    refine (hb x v ci Hi _ _ ac.st gi rx (k1.turn.nx.imp (fun y c' H' _ q st u ru => ?_) fun e cc HH _ q => q))
    have ac' := ac.push nd st ru
    have hlt : ys.length < xs.length := by rw [el]; exact (List.getElem?_eq_some_iff.mp hxi).1
    refine ⟨zs, (ac.own.step0 st).obj, by rw [ac.own.rs.len]; omega, c', _, _, ac', by rw [List.length_append, el]; rfl, ?_⟩
    rw [bind_assoc] at q
    rw [show (fun r => rest (ys ++ [y] ++ r)) = fun r => rest (ys ++ (y :: r)) from by funext r; rw [List.append_assoc]; rfl]
    exact q
  · rintro Hi ⟨ci, zs, ys, ac, el, k1⟩
    rw [List.drop_eq_nil_of_le (by rw [hr.len]; exact Nat.le_refl _)] at k1
    have k2 : Kont P PE S c0 H0 (rest (ys ++ [])) := k1
    rw [List.append_nil] at k2
    exact hd ys d zs ci Hi nd ac.st ac.own k2
end
end Kb
/-! Kb5: sorted of tuples of ints and texts -/
namespace Kb
open PySem L2 PyProof.Rows PyProof.Rows.G
abbrev SK := List (Int ⊕ List Nat)
def ltK (a b : SK) : Bool := lexLt itemOrd a b
def leK (a b : SK) : Bool := !ltK b a
def itemV : V → Option (Int ⊕ List Nat)
  | .int i => some (.inl i)
  | .str x => some (.inr x.cps.toList)
  | _ => none
def isS : V → Bool
  | .str _ => true
  | _ => false
def keyV : List V → Option SK
  | [] => some []
  | v :: vs => (itemV v).bind fun a => (keyV vs).map (a :: ·)
theorem key_items {sh : Nat → Bool} : ∀ {vs : List V} {its : List Value} {k : SK} (i : Nat), Vals vs its → keyV vs = some k → (∀ j v, vs[j]? = some v → isS v = sh (i + j)) → tupItems sh i its = some k
  | _, _, k, i, .nil, h, _ => by
    have e : ([] : SK) = k := Option.some.inj h
    subst e
    rfl
  | v :: vs, u :: its, k, i, .cons r t, h, s => by
    have s0 := s 0 v rfl
    have st : ∀ j w, vs[j]? = some w → isS w = sh (i + 1 + j) := fun j w e => by
      have z := s (j + 1) w (by simpa using e)
      rw [show i + 1 + j = i + (j + 1) from by omega]
      exact z
    unfold keyV at h
    cases v with
    | int n =>
      obtain ⟨tk, rfl⟩ := r
      have s0' : sh i = false := s0.symm
      cases q : keyV vs with
      | none => rw [q] at h; cases h
      | some k' =>
        rw [q] at h
        have e : (Sum.inl n :: k' : SK) = k := Option.some.inj h
        subst e
        have ih := key_items (i + 1) t q st
        show (if sh i = true then none else (tupItems sh (i + 1) its).map (Sum.inl n :: ·)) = _
        rw [s0', if_neg Bool.false_ne_true, ih]
        rfl
    | str x =>
      obtain ⟨tk, rfl⟩ := r
      have s0' : sh i = true := s0.symm
      cases q : keyV vs with
      | none => rw [q] at h; cases h
      | some k' =>
        rw [q] at h
        have e : (Sum.inr x.cps.toList :: k' : SK) = k := Option.some.inj h
        subst e
        have ih := key_items (i + 1) t q st
        show (if sh i = true then (tupItems sh (i + 1) its).map (Sum.inr x.cps.toList :: ·) else none) = _
        rw [s0', if_pos rfl, ih]
        rfl
    | _ => cases h
/-- sorted(xs), xs a list of tuples of ints and texts of one shape, any length -/
def rSortT (K : PySem.W.Frag) : List V → Hp → VK → Prop := fun vs H Q => ∃ (a : Addr) (us : List V) (kf : V → SK) (sh : Nat → Bool), vs = [V.ref a] ∧ SqL K H a us ∧
  (∀ u ∈ us, ∃ t ws, u = V.ref t ∧ Rd H t (.tup ws) ∧ ws ≠ [] ∧ keyV ws = some (kf u) ∧ ∀ j v, ws[j]? = some v → isS v = sh j) ∧
  ∀ ys p, ys.Perm us → ys.Pairwise (fun x y => leK (kf x) (kf y) = true) → H p = none → Q (.ref p) (upd H p (.lst ys))
section
variable {X : Cx}
theorem back_ref {v : Value} (h : ∃ a, v = Value.ref a) : ∃ a, v = Value.ref a ∧ backV v = V.ref a := by
  obtain ⟨a, rfl⟩ := h
  exact ⟨a, rfl, rfl⟩
theorem tups_of {h : Heap} {sh : Nat → Bool} : ∀ {its : List Value}, (∀ u ∈ its, ∃ f, TupOf h sh u f) → ∃ fs, TupsOf h sh its fs
  | [], _ => ⟨[], .nil⟩
  | u :: its, q => by
    obtain ⟨f, t⟩ := q u List.mem_cons_self
    obtain ⟨fs, r⟩ := tups_of fun v hv => q v (List.mem_cons_of_mem _ hv)
    exact ⟨f :: fs, .cons t r⟩
theorem cr_sortT : CallR X (.builtin "sorted") (rSortT X.K) := by
  intro pins s σ H vs us' Q I r h
  obtain ⟨a, us, kf, sh, rfl, hs, hx, q⟩ := h
  obtain ⟨its, rv, hl, hz⟩ := I.list hs
  obtain ⟨u, rfl, ru⟩ := vals1 r
  obtain rfl : u = Value.ref a := ru
  obtain ⟨e1, e2⟩ := refs_back rv fun x m => by
    obtain ⟨t, _, e, _⟩ := hx x m
    exact ⟨t, e⟩
  -- each value: a tuple of the shape
  have each : ∀ v ∈ its, ∃ t o xs n f, v = .ref t ∧ s.heap.get? t = some o ∧ o.cls = .type "tuple" ∧ o.data = .seq xs n ∧ tupItems sh 0 xs.toList = some (kf (backV v)) ∧ xs[0]? = some f ∧
      (sh 0 = false → ∃ k t, f = .int k t) ∧ (sh 0 = true → ∃ x t, f = .str x t) := fun v hv => by
    obtain ⟨t, rfl⟩ := e2 v hv
    have hm : V.ref t ∈ us := by rw [e1]; exact List.mem_map.mpr ⟨_, hv, rfl⟩
    obtain ⟨t', ws, e, hr, hne, hk, hsh⟩ := hx _ hm
    cases e
    obtain ⟨_, ws', r2, o, ho, hc, n, hd⟩ := hr.ok I.hok
    have hi := key_items (sh := sh) 0 r2 hk fun j v e => by rw [Nat.zero_add]; exact hsh j v e
    cases r2 with
    | nil => exact absurd rfl hne
    | cons r0 rt =>
      rename_i w wv ws0 its0 hlen
      have s0 := hsh 0 w rfl
      refine ⟨t, o, _, n, wv, rfl, ho, hc, hd, hi, rfl, fun z => ?_, fun z => ?_⟩
      · rw [z] at s0
        cases w with
        | int i => obtain ⟨tk, e⟩ := r0; exact ⟨i, tk, e⟩
        | str x => exact absurd s0 (by simp [isS])
        | _ => exact absurd hk (by simp [keyV, itemV])
      · rw [z] at s0
        cases w with
        | str x => obtain ⟨tk, e⟩ := r0; exact ⟨x, tk, e⟩
        | int i => exact absurd s0 (by simp [isS])
        | _ => exact absurd hk (by simp [keyV, itemV])
  have hkey : ∀ v ∈ its, tupKeyC s.heap sh v = some (kf (backV v)) := fun v hv => by
    obtain ⟨t, o, xs, n, f, rfl, ho, hc, hd, hi, _⟩ := each v hv
    unfold tupKeyC
    have e1 : isTupObj s.heap (.ref t) = true := by simp [isTupObj, ho, hc]
    rw [if_pos e1]
    simp only [tupKey, ho, hd]
    exact hi
  obtain ⟨fs, ht⟩ : ∃ fs, TupsOf s.heap sh its fs := tups_of fun v hv => by
    obtain ⟨t, o, xs, n, f, rfl, ho, hc, hd, hi, h0, f1, f2⟩ := each v hv
    exact ⟨f, t, o, xs, n, rfl, ho, hc, hd, h0, f1, f2⟩
  refine sorted_tups hl.isList ht (fun v hv => ⟨_, hkey v hv⟩) (by rw [← rv.length]; exact hz) fun st' hp hso _ => ?_
  have pl : (arrOf st').toList.Perm (its.zip its) := by
    have e := Array.perm_iff_toList_perm.mp hp
    rw [pairsOf_toList] at e
    exact e
  have both : ∀ p ∈ (arrOf st').toList, p.1 = p.2 ∧ p.1 ∈ its := fun p m => by
    have m' := pl.mem_iff.mp m
    exact mem_zip_self m'
  have outP : ((arrOf st').map (·.2)).toList.Perm its := by
    rw [Array.toList_map]
    have e := pl.map (·.2)
    rw [show (its.zip its).map (·.2) = its from by rw [List.map_snd_zip]; exact Nat.le_refl _] at e
    exact e
  have outR : ∀ u ∈ ((arrOf st').map (·.2)).toList, ∃ a, u = Value.ref a := fun u hu => e2 u (outP.mem_iff.mp hu)
  obtain ⟨n, hn⟩ := sortedAll_at s.heap its ((arrOf st').map (·.2))
  have pw : (((arrOf st').map (·.2)).toList.map backV).Pairwise (fun x y => leK (kf x) (kf y) = true) := by
    rw [Array.toList_map, List.map_map, List.pairwise_iff_getElem]
    intro i j hi hj hij
    rw [List.length_map] at hi hj
    have hsz : (pairsOf its).size = (arrOf st').toList.length := by
      have z := pl.length_eq
      rw [z, ← pairsOf_toList, Array.length_toList]
    have o := hso i j (Nat.le_of_lt hij) (by rw [hsz]; exact hj)
    have kk : ∀ m (hm : m < (arrOf st').toList.length), KK (tupKindC s.heap sh) (arrOf st') m = kf (backV ((arrOf st').toList[m]).2) := fun m hm => by
      have hm' : m < (arrOf st').size := by rw [Array.length_toList] at hm; exact hm
      obtain ⟨b1, b2⟩ := both _ (List.getElem_mem hm)
      unfold KK
      rw [show (arrOf st')[m]? = some ((arrOf st').toList[m]) from by rw [Array.getElem_toList]; exact Array.getElem?_eq_getElem hm']
      show ((tupKeyC s.heap sh ((arrOf st').toList[m]).1).getD []) = _
      rw [hkey _ b2, b1]
      rfl
    rw [kk i hi, kk j hj] at o
    rw [List.getElem_map, List.getElem_map]
    show (!ltK _ _) = true
    have o' : lexLt itemOrd (kf (backV ((arrOf st').toList[j]).2)) (kf (backV ((arrOf st').toList[i]).2)) = false := o
    unfold ltK
    show (!lexLt itemOrd (kf (backV ((arrOf st').toList[j]).2)) (kf (backV ((arrOf st').toList[i]).2))) = true
    rw [o']
    rfl
  refine ⟨.ref (s.heap.objs.size + 1), upd H (s.heap.objs.size + 1) (.lst (((arrOf st').map (·.2)).toList.map backV)), I.laid (t' := s.toks) (fun b o hb => sortedAll_old hb) (Nat.le_succ _) ⟨?_, ((arrOf st').map (·.2)).toList, n, vals_back outR, ?_⟩, rfl, q _ _ ?_ pw (I.hok.fresh (Nat.le_succ _))⟩
  · rw [List.length_map, outP.length_eq, ← rv.length]
    exact hz
  · rw [Array.toArray_toList]
    exact hn
  · rw [e1]
    exact outP.map backV
end

/-! #### by data -/
def kfH (H : Hp) : V → SK
  | .ref t => match H t with
    | some (.tup ws) => (keyV ws).getD []
    | some (.frz _ (.tup ws)) => (keyV ws).getD []
    | _ => []
  | _ => []
/-- data that tuples stand for, sorted as tuples are -/
structure SKey {α : Type} [DecidableEq α] (A : Ty α) (key : α → SK) (sh : Nat → Bool) : Prop where
  ok : ∀ {c H v x}, A.r c H v x → ∃ t ws, v = V.ref t ∧ Rd H t (.tup ws) ∧ ws ≠ [] ∧ keyV ws = some (key x) ∧ ∀ j v, ws[j]? = some v → isS v = sh j
  inj : ∀ x y, key x = key y → x = y
theorem kfH_of {H : Hp} {t : Addr} {ws : List V} {k : SK} (r : Rd H t (.tup ws)) (h : keyV ws = some k) : kfH H (.ref t) = k := by
  unfold kfH
  rcases r with r | ⟨o, r⟩ <;> simp only [r, h] <;> rfl
/-- insertion -/
def insK {α : Type} (key : α → SK) (x : α) : List α → List α
  | [] => [x]
  | y :: ys => if leK (key x) (key y) = true then x :: y :: ys else y :: insK key x ys
def sortK {α : Type} (key : α → SK) : List α → List α
  | [] => []
  | x :: xs => insK key x (sortK key xs)
theorem le_refl' (a : SK) : leK a a = true := by
  have z : lexLt itemOrd a a = false := (listOrd itemOrd).irrefl a
  unfold leK ltK
  rw [z]; rfl
theorem le_trans' {a b c : SK} (h1 : leK a b = true) (h2 : leK b c = true) : leK a c = true := by
  have e : ∀ {x y : SK}, leK x y = true → (listOrd itemOrd).kle x y := fun {x y} h => by
    unfold leK ltK at h
    show lexLt itemOrd y x = false
    simpa using h
  have z : lexLt itemOrd c a = false := KeyOrd.kle_trans (O := listOrd itemOrd) (e h1) (e h2)
  unfold leK ltK
  rw [z]; rfl
theorem le_total' (a b : SK) : leK a b = true ∨ leK b a = true := by
  unfold leK ltK
  cases h : lexLt itemOrd b a with
  | false => exact .inl rfl
  | true =>
    refine .inr ?_
    have z : (listOrd itemOrd).kle b a := KeyOrd.kle_of_klt (O := listOrd itemOrd) h
    have z' : lexLt itemOrd a b = false := z
    rw [z']; rfl
theorem le_anti' {a b : SK} (h1 : leK a b = true) (h2 : leK b a = true) : a = b := by
  unfold leK ltK at h1 h2
  exact (listOrd itemOrd).total a b (by simpa using h2) (by simpa using h1)
theorem insK_perm {α : Type} {key : α → SK} {x : α} : ∀ l : List α, (insK key x l).Perm (x :: l)
  | [] => .refl _
  | y :: ys => by
    unfold insK
    split
    · exact .refl _
    · exact ((insK_perm ys).cons y).trans (.swap x y ys)
theorem sortK_perm {α : Type} {key : α → SK} : ∀ l : List α, (sortK key l).Perm l
  | [] => .refl _
  | x :: xs => (insK_perm _).trans ((sortK_perm xs).cons x)
theorem insK_sorted {α : Type} {key : α → SK} {x : α} : ∀ {l : List α}, l.Pairwise (fun a b => leK (key a) (key b) = true) → (insK key x l).Pairwise (fun a b => leK (key a) (key b) = true)
  | [], _ => List.pairwise_singleton _ _
  | y :: ys, h => by
    obtain ⟨h1, h2⟩ := List.pairwise_cons.mp h
    unfold insK
    split
    · rename_i c
      refine List.pairwise_cons.mpr ⟨fun z hz => ?_, h⟩
      rcases List.mem_cons.mp hz with rfl | hz
      · exact c
      · exact le_trans' c (h1 z hz)
    · rename_i c
      refine List.pairwise_cons.mpr ⟨fun z hz => ?_, insK_sorted h2⟩
      have hz' := (insK_perm ys).mem_iff.mp hz
      rcases List.mem_cons.mp hz' with rfl | hz'
      · exact (le_total' _ _).resolve_left c
      · exact h1 z hz'
theorem sortK_sorted {α : Type} {key : α → SK} : ∀ l : List α, (sortK key l).Pairwise (fun a b => leK (key a) (key b) = true)
  | [] => .nil
  | x :: xs => insK_sorted (sortK_sorted xs)
theorem sorted_uniq {α : Type} {key : α → SK} (inj : ∀ x y, key x = key y → x = y) : ∀ {l m : List α}, l.Pairwise (fun a b => leK (key a) (key b) = true) → m.Pairwise (fun a b => leK (key a) (key b) = true) → l.Perm m → l = m
  | [], m, _, _, p => (List.Perm.nil_eq p)
  | x :: l, [], _, _, p => by have z := p.length_eq; simp at z
  | x :: l, y :: m, h1, h2, p => by
    obtain ⟨a1, a2⟩ := List.pairwise_cons.mp h1
    obtain ⟨b1, b2⟩ := List.pairwise_cons.mp h2
    have hx : leK (key x) (key y) = true := by
      have hm : y ∈ x :: l := p.mem_iff.mpr List.mem_cons_self
      rcases List.mem_cons.mp hm with e | hm
      · rw [e]; exact le_refl' _
      · exact a1 y hm
    have hy : leK (key y) (key x) = true := by
      have hm : x ∈ y :: m := p.mem_iff.mp List.mem_cons_self
      rcases List.mem_cons.mp hm with e | hm
      · rw [e]; exact le_refl' _
      · exact b1 x hm
    have e : x = y := inj _ _ (le_anti' hx hy)
    subst e
    rw [sorted_uniq inj a2 b2 (List.Perm.cons_inv p)]
section
variable {α : Type} [DecidableEq α] {A : Ty α} {c : Cl} {H H0 : Hp} {key : α → SK} {sh : Nat → Bool}
theorem Rs.perm {us vs : List V} (p : vs.Perm us) : ∀ {xs : List α}, Rs A c H us xs → ∃ ys, ys.Perm xs ∧ Rs A c H vs ys := by
  induction p with
  | nil =>
    intro xs h
    cases xs with
    | nil => exact ⟨[], .refl _, trivial⟩
    | cons _ _ => exact h.elim
  | cons u p ih =>
    intro xs h
    cases xs with
    | nil => exact h.elim
    | cons x xs =>
      obtain ⟨ys, p', r⟩ := ih h.2
      exact ⟨x :: ys, p'.cons x, h.1, r⟩
  | swap u v l =>
    intro xs h
    cases xs with
    | nil => exact h.elim
    | cons x xs =>
      cases xs with
      | nil => exact h.2.elim
      | cons y xs => exact ⟨y :: x :: xs, .swap _ _ _, h.2.1, h.1, h.2.2⟩
  | trans p q ih1 ih2 =>
    intro xs h
    obtain ⟨ys, p1, r1⟩ := ih2 h
    obtain ⟨zs, p2, r2⟩ := ih1 r1
    exact ⟨zs, p2.trans p1, r2⟩
theorem Rs.pw (K : SKey A key sh) : ∀ {us : List V} {xs : List α}, Rs A c H us xs → us.Pairwise (fun x y => leK (kfH H x) (kfH H y) = true) → xs.Pairwise (fun x y => leK (key x) (key y) = true)
  | [], [], _, _ => .nil
  | u :: us, x :: xs, h, p => by
    obtain ⟨p1, p2⟩ := List.pairwise_cons.mp p
    refine List.pairwise_cons.mpr ⟨fun y hy => ?_, Rs.pw K h.2 p2⟩
    obtain ⟨i, hi, e⟩ := List.getElem_of_mem hy
    obtain ⟨v, e1, r⟩ := h.2.getX (i := i) (x := y) (by rw [← e]; exact List.getElem?_eq_getElem hi)
    have q := p1 v (List.mem_of_getElem? e1)
    obtain ⟨t, ws, rfl, hr, _, hk, _⟩ := K.ok h.1
    obtain ⟨t', ws', rfl, hr', _, hk', _⟩ := K.ok r
    rw [kfH_of hr hk, kfH_of hr' hk'] at q
    exact q
  | [], _ :: _, h, _ => h.elim
  | _ :: _, [], h, _ => h.elim
theorem sorted_end {K : PySem.W.Frag} {v : V} {xs : List α} (SKx : SKey A key sh) (hx : rB K A c H v xs) (w : Wf c H) (n0 : ∀ p, H p = none → H0 p = none) {Q : VK} (q : ∀ p us' c' H', H p = none → Step [] c H c' H' → Own A H0 c' H' p us' (sortK key xs) → Q (.ref p) H') : rSortT K [v] H Q := by
  obtain ⟨a, us, rfl, h, r⟩ := hx
  refine ⟨a, us, kfH H, sh, rfl, h, fun u hu => ?_, fun ys p hp hs np => ?_⟩
  · obtain ⟨i, hi, e⟩ := List.getElem_of_mem hu
    obtain ⟨x, _, rx⟩ := r.get (i := i) (u := u) (by rw [← e]; exact List.getElem?_eq_getElem hi)
    obtain ⟨t, ws, rfl, hr, h1, h2, h3⟩ := SKx.ok rx
    exact ⟨t, ws, rfl, hr, h1, by rw [kfH_of hr h2]; exact h2, h3⟩
  · obtain ⟨zs, pz, rz⟩ := r.perm hp
    have e : zs = sortK key xs := sorted_uniq SKx.inj (rz.pw SKx hs) (sortK_sorted xs) (pz.trans (sortK_perm xs).symm)
    rw [← e] at q
    have st : Step [] c H (setC c p (some p)) (upd H p (.lst ys)) := Step.new w np fun r e => by cases e; exact .inl rfl
    exact q p ys _ _ np st ⟨setC_same, upd_same, rz.up st.up, n0 p np⟩
end
end Kb
/-! Kb6: own errors, isinstance -/
namespace Kb
open PySem L2
/-- isinstance(e, c), e the exception that the suite holds, whatever it is -/
def rIsX (K : PySem.W.Frag) (a : Addr) (cls : Value) (d : Option Addr) : List V → Hp → VK → Prop := fun xs H Q => ∃ (D : Addr) (c : V) (cv : Value) (b : Bool), cls = .ref D ∧ d = none ∧ ExcC K D ∧ xs = [.ref a, c] ∧ (∀ u, RelV c u → u = cv) ∧ PySem.W.kitOne K (.ref D) cv = some b ∧ Q (.bl b) H
theorem call_isX {X : Cx} {a : Addr} {cls : Value} {d : Option Addr} {oe : Obj} {pn : List (Addr × Obj)} (hz : Zc cls d oe) (hf : ∃ vs, oe.data = .fields vs) : CallR (X.suite a ((a, oe) :: pn)) (.builtin "isinstance") (rIsX X.K a cls d) := by
  intro pins s σ H xs us Q I r h
  obtain ⟨D, c, cv, b, rfl, rfl, C, e1, h1, h2, q⟩ := h
  exact call_isE C hz hf pins s σ H xs us Q I r ⟨c, cv, b, e1, h1, h2, q⟩
theorem rc_isX {K : PySem.W.Frag} {a : Addr} {D : Addr} {H : Hp} {c : V} {cv : Value} {b : Bool} (C : ExcC K D) (hk : PySem.W.kitOne K (.ref D) cv = some b) (hc : ∀ u, RelV c u → u = cv := by intro u h; exact h) : Rc (rIsX K a (.ref D) none) [.ref a, c] H (.bl b) := fun _ q => ⟨D, c, cv, b, rfl, rfl, C, rfl, hc, hk, q⟩
/-- the classes of errors, as the top has made them: ea e is e's class, kerb the base's -/
structure ErrC (K : PySem.W.Frag) (mg : Str → Option Value) (x : Str) (C : Addr) (tail : List Value) : Prop where
  g : mg x = some (.ref C)
  ex : PySem.W.excIn K C tail "ValueError.__new__" = true
  kp : PySem.W.keepIn K (.ref C) = true
  sub : PySem.W.subIn K (.ref C) (.type "BaseException") = some true
  ty : PySem.W.typeIn K (.ref C) = some (.type "type")
  ec : ExcC K C
theorem ErrC.raises {X : Cx} {x : Str} {C : Addr} {tail : List Value} (e : ErrC X.K X.mg x C tail) : Raises X (.ref C) := raises_own e.sub e.ty
/-- a def of the text, called by its name -/
structure Df (K : PySem.W.Frag) (mg : Str → Option Value) (x : Str) (st : Stmt) (f : Addr) (fd : FuncData) (ps : List Str) : Prop where
  F : Fun K x x st f fd
  g : mg x = some (.ref f)
  b : Binds K fd ps []
/-- isinstance of data whose kind is known -/
theorem rc_isi {K : PySem.W.Frag} {H : Hp} {x c : V} {t u : Value} {b : Bool} (hc : ClsV c u) (ht : TyX K H x t) (hk : PySem.W.kitOne K t u = some b) : Rc (rIsi K) [x, c] H (.bl b) := fun _ q => ⟨x, c, t, u, b, rfl, hc, ht, hk, q⟩
theorem tyx_int {K : PySem.W.Frag} {H : Hp} {i : Int} : TyX K H (.int i) (.type "int") := .base (by first | exact .int i | exact .int | constructor)
theorem tyx_bl {K : PySem.W.Frag} {H : Hp} {i : Bool} : TyX K H (.bl i) (.type "bool") := .base (by first | exact .bl i | exact .bl | constructor)
theorem tyx_str {K : PySem.W.Frag} {H : Hp} {i : Str} : TyX K H (.str i) (.type "str") := .base (by first | exact .str i | exact .str | constructor)
end Kb
/-! Kb7: steps by data -/
namespace Kb
open PySem L2
theorem lift {α : Type} [DecidableEq α] {A : Ty α} {c c' : Cl} {H H' : Hp} {T : List Addr} {v : V} {x : α} (h : A.r c H v x) (st : Step T c H c' H') : A.r c' H' v x := A.up st.up h
theorem liftF {α : Type} [DecidableEq α] {A : Ty α} {c : Cl} {H : Hp} {p : Addr} {v : V} {x : α} (h : A.r c H v x) : A.r (frz c p) H v x := A.up frz_up h
/-- a frozen list, opened -/
structure Fzl {α : Type} [DecidableEq α] (A : Ty α) (c : Cl) (H : Hp) (a : Addr) (us : List V) (xs : List α) : Prop where
  col : c a = none
  obj : H a = some (.lst us)
  rs : Rs A c H us xs
section
variable {α : Type} [DecidableEq α] {A : Ty α} {c c' c0 : Cl} {H H' H0 : Hp} {S T : List Addr} {p a : Addr} {us : List V} {xs : List α} {v x y : V} {σ : L2.St} {t ta tb : TE}
theorem tyL_open (h : (tyL A).r c H v xs) : ∃ a us, v = .ref a ∧ Fzl A c H a us xs := let ⟨a, us, e, k, q, r⟩ := h; ⟨a, us, e, k, q, r⟩
theorem Fzl.lift (h : Fzl A c H a us xs) (st : Step T c H c' H') : Fzl A c' H' a us xs := ⟨st.up.col a _ h.obj h.col, st.up.obj a _ h.obj h.col, h.rs.up st.up⟩
theorem Fzl.liftF (h : Fzl A c H a us xs) : Fzl A (frz c p) H a us xs := ⟨frz_none h.col, h.obj, h.rs.up frz_up⟩
theorem Fzl.rd {K : PySem.W.Frag} (h : Fzl A c H a us xs) : SqL K H a us := .inl (.inl h.obj)
theorem Fzl.b {K : PySem.W.Frag} (h : Fzl A c H a us xs) : rB K A c H (.ref a) xs := ⟨a, us, rfl, .inl (.inl h.obj), h.rs⟩
theorem Fzl.pl (h : Fzl A c H a us xs) : rP A c H (.ref a) xs := ⟨a, us, rfl, h.obj, h.rs⟩
theorem Fzl.ty (h : Fzl A c H a us xs) : (tyL A).r c H (.ref a) xs := ⟨a, us, rfl, h.col, h.obj, h.rs⟩
/-- what the base knows of a list that is read alone, opened -/
structure Bl (K : PySem.W.Frag) (A : Ty α) (c0 : Cl) (H0 : Hp) (a : Addr) (us : List V) (xs : List α) : Prop where
  rd : SqL K H0 a us
  rs : Rs A c0 H0 us xs
theorem rB_open {K : PySem.W.Frag} (h : rB K A c H v xs) : ∃ a us, v = .ref a ∧ Bl K A c H a us xs := let ⟨a, us, e, q, r⟩ := h; ⟨a, us, e, q, r⟩
theorem Bl.b {K : PySem.W.Frag} (h : Bl K A c H a us xs) : rB K A c H (.ref a) xs := ⟨a, us, rfl, h.rd, h.rs⟩
theorem Bl.at {K : PySem.W.Frag} (h : Bl K A c0 H0 a us xs) (g : Step [] c0 H0 c H) : Bl K A c H a us xs := by
  exact ⟨g.sq0 h.rd, h.rs.up g.up⟩
theorem rv_ixB {K : PySem.W.Frag} {i : Int} {z : α} (h : rB K A c H v xs) (e : atI xs i = some z) : ∃ u, A.r c H u z ∧ Rv (rIxL K) v (.int i) H u := by
  obtain ⟨a, us, rfl, q, r⟩ := h
  obtain ⟨u, e1, ru⟩ := r.at e
  exact ⟨u, ru, fun _ z => ⟨a, us, i, u, rfl, rfl, q, e1, z⟩⟩
theorem len_B {K : PySem.W.Frag} (h : rB K A c H v xs) (hv : Pv t σ H v) : Pv (tCB (fun xs H Q => ∃ p ys, xs = [.ref p] ∧ (SqL K H p ys ∨ SqT K H p ys) ∧ Q (.int ys.length) H) (tCons t tNil)) σ H (.int xs.length) := pv_cb (pa_c hv pa_n) (rc_lenB h)
theorem tyx_lst {K : PySem.W.Frag} (h : rP A c H v xs) : TyX K H v (.type "list") := by
  obtain ⟨a, us, rfl, q, r⟩ := h
  exact .base (.lst q)
theorem nx_go {a : L2.St → Hp → Prop} {b : VK} {cc d : L2.St → Hp → Prop} (h : a σ H) : Ends.nx ⟨a, b, cc, d⟩ σ H := h
theorem for_u {wi : TI} {g : TG} {tb : TS} {D : Ends} (h : wi σ H fun J H1 => ∃ W : Nat → Nat → L2.St → Hp → Prop, (∃ m, W 0 m σ H1) ∧ ∀ i m σ H, W i m σ H →
  (J.stop i H ∧ D.nx σ H) ∨ (J.go i H ∧ ∃ N : L2.St → Hp → Prop, (∀ σ' H', N σ' H' → ∃ m', m' < m ∧ W (i + 1) m' σ' H') ∧ ∀ x H', J.yld i H x H' → g x σ H' fun σ2 H2 => tb { D with nx := N, ct := N, bk := D.nx } σ2 H2)) : tFor wi g tb D σ H := h
def LIt (K : PySem.W.Frag) (R : It → Hp → Prop) (x : V) (H1 : Hp) : Prop := ∃ a, x = .ref a ∧ (∃ xs, SqL K H1 a xs) ∧ R (Itl K a) H1
theorem ilist_u {K : PySem.W.Frag} {tl : TE} {R : It → Hp → Prop} (h : tl σ H (LIt K R)) : iList K tl σ H R := h
theorem ilist_e {K : PySem.W.Frag} {R : It → Hp → Prop} (hr : SqL K H a us) (q : R (Itl K a) H) : LIt K R (V.ref a) H := ⟨a, rfl, ⟨us, hr⟩, q⟩
def RIt1 (R : It → Hp → Prop) (vs : List V) (H1 : Hp) : Prop := ∃ j : Int, vs = [.int j] ∧ -(2 ^ 62) ≤ j ∧ j < 2 ^ 62 ∧ R (Itr 0 j.toNat) H1
theorem irng1_u {ta : TA} {R : It → Hp → Prop} (h : ta σ H (RIt1 R)) : iRng1 ta σ H R := h
def RIt2 (R : It → Hp → Prop) (vs : List V) (H1 : Hp) : Prop := ∃ i j : Int, vs = [.int i, .int j] ∧ (-(2 ^ 62) ≤ i ∧ i < 2 ^ 62 ∧ -(2 ^ 62) ≤ j ∧ j < 2 ^ 62) ∧ R (Itr i (j - i).toNat) H1
theorem irng2_u {ta : TA} {R : It → Hp → Prop} (h : ta σ H (RIt2 R)) : iRng2 ta σ H R := h
@[irreducible] def rngOk (i : Int) : Bool := decide (-(2 ^ 62) ≤ i) && decide (i < 2 ^ 62)
theorem rngOk_iff {i : Int} (h : rngOk i = true) : -(2 ^ 62) ≤ i ∧ i < 2 ^ 62 := by
  unfold rngOk at h
  rw [Bool.and_eq_true] at h
  exact ⟨of_decide_eq_true h.1, of_decide_eq_true h.2⟩
theorem irng1_e {R : It → Hp → Prop} {j : Int} (h : rngOk j = true) (q : R (Itr 0 j.toNat) H) : RIt1 R [V.int j] H := ⟨j, rfl, (rngOk_iff h).1, (rngOk_iff h).2, q⟩
theorem irng2_e {R : It → Hp → Prop} {i j : Int} (h : rngOk i = true) (h' : rngOk j = true) (q : R (Itr i (j - i).toNat) H) : RIt2 R [V.int i, V.int j] H := ⟨i, j, rfl, ⟨(rngOk_iff h).1, (rngOk_iff h).2, (rngOk_iff h').1, (rngOk_iff h').2⟩, q⟩
@[irreducible] def mulOk (a b : Int) : Bool := decide (a.natAbs.log2 + b.natAbs.log2 < 1000000)
theorem rv_mul {i j : Int} (h : mulOk i j = true) : Rv (rI CMulW fun i j => .int (i * j)) (.int i) (.int j) H (.int (i * j)) := rv_ic (C := CMulW) (g := fun i j => .int (i * j)) (show i.natAbs.log2 + j.natAbs.log2 < 1000000 by unfold mulOk at h; exact of_decide_eq_true h)
@[irreducible] def divOk (b : Int) : Bool := decide (0 < b) && decide (b.natAbs.log2 < 9000)
theorem rv_div {i j : Int} (h : divOk j = true) : Rv (rI CDivW fun i j => .int (i / j)) (.int i) (.int j) H (.int (i / j)) := rv_ic (C := CDivW) (g := fun i j => .int (i / j)) (by
  unfold divOk at h
  rw [Bool.and_eq_true] at h
  exact ⟨of_decide_eq_true h.1, of_decide_eq_true h.2⟩)
theorem rv_mod {i j : Int} (h : decide (0 < j) = true) : Rv (rI (fun _ j => 0 < j) fun i j => .int (i % j)) (.int i) (.int j) H (.int (i % j)) := rv_ic (C := fun _ j => 0 < j) (g := fun i j => .int (i % j)) (of_decide_eq_true h)
theorem rv_modL {i j : Int} (h : 0 < j) : Rv (rI (fun _ j => 0 < j) fun i j => .int (i % j)) (.int i) (.int j) H (.int (i % j)) := rv_ic (C := fun _ j => 0 < j) (g := fun i j => .int (i % j)) h
theorem rv_divL {i j : Int} (h : CDiv i j) : Rv (rI CDiv fun i j => .int (i / j)) (.int i) (.int j) H (.int (i / j)) := rv_ic (C := CDiv) (g := fun i j => .int (i / j)) h
theorem rv_pow {i j : Int} (h : CPow i j) : Rv (rI CPow fun i j => .int (i ^ j.toNat)) (.int i) (.int j) H (.int (i ^ j.toNat)) := rv_ic (C := CPow) (g := fun i j => .int (i ^ j.toNat)) h
theorem pv_neg {i : Int} (h : Pv t σ H (.int i)) : Pv (tUn (rU fun i => .int (-i)) t) σ H (.int (-i)) := pv_1 h fun _ q => ⟨i, rfl, q⟩
/-- truth of a list -/
theorem pt_list {K : PySem.W.Frag} (h : rB K A c H v xs) (hv : Pv t σ H v) : PvT (fun σ H Q => t σ H fun x H' => ∃ k, TruV K x H' k ∧ Q k H') σ H (!xs.isEmpty) := by
  obtain ⟨a, us, rfl, q, r⟩ := h
  refine fun Q q1 => hv _ ⟨!xs.isEmpty, .inl ⟨us, q, ?_⟩, q1⟩
  have e := r.len
  cases us <;> cases xs <;> simp_all
/-- a test whose ways meet behind it -/
theorem if_cut {β τ : Type} {P : β → Cl → Hp → Prop} {PE : Err → Cl → Hp → Prop} {m : Res τ} {rest : τ → Res β} {cc : TT} {t u : TS} {D : Ends} (k : Kont P PE S c0 H0 (m.bind rest)) (I : τ → Cl → Hp → L2.St → Prop) (kk : ∀ s c H σ, I s c H σ → Kont P PE S c0 H0 (rest s) → D.nx σ H)
    (h : Kont (fun s c' H' => ∀ σ', I s c' H' σ' → D.nx σ' H') PE S c0 H0 m → tIfS cc t u D σ H) : tIfS cc t u D σ H := h (k.turn.imp (fun s c H _ q σ i => kk s c H σ i q) fun _ _ _ _ q => q)
theorem Own.base {c1 : Cl} {H1 : Hp} (h : Own A H1 c H p us xs) (g : Step S c0 H0 c1 H1) : Own A H0 c H p us xs := ⟨h.col, h.obj, h.rs, g.fresh h.new⟩
theorem PvT.ifS {cc : TT} {t u : TS} {D : Ends} {b : Bool} (h : PvT cc σ H b) (ht : b = true → t D σ H) (hf : b = false → u D σ H) : tIfS cc t u D σ H := h _ (by
  cases b with
  | true => exact iteT (ht rfl)
  | false => exact iteF (hf rfl))
theorem ite_b {b : Bool} {A B : Prop} (ht : b = true → A) (hf : b = false → B) : if b = true then A else B := by
  cases b with
  | true => exact iteT (ht rfl)
  | false => exact iteF (hf rfl)
theorem not_s {t : TT} {A B : Hp → Prop} (h : t σ H fun c H1 => if c = true then B H1 else A H1) : tNot t σ H fun b H1 => if b = true then A H1 else B H1 := by
  show t σ H fun c H1 => if (!c) = true then A H1 else B H1
  have e : (fun (c : Bool) (H1 : Hp) => if (!c) = true then A H1 else B H1) = fun c H1 => if c = true then B H1 else A H1 := by
    funext c H1
    cases c <;> rfl
  rw [e]
  exact h
theorem and_s {t u : TT} {A B : Hp → Prop} (h : t σ H fun c H1 => if c = true then (u σ H1 fun b H2 => if b = true then A H2 else B H2) else B H1) : tAnd t u σ H fun b H1 => if b = true then A H1 else B H1 := by
  show t σ H fun c H1 => if c = true then (u σ H1 fun b H2 => if b = true then A H2 else B H2) else (if false = true then A H1 else B H1)
  have e : (fun (c : Bool) (H1 : Hp) => if c = true then (u σ H1 fun b H2 => if b = true then A H2 else B H2) else (if false = true then A H1 else B H1)) = fun c H1 => if c = true then (u σ H1 fun b H2 => if b = true then A H2 else B H2) else B H1 := by
    funext c H1
    cases c <;> rfl
  rw [e]
  exact h
theorem or_s {t u : TT} {A B : Hp → Prop} (h : t σ H fun c H1 => if c = true then A H1 else (u σ H1 fun b H2 => if b = true then A H2 else B H2)) : tOr t u σ H fun b H1 => if b = true then A H1 else B H1 := by
  show t σ H fun c H1 => if c = true then (if true = true then A H1 else B H1) else (u σ H1 fun b H2 => if b = true then A H2 else B H2)
  have e : (fun (c : Bool) (H1 : Hp) => if c = true then (if true = true then A H1 else B H1) else (u σ H1 fun b H2 => if b = true then A H2 else B H2)) = fun c H1 => if c = true then A H1 else (u σ H1 fun b H2 => if b = true then A H2 else B H2) := by
    funext c H1
    cases c <;> rfl
  rw [e]
  exact h
theorem cat_B {ys : List α} (hx : rP A c H v xs) (hy : rP A c H x ys) (w : Wf c H) (n0 : ∀ p, H p = none → H0 p = none) (hl : xs.length + ys.length ≤ sizeLine) {Q : VK}
    (q : ∀ p us' c' H', H p = none → Step [] c H c' H' → Own A H0 c' H' p us' (xs ++ ys) → Q (.ref p) H') : rCat v x H Q := by
  obtain ⟨a, us, rfl, h1, r1⟩ := hx
  obtain ⟨b, vs, rfl, h2, r2⟩ := hy
  exact cat_end rfl rfl h1 r1 h2 r2 w n0 hl q
theorem ok_cat {x y : Str} (h1 : PyData.strOk x = true) (h2 : PyData.strOk y = true) : PyData.strOk (x ++ y) = true := by
  unfold PyData.strOk at *
  show (x.cps ++ y.cps).all _ = true
  rw [Array.all_append, h1, h2]; rfl
theorem ok_at {x : Str} {i : Int} {n : Nat} (h : PyData.strOk x = true) (e : atI x.cps.toList i = some n) : PyData.strOk ⟨#[n]⟩ = true := by
  unfold PyData.strOk at *
  rw [Array.all_eq_true] at h
  unfold atI at e
  cases q : ixN x.cps.toList.length i with
  | none => rw [q] at e; cases e
  | some j =>
    rw [q] at e
    have e' : x.cps.toList[j]? = some n := e
    obtain ⟨hj, ej⟩ := List.getElem?_eq_some_iff.mp e'
    have hj' : j < x.cps.size := by rw [← Array.length_toList]; exact hj
    have z := h j hj'
    rw [← Array.getElem_toList] at z
    rw [ej] at z
    simpa using z
/-- from a base to a list's places -/
theorem base_ok (w : Wf c H) : Step [] c H c H := Step.refl w
end

theorem ix2_0 {α0 : Type} [DecidableEq α0] {A0 : Ty α0} {α1 : Type} [DecidableEq α1] {A1 : Ty α1} {c : Cl} {H : Hp} {v : V} {x : α0 × α1} (h : (tyT2 A0 A1).r c H v x) : ∃ u, A0.r c H u (x.1) ∧ ∀ {K : PySem.W.Frag}, Rv (rIxT K) v (.int 0) H u := by
  obtain ⟨a, u0, u1, rfl, _, q, h0, h1⟩ := h
  exact ⟨u0, h0, rv_ixt q rfl⟩
theorem ix2_1 {α0 : Type} [DecidableEq α0] {A0 : Ty α0} {α1 : Type} [DecidableEq α1] {A1 : Ty α1} {c : Cl} {H : Hp} {v : V} {x : α0 × α1} (h : (tyT2 A0 A1).r c H v x) : ∃ u, A1.r c H u (x.2) ∧ ∀ {K : PySem.W.Frag}, Rv (rIxT K) v (.int 1) H u := by
  obtain ⟨a, u0, u1, rfl, _, q, h0, h1⟩ := h
  exact ⟨u1, h1, rv_ixt q rfl⟩
theorem open2 {α0 : Type} [DecidableEq α0] {A0 : Ty α0} {α1 : Type} [DecidableEq α1] {A1 : Ty α1} {c : Cl} {H : Hp} {v : V} {x : α0 × α1} (h : (tyT2 A0 A1).r c H v x) : ∃ (a : Addr) (u0 u1 : V), v = .ref a ∧ Rd H a (.tup [u0, u1]) ∧ A0.r c H u0 (x.1) ∧ A1.r c H u1 (x.2) := by
  obtain ⟨a, u0, u1, e, _, q, h0, h1⟩ := h
  exact ⟨a, u0, u1, e, q, h0, h1⟩
theorem tyx2 {α0 : Type} [DecidableEq α0] {A0 : Ty α0} {α1 : Type} [DecidableEq α1] {A1 : Ty α1} {c : Cl} {H : Hp} {v : V} {x : α0 × α1} {K : PySem.W.Frag} (h : (tyT2 A0 A1).r c H v x) : TyX K H v (.type "tuple") := by
  obtain ⟨a, u0, u1, rfl, _, q, h0, h1⟩ := h
  rcases q with q | ⟨o, q⟩
  · exact .base (.tup q)
  · exact .fTuple q
theorem lenT2 {α0 : Type} [DecidableEq α0] {A0 : Ty α0} {α1 : Type} [DecidableEq α1] {A1 : Ty α1} {c : Cl} {H : Hp} {v : V} {x : α0 × α1} {K : PySem.W.Frag} {σ : L2.St} {t : TE} (h : (tyT2 A0 A1).r c H v x) (hv : Pv t σ H v) : Pv (tCB (fun xs H Q => ∃ p ys, xs = [.ref p] ∧ (SqL K H p ys ∨ SqT K H p ys) ∧ Q (.int ys.length) H) (tCons t tNil)) σ H (.int 2) := by
  obtain ⟨a, u0, u1, rfl, _, q, h0, h1⟩ := h
  exact pv_cb (pa_c hv pa_n) (rc_lent q)
theorem ix3_0 {α0 : Type} [DecidableEq α0] {A0 : Ty α0} {α1 : Type} [DecidableEq α1] {A1 : Ty α1} {α2 : Type} [DecidableEq α2] {A2 : Ty α2} {c : Cl} {H : Hp} {v : V} {x : α0 × α1 × α2} (h : (tyT3 A0 A1 A2).r c H v x) : ∃ u, A0.r c H u (x.1) ∧ ∀ {K : PySem.W.Frag}, Rv (rIxT K) v (.int 0) H u := by
  obtain ⟨a, u0, u1, u2, rfl, _, q, h0, h1, h2⟩ := h
  exact ⟨u0, h0, rv_ixt q rfl⟩
theorem ix3_1 {α0 : Type} [DecidableEq α0] {A0 : Ty α0} {α1 : Type} [DecidableEq α1] {A1 : Ty α1} {α2 : Type} [DecidableEq α2] {A2 : Ty α2} {c : Cl} {H : Hp} {v : V} {x : α0 × α1 × α2} (h : (tyT3 A0 A1 A2).r c H v x) : ∃ u, A1.r c H u (x.2.1) ∧ ∀ {K : PySem.W.Frag}, Rv (rIxT K) v (.int 1) H u := by
  obtain ⟨a, u0, u1, u2, rfl, _, q, h0, h1, h2⟩ := h
  exact ⟨u1, h1, rv_ixt q rfl⟩
theorem ix3_2 {α0 : Type} [DecidableEq α0] {A0 : Ty α0} {α1 : Type} [DecidableEq α1] {A1 : Ty α1} {α2 : Type} [DecidableEq α2] {A2 : Ty α2} {c : Cl} {H : Hp} {v : V} {x : α0 × α1 × α2} (h : (tyT3 A0 A1 A2).r c H v x) : ∃ u, A2.r c H u (x.2.2) ∧ ∀ {K : PySem.W.Frag}, Rv (rIxT K) v (.int 2) H u := by
  obtain ⟨a, u0, u1, u2, rfl, _, q, h0, h1, h2⟩ := h
  exact ⟨u2, h2, rv_ixt q rfl⟩
theorem open3 {α0 : Type} [DecidableEq α0] {A0 : Ty α0} {α1 : Type} [DecidableEq α1] {A1 : Ty α1} {α2 : Type} [DecidableEq α2] {A2 : Ty α2} {c : Cl} {H : Hp} {v : V} {x : α0 × α1 × α2} (h : (tyT3 A0 A1 A2).r c H v x) : ∃ (a : Addr) (u0 u1 u2 : V), v = .ref a ∧ Rd H a (.tup [u0, u1, u2]) ∧ A0.r c H u0 (x.1) ∧ A1.r c H u1 (x.2.1) ∧ A2.r c H u2 (x.2.2) := by
  obtain ⟨a, u0, u1, u2, e, _, q, h0, h1, h2⟩ := h
  exact ⟨a, u0, u1, u2, e, q, h0, h1, h2⟩
theorem tyx3 {α0 : Type} [DecidableEq α0] {A0 : Ty α0} {α1 : Type} [DecidableEq α1] {A1 : Ty α1} {α2 : Type} [DecidableEq α2] {A2 : Ty α2} {c : Cl} {H : Hp} {v : V} {x : α0 × α1 × α2} {K : PySem.W.Frag} (h : (tyT3 A0 A1 A2).r c H v x) : TyX K H v (.type "tuple") := by
  obtain ⟨a, u0, u1, u2, rfl, _, q, h0, h1, h2⟩ := h
  rcases q with q | ⟨o, q⟩
  · exact .base (.tup q)
  · exact .fTuple q
theorem lenT3 {α0 : Type} [DecidableEq α0] {A0 : Ty α0} {α1 : Type} [DecidableEq α1] {A1 : Ty α1} {α2 : Type} [DecidableEq α2] {A2 : Ty α2} {c : Cl} {H : Hp} {v : V} {x : α0 × α1 × α2} {K : PySem.W.Frag} {σ : L2.St} {t : TE} (h : (tyT3 A0 A1 A2).r c H v x) (hv : Pv t σ H v) : Pv (tCB (fun xs H Q => ∃ p ys, xs = [.ref p] ∧ (SqL K H p ys ∨ SqT K H p ys) ∧ Q (.int ys.length) H) (tCons t tNil)) σ H (.int 3) := by
  obtain ⟨a, u0, u1, u2, rfl, _, q, h0, h1, h2⟩ := h
  exact pv_cb (pa_c hv pa_n) (rc_lent q)
theorem ix4_0 {α0 : Type} [DecidableEq α0] {A0 : Ty α0} {α1 : Type} [DecidableEq α1] {A1 : Ty α1} {α2 : Type} [DecidableEq α2] {A2 : Ty α2} {α3 : Type} [DecidableEq α3] {A3 : Ty α3} {c : Cl} {H : Hp} {v : V} {x : α0 × α1 × α2 × α3} (h : (tyT4 A0 A1 A2 A3).r c H v x) : ∃ u, A0.r c H u (x.1) ∧ ∀ {K : PySem.W.Frag}, Rv (rIxT K) v (.int 0) H u := by
  obtain ⟨a, u0, u1, u2, u3, rfl, _, q, h0, h1, h2, h3⟩ := h
  exact ⟨u0, h0, rv_ixt q rfl⟩
theorem ix4_1 {α0 : Type} [DecidableEq α0] {A0 : Ty α0} {α1 : Type} [DecidableEq α1] {A1 : Ty α1} {α2 : Type} [DecidableEq α2] {A2 : Ty α2} {α3 : Type} [DecidableEq α3] {A3 : Ty α3} {c : Cl} {H : Hp} {v : V} {x : α0 × α1 × α2 × α3} (h : (tyT4 A0 A1 A2 A3).r c H v x) : ∃ u, A1.r c H u (x.2.1) ∧ ∀ {K : PySem.W.Frag}, Rv (rIxT K) v (.int 1) H u := by
  obtain ⟨a, u0, u1, u2, u3, rfl, _, q, h0, h1, h2, h3⟩ := h
  exact ⟨u1, h1, rv_ixt q rfl⟩
theorem ix4_2 {α0 : Type} [DecidableEq α0] {A0 : Ty α0} {α1 : Type} [DecidableEq α1] {A1 : Ty α1} {α2 : Type} [DecidableEq α2] {A2 : Ty α2} {α3 : Type} [DecidableEq α3] {A3 : Ty α3} {c : Cl} {H : Hp} {v : V} {x : α0 × α1 × α2 × α3} (h : (tyT4 A0 A1 A2 A3).r c H v x) : ∃ u, A2.r c H u (x.2.2.1) ∧ ∀ {K : PySem.W.Frag}, Rv (rIxT K) v (.int 2) H u := by
  obtain ⟨a, u0, u1, u2, u3, rfl, _, q, h0, h1, h2, h3⟩ := h
  exact ⟨u2, h2, rv_ixt q rfl⟩
theorem ix4_3 {α0 : Type} [DecidableEq α0] {A0 : Ty α0} {α1 : Type} [DecidableEq α1] {A1 : Ty α1} {α2 : Type} [DecidableEq α2] {A2 : Ty α2} {α3 : Type} [DecidableEq α3] {A3 : Ty α3} {c : Cl} {H : Hp} {v : V} {x : α0 × α1 × α2 × α3} (h : (tyT4 A0 A1 A2 A3).r c H v x) : ∃ u, A3.r c H u (x.2.2.2) ∧ ∀ {K : PySem.W.Frag}, Rv (rIxT K) v (.int 3) H u := by
  obtain ⟨a, u0, u1, u2, u3, rfl, _, q, h0, h1, h2, h3⟩ := h
  exact ⟨u3, h3, rv_ixt q rfl⟩
theorem open4 {α0 : Type} [DecidableEq α0] {A0 : Ty α0} {α1 : Type} [DecidableEq α1] {A1 : Ty α1} {α2 : Type} [DecidableEq α2] {A2 : Ty α2} {α3 : Type} [DecidableEq α3] {A3 : Ty α3} {c : Cl} {H : Hp} {v : V} {x : α0 × α1 × α2 × α3} (h : (tyT4 A0 A1 A2 A3).r c H v x) : ∃ (a : Addr) (u0 u1 u2 u3 : V), v = .ref a ∧ Rd H a (.tup [u0, u1, u2, u3]) ∧ A0.r c H u0 (x.1) ∧ A1.r c H u1 (x.2.1) ∧ A2.r c H u2 (x.2.2.1) ∧ A3.r c H u3 (x.2.2.2) := by
  obtain ⟨a, u0, u1, u2, u3, e, _, q, h0, h1, h2, h3⟩ := h
  exact ⟨a, u0, u1, u2, u3, e, q, h0, h1, h2, h3⟩
theorem tyx4 {α0 : Type} [DecidableEq α0] {A0 : Ty α0} {α1 : Type} [DecidableEq α1] {A1 : Ty α1} {α2 : Type} [DecidableEq α2] {A2 : Ty α2} {α3 : Type} [DecidableEq α3] {A3 : Ty α3} {c : Cl} {H : Hp} {v : V} {x : α0 × α1 × α2 × α3} {K : PySem.W.Frag} (h : (tyT4 A0 A1 A2 A3).r c H v x) : TyX K H v (.type "tuple") := by
  obtain ⟨a, u0, u1, u2, u3, rfl, _, q, h0, h1, h2, h3⟩ := h
  rcases q with q | ⟨o, q⟩
  · exact .base (.tup q)
  · exact .fTuple q
theorem lenT4 {α0 : Type} [DecidableEq α0] {A0 : Ty α0} {α1 : Type} [DecidableEq α1] {A1 : Ty α1} {α2 : Type} [DecidableEq α2] {A2 : Ty α2} {α3 : Type} [DecidableEq α3] {A3 : Ty α3} {c : Cl} {H : Hp} {v : V} {x : α0 × α1 × α2 × α3} {K : PySem.W.Frag} {σ : L2.St} {t : TE} (h : (tyT4 A0 A1 A2 A3).r c H v x) (hv : Pv t σ H v) : Pv (tCB (fun xs H Q => ∃ p ys, xs = [.ref p] ∧ (SqL K H p ys ∨ SqT K H p ys) ∧ Q (.int ys.length) H) (tCons t tNil)) σ H (.int 4) := by
  obtain ⟨a, u0, u1, u2, u3, rfl, _, q, h0, h1, h2, h3⟩ := h
  exact pv_cb (pa_c hv pa_n) (rc_lent q)
theorem ix5_0 {α0 : Type} [DecidableEq α0] {A0 : Ty α0} {α1 : Type} [DecidableEq α1] {A1 : Ty α1} {α2 : Type} [DecidableEq α2] {A2 : Ty α2} {α3 : Type} [DecidableEq α3] {A3 : Ty α3} {α4 : Type} [DecidableEq α4] {A4 : Ty α4} {c : Cl} {H : Hp} {v : V} {x : α0 × α1 × α2 × α3 × α4} (h : (tyT5 A0 A1 A2 A3 A4).r c H v x) : ∃ u, A0.r c H u (x.1) ∧ ∀ {K : PySem.W.Frag}, Rv (rIxT K) v (.int 0) H u := by
  obtain ⟨a, u0, u1, u2, u3, u4, rfl, _, q, h0, h1, h2, h3, h4⟩ := h
  exact ⟨u0, h0, rv_ixt q rfl⟩
theorem ix5_1 {α0 : Type} [DecidableEq α0] {A0 : Ty α0} {α1 : Type} [DecidableEq α1] {A1 : Ty α1} {α2 : Type} [DecidableEq α2] {A2 : Ty α2} {α3 : Type} [DecidableEq α3] {A3 : Ty α3} {α4 : Type} [DecidableEq α4] {A4 : Ty α4} {c : Cl} {H : Hp} {v : V} {x : α0 × α1 × α2 × α3 × α4} (h : (tyT5 A0 A1 A2 A3 A4).r c H v x) : ∃ u, A1.r c H u (x.2.1) ∧ ∀ {K : PySem.W.Frag}, Rv (rIxT K) v (.int 1) H u := by
  obtain ⟨a, u0, u1, u2, u3, u4, rfl, _, q, h0, h1, h2, h3, h4⟩ := h
  exact ⟨u1, h1, rv_ixt q rfl⟩
theorem ix5_2 {α0 : Type} [DecidableEq α0] {A0 : Ty α0} {α1 : Type} [DecidableEq α1] {A1 : Ty α1} {α2 : Type} [DecidableEq α2] {A2 : Ty α2} {α3 : Type} [DecidableEq α3] {A3 : Ty α3} {α4 : Type} [DecidableEq α4] {A4 : Ty α4} {c : Cl} {H : Hp} {v : V} {x : α0 × α1 × α2 × α3 × α4} (h : (tyT5 A0 A1 A2 A3 A4).r c H v x) : ∃ u, A2.r c H u (x.2.2.1) ∧ ∀ {K : PySem.W.Frag}, Rv (rIxT K) v (.int 2) H u := by
  obtain ⟨a, u0, u1, u2, u3, u4, rfl, _, q, h0, h1, h2, h3, h4⟩ := h
  exact ⟨u2, h2, rv_ixt q rfl⟩
theorem ix5_3 {α0 : Type} [DecidableEq α0] {A0 : Ty α0} {α1 : Type} [DecidableEq α1] {A1 : Ty α1} {α2 : Type} [DecidableEq α2] {A2 : Ty α2} {α3 : Type} [DecidableEq α3] {A3 : Ty α3} {α4 : Type} [DecidableEq α4] {A4 : Ty α4} {c : Cl} {H : Hp} {v : V} {x : α0 × α1 × α2 × α3 × α4} (h : (tyT5 A0 A1 A2 A3 A4).r c H v x) : ∃ u, A3.r c H u (x.2.2.2.1) ∧ ∀ {K : PySem.W.Frag}, Rv (rIxT K) v (.int 3) H u := by
  obtain ⟨a, u0, u1, u2, u3, u4, rfl, _, q, h0, h1, h2, h3, h4⟩ := h
  exact ⟨u3, h3, rv_ixt q rfl⟩
theorem ix5_4 {α0 : Type} [DecidableEq α0] {A0 : Ty α0} {α1 : Type} [DecidableEq α1] {A1 : Ty α1} {α2 : Type} [DecidableEq α2] {A2 : Ty α2} {α3 : Type} [DecidableEq α3] {A3 : Ty α3} {α4 : Type} [DecidableEq α4] {A4 : Ty α4} {c : Cl} {H : Hp} {v : V} {x : α0 × α1 × α2 × α3 × α4} (h : (tyT5 A0 A1 A2 A3 A4).r c H v x) : ∃ u, A4.r c H u (x.2.2.2.2) ∧ ∀ {K : PySem.W.Frag}, Rv (rIxT K) v (.int 4) H u := by
  obtain ⟨a, u0, u1, u2, u3, u4, rfl, _, q, h0, h1, h2, h3, h4⟩ := h
  exact ⟨u4, h4, rv_ixt q rfl⟩
theorem open5 {α0 : Type} [DecidableEq α0] {A0 : Ty α0} {α1 : Type} [DecidableEq α1] {A1 : Ty α1} {α2 : Type} [DecidableEq α2] {A2 : Ty α2} {α3 : Type} [DecidableEq α3] {A3 : Ty α3} {α4 : Type} [DecidableEq α4] {A4 : Ty α4} {c : Cl} {H : Hp} {v : V} {x : α0 × α1 × α2 × α3 × α4} (h : (tyT5 A0 A1 A2 A3 A4).r c H v x) : ∃ (a : Addr) (u0 u1 u2 u3 u4 : V), v = .ref a ∧ Rd H a (.tup [u0, u1, u2, u3, u4]) ∧ A0.r c H u0 (x.1) ∧ A1.r c H u1 (x.2.1) ∧ A2.r c H u2 (x.2.2.1) ∧ A3.r c H u3 (x.2.2.2.1) ∧ A4.r c H u4 (x.2.2.2.2) := by
  obtain ⟨a, u0, u1, u2, u3, u4, e, _, q, h0, h1, h2, h3, h4⟩ := h
  exact ⟨a, u0, u1, u2, u3, u4, e, q, h0, h1, h2, h3, h4⟩
theorem tyx5 {α0 : Type} [DecidableEq α0] {A0 : Ty α0} {α1 : Type} [DecidableEq α1] {A1 : Ty α1} {α2 : Type} [DecidableEq α2] {A2 : Ty α2} {α3 : Type} [DecidableEq α3] {A3 : Ty α3} {α4 : Type} [DecidableEq α4] {A4 : Ty α4} {c : Cl} {H : Hp} {v : V} {x : α0 × α1 × α2 × α3 × α4} {K : PySem.W.Frag} (h : (tyT5 A0 A1 A2 A3 A4).r c H v x) : TyX K H v (.type "tuple") := by
  obtain ⟨a, u0, u1, u2, u3, u4, rfl, _, q, h0, h1, h2, h3, h4⟩ := h
  rcases q with q | ⟨o, q⟩
  · exact .base (.tup q)
  · exact .fTuple q
theorem lenT5 {α0 : Type} [DecidableEq α0] {A0 : Ty α0} {α1 : Type} [DecidableEq α1] {A1 : Ty α1} {α2 : Type} [DecidableEq α2] {A2 : Ty α2} {α3 : Type} [DecidableEq α3] {A3 : Ty α3} {α4 : Type} [DecidableEq α4] {A4 : Ty α4} {c : Cl} {H : Hp} {v : V} {x : α0 × α1 × α2 × α3 × α4} {K : PySem.W.Frag} {σ : L2.St} {t : TE} (h : (tyT5 A0 A1 A2 A3 A4).r c H v x) (hv : Pv t σ H v) : Pv (tCB (fun xs H Q => ∃ p ys, xs = [.ref p] ∧ (SqL K H p ys ∨ SqT K H p ys) ∧ Q (.int ys.length) H) (tCons t tNil)) σ H (.int 5) := by
  obtain ⟨a, u0, u1, u2, u3, u4, rfl, _, q, h0, h1, h2, h3, h4⟩ := h
  exact pv_cb (pa_c hv pa_n) (rc_lent q)
theorem ix6_0 {α0 : Type} [DecidableEq α0] {A0 : Ty α0} {α1 : Type} [DecidableEq α1] {A1 : Ty α1} {α2 : Type} [DecidableEq α2] {A2 : Ty α2} {α3 : Type} [DecidableEq α3] {A3 : Ty α3} {α4 : Type} [DecidableEq α4] {A4 : Ty α4} {α5 : Type} [DecidableEq α5] {A5 : Ty α5} {c : Cl} {H : Hp} {v : V} {x : α0 × α1 × α2 × α3 × α4 × α5} (h : (tyT6 A0 A1 A2 A3 A4 A5).r c H v x) : ∃ u, A0.r c H u (x.1) ∧ ∀ {K : PySem.W.Frag}, Rv (rIxT K) v (.int 0) H u := by
  obtain ⟨a, u0, u1, u2, u3, u4, u5, rfl, _, q, h0, h1, h2, h3, h4, h5⟩ := h
  exact ⟨u0, h0, rv_ixt q rfl⟩
theorem ix6_1 {α0 : Type} [DecidableEq α0] {A0 : Ty α0} {α1 : Type} [DecidableEq α1] {A1 : Ty α1} {α2 : Type} [DecidableEq α2] {A2 : Ty α2} {α3 : Type} [DecidableEq α3] {A3 : Ty α3} {α4 : Type} [DecidableEq α4] {A4 : Ty α4} {α5 : Type} [DecidableEq α5] {A5 : Ty α5} {c : Cl} {H : Hp} {v : V} {x : α0 × α1 × α2 × α3 × α4 × α5} (h : (tyT6 A0 A1 A2 A3 A4 A5).r c H v x) : ∃ u, A1.r c H u (x.2.1) ∧ ∀ {K : PySem.W.Frag}, Rv (rIxT K) v (.int 1) H u := by
  obtain ⟨a, u0, u1, u2, u3, u4, u5, rfl, _, q, h0, h1, h2, h3, h4, h5⟩ := h
  exact ⟨u1, h1, rv_ixt q rfl⟩
theorem ix6_2 {α0 : Type} [DecidableEq α0] {A0 : Ty α0} {α1 : Type} [DecidableEq α1] {A1 : Ty α1} {α2 : Type} [DecidableEq α2] {A2 : Ty α2} {α3 : Type} [DecidableEq α3] {A3 : Ty α3} {α4 : Type} [DecidableEq α4] {A4 : Ty α4} {α5 : Type} [DecidableEq α5] {A5 : Ty α5} {c : Cl} {H : Hp} {v : V} {x : α0 × α1 × α2 × α3 × α4 × α5} (h : (tyT6 A0 A1 A2 A3 A4 A5).r c H v x) : ∃ u, A2.r c H u (x.2.2.1) ∧ ∀ {K : PySem.W.Frag}, Rv (rIxT K) v (.int 2) H u := by
  obtain ⟨a, u0, u1, u2, u3, u4, u5, rfl, _, q, h0, h1, h2, h3, h4, h5⟩ := h
  exact ⟨u2, h2, rv_ixt q rfl⟩
theorem ix6_3 {α0 : Type} [DecidableEq α0] {A0 : Ty α0} {α1 : Type} [DecidableEq α1] {A1 : Ty α1} {α2 : Type} [DecidableEq α2] {A2 : Ty α2} {α3 : Type} [DecidableEq α3] {A3 : Ty α3} {α4 : Type} [DecidableEq α4] {A4 : Ty α4} {α5 : Type} [DecidableEq α5] {A5 : Ty α5} {c : Cl} {H : Hp} {v : V} {x : α0 × α1 × α2 × α3 × α4 × α5} (h : (tyT6 A0 A1 A2 A3 A4 A5).r c H v x) : ∃ u, A3.r c H u (x.2.2.2.1) ∧ ∀ {K : PySem.W.Frag}, Rv (rIxT K) v (.int 3) H u := by
  obtain ⟨a, u0, u1, u2, u3, u4, u5, rfl, _, q, h0, h1, h2, h3, h4, h5⟩ := h
  exact ⟨u3, h3, rv_ixt q rfl⟩
theorem ix6_4 {α0 : Type} [DecidableEq α0] {A0 : Ty α0} {α1 : Type} [DecidableEq α1] {A1 : Ty α1} {α2 : Type} [DecidableEq α2] {A2 : Ty α2} {α3 : Type} [DecidableEq α3] {A3 : Ty α3} {α4 : Type} [DecidableEq α4] {A4 : Ty α4} {α5 : Type} [DecidableEq α5] {A5 : Ty α5} {c : Cl} {H : Hp} {v : V} {x : α0 × α1 × α2 × α3 × α4 × α5} (h : (tyT6 A0 A1 A2 A3 A4 A5).r c H v x) : ∃ u, A4.r c H u (x.2.2.2.2.1) ∧ ∀ {K : PySem.W.Frag}, Rv (rIxT K) v (.int 4) H u := by
  obtain ⟨a, u0, u1, u2, u3, u4, u5, rfl, _, q, h0, h1, h2, h3, h4, h5⟩ := h
  exact ⟨u4, h4, rv_ixt q rfl⟩
theorem ix6_5 {α0 : Type} [DecidableEq α0] {A0 : Ty α0} {α1 : Type} [DecidableEq α1] {A1 : Ty α1} {α2 : Type} [DecidableEq α2] {A2 : Ty α2} {α3 : Type} [DecidableEq α3] {A3 : Ty α3} {α4 : Type} [DecidableEq α4] {A4 : Ty α4} {α5 : Type} [DecidableEq α5] {A5 : Ty α5} {c : Cl} {H : Hp} {v : V} {x : α0 × α1 × α2 × α3 × α4 × α5} (h : (tyT6 A0 A1 A2 A3 A4 A5).r c H v x) : ∃ u, A5.r c H u (x.2.2.2.2.2) ∧ ∀ {K : PySem.W.Frag}, Rv (rIxT K) v (.int 5) H u := by
  obtain ⟨a, u0, u1, u2, u3, u4, u5, rfl, _, q, h0, h1, h2, h3, h4, h5⟩ := h
  exact ⟨u5, h5, rv_ixt q rfl⟩
theorem open6 {α0 : Type} [DecidableEq α0] {A0 : Ty α0} {α1 : Type} [DecidableEq α1] {A1 : Ty α1} {α2 : Type} [DecidableEq α2] {A2 : Ty α2} {α3 : Type} [DecidableEq α3] {A3 : Ty α3} {α4 : Type} [DecidableEq α4] {A4 : Ty α4} {α5 : Type} [DecidableEq α5] {A5 : Ty α5} {c : Cl} {H : Hp} {v : V} {x : α0 × α1 × α2 × α3 × α4 × α5} (h : (tyT6 A0 A1 A2 A3 A4 A5).r c H v x) : ∃ (a : Addr) (u0 u1 u2 u3 u4 u5 : V), v = .ref a ∧ Rd H a (.tup [u0, u1, u2, u3, u4, u5]) ∧ A0.r c H u0 (x.1) ∧ A1.r c H u1 (x.2.1) ∧ A2.r c H u2 (x.2.2.1) ∧ A3.r c H u3 (x.2.2.2.1) ∧ A4.r c H u4 (x.2.2.2.2.1) ∧ A5.r c H u5 (x.2.2.2.2.2) := by
  obtain ⟨a, u0, u1, u2, u3, u4, u5, e, _, q, h0, h1, h2, h3, h4, h5⟩ := h
  exact ⟨a, u0, u1, u2, u3, u4, u5, e, q, h0, h1, h2, h3, h4, h5⟩
theorem tyx6 {α0 : Type} [DecidableEq α0] {A0 : Ty α0} {α1 : Type} [DecidableEq α1] {A1 : Ty α1} {α2 : Type} [DecidableEq α2] {A2 : Ty α2} {α3 : Type} [DecidableEq α3] {A3 : Ty α3} {α4 : Type} [DecidableEq α4] {A4 : Ty α4} {α5 : Type} [DecidableEq α5] {A5 : Ty α5} {c : Cl} {H : Hp} {v : V} {x : α0 × α1 × α2 × α3 × α4 × α5} {K : PySem.W.Frag} (h : (tyT6 A0 A1 A2 A3 A4 A5).r c H v x) : TyX K H v (.type "tuple") := by
  obtain ⟨a, u0, u1, u2, u3, u4, u5, rfl, _, q, h0, h1, h2, h3, h4, h5⟩ := h
  rcases q with q | ⟨o, q⟩
  · exact .base (.tup q)
  · exact .fTuple q
theorem lenT6 {α0 : Type} [DecidableEq α0] {A0 : Ty α0} {α1 : Type} [DecidableEq α1] {A1 : Ty α1} {α2 : Type} [DecidableEq α2] {A2 : Ty α2} {α3 : Type} [DecidableEq α3] {A3 : Ty α3} {α4 : Type} [DecidableEq α4] {A4 : Ty α4} {α5 : Type} [DecidableEq α5] {A5 : Ty α5} {c : Cl} {H : Hp} {v : V} {x : α0 × α1 × α2 × α3 × α4 × α5} {K : PySem.W.Frag} {σ : L2.St} {t : TE} (h : (tyT6 A0 A1 A2 A3 A4 A5).r c H v x) (hv : Pv t σ H v) : Pv (tCB (fun xs H Q => ∃ p ys, xs = [.ref p] ∧ (SqL K H p ys ∨ SqT K H p ys) ∧ Q (.int ys.length) H) (tCons t tNil)) σ H (.int 6) := by
  obtain ⟨a, u0, u1, u2, u3, u4, u5, rfl, _, q, h0, h1, h2, h3, h4, h5⟩ := h
  exact pv_cb (pa_c hv pa_n) (rc_lent q)
theorem ix7_0 {α0 : Type} [DecidableEq α0] {A0 : Ty α0} {α1 : Type} [DecidableEq α1] {A1 : Ty α1} {α2 : Type} [DecidableEq α2] {A2 : Ty α2} {α3 : Type} [DecidableEq α3] {A3 : Ty α3} {α4 : Type} [DecidableEq α4] {A4 : Ty α4} {α5 : Type} [DecidableEq α5] {A5 : Ty α5} {α6 : Type} [DecidableEq α6] {A6 : Ty α6} {c : Cl} {H : Hp} {v : V} {x : α0 × α1 × α2 × α3 × α4 × α5 × α6} (h : (tyT7 A0 A1 A2 A3 A4 A5 A6).r c H v x) : ∃ u, A0.r c H u (x.1) ∧ ∀ {K : PySem.W.Frag}, Rv (rIxT K) v (.int 0) H u := by
  obtain ⟨a, u0, u1, u2, u3, u4, u5, u6, rfl, _, q, h0, h1, h2, h3, h4, h5, h6⟩ := h
  exact ⟨u0, h0, rv_ixt q rfl⟩
theorem ix7_1 {α0 : Type} [DecidableEq α0] {A0 : Ty α0} {α1 : Type} [DecidableEq α1] {A1 : Ty α1} {α2 : Type} [DecidableEq α2] {A2 : Ty α2} {α3 : Type} [DecidableEq α3] {A3 : Ty α3} {α4 : Type} [DecidableEq α4] {A4 : Ty α4} {α5 : Type} [DecidableEq α5] {A5 : Ty α5} {α6 : Type} [DecidableEq α6] {A6 : Ty α6} {c : Cl} {H : Hp} {v : V} {x : α0 × α1 × α2 × α3 × α4 × α5 × α6} (h : (tyT7 A0 A1 A2 A3 A4 A5 A6).r c H v x) : ∃ u, A1.r c H u (x.2.1) ∧ ∀ {K : PySem.W.Frag}, Rv (rIxT K) v (.int 1) H u := by
  obtain ⟨a, u0, u1, u2, u3, u4, u5, u6, rfl, _, q, h0, h1, h2, h3, h4, h5, h6⟩ := h
  exact ⟨u1, h1, rv_ixt q rfl⟩
theorem ix7_2 {α0 : Type} [DecidableEq α0] {A0 : Ty α0} {α1 : Type} [DecidableEq α1] {A1 : Ty α1} {α2 : Type} [DecidableEq α2] {A2 : Ty α2} {α3 : Type} [DecidableEq α3] {A3 : Ty α3} {α4 : Type} [DecidableEq α4] {A4 : Ty α4} {α5 : Type} [DecidableEq α5] {A5 : Ty α5} {α6 : Type} [DecidableEq α6] {A6 : Ty α6} {c : Cl} {H : Hp} {v : V} {x : α0 × α1 × α2 × α3 × α4 × α5 × α6} (h : (tyT7 A0 A1 A2 A3 A4 A5 A6).r c H v x) : ∃ u, A2.r c H u (x.2.2.1) ∧ ∀ {K : PySem.W.Frag}, Rv (rIxT K) v (.int 2) H u := by
  obtain ⟨a, u0, u1, u2, u3, u4, u5, u6, rfl, _, q, h0, h1, h2, h3, h4, h5, h6⟩ := h
  exact ⟨u2, h2, rv_ixt q rfl⟩
theorem ix7_3 {α0 : Type} [DecidableEq α0] {A0 : Ty α0} {α1 : Type} [DecidableEq α1] {A1 : Ty α1} {α2 : Type} [DecidableEq α2] {A2 : Ty α2} {α3 : Type} [DecidableEq α3] {A3 : Ty α3} {α4 : Type} [DecidableEq α4] {A4 : Ty α4} {α5 : Type} [DecidableEq α5] {A5 : Ty α5} {α6 : Type} [DecidableEq α6] {A6 : Ty α6} {c : Cl} {H : Hp} {v : V} {x : α0 × α1 × α2 × α3 × α4 × α5 × α6} (h : (tyT7 A0 A1 A2 A3 A4 A5 A6).r c H v x) : ∃ u, A3.r c H u (x.2.2.2.1) ∧ ∀ {K : PySem.W.Frag}, Rv (rIxT K) v (.int 3) H u := by
  obtain ⟨a, u0, u1, u2, u3, u4, u5, u6, rfl, _, q, h0, h1, h2, h3, h4, h5, h6⟩ := h
  exact ⟨u3, h3, rv_ixt q rfl⟩
theorem ix7_4 {α0 : Type} [DecidableEq α0] {A0 : Ty α0} {α1 : Type} [DecidableEq α1] {A1 : Ty α1} {α2 : Type} [DecidableEq α2] {A2 : Ty α2} {α3 : Type} [DecidableEq α3] {A3 : Ty α3} {α4 : Type} [DecidableEq α4] {A4 : Ty α4} {α5 : Type} [DecidableEq α5] {A5 : Ty α5} {α6 : Type} [DecidableEq α6] {A6 : Ty α6} {c : Cl} {H : Hp} {v : V} {x : α0 × α1 × α2 × α3 × α4 × α5 × α6} (h : (tyT7 A0 A1 A2 A3 A4 A5 A6).r c H v x) : ∃ u, A4.r c H u (x.2.2.2.2.1) ∧ ∀ {K : PySem.W.Frag}, Rv (rIxT K) v (.int 4) H u := by
  obtain ⟨a, u0, u1, u2, u3, u4, u5, u6, rfl, _, q, h0, h1, h2, h3, h4, h5, h6⟩ := h
  exact ⟨u4, h4, rv_ixt q rfl⟩
theorem ix7_5 {α0 : Type} [DecidableEq α0] {A0 : Ty α0} {α1 : Type} [DecidableEq α1] {A1 : Ty α1} {α2 : Type} [DecidableEq α2] {A2 : Ty α2} {α3 : Type} [DecidableEq α3] {A3 : Ty α3} {α4 : Type} [DecidableEq α4] {A4 : Ty α4} {α5 : Type} [DecidableEq α5] {A5 : Ty α5} {α6 : Type} [DecidableEq α6] {A6 : Ty α6} {c : Cl} {H : Hp} {v : V} {x : α0 × α1 × α2 × α3 × α4 × α5 × α6} (h : (tyT7 A0 A1 A2 A3 A4 A5 A6).r c H v x) : ∃ u, A5.r c H u (x.2.2.2.2.2.1) ∧ ∀ {K : PySem.W.Frag}, Rv (rIxT K) v (.int 5) H u := by
  obtain ⟨a, u0, u1, u2, u3, u4, u5, u6, rfl, _, q, h0, h1, h2, h3, h4, h5, h6⟩ := h
  exact ⟨u5, h5, rv_ixt q rfl⟩
theorem ix7_6 {α0 : Type} [DecidableEq α0] {A0 : Ty α0} {α1 : Type} [DecidableEq α1] {A1 : Ty α1} {α2 : Type} [DecidableEq α2] {A2 : Ty α2} {α3 : Type} [DecidableEq α3] {A3 : Ty α3} {α4 : Type} [DecidableEq α4] {A4 : Ty α4} {α5 : Type} [DecidableEq α5] {A5 : Ty α5} {α6 : Type} [DecidableEq α6] {A6 : Ty α6} {c : Cl} {H : Hp} {v : V} {x : α0 × α1 × α2 × α3 × α4 × α5 × α6} (h : (tyT7 A0 A1 A2 A3 A4 A5 A6).r c H v x) : ∃ u, A6.r c H u (x.2.2.2.2.2.2) ∧ ∀ {K : PySem.W.Frag}, Rv (rIxT K) v (.int 6) H u := by
  obtain ⟨a, u0, u1, u2, u3, u4, u5, u6, rfl, _, q, h0, h1, h2, h3, h4, h5, h6⟩ := h
  exact ⟨u6, h6, rv_ixt q rfl⟩
theorem open7 {α0 : Type} [DecidableEq α0] {A0 : Ty α0} {α1 : Type} [DecidableEq α1] {A1 : Ty α1} {α2 : Type} [DecidableEq α2] {A2 : Ty α2} {α3 : Type} [DecidableEq α3] {A3 : Ty α3} {α4 : Type} [DecidableEq α4] {A4 : Ty α4} {α5 : Type} [DecidableEq α5] {A5 : Ty α5} {α6 : Type} [DecidableEq α6] {A6 : Ty α6} {c : Cl} {H : Hp} {v : V} {x : α0 × α1 × α2 × α3 × α4 × α5 × α6} (h : (tyT7 A0 A1 A2 A3 A4 A5 A6).r c H v x) : ∃ (a : Addr) (u0 u1 u2 u3 u4 u5 u6 : V), v = .ref a ∧ Rd H a (.tup [u0, u1, u2, u3, u4, u5, u6]) ∧ A0.r c H u0 (x.1) ∧ A1.r c H u1 (x.2.1) ∧ A2.r c H u2 (x.2.2.1) ∧ A3.r c H u3 (x.2.2.2.1) ∧ A4.r c H u4 (x.2.2.2.2.1) ∧ A5.r c H u5 (x.2.2.2.2.2.1) ∧ A6.r c H u6 (x.2.2.2.2.2.2) := by
  obtain ⟨a, u0, u1, u2, u3, u4, u5, u6, e, _, q, h0, h1, h2, h3, h4, h5, h6⟩ := h
  exact ⟨a, u0, u1, u2, u3, u4, u5, u6, e, q, h0, h1, h2, h3, h4, h5, h6⟩
theorem tyx7 {α0 : Type} [DecidableEq α0] {A0 : Ty α0} {α1 : Type} [DecidableEq α1] {A1 : Ty α1} {α2 : Type} [DecidableEq α2] {A2 : Ty α2} {α3 : Type} [DecidableEq α3] {A3 : Ty α3} {α4 : Type} [DecidableEq α4] {A4 : Ty α4} {α5 : Type} [DecidableEq α5] {A5 : Ty α5} {α6 : Type} [DecidableEq α6] {A6 : Ty α6} {c : Cl} {H : Hp} {v : V} {x : α0 × α1 × α2 × α3 × α4 × α5 × α6} {K : PySem.W.Frag} (h : (tyT7 A0 A1 A2 A3 A4 A5 A6).r c H v x) : TyX K H v (.type "tuple") := by
  obtain ⟨a, u0, u1, u2, u3, u4, u5, u6, rfl, _, q, h0, h1, h2, h3, h4, h5, h6⟩ := h
  rcases q with q | ⟨o, q⟩
  · exact .base (.tup q)
  · exact .fTuple q
theorem lenT7 {α0 : Type} [DecidableEq α0] {A0 : Ty α0} {α1 : Type} [DecidableEq α1] {A1 : Ty α1} {α2 : Type} [DecidableEq α2] {A2 : Ty α2} {α3 : Type} [DecidableEq α3] {A3 : Ty α3} {α4 : Type} [DecidableEq α4] {A4 : Ty α4} {α5 : Type} [DecidableEq α5] {A5 : Ty α5} {α6 : Type} [DecidableEq α6] {A6 : Ty α6} {c : Cl} {H : Hp} {v : V} {x : α0 × α1 × α2 × α3 × α4 × α5 × α6} {K : PySem.W.Frag} {σ : L2.St} {t : TE} (h : (tyT7 A0 A1 A2 A3 A4 A5 A6).r c H v x) (hv : Pv t σ H v) : Pv (tCB (fun xs H Q => ∃ p ys, xs = [.ref p] ∧ (SqL K H p ys ∨ SqT K H p ys) ∧ Q (.int ys.length) H) (tCons t tNil)) σ H (.int 7) := by
  obtain ⟨a, u0, u1, u2, u3, u4, u5, u6, rfl, _, q, h0, h1, h2, h3, h4, h5, h6⟩ := h
  exact pv_cb (pa_c hv pa_n) (rc_lent q)

/-! #### sort keys -/
def keySII (x : Str × Int × Int) : SK := [.inr x.1.cps.toList, .inl x.2.1, .inl x.2.2]
def shSII : Nat → Bool := fun i => i == 0
theorem sk_SII : SKey (tyT3 tyS tyI tyI) keySII shSII where
  ok := by
    intro c H v x h
    obtain ⟨a, u0, u1, u2, e, _, q, ⟨h0, _⟩, h1, h2⟩ := h
    have h1' : u1 = V.int x.2.1 := h1
    have h2' : u2 = V.int x.2.2 := h2
    subst h0 h1' h2'
    refine ⟨a, _, e, q, by simp, rfl, fun j v hj => ?_⟩
    match j, hj with
    | 0, hj => cases hj; rfl
    | 1, hj => cases hj; rfl
    | 2, hj => cases hj; rfl
    | j + 3, hj => simp at hj
  inj := by
    rintro ⟨⟨⟨a⟩⟩, b, c⟩ ⟨⟨⟨a'⟩⟩, b', c'⟩ h
    simp only [keySII, List.cons.injEq, Sum.inr.injEq, Sum.inl.injEq, and_true] at h
    obtain ⟨h1, h2, h3⟩ := h
    subst h2 h3
    have h1' : a = a' := h1
    subst h1'
    rfl
end Kb
/-! Kb8: what the top has made -/
namespace Kb
open PySem L2 PySem.W
section
variable {K : PySem.W.Frag} {mg : Str → Option Value} {h : Heap}
theorem df_mk {x : Str} {st : Stmt} {ps : List Str} {f : Addr} {oc : Value} {od an : Option Addr} {sl : Array (Option Value)} {kV dc pm cd ct : Value} (X : K.In h) (G : h.Ns mainGlobals mg) (a : nsIn K mainGlobals x = some (some (.ref f)))
    (l : K.lookup f = some ⟨oc, od, .func (fnOf x x (defArgs st) (defBody st) (defScope st) .none kV dc pm an cd ct), sl⟩) (c : codeIn K cd x = true) (k : keepIn K (.ref f) = true)
    (hb : ∀ (kV doc pm : Value) (an : Option Addr) (cdv ct : Value) (us : List Value), us.length = ps.length → bindArgs (fnOf x x (defArgs st) (defBody st) (defScope st) .none kV doc pm an cdv ct) ⟨us, []⟩ = pure (ps.zip us)) :
    Df K mg x st f (fnOf x x (defArgs st) (defBody st) (defScope st) .none kV dc pm an cd ct) ps :=
  ⟨fun_mk l c k, mg_of X G a, (fun_mk (st := st) l c k).binds hb⟩
theorem err_mk {x : Str} {C : Addr} {tail : List Value} (X : K.In h) (G : h.Ns mainGlobals mg) (a : nsIn K mainGlobals x = some (some (.ref C))) (ex : excIn K C tail "ValueError.__new__" = true) (kp : keepIn K (.ref C) = true) (sb : subIn K (.ref C) (.type "BaseException") = some true) (ty : typeIn K (.ref C) = some (.type "type"))
    (hg : findIn K (.ref C) "__getattribute__" = some (some (.builtin "BaseException.__getattribute__"))) (hk : findIn K (.ref C) "__getattr__" = some none) (hd : hasDictIn K C = true) (ha : findIn K (.ref C) "__class__" = some (some (.builtin "object.__class__"))) (hm : mroIn K C (.type "object") = some true)
    (hn : specialIn K (.builtin "object.__class__") "__get__" = some (some (.builtin "getset_descriptor.__get__"))) (ht : takesIn K (.builtin "object.__class__") = some true) : ErrC K mg x C tail :=
  ⟨mg_of X G a, ex, kp, sb, ty, ⟨hg, hk, sb, hd, ha, hn, ht, hm⟩⟩
theorem kit_own {t : Value} {C : Addr} {b : Bool} (h1 : isClsIn K C = true) (h2 : typeIn K (.ref C) = some (.type "type")) (h3 : subIn K t (.ref C) = some b) (hs : subIn K (.ref C) (.ref C) = some true) : kitOne K t (.ref C) = some b := by
  have e2 : ((clsIn K C).isSome && typeIn K (.ref C) == some (.type "type")) = true := by
    have h1' : (clsIn K C).isSome = true := h1
    rw [h1', h2] <;> rfl
  unfold kitOne
  split
  · rename_i e
    have e' : t = .ref C := by simpa using e
    rw [e', hs] at h3
    exact h3
  · show (if ((clsIn K C).isSome && typeIn K (.ref C) == some (.type "type")) = true then subIn K t (.ref C) else none) = some b
    rw [if_pos e2]
    exact h3
theorem kit_ty1 {D : Addr} {T : String} {b : Bool} (hm : kitMeta T = true) (h3 : subIn K (.ref D) (.type T) = some b) : kitOne K (.ref D) (.type T) = some b := by
  unfold kitOne
  rw [if_neg (by simp)]
  show (if kitMeta T = true then subIn K (.ref D) (.type T) else none) = some b
  rw [if_pos hm]
  exact h3
theorem rs_ints {c : Cl} {H : Hp} : ∀ ns : List Int, Rs tyI c H (ns.map V.int) ns
  | [] => trivial
  | _ :: ns => ⟨rfl, rs_ints ns⟩
/-- the law's end -/
theorem law_end {H : Hp} {a : Addr} {ns : List Int} {m : List Int → Res Bool} (hm : m ns = .ok true) (hS : SqL K H a (ns.map V.int)) :
    ∃ (c : Cl) (v : V) (x : List Int), [V.ref a] = [v] ∧ Wf c H ∧ rB K tyI c H v x ∧ Kont (fun y c' H' => ∀ v, tyB.r c' H' v y → (fun (v : V) (_ : Hp) => v = .bl true) v H') (fun _ _ _ => False) [] c H (m x) := by
  refine ⟨fun _ => none, .ref a, ns, rfl, (fun _ _ _ _ e => by cases e), ⟨a, _, rfl, hS, rs_ints ns⟩, ?_⟩
  rw [hm]
  exact fun c H' st v hv => hv
end
end Kb
/-! Kb9: loops and comprehensions over whatever yields data and leaves the heap alone -/
namespace Kb
open PySem L2
structure PIt {α : Type} [DecidableEq α] (J : It) (A : Ty α) (xs : List α) (c : Cl) (H : Hp) : Prop where
  go : ∀ i, i < xs.length → J.go i H
  stop : J.stop xs.length H
  item : ∀ i x v H', xs[i]? = some x → J.yld i H v H' → H' = H ∧ A.r c H v x
section
variable {α : Type} [DecidableEq α] {A : Ty α} {c : Cl} {H : Hp} {a : Addr} {us : List V} {xs : List α} {K : PySem.W.Frag}
theorem pit_l (h : SqL K H a us) (r : Rs A c H us xs) : PIt (Itl K a) A xs c H where
  go i hi := by
    have hu : i < us.length := by rw [r.len]; exact hi
    exact ⟨us, us[i], h, List.getElem?_eq_getElem hu⟩
  stop := ⟨us, h, by rw [r.len]; exact Nat.le_refl _⟩
  item i x v H' hx hy := by
    obtain ⟨e, q⟩ := hy
    refine ⟨e, ?_⟩
    obtain ⟨u, eu, ru⟩ := r.getX hx
    have z := q us h
    rw [eu] at z
    rw [← Option.some.inj z]
    exact ru
theorem pit_t (h : SqT K H a us) (r : Rs A c H us xs) : PIt (Itt K a) A xs c H where
  go i hi := by
    have hu : i < us.length := by rw [r.len]; exact hi
    exact ⟨us, us[i], h, List.getElem?_eq_getElem hu⟩
  stop := ⟨us, h, by rw [r.len]; exact Nat.le_refl _⟩
  item i x v H' hx hy := by
    obtain ⟨e, q⟩ := hy
    refine ⟨e, ?_⟩
    obtain ⟨u, eu, ru⟩ := r.getX hx
    have z := q us h
    rw [eu] at z
    rw [← Option.some.inj z]
    exact ru
theorem pit_v (h : SqL K H a us) (r : Rs A c H us xs) : PIt (Itv K a us.length) A xs.reverse c H where
  go i hi := by
    rw [List.length_reverse, ← r.len] at hi
    exact ⟨hi, us, us[us.length - 1 - i]'(by omega), h, List.getElem?_eq_getElem (by omega)⟩
  stop := by
    rw [List.length_reverse, ← r.len]
    exact Nat.le_refl _
  item i x v H' hx hy := by
    obtain ⟨e, q⟩ := hy
    refine ⟨e, ?_⟩
    have hi : i < xs.length := by
      have z := (List.getElem?_eq_some_iff.mp hx).1
      rw [List.length_reverse] at z
      exact z
    rw [List.getElem?_reverse hi] at hx
    obtain ⟨u, eu, ru⟩ := r.getX hx
    have z := q us h
    rw [r.len, eu] at z
    rw [← Option.some.inj z]
    exact ru
theorem pit_r {lo : Int} {n : Nat} : PIt (Itr lo n) tyI (rng lo n) c H where
  go i hi := by rw [ints_len] at hi; exact hi
  stop := by rw [ints_len]; exact Nat.le_refl _
  item i x v H' hx hy := by
    obtain ⟨e, e2⟩ := hy
    refine ⟨e, ?_⟩
    have hl : i < n := by
      have z := (List.getElem?_eq_some_iff.mp hx).1
      rw [ints_len] at z
      exact z
    rw [ints_at n lo i hl] at hx
    rw [e2, ← Option.some.inj hx]
    rfl
/-- the signs of a text -/
def signs (s : Str) : List Str := s.cps.toList.map fun n => ⟨#[n]⟩
theorem pit_s {s : Str} (ok : PyData.strOk s = true) : PIt (Its s) tyS (signs s) c H where
  go i hi := by
    unfold signs at hi
    rw [List.length_map, Array.length_toList] at hi
    exact hi
  stop := by
    unfold signs
    rw [List.length_map, Array.length_toList]
    exact Nat.le_refl _
  item i x v H' hx hy := by
    obtain ⟨e, n, hn, e2⟩ := hy
    refine ⟨e, ?_⟩
    unfold signs at hx
    rw [List.getElem?_map, Array.getElem?_toList, hn] at hx
    have ex : (⟨#[n]⟩ : Str) = x := Option.some.inj hx
    rw [e2, ex]
    refine ⟨rfl, ?_⟩
    rw [← ex]
    unfold PyData.strOk at *
    rw [Array.all_eq_true] at ok
    obtain ⟨hi, ei⟩ := Array.getElem?_eq_some_iff.mp hn
    have z := ok i hi
    rw [ei] at z
    simpa using z
end
section
variable {β τ α : Type} [DecidableEq α] {A : Ty α} {P : β → Cl → Hp → Prop} {PE : Err → Cl → Hp → Prop} {S : List Addr} {c0 c : Cl} {H0 H : Hp} {σ : L2.St} {g : TG} {tb : TS} {D : Ends} {xs : List α} {s0 : τ} {J : It}
theorem for_p {f : τ → α → Res τ} {rest : τ → Res β} (k : Kont P PE S c0 H0 ((forN xs s0 f).bind rest)) (I : τ → Cl → Hp → L2.St → Prop) (h0 : I s0 c H σ) (hl : ∀ s c H σ, I s c H σ → PIt J A xs c H)
    (hb : ∀ s x v c H σ (N : L2.St → Hp → Prop), I s c H σ → A.r c H v x → Kont (fun s' c' H' => ∀ σ', I s' c' H' σ' → N σ' H') PE S c0 H0 (f s x) → g v σ H fun σ2 H2 => tb { D with nx := N, ct := N, bk := D.nx } σ2 H2)
    (hd : ∀ s c H σ, I s c H σ → Kont P PE S c0 H0 (rest s) → D.nx σ H) :
    ∃ W : Nat → Nat → L2.St → Hp → Prop, (∃ m, W 0 m σ H) ∧ ∀ i m σ H, W i m σ H →
      (J.stop i H ∧ D.nx σ H) ∨ (J.go i H ∧ ∃ N : L2.St → Hp → Prop, (∀ σ' H', N σ' H' → ∃ m', m' < m ∧ W (i + 1) m' σ' H') ∧ ∀ x H', J.yld i H x H' → g x σ H' fun σ2 H2 => tb { D with nx := N, ct := N, bk := D.nx } σ2 H2) := by
  refine ⟨fun i m σ H => m = xs.length - i ∧ i ≤ xs.length ∧ ∃ s c, I s c H σ ∧ Kont P PE S c0 H0 ((forN (xs.drop i) s f).bind rest), ⟨xs.length, by simp, Nat.zero_le _, s0, c, h0, k⟩, ?_⟩
  rintro i m σ1 H1 ⟨rfl, hi, s, c1, h, k1⟩
  have p := hl s c1 H1 σ1 h
  by_cases hlt : i < xs.length
  · have hx : xs[i]? = some xs[i] := List.getElem?_eq_getElem hlt
    rw [drop_at hx, forN_cons, bind_assoc] at k1
    refine .inr ⟨p.go i hlt, fun σ' H' => ∃ s c, I s c H' σ' ∧ Kont P PE S c0 H0 ((forN (xs.drop (i + 1)) s f).bind rest), fun σ' H' q => ⟨xs.length - (i + 1), by omega, rfl, hlt, q⟩, fun v H' hy => ?_⟩
    obtain ⟨e, r⟩ := p.item i _ v H' hx hy
    subst e
    exact hb s _ v c1 _ σ1 _ h r (k1.turn.imp (fun s' c' H' st q σ' h' => ⟨s', c', h', q⟩) fun _ _ _ _ q => q)
  · have e : i = xs.length := by omega
    subst e
    rw [List.drop_length] at k1
    exact .inl ⟨p.stop, hd s c1 H1 σ1 h k1⟩
theorem for_pr {ρ : Type} {f : τ → α → Res (Ctl τ ρ)} {rest : Ctl τ ρ → Res β} {Rr : Cl → Hp → V → ρ → Prop} (k : Kont P PE S c0 H0 ((forR xs s0 f).bind rest)) (I : τ → Cl → Hp → L2.St → Prop) (h0 : I s0 c H σ) (hl : ∀ s c H σ, I s c H σ → PIt J A xs c H)
    (hb : ∀ s x v c H σ (N : L2.St → Hp → Prop), I s c H σ → A.r c H v x → Kont (fun y c' H' => match y with | .nx s' => ∀ σ', I s' c' H' σ' → N σ' H' | .ret r => ∀ v, Rr c' H' v r → D.rt v H') PE S c0 H0 (f s x) → g v σ H fun σ2 H2 => tb { D with nx := N, ct := N, bk := D.nx } σ2 H2)
    (hr : ∀ r, Kont P PE S c0 H0 (rest (.ret r)) → ∀ c H, Step S c0 H0 c H → ∀ v, Rr c H v r → D.rt v H)
    (hd : ∀ s c H σ, I s c H σ → Kont P PE S c0 H0 (rest (.nx s)) → D.nx σ H) :
    ∃ W : Nat → Nat → L2.St → Hp → Prop, (∃ m, W 0 m σ H) ∧ ∀ i m σ H, W i m σ H →
      (J.stop i H ∧ D.nx σ H) ∨ (J.go i H ∧ ∃ N : L2.St → Hp → Prop, (∀ σ' H', N σ' H' → ∃ m', m' < m ∧ W (i + 1) m' σ' H') ∧ ∀ x H', J.yld i H x H' → g x σ H' fun σ2 H2 => tb { D with nx := N, ct := N, bk := D.nx } σ2 H2) := by
  refine ⟨fun i m σ H => m = xs.length - i ∧ i ≤ xs.length ∧ ∃ s c, I s c H σ ∧ Kont P PE S c0 H0 ((forR (xs.drop i) s f).bind rest), ⟨xs.length, by simp, Nat.zero_le _, s0, c, h0, k⟩, ?_⟩
  rintro i m σ1 H1 ⟨rfl, hi, s, c1, h, k1⟩
  have p := hl s c1 H1 σ1 h
  by_cases hlt : i < xs.length
  · have hx : xs[i]? = some xs[i] := List.getElem?_eq_getElem hlt
    rw [drop_at hx, forR_cons, bind_assoc] at k1
    refine .inr ⟨p.go i hlt, fun σ' H' => ∃ s c, I s c H' σ' ∧ Kont P PE S c0 H0 ((forR (xs.drop (i + 1)) s f).bind rest), fun σ' H' q => ⟨xs.length - (i + 1), by omega, rfl, hlt, q⟩, fun v H' hy => ?_⟩
    obtain ⟨e, r⟩ := p.item i _ v H' hx hy
    subst e
    refine hb s _ v c1 _ σ1 _ h r (k1.turn.imp (fun y c' H' st q => ?_) fun _ _ _ _ q => q)
    cases y with
    | nx s' => exact fun σ' h' => ⟨s', c', h', q⟩
    | ret r' => exact fun v hv => hr r' q c' H' st v hv
  · have e : i = xs.length := by omega
    subst e
    rw [List.drop_length] at k1
    exact .inl ⟨p.stop, hd s c1 H1 σ1 h k1⟩
end
/-! #### comprehensions -/
section
variable {γ β α : Type} [DecidableEq α] [DecidableEq β] {A : Ty α} {B : Ty β} {P : γ → Cl → Hp → Prop} {PE : Err → Cl → Hp → Prop} {S : List Addr} {c0 c : Cl} {H0 H : Hp} {σ : L2.St} {g : TG} {tt : TT} {te : TE} {xs : List α} {J : It}
def LcK (g : TG) (tt : TT) (te : TE) (vs : List Nat) (σ : L2.St) (Q : VK) : It → Hp → Prop := fun J H1 => ∀ D, H1 D = none → ∃ W : Nat → Nat → Hp → Prop, (∃ m, W 0 m (upd H1 D (.lst []))) ∧ ∀ i m H, W i m H →
  (J.stop i H ∧ Q (.ref D) H) ∨ (J.go i H ∧ ∃ Nx : Hp → Prop, (∀ H', Nx H' → ∃ m', m' < m ∧ W (i + 1) m' H') ∧ ∀ x H', J.yld i H x H' → g x (wipe σ vs) H' fun σ2 H2 => wipe σ2 vs = wipe σ vs ∧ tt σ2 H2 fun b H3 =>
    if b = true then te σ2 H3 fun y H4 => ∃ acc, H4 D = some (.lst acc) ∧ acc.length < sizeLine ∧ Nx (upd H4 D (.lst (acc ++ [y]))) else Nx H3)
theorem lc_u {wi : TI} {vs : List Nat} {Q : VK} (h : wi σ H (LcK g tt te vs σ Q)) : tLc wi g tt te vs σ H Q := h
theorem comp_p {f : α → Res β} {rest : List β → Res γ} {vs : List Nat} {Q : VK} (k : Kont P PE S c0 H0 ((compN xs f).bind rest)) (gs : Step S c0 H0 c H) (hl : xs.length ≤ sizeLine)
    (hp : ∀ ci Hi, Step [] c H ci Hi → PIt J A xs ci Hi)
    (hb : ∀ x v ci Hi (Qe : VK) (Qn : Hp → Prop), Step [] c H ci Hi → Step S c0 H0 ci Hi → A.r ci Hi v x → Kont (fun y c' H' => Step [] ci Hi c' H' → ∀ u, B.r c' H' u y → Qe u H') (fun _ _ _ => False) S c0 H0 (f x) → g v (wipe σ vs) Hi fun σ2 H2 => wipe σ2 vs = wipe σ vs ∧ tYes σ2 H2 fun b H3 => if b = true then te σ2 H3 Qe else Qn H3)
    (hd : ∀ ys p us' c' H', H p = none → Step [] c H c' H' → Own B H0 c' H' p us' ys → Kont P PE S c0 H0 (rest ys) → Q (.ref p) H') : LcK g tYes te vs σ Q J H := by
  intro d nd
  have n0 : H0 d = none := gs.fresh nd
  refine ⟨fun i m Hi => m = xs.length - i ∧ i ≤ xs.length ∧ ∃ ci zs ys, Acc B H0 c H ci Hi d zs ys ∧ ys.length = i ∧ Kont P PE S c0 H0 ((compN (xs.drop i) f).bind fun r => rest (ys ++ r)), ⟨xs.length, by simp, Nat.zero_le _, _, [], [], Acc.start gs.wf nd n0, rfl, k⟩, ?_⟩
  rintro i m Hi ⟨rfl, hi, ci, zs, ys, ac, el, k1⟩
  have p := hp ci Hi ac.st
  by_cases hlt : i < xs.length
  · have hx : xs[i]? = some xs[i] := List.getElem?_eq_getElem hlt
    rw [drop_at hx, compN_cons, bind_assoc] at k1
    refine .inr ⟨p.go i hlt, fun Hi => ∃ ci zs ys, Acc B H0 c H ci Hi d zs ys ∧ ys.length = i + 1 ∧ Kont P PE S c0 H0 ((compN (xs.drop (i + 1)) f).bind fun r => rest (ys ++ r)), fun H' q => ⟨xs.length - (i + 1), by omega, rfl, hlt, q⟩, fun v H' hy => ?_⟩
    obtain ⟨e, rx⟩ := p.item i _ v H' hx hy
    subst e
    refine hb _ v ci _ _ _ ac.st (gs.tr0 ac.st) rx (k1.turn.nx.imp (fun y c' H' _ q st u ru => ?_) fun e cc HH _ q => q)
    have ac' := ac.push nd st ru
    refine ⟨zs, (ac.own.step0 st).obj, by rw [ac.own.rs.len]; omega, c', _, _, ac', by rw [List.length_append, el]; rfl, ?_⟩
    rw [bind_assoc] at q
    rw [show (fun r => rest (ys ++ [y] ++ r)) = fun r => rest (ys ++ (y :: r)) from by funext r; rw [List.append_assoc]; rfl]
    exact q
  · have e : i = xs.length := by omega
    subst e
    rw [List.drop_length] at k1
    have k2 : Kont P PE S c0 H0 (rest (ys ++ [])) := k1
    rw [List.append_nil] at k2
    exact .inl ⟨p.stop, hd ys d zs ci Hi nd ac.st ac.own k2⟩
theorem compF_cons {x : α} {xs : List α} {f : α → Res (Option β)} : compF (x :: xs) f = (nx (f x)).bind fun y => (compF xs f).bind fun ys => .ok (match y with | some z => z :: ys | none => ys) := rfl
/-- with a test: the item's value, or none -/
theorem comp_f {f : α → Res (Option β)} {rest : List β → Res γ} {vs : List Nat} {Q : VK} (k : Kont P PE S c0 H0 ((compF xs f).bind rest)) (gs : Step S c0 H0 c H) (hl : xs.length ≤ sizeLine)
    (hp : ∀ ci Hi, Step [] c H ci Hi → PIt J A xs ci Hi)
    (hb : ∀ x v ci Hi (Qe : VK) (Qn : Hp → Prop), Step [] c H ci Hi → Step S c0 H0 ci Hi → A.r ci Hi v x → Kont (fun y c' H' => match y with | some y => Step [] ci Hi c' H' → ∀ u, B.r c' H' u y → Qe u H' | none => Step [] ci Hi c' H' → Qn H') (fun _ _ _ => False) S c0 H0 (f x) → g v (wipe σ vs) Hi fun σ2 H2 => wipe σ2 vs = wipe σ vs ∧ tt σ2 H2 fun b H3 => if b = true then te σ2 H3 Qe else Qn H3)
    (hd : ∀ ys p us' c' H', H p = none → Step [] c H c' H' → Own B H0 c' H' p us' ys → Kont P PE S c0 H0 (rest ys) → Q (.ref p) H') : LcK g tt te vs σ Q J H := by
  intro d nd
  have n0 : H0 d = none := gs.fresh nd
  refine ⟨fun i m Hi => m = xs.length - i ∧ i ≤ xs.length ∧ ∃ ci zs ys, Acc B H0 c H ci Hi d zs ys ∧ ys.length ≤ i ∧ Kont P PE S c0 H0 ((compF (xs.drop i) f).bind fun r => rest (ys ++ r)), ⟨xs.length, by simp, Nat.zero_le _, _, [], [], Acc.start gs.wf nd n0, Nat.le_refl _, k⟩, ?_⟩
  rintro i m Hi ⟨rfl, hi, ci, zs, ys, ac, el, k1⟩
  have p := hp ci Hi ac.st
  by_cases hlt : i < xs.length
  · have hx : xs[i]? = some xs[i] := List.getElem?_eq_getElem hlt
    rw [drop_at hx, compF_cons, bind_assoc] at k1
    refine .inr ⟨p.go i hlt, fun Hi => ∃ ci zs ys, Acc B H0 c H ci Hi d zs ys ∧ ys.length ≤ i + 1 ∧ Kont P PE S c0 H0 ((compF (xs.drop (i + 1)) f).bind fun r => rest (ys ++ r)), fun H' q => ⟨xs.length - (i + 1), by omega, rfl, hlt, q⟩, fun v H' hy => ?_⟩
    obtain ⟨e, rx⟩ := p.item i _ v H' hx hy
    subst e
    refine hb _ v ci _ _ _ ac.st (gs.tr0 ac.st) rx (k1.turn.nx.imp (fun y c' H' _ q => ?_) fun e cc HH _ q => q)
    rw [bind_assoc] at q
    cases y with
    | some y =>
      refine fun st u ru => ?_
      have ac' := ac.push nd st ru
      refine ⟨zs, (ac.own.step0 st).obj, by rw [ac.own.rs.len]; omega, c', _, _, ac', by rw [List.length_append, List.length_singleton]; omega, ?_⟩
      rw [show (fun r => rest (ys ++ [y] ++ r)) = fun r => rest (ys ++ (y :: r)) from by funext r; rw [List.append_assoc]; rfl]
      exact q
    | none =>
      exact fun st => ⟨c', zs, ys, ⟨ac.st.tr0 st, ac.own.step0 st⟩, by omega, q⟩
  · have e : i = xs.length := by omega
    subst e
    rw [List.drop_length] at k1
    have k2 : Kont P PE S c0 H0 (rest (ys ++ [])) := k1
    rw [List.append_nil] at k2
    exact .inl ⟨p.stop, hd ys d zs ci Hi nd ac.st ac.own k2⟩
end
/-! #### what walks -/
section
variable {σ : L2.St} {H : Hp} {a : Addr} {us : List V} {K : PySem.W.Frag} {R : It → Hp → Prop}
def SIt (R : It → Hp → Prop) (v : V) (H1 : Hp) : Prop := ∃ x, v = .str x ∧ R (Its x) H1
theorem istr_u {te : TE} (h : te σ H (SIt R)) : iStr te σ H R := h
theorem istr_e {s : Str} (q : R (Its s) H) : SIt R (.str s) H := ⟨s, rfl, q⟩
def VIt (K : PySem.W.Frag) (R : It → Hp → Prop) (vs : List V) (H1 : Hp) : Prop := ∃ (a : Addr) (xs : List V), vs = [.ref a] ∧ SqL K H1 a xs ∧ R (Itv K a xs.length) H1
theorem irev_u {ta : TA} (h : ta σ H (VIt K R)) : iRev K ta σ H R := h
theorem irev_e (hs : SqL K H a us) (q : R (Itv K a us.length) H) : VIt K R [.ref a] H := ⟨a, us, rfl, hs, q⟩
def TIt (K : PySem.W.Frag) (R : It → Hp → Prop) (x : V) (H1 : Hp) : Prop := ∃ a, x = .ref a ∧ (∃ xs, SqT K H1 a xs) ∧ R (Itt K a) H1
theorem itup_u {tl : TE} (h : tl σ H (TIt K R)) : iTup K tl σ H R := h
theorem itup_e (hr : SqT K H a us) (q : R (Itt K a) H) : TIt K R (V.ref a) H := ⟨a, rfl, ⟨us, hr⟩, q⟩
end
/-! #### sum, slices of texts -/
section
variable {σ : L2.St} {H : Hp} {c : Cl} {K : PySem.W.Frag} {v : V} {ns : List Int}
theorem ints_of : ∀ {us : List V} {ns : List Int}, Rs tyI c H us ns → us = ns.map V.int
  | [], [], _ => rfl
  | u :: us, n :: ns, h => by
    have e : u = V.int n := h.1
    rw [e, ints_of h.2]
    rfl
  | [], _ :: _, h => h.elim
  | _ :: _, [], h => h.elim
theorem sl_s {te : TE} {tl th : TO} {s : Str} {lo hi : Option Int} (h : Pv te σ H (.str s)) (h1 : PvO tl σ H lo) (h2 : PvO th σ H hi) (hs : s.length ≤ sizeLine) : Pv (tSl rSlS te tl th) σ H (.str (cutS s lo hi)) := fun _ q => h _ (h1 _ (h2 _ ⟨s, rfl, hs, q⟩))
theorem ok_cut {s : Str} {lo hi : Option Int} (h : PyData.strOk s = true) : PyData.strOk (cutS s lo hi) = true := by
  unfold PyData.strOk cutS at *
  rw [Array.all_eq_true] at *
  intro i hi
  simp only [List.size_toArray, List.length_take, List.length_drop, Array.length_toList] at hi
  simp only [List.getElem_toArray, List.getElem_take, List.getElem_drop, Array.getElem_toList]
  exact h _ _
end
end Kb
/-! Kb10: list(reversed(xs)) -/
namespace Kb
open PySem L2 PySem.Spec PyProof.Rows RT
section
variable {prog : Program} {w : World} {A : Around} {E : Value → Shared → Prop} {s : Shared}
theorem ext_rev {S it l : Addr} {items : Array Value} {R : Result → Shared → Prop} {c₀ : Nat} {res : Value} (hh : A.handled = none) (hit : s.heap.IsRevIter it l ((items.size : Int) - 1)) (hl : s.heap.IsList l items) (hne : l ≠ it) (hn : items.size ≤ sizeLine) (hSi : S ≠ it) (hSl : S ≠ l)
    (hS : s.heap.get? S = some { cls := .type "list", data := .seq #[] c₀ })
    (hR : ∀ s' acc' c', Moved (S :: [it]) (fun a b => b = a) s s' → s'.heap.get? S = some { cls := .type "list", dict := none, data := .seq acc' c', slots := #[] } → ItemsOf (fun i v => items[items.size - 1 - i]? = some v) acc' items.size → R (.ok (.ret res)) s') :
    wpAny (model prog w) A.in1 (Builtin.List.listExtendWith (.ref S) (.ref it) res)
      (fun fin s' => match fin with | .done f => R (.ok f) s' | .again c' => c'.quiet = true ∧ codeAny (model prog w) A c' R s') (fun e s' => R (.error e) s') s := by
  have W := (Walks.listRev (prog := prog) (w := w) (A := A.in1) hh it l hne items).toS
  have hSf : S ∉ [it, l] := by simp only [List.mem_cons, List.not_mem_nil, or_false, not_or]; exact ⟨hSi, hSl⟩
  have hT : s.TypeIs (.ref it) "list_reverseiterator" := Heap.IsRevIter.typeIs hit
  unfold Builtin.List.listExtendWith
  refine wpAny_bind (wpAny_typeOf hT ?_)
  rw [if_neg (by rw [show Builtin.List.listSameRef (.ref S) (.ref it) = false from by simp [Builtin.List.listSameRef, hSi]]; decide)]
  refine wpAny_bind (wpAny_pyIter_revIter hit ?_)
  refine wpAny_bind (wpAny_holding ?_)
  unfold Builtin.List.listLengthHint
  refine wpAny_bind (wpAny_specialOf hT nolen_lri ?_)
  refine wpAny_bind (wpAny_specialOf hT hint_lri ?_)
  generalize hid : ("list_reverseiterator.__length_hint__" : String) = id0
  wp_delta
  rw [show splitId id0 = some ("list_reverseiterator", "__length_hint__") from by subst hid; decide +kernel]
  subst hid
  refine wpAny_bind (wpAny_isInstance (b := true) hT (by rw [isSubtype_type]; kernel_rfl) ?_)
  refine wpAny_pure ?_
  rw [if_neg (by decide)]
  have e0 : ((items.size : Nat) : Int) - 1 - ((0 : Nat) : Int) = (items.size : Int) - 1 := by omega
  exact wpAny_pure ⟨plainId_quiet F.plain_extend_loop _, codeAny_extend_loopS W hn _ hSf _ items.size 0 _ _ _ rfl (Nat.zero_le _) ⟨Nat.zero_le _, by rw [e0]; exact hit, hl⟩ hS (ItemsOf.nil _) fun s' acc' c' hm hS' hacc => hR s' acc' c' hm hS' hacc⟩
theorem init_rev {S it l : Addr} {items : Array Value} {R : Result → Shared → Prop} (hh : A.handled = none) (hit : s.heap.IsRevIter it l ((items.size : Int) - 1)) (hl : s.heap.IsList l items) (hne : l ≠ it) (hn : items.size ≤ sizeLine) (hSi : S ≠ it) (hSl : S ≠ l)
    (hS : s.heap.get? S = some { cls := .type "list", data := .seq #[] })
    (hR : ∀ (h' : Heap) (tk : Nat) acc' c', (∀ b o, b ≠ S → b ≠ it → s.heap.get? b = some o → h'.get? b = some o) → h'.get? S = some { cls := .type "list", dict := none, data := .seq acc' c', slots := #[] } → ItemsOf (fun i v => items[items.size - 1 - i]? = some v) acc' items.size → R (.ok (.ret .none)) { s with heap := h', toks := tk }) :
    wpAny (model prog w) A.in1 (Builtin.«list.__init__» ⟨[.ref S, .ref it], []⟩)
      (fun fin s' => match fin with | .done f => R (.ok f) s' | .again c' => c'.quiet = true ∧ codeAny (model prog w) A c' R s') (fun e s' => R (.error e) s') s := by
  show wpAny _ A.in1 (Builtin.List.listItems (.ref S) >>= fun old => Builtin.List.listUpdate (.ref S) (fun _ => #[]) >>= fun _ => letGo old.toList.reverse >>= fun _ => Builtin.List.listExtendWith (.ref S) (.ref it) .none) _ _ s
  refine wpAny_bind ?_
  unfold Builtin.List.listItems
  refine wpAny_bind (wpAny_seqItems hS rfl (wpAny_pure ?_))
  show wpAny _ A.in1 (updateSeq S (fun _ => #[]) >>= fun _ => letGo (#[] : Array Value).toList.reverse >>= fun _ => Builtin.List.listExtendWith (.ref S) (.ref it) .none) _ _ s
  refine wpAny_bind (wpAny_updateSeq hS rfl (wpAny_bind (wpAny_letGo ?_)))
  have hS2 := Heap.get?_update_self (Obj.mapSeq (fun _ => (#[] : Array Value))) hS rfl
  have oth : ∀ b o, b ≠ S → s.heap.get? b = some o → (s.heap.update S (Obj.mapSeq (fun _ => (#[] : Array Value)))).get? b = some o := fun b o hb e => (Heap.get?_update_other _ _ (Ne.symm hb)).trans e
  refine ext_rev hh (hit.at fun o e => oth it o (Ne.symm hSi) e) ?_ hne hn hSi hSl hS2 fun s' acc' c' hm hS' hacc => ?_
  · obtain ⟨o, h1, h2⟩ := hl
    exact ⟨o, oth l o (Ne.symm hSl) h1, h2⟩
  · rw [Moved.eq_with hm]
    exact hR s'.heap s'.toks acc' c' (fun b o hb hi e => hm.heap b o (by simp [hb, hi]) (oth b o hb e)) hS' hacc
theorem call_list_rev {it l : Addr} {items : Array Value} {Q : Value → Shared → Prop} (hh : A.handled = none) (hit : s.heap.IsRevIter it l ((items.size : Int) - 1)) (hl : s.heap.IsList l items) (hne : l ≠ it) (hn : items.size ≤ sizeLine)
    (hQ : ∀ (h' : Heap) (tk : Nat) (acc : Array Value) (c' : Nat), (∀ b o, b ≠ it → s.heap.get? b = some o → h'.get? b = some o) → h'.get? s.heap.objs.size = some { cls := .type "list", dict := none, data := .seq acc c', slots := #[] } → ItemsOf (fun i v => items[items.size - 1 - i]? = some v) acc items.size →
      Q (.ref s.heap.objs.size) { s with heap := h', toks := tk }) : wpAny (model prog w) A (call (.type "list") [.ref it]) Q E s := by
  obtain ⟨oi, hoi, _⟩ := id hit
  obtain ⟨ol, hol, _⟩ := id hl
  refine callType_codes (Q₁ := fun obj s1 => obj = .ref s.heap.objs.size ∧ s1 = { s with heap := s.heap.push { cls := .type "list", data := .seq #[] } }) F.called_list (F.typeCall_list_1 _) F.entry_list_init (code_list_new _ ⟨rfl, rfl⟩) fun obj s1 h1 => ?_
  obtain ⟨rfl, rfl⟩ := h1
  have hS : (s.heap.push { cls := .type "list", data := .seq #[] }).get? s.heap.objs.size = some { cls := .type "list", data := .seq #[] } := Heap.get?_push_size _ rfl
  refine ⟨⟨_, hS, rfl⟩, F.args_list_init_2 _ _, init_rev (s := { s with heap := s.heap.push { cls := .type "list", data := .seq #[] } }) hh (hit.at fun o e => Heap.get?_push_of_some _ e) (hl.push _) hne hn (Nat.ne_of_gt (Heap.lt_size hoi)) (Nat.ne_of_gt (Heap.lt_size hol)) hS fun h' tk acc' c' hk hS' hacc => ?_⟩
  exact ⟨rfl, hQ h' tk acc' c' (fun b o hb e => hk b o (Nat.ne_of_lt (Heap.lt_size e)) hb (Heap.get?_push_of_some _ e)) hS' hacc⟩
end
/-- list(reversed(e)) -/
def tListRev (K : PySem.W.Frag) (te : TE) : TE := fun σ H Q => te σ H fun v H1 => ∃ a xs, v = .ref a ∧ SqL K H1 a xs ∧ ∀ p, H1 p = none → Q (.ref p) (upd H1 p (.lst xs.reverse))
theorem vals_rev' {xs : List V} {its : List Value} {acc : Array Value} (r : Vals xs its) (h : ItemsOf (fun i v => its.toArray[its.toArray.size - 1 - i]? = some v) acc its.toArray.size) : Vals xs.reverse acc.toList := RT.vals_rev r h
section
variable {X : Cx}
theorem pe_listRev {e : Expr} {te : TE} {p p2 pos pos2 : Pos} (hc : X.calm = true) (hg : Gl X "list") (hm : X.mg "list" = none) (hg2 : Gl X "reversed") (hm2 : X.mg "reversed" = none) (he : PE X e te)
    (hs : starEach [e] X.env = (false, eval e X.env) :: starEach [] X.env := by rfl)
    (hs2 : starEach [.Call (.Name "reversed" p2) [e] [] pos2] X.env = (false, eval (.Call (.Name "reversed" p2) [e] [] pos2) X.env) :: starEach [] X.env := by rfl) :
    PE X (.Call (.Name "list" p) [.Call (.Name "reversed" p2) [e] [] pos2] [] pos) (tListRev X.K te) := by
  refine ⟨fun pins s σ H Q I h => ?_⟩
  refine Call_ (ld_blt I hg hm boot_list (PyProof.Rows.callWith_type1 (args_cons (Call_ (ld_blt I hg2 hm2 PyProof.Rows.boot_reversed (PyProof.Rows.callWith_type1 (args_cons (thn (he.run pins s σ H _ I h) fun u s1 ⟨v, H1, I1, r1, q1⟩ => args_nil ?_) hs) hs rfl))) hs2) hs2 rfl))
  obtain ⟨a, xs, ev, hq, q⟩ := q1
  subst ev
  obtain rfl : u = Value.ref a := r1
  obtain ⟨its, rv, p', hz⟩ := I1.list hq
  refine call_reversed_list p'.isList (args_nil ?_)
  have hl := p'.isList
  obtain ⟨ol, hol, _⟩ := id hl
  have hne : a ≠ s1.heap.objs.size := Nat.ne_of_lt (Heap.lt_size hol)
  have hn : its.toArray.size ≤ sizeLine := by rw [List.size_toArray, ← rv.length]; exact hz
  refine call_list_rev (s := { s1 with heap := s1.heap.push (revObj a ((its.toArray.size : Int) - 1)) }) (I1.ok.hd hc) ⟨_, Heap.get?_push_size _ rfl, rfl, rfl⟩ (hl.push _) hne hn fun h' tk acc c' hk hS hi => ?_
  have sz : (s1.heap.push (revObj a ((its.toArray.size : Int) - 1))).objs.size = s1.heap.objs.size + 1 := by simp [Heap.push]
  have hT : s1.heap.objs.size ≤ (s1.heap.push (revObj a ((its.toArray.size : Int) - 1))).objs.size := by rw [sz]; exact Nat.le_succ _
  have hnT := I1.hok.fresh hT
  have la : acc.toList.length = xs.length := by
    rw [Array.length_toList, hi.1, List.size_toArray, ← rv.length]
  have rvv := vals_rev' rv hi
  refine ⟨V.ref (s1.heap.push (revObj a ((its.toArray.size : Int) - 1))).objs.size, upd H1 _ (.lst xs.reverse), I1.turnedNew (ch := [s1.heap.objs.size]) (T := (s1.heap.push (revObj a ((its.toArray.size : Int) - 1))).objs.size) (fun b o hb e => hk b o (fun z => hb (by rw [z]; exact List.mem_singleton.mpr rfl)) (Heap.get?_push_of_some _ e)) (fun b hb => by
    rw [List.mem_singleton.mp hb]
    exact I1.fpOk (Nat.le_refl _) (I1.hok.fresh (Nat.le_refl _))) hT ⟨by rw [List.length_reverse]; exact hz, acc.toList, c', rvv, by rw [Array.toArray_toList]; exact hS⟩, rfl, q _ hnT⟩
end
end Kb
/-! Kb11: values of and/or with calls; comprehensions on their own base; while; sums; tuples walked -/
namespace Kb
open PySem L2
section
variable {β : Type} {P : β → Cl → Hp → Prop} {PE : Err → Cl → Hp → Prop} {S : List Addr} {c0 : Cl} {H0 : Hp}
theorem Kont.rebase {m : Res β} {ci : Cl} {Hi : Hp} (k : Kont P PE S c0 H0 m) (g : Step S c0 H0 ci Hi) : Kont P PE [] ci Hi m := by
  cases m with
  | ok y => exact fun c H st => k c H (g.tr0 st)
  | err e => exact fun c H st => k c H (g.tr0 st)
  | stk => exact k.elim
end
section
variable {γ β α : Type} [DecidableEq α] [DecidableEq β] {A : Ty α} {B : Ty β} {P : γ → Cl → Hp → Prop} {PE : Err → Cl → Hp → Prop} {S : List Addr} {c0 c : Cl} {H0 H : Hp} {σ : L2.St} {g : TG} {tt : TT} {te : TE} {xs : List α} {J : It}
theorem comp_pB {f : α → Res β} {rest : List β → Res γ} {vs : List Nat} {Q : VK} (k : Kont P PE S c0 H0 ((compN xs f).bind rest)) (gs : Step S c0 H0 c H) (hl : decide (xs.length ≤ sizeLine) = true)
    (hp : ∀ ci Hi, Step [] c H ci Hi → PIt J A xs ci Hi)
    (hb : ∀ x v ci Hi (Qe : VK) (Qn : Hp → Prop), Step [] c H ci Hi → Step S c0 H0 ci Hi → A.r ci Hi v x → Kont (fun y c' H' => ∀ u, B.r c' H' u y → Qe u H') (fun _ _ _ => False) [] ci Hi (f x) → g v (wipe σ vs) Hi fun σ2 H2 => wipe σ2 vs = wipe σ vs ∧ tYes σ2 H2 fun b H3 => if b = true then te σ2 H3 Qe else Qn H3)
    (hd : ∀ ys p us' c' H', H p = none → Step [] c H c' H' → Own B H0 c' H' p us' ys → Kont P PE S c0 H0 (rest ys) → Q (.ref p) H') : LcK g tYes te vs σ Q J H :=
  comp_p k gs (of_decide_eq_true hl) hp (fun x v ci Hi Qe Qn st gi r k => hb x v ci Hi Qe Qn st gi r ((k.rebase gi).imp (fun y c' H' s q => q s) fun _ _ _ _ q => q)) hd
theorem comp_fB {f : α → Res (Option β)} {rest : List β → Res γ} {vs : List Nat} {Q : VK} (k : Kont P PE S c0 H0 ((compF xs f).bind rest)) (gs : Step S c0 H0 c H) (hl : decide (xs.length ≤ sizeLine) = true)
    (hp : ∀ ci Hi, Step [] c H ci Hi → PIt J A xs ci Hi)
    (hb : ∀ x v ci Hi (Qe : VK) (Qn : Hp → Prop), Step [] c H ci Hi → Step S c0 H0 ci Hi → A.r ci Hi v x → Kont (fun y c' H' => (match y with | some y => ∀ u, B.r c' H' u y → Qe u H' | none => Qn H')) (fun _ _ _ => False) [] ci Hi (f x) → g v (wipe σ vs) Hi fun σ2 H2 => wipe σ2 vs = wipe σ vs ∧ tt σ2 H2 fun b H3 => if b = true then te σ2 H3 Qe else Qn H3)
    (hd : ∀ ys p us' c' H', H p = none → Step [] c H c' H' → Own B H0 c' H' p us' ys → Kont P PE S c0 H0 (rest ys) → Q (.ref p) H') : LcK g tt te vs σ Q J H :=
  comp_f k gs (of_decide_eq_true hl) hp (fun x v ci Hi Qe Qn st gi r k => hb x v ci Hi Qe Qn st gi r ((k.rebase gi).imp (fun y c' H' s q => by
    cases y with
    | some y => exact q s
    | none => exact q s) fun _ _ _ _ q => q)) hd
end
section
variable {β τ : Type} {P : β → Cl → Hp → Prop} {PE : Err → Cl → Hp → Prop} {S : List Addr} {c0 c : Cl} {H0 H : Hp} {σ : L2.St} {tb : TS} {D : Ends} {s0 : τ}
theorem while_m {tc : TT} {fuel : Nat} {t : τ → Res Bool} {f : τ → Res τ} {rest : τ → Res β} (k : Kont P PE S c0 H0 ((whileN fuel s0 t f).bind rest)) (I : τ → Cl → Hp → L2.St → Prop) (h0 : I s0 c H σ)
    (hb : ∀ n s c H σ (M : L2.St → Hp → Prop), I s c H σ → (∀ s' c' H' σ', I s' c' H' σ' → Kont P PE S c0 H0 ((whileN n s' t f).bind rest) → M σ' H') → Kont P PE S c0 H0 ((t s).bind fun b => br b ((f s).bind fun s' => (whileN n s' t f).bind rest) (rest s)) →
      tc σ H fun b H1 => if b = true then ∃ N : L2.St → Hp → Prop, (∀ σ' H', N σ' H' → M σ' H') ∧ tb { D with nx := N, ct := N, bk := D.nx } σ H1 else D.nx σ H1) : tWhile tc tb D σ H := by
  refine ⟨fun m σ H => WhI P PE S c0 H0 I t f rest m σ H, ⟨fuel, s0, c, h0, k⟩, ?_⟩
  rintro m σ1 H1 ⟨s, c1, h, k1⟩
  cases m with
  | zero => exact k1.elim
  | succ n =>
    have k2 : Kont P PE S c0 H0 ((t s).bind fun b => br b ((f s).bind fun s' => (whileN n s' t f).bind rest) (rest s)) := by
      have e : ((whileN (n + 1) s t f).bind rest) = ((t s).bind fun b => br b ((f s).bind fun s' => (whileN n s' t f).bind rest) (rest s)) := by
        show (((t s).bind fun b => br b ((f s).bind fun s' => whileN n s' t f) (.ok s)).bind rest) = _
        rw [bind_assoc]
        congr 1
        funext b
        cases b with
        | true => show (((f s).bind fun s' => whileN n s' t f).bind rest) = ((f s).bind fun s' => (whileN n s' t f).bind rest); rw [bind_assoc]
        | false => rfl
      rw [← e]
      exact k1
    exact hb n s c1 H1 σ1 (fun σ' H' => ∃ m', m' < n + 1 ∧ WhI P PE S c0 H0 I t f rest m' σ' H') h (fun s' c' H' σ' h' k' => ⟨n, Nat.lt_succ_self _, s', c', h', k'⟩) k2
end
section
variable {α : Type} [DecidableEq α] {A : Ty α} {c : Cl} {H H0 : Hp} {v : V} {xs : List α} {σ : L2.St} {K : PySem.W.Frag}
theorem sum_end {ns : List Int} (h : rB K tyI c H v ns) {Q : VK} (q : Q (.int ns.sum) H) : rSum K [v] H Q := by
  obtain ⟨a, us, rfl, r, rs⟩ := h
  rw [ints_of rs] at r
  exact ⟨a, ns, rfl, r, q⟩
theorem vb_cut {β : Type} {P : β → Cl → Hp → Prop} {PE : Err → Cl → Hp → Prop} {S : List Addr} {c0 : Cl} {te : TE} {Q : VK} {m : Res Bool} {rest : Bool → Res β} (k : Kont P PE S c0 H0 (m.bind rest)) (I : Unit → Cl → Hp → L2.St → Prop) (hd : ∀ b c H, I () c H σ → Kont P PE S c0 H0 (rest b) → Q (.bl b) H) (hb : Kont (fun b c H => I () c H σ → Q (.bl b) H) PE S c0 H0 m → te σ H Q) : te σ H Q :=
  hb ((k.turn).imp (fun b c H _ q i => hd b c H i q) (fun _ _ _ _ q => q))
def LRv (K : PySem.W.Frag) (Q : VK) : VK := fun v H1 => ∃ a xs, v = .ref a ∧ SqL K H1 a xs ∧ ∀ p, H1 p = none → Q (.ref p) (upd H1 p (.lst xs.reverse))
theorem lrev_u {te : TE} {Q : VK} (h : te σ H (LRv K Q)) : tListRev K te σ H Q := h
theorem lrev_end (h : rB K A c H v xs) (w : Wf c H) (n0 : ∀ p, H p = none → H0 p = none) {Q : VK} (q : ∀ p us' c' H', H p = none → Step [] c H c' H' → Own A H0 c' H' p us' xs.reverse → Q (.ref p) H') : LRv K Q v H := by
  obtain ⟨a, us, rfl, r, rs⟩ := h
  exact ⟨a, us, rfl, r, new_end w fun p c' H' st cp hp np => q p _ c' H' np st ⟨cp, hp, rs.rev.up st.up, n0 p np⟩⟩
theorem pitT2 {a : Addr} {x0 x1 : α} (h : (tyT2 A A).r c H (.ref a) (x0, x1)) : PIt (Itt K a) A [x0, x1] c H := by
  obtain ⟨b, u0, u1, e, q, h0, h1⟩ := open2 h
  cases e
  exact pit_t ((Or.inl q : SqT K H a _)) ⟨h0, ⟨h1, trivial⟩⟩
theorem sqT2 {a : Addr} {x0 x1 : α} (h : (tyT2 A A).r c H (.ref a) (x0, x1)) : ∃ us, SqT K H a us := by
  obtain ⟨b, u0, u1, e, q, h0, h1⟩ := open2 h
  cases e
  exact ⟨_, (Or.inl q : SqT K H a _)⟩
theorem pitT3 {a : Addr} {x0 x1 x2 : α} (h : (tyT3 A A A).r c H (.ref a) (x0, x1, x2)) : PIt (Itt K a) A [x0, x1, x2] c H := by
  obtain ⟨b, u0, u1, u2, e, q, h0, h1, h2⟩ := open3 h
  cases e
  exact pit_t ((Or.inl q : SqT K H a _)) ⟨h0, ⟨h1, ⟨h2, trivial⟩⟩⟩
theorem sqT3 {a : Addr} {x0 x1 x2 : α} (h : (tyT3 A A A).r c H (.ref a) (x0, x1, x2)) : ∃ us, SqT K H a us := by
  obtain ⟨b, u0, u1, u2, e, q, h0, h1, h2⟩ := open3 h
  cases e
  exact ⟨_, (Or.inl q : SqT K H a _)⟩
theorem pitT4 {a : Addr} {x0 x1 x2 x3 : α} (h : (tyT4 A A A A).r c H (.ref a) (x0, x1, x2, x3)) : PIt (Itt K a) A [x0, x1, x2, x3] c H := by
  obtain ⟨b, u0, u1, u2, u3, e, q, h0, h1, h2, h3⟩ := open4 h
  cases e
  exact pit_t ((Or.inl q : SqT K H a _)) ⟨h0, ⟨h1, ⟨h2, ⟨h3, trivial⟩⟩⟩⟩
theorem sqT4 {a : Addr} {x0 x1 x2 x3 : α} (h : (tyT4 A A A A).r c H (.ref a) (x0, x1, x2, x3)) : ∃ us, SqT K H a us := by
  obtain ⟨b, u0, u1, u2, u3, e, q, h0, h1, h2, h3⟩ := open4 h
  cases e
  exact ⟨_, (Or.inl q : SqT K H a _)⟩
theorem pitT5 {a : Addr} {x0 x1 x2 x3 x4 : α} (h : (tyT5 A A A A A).r c H (.ref a) (x0, x1, x2, x3, x4)) : PIt (Itt K a) A [x0, x1, x2, x3, x4] c H := by
  obtain ⟨b, u0, u1, u2, u3, u4, e, q, h0, h1, h2, h3, h4⟩ := open5 h
  cases e
  exact pit_t ((Or.inl q : SqT K H a _)) ⟨h0, ⟨h1, ⟨h2, ⟨h3, ⟨h4, trivial⟩⟩⟩⟩⟩
theorem sqT5 {a : Addr} {x0 x1 x2 x3 x4 : α} (h : (tyT5 A A A A A).r c H (.ref a) (x0, x1, x2, x3, x4)) : ∃ us, SqT K H a us := by
  obtain ⟨b, u0, u1, u2, u3, u4, e, q, h0, h1, h2, h3, h4⟩ := open5 h
  cases e
  exact ⟨_, (Or.inl q : SqT K H a _)⟩
theorem pitT6 {a : Addr} {x0 x1 x2 x3 x4 x5 : α} (h : (tyT6 A A A A A A).r c H (.ref a) (x0, x1, x2, x3, x4, x5)) : PIt (Itt K a) A [x0, x1, x2, x3, x4, x5] c H := by
  obtain ⟨b, u0, u1, u2, u3, u4, u5, e, q, h0, h1, h2, h3, h4, h5⟩ := open6 h
  cases e
  exact pit_t ((Or.inl q : SqT K H a _)) ⟨h0, ⟨h1, ⟨h2, ⟨h3, ⟨h4, ⟨h5, trivial⟩⟩⟩⟩⟩⟩
theorem sqT6 {a : Addr} {x0 x1 x2 x3 x4 x5 : α} (h : (tyT6 A A A A A A).r c H (.ref a) (x0, x1, x2, x3, x4, x5)) : ∃ us, SqT K H a us := by
  obtain ⟨b, u0, u1, u2, u3, u4, u5, e, q, h0, h1, h2, h3, h4, h5⟩ := open6 h
  cases e
  exact ⟨_, (Or.inl q : SqT K H a _)⟩
theorem itup_e' {R : It → Hp → Prop} {a : Addr} (hr : ∃ us, SqT K H a us) (q : R (Itt K a) H) : TIt K R (V.ref a) H := ⟨a, rfl, hr, q⟩
theorem Own.sqv {K : PySem.W.Frag} {p : Addr} {us : List V} (h : Own A H0 c H p us xs) : SqL K H p us := .inl (.inl h.obj)
end
end Kb
/-! Kb12: rules that tell the fragment's name, for the blocks of comprehensions -/
namespace Kb
open PySem L2
theorem brF_eq {α : Type} {b : Bool} {x y : Res α} (h : b = false) : br b x y = y := by subst h; rfl
theorem brT_eq {α : Type} {b : Bool} {x y : Res α} (h : b = true) : br b x y = x := by subst h; rfl
section
variable {X : Cx} {K : PySem.W.Frag}
theorem ix_tupK (e : X.K = K) : IxR X (rIxT K) := e ▸ ix_tup
theorem ix_listK (e : X.K = K) : IxR X (rIxL K) := e ▸ ix_list
theorem op_eqDK (e : X.K = K) (hu : X.A.units + 64 < cLine) : OpR X (compareOp .Eq) (rEqD K) := e ▸ op_eqD hu
theorem op_neDK (e : X.K = K) (hu : X.A.units + 64 < cLine) : OpR X (compareOp .NotEq) (rNeD K) := e ▸ op_neD hu
theorem call_len_seqK (e : X.K = K) : CallR X (.builtin "len") (fun xs H Q => ∃ p ys, xs = [.ref p] ∧ (SqL K H p ys ∨ SqT K H p ys) ∧ Q (.int ys.length) H) := e ▸ call_len_seq
theorem cr_sumK (e : X.K = K) (hc : X.calm = true) : CallR X (.builtin "sum") (rSum K) := e ▸ cr_sum hc
theorem call_isiK (e : X.K = K) : CallR X (.builtin "isinstance") (rIsi K) := e ▸ call_isi
theorem sl_listK (e : X.K = K) : SlR X (rSlL K) := e ▸ sl_list
theorem pg_tupK {es : List Expr} {k : Nat} {t : TGs} {n : Nat} {pos : Pos} (e : X.K = K) (hc : X.calm = true) (h : PGs X es t)
    (hn : (assignEach es X.env).length = n := by rfl) (hst : (assignEach es X.env).findIdx? (·.1) = none := by rfl) : PG X (.Tuple es k pos) (gTup K n t) := e ▸ pg_tup hc h hn hst
theorem pt_truthK {a : Expr} {ta : TE} (e : X.K = K) (ha : PE X a ta) (he : ∀ whole, isTrue a X.env whole = (do let v ← whole; standAt a.pos; holding [v] (truthy v))) :
    PT X a (fun σ H Q => ta σ H fun x H' => ∃ k, TruV K x H' k ∧ Q k H') := e ▸ pt_truth ha he
theorem cr_sortTK (e : X.K = K) : CallR X (.builtin "sorted") (rSortT K) := e ▸ cr_sortT
theorem cr_listK (e : X.K = K) : CallR X (.type "list") (rListOf K) := e ▸ cr_list
end
end Kb
namespace Lw
open PySem L2 Kb
@[irreducible] def m_check_row (a0 : (PySem.Str × Int × Int)) : Res Unit := br ((decide (a0.2.1 < (0 : Int))) || (decide (a0.2.2 ≤ a0.2.1))) (.err .ground) (.ok ())
@[irreducible] def m_normal (a0 : List (PySem.Str × Int × Int)) : Res (List (PySem.Str × Int × Int)) := (forN a0 () (fun s5 x7 => (m_check_row x7).bind fun y13 => .ok ())).bind fun s5 => (forN (sortK keySII a0) (([] : List (PySem.Str × Int × Int))) (fun s42 x47 => ((andN (.ok (!s42.isEmpty)) (andN (opt (atI s42 (-(1 : Int))) fun x88 => .ok (decide (x88.1 = x47.1))) (opt (atI s42 (-(1 : Int))) fun x96 => .ok (decide (x47.2.1 ≤ x96.2.2))))).bind fun b101 => br b101 (opt (atI s42 (-(1 : Int))) fun x107 => opt (atI s42 (-(1 : Int))) fun x115 => opt (ixN s42.length (-(1 : Int))) fun j131 => .ok ((s42.set j131 (x47.1, x107.2.1, (if x115.2.2 > x47.2.2 then x115.2.2 else x47.2.2))))) (chk (decide (s42.length < sizeLine)) <| .ok ((s42 ++ [(x47.1, x47.2.1, x47.2.2)])))).bind fun s63 => .ok (s63))).bind fun s42 => .ok s42
@[irreducible] def m_size (a0 : List (PySem.Str × Int × Int)) : Res Int := chk (decide (a0.length ≤ sizeLine)) <| (compN a0 (fun x6 => .ok (x6.2.2 - x6.2.1))).bind fun y24 => .ok (List.sum y24)
@[irreducible] def m_has (a0 : List (PySem.Str × Int × Int)) (a1 : PySem.Str) (a2 : Int) : Res Bool := (forR a0 () (fun s5 x9 => br ((decide (x9.1 = a1)) && ((decide (x9.2.1 ≤ a2)) && (decide (a2 < x9.2.2)))) (.ok (.ret true)) (.ok (.nx ())))).bind fun cc => ctl cc (fun s5 => .ok false) (fun r => .ok r)
@[irreducible] def m_law_cell (a0 : List Int) (a1 : Int) : Res Int := br (decide (a1 < (a0.length : Int))) (opt (atI a0 a1) fun x5 => .ok x5) (chk (mulOk (7 : Int) a1) <| .ok ((7 : Int) * a1))
@[irreducible] def m_law_pieces (a0 : Int) : Res (List PySem.Str) := br (!decide ((a0 % (3 : Int)) = (1 : Int))) (.ok ([("a" : PySem.Str), ("b" : PySem.Str), ("a1" : PySem.Str), ("main" : PySem.Str)] : List PySem.Str)) (chk (decide (("northroadsab" : PySem.Str).length ≤ sizeLine)) <| chk (decide ((cutS ("northroadsab" : PySem.Str) none (some ((2 : Int) + ((a0 / (3 : Int)) % (11 : Int))))).length ≤ sizeLine)) <| chk (decide (0 < ((cutS ("northroadsab" : PySem.Str) none (some ((2 : Int) + ((a0 / (3 : Int)) % (11 : Int))))).length : Int))) <| chk (decide ((signs ("xyz" : PySem.Str)).length ≤ sizeLine)) <| (compN (signs ("xyz" : PySem.Str)) (fun x26 => chk (decide ((cutS ("northroadsab" : PySem.Str) none (some ((2 : Int) + ((a0 / (3 : Int)) % (11 : Int))))).length ≤ sizeLine)) <| chk (decide ((cutS (cutS ("northroadsab" : PySem.Str) none (some ((2 : Int) + ((a0 / (3 : Int)) % (11 : Int))))) none (some ((a0 / (33 : Int)) % ((cutS ("northroadsab" : PySem.Str) none (some ((2 : Int) + ((a0 / (3 : Int)) % (11 : Int))))).length : Int)))).length + x26.length ≤ sizeLine)) <| chk (decide ((cutS ("northroadsab" : PySem.Str) none (some ((2 : Int) + ((a0 / (3 : Int)) % (11 : Int))))).length ≤ sizeLine)) <| chk (decide (((cutS (cutS ("northroadsab" : PySem.Str) none (some ((2 : Int) + ((a0 / (3 : Int)) % (11 : Int))))) none (some ((a0 / (33 : Int)) % ((cutS ("northroadsab" : PySem.Str) none (some ((2 : Int) + ((a0 / (3 : Int)) % (11 : Int))))).length : Int)))) ++ x26).length + (cutS (cutS ("northroadsab" : PySem.Str) none (some ((2 : Int) + ((a0 / (3 : Int)) % (11 : Int))))) (some (((a0 / (33 : Int)) % ((cutS ("northroadsab" : PySem.Str) none (some ((2 : Int) + ((a0 / (3 : Int)) % (11 : Int))))).length : Int)) + (1 : Int))) none).length ≤ sizeLine)) <| .ok (((cutS (cutS ("northroadsab" : PySem.Str) none (some ((2 : Int) + ((a0 / (3 : Int)) % (11 : Int))))) none (some ((a0 / (33 : Int)) % ((cutS ("northroadsab" : PySem.Str) none (some ((2 : Int) + ((a0 / (3 : Int)) % (11 : Int))))).length : Int)))) ++ x26) ++ (cutS (cutS ("northroadsab" : PySem.Str) none (some ((2 : Int) + ((a0 / (3 : Int)) % (11 : Int))))) (some (((a0 / (33 : Int)) % ((cutS ("northroadsab" : PySem.Str) none (some ((2 : Int) + ((a0 / (3 : Int)) % (11 : Int))))).length : Int)) + (1 : Int))) none)))).bind fun y37 => chk (decide (([(cutS ("northroadsab" : PySem.Str) none (some ((2 : Int) + ((a0 / (3 : Int)) % (11 : Int)))))] : List PySem.Str).length + y37.length ≤ sizeLine)) <| .ok (([(cutS ("northroadsab" : PySem.Str) none (some ((2 : Int) + ((a0 / (3 : Int)) % (11 : Int)))))] : List PySem.Str) ++ y37))
@[irreducible] def m_law_rows (a0 : List Int) (a1 : Int) (a2 : Int) : Res (List (PySem.Str × Int × Int)) := chk (rngOk a2) <| (forN (rng 0 a2.toNat) (([] : List (PySem.Str × Int × Int))) (fun s12 x19 => (m_law_cell a0 (a1 + x19)).bind fun y26 => (m_law_cell a0 (1 : Int)).bind fun y34 => (m_law_pieces y34).bind fun y42 => opt (atI y42 (y26 % (4 : Int))) fun x56 => opt (atI ([(8 : Int), (40 : Int), (1000000 : Int)] : List Int) ((y26 / (400 : Int)) % (3 : Int))) fun x72 => chk (decide (0 < x72)) <| opt (atI ([(4 : Int), (20 : Int), (1000000 : Int)] : List Int) ((y26 / (400 : Int)) % (3 : Int))) fun x89 => chk (decide (0 < x89)) <| chk (decide (s12.length < sizeLine)) <| .ok ((s12 ++ [(x56, ((y26 / (4 : Int)) % x72), (((y26 / (4 : Int)) % x72) + ((1 : Int) + ((y26 / (31 : Int)) % x89))))])))).bind fun s12 => .ok s12
@[irreducible] def m_law_has (a0 : List (PySem.Str × Int × Int)) (a1 : PySem.Str) (a2 : Int) : Res Bool := (forR a0 () (fun s5 x9 => br ((decide (x9.1 = a1)) && ((decide (x9.2.1 ≤ a2)) && (decide (a2 < x9.2.2)))) (.ok (.ret true)) (.ok (.nx ())))).bind fun cc => ctl cc (fun s5 => .ok false) (fun r => .ok r)
@[irreducible] def m_law_samples (a0 : List (PySem.Str × Int × Int)) : Res (List (PySem.Str × Int)) := (forN a0 (([(("a" : PySem.Str), (0 : Int)), (("zz" : PySem.Str), (3 : Int))] : List (PySem.Str × Int))) (fun s33 x39 => (forN ([(x39.2.1 - (1 : Int)), x39.2.1, (x39.2.1 + (1 : Int)), (x39.2.2 - (1 : Int)), x39.2.2] : List Int) (s33) (fun s65 x68 => (br (decide ((0 : Int) ≤ x68)) (chk (decide (s65.length < sizeLine)) <| .ok ((s65 ++ [(x39.1, x68)]))) (.ok (s65))).bind fun s75 => .ok (s75))).bind fun s65 => .ok (s65))).bind fun s33 => .ok s33
@[irreducible] def m_law_is_ground (a0 : List (PySem.Str × Int × Int)) : Res Bool := chk (rngOk (a0.length : Int)) <| (forR (rng 0 (a0.length : Int).toNat) () (fun s3 x8 => (orN (opt (atI a0 x8) fun x27 => .ok (!true)) (opt (atI a0 x8) fun x32 => .ok (!decide ((3 : Int) = (3 : Int))))).bind fun b34 => br b34 (.ok (.ret false)) (opt (atI a0 x8) fun x40 => br (false || (false || ((decide (x40.2.1 < (0 : Int))) || (decide (x40.2.2 ≤ x40.2.1))))) (.ok (.ret false)) ((andN (.ok (decide ((0 : Int) < x8))) (orN (opt (atI a0 (x8 - (1 : Int))) fun x79 => .ok (decide (x40.1.cps.toList < x79.1.cps.toList))) (andN (opt (atI a0 (x8 - (1 : Int))) fun x87 => .ok (decide (x87.1 = x40.1))) (opt (atI a0 (x8 - (1 : Int))) fun x95 => .ok (decide (x40.2.1 ≤ x95.2.2)))))).bind fun b100 => br b100 (.ok (.ret false)) (.ok (.nx ())))))).bind fun cc => ctl cc (fun s3 => .ok true) (fun r => .ok r)
@[irreducible] def m_law_cut (a0 : List (PySem.Str × Int × Int)) (a1 : Int) : Res (List (PySem.Str × Int × Int)) := (forN a0 (([] : List (PySem.Str × Int × Int))) (fun s15 x21 => chk (decide (0 < (x21.2.2 - x21.2.1))) <| (br (decide (x21.2.1 < (x21.2.1 + (a1 % (x21.2.2 - x21.2.1))))) (chk (decide (s15.length < sizeLine)) <| .ok ((s15 ++ [(x21.1, x21.2.1, (x21.2.1 + (a1 % (x21.2.2 - x21.2.1))))]))) (.ok (s15))).bind fun s38 => chk (decide (s38.length < sizeLine)) <| .ok ((s38 ++ [(x21.1, (x21.2.1 + (a1 % (x21.2.2 - x21.2.1))), x21.2.2)])))).bind fun s15 => .ok s15.reverse
@[irreducible] def m_law (a0 : List Int) : Res Bool := (m_law_cell a0 (0 : Int)).bind fun y1 => (m_law_rows a0 (2 : Int) (y1 % (15 : Int))).bind fun y9 => (m_normal y9).bind fun y30 => br (!decide (y9 = y9)) (.ok false) ((m_law_is_ground y30).bind fun y43 => br y43 ((m_law_samples y9).bind fun y52 => (forR y52 () (fun s62 x65 => (m_has y30 x65.1 x65.2).bind fun y78 => (m_law_has y9 x65.1 x65.2).bind fun y86 => br (!decide (y78 = y86)) (.ok (.ret false)) ((m_law_has y30 x65.1 x65.2).bind fun y95 => (m_law_has y9 x65.1 x65.2).bind fun y103 => br (!decide (y95 = y103)) (.ok (.ret false)) ((m_has y30 x65.1 x65.2).bind fun y112 => .ok (.nx ()))))).bind fun cc => ctl cc (fun s62 => (forR y30 () (fun s128 x132 => (m_law_has y9 x132.1 x132.2.1).bind fun y147 => br y147 ((m_law_has y9 x132.1 (x132.2.2 - (1 : Int))).bind fun y156 => br y156 (br (decide ((0 : Int) < x132.2.1)) ((m_law_has y9 x132.1 (x132.2.1 - (1 : Int))).bind fun y166 => br y166 (.ok (.ret false)) ((m_law_has y9 x132.1 x132.2.2).bind fun y175 => br y175 (.ok (.ret false)) (.ok (.nx ())))) ((m_law_has y9 x132.1 x132.2.2).bind fun y184 => br y184 (.ok (.ret false)) (.ok (.nx ())))) (.ok (.ret false))) (.ok (.ret false)))).bind fun cc => ctl cc (fun s128 => (m_size y30).bind fun y196 => chk (decide (y30.length ≤ sizeLine)) <| (compN y30 (fun x209 => .ok (x209.2.2 - x209.2.1))).bind fun y226 => br (!decide (y196 = (List.sum y226))) (.ok false) ((m_size y30).bind fun y235 => (m_law_cell a0 (1 : Int)).bind fun y244 => (m_law_cut y9 y244).bind fun y252 => (m_normal y252).bind fun y262 => br (!decide (y262 = y30)) (.ok false) ((m_normal y30).bind fun y273 => chk (decide (y273.length < sizeLine)) <| (br (decide (y30 = y30)) (.ok (decide ((sliceL (y273 ++ [(("zz" : PySem.Str), (0 : Int), (1 : Int))]) none (some (-(1 : Int)))) = y30))) (.ok false)).bind fun b321 => .ok b321))) (fun r => .ok r)) (fun r => .ok r)) (.ok false))
end Lw
namespace Lw
open PySem L2 Kb
def topS (i : Nat) : Stmt := PySem.Challenge.pw_kerbmark_k15_ground_in_one_form.main.body.getD i (.Pass ⟨0, 0, 0, 0⟩)
abbrev s_check_row : Stmt := topS 4
abbrev s_normal : Stmt := topS 5
abbrev s_size : Stmt := topS 6
abbrev s_has : Stmt := topS 7
abbrev s_law_cell : Stmt := topS 9
abbrev s_law_pieces : Stmt := topS 10
abbrev s_law_rows : Stmt := topS 11
abbrev s_law_has : Stmt := topS 12
abbrev s_law_samples : Stmt := topS 13
abbrev s_law_is_ground : Stmt := topS 14
abbrev s_law_cut : Stmt := topS 15
abbrev s_law : Stmt := topS 16
structure Ad where
  ea : Err → Addr
  kerb : Addr
  check_row : Addr
  check_row_fd : FuncData
  normal : Addr
  normal_fd : FuncData
  size : Addr
  size_fd : FuncData
  has : Addr
  has_fd : FuncData
  law_cell : Addr
  law_cell_fd : FuncData
  law_pieces : Addr
  law_pieces_fd : FuncData
  law_rows : Addr
  law_rows_fd : FuncData
  law_has : Addr
  law_has_fd : FuncData
  law_samples : Addr
  law_samples_fd : FuncData
  law_is_ground : Addr
  law_is_ground_fd : FuncData
  law_cut : Addr
  law_cut_fd : FuncData
  law : Addr
  law_fd : FuncData
structure Txt (K : PySem.W.Frag) (mg : Str → Option Value) (a : Ad) : Prop where
  check_row : Df K mg "check_row" s_check_row a.check_row a.check_row_fd ["row"]
  normal : Df K mg "normal" s_normal a.normal a.normal_fd ["rows"]
  size : Df K mg "size" s_size a.size a.size_fd ["ground"]
  has : Df K mg "has" s_has a.has a.has_fd ["ground", "piece", "k"]
  law_cell : Df K mg "_law_cell" s_law_cell a.law_cell a.law_cell_fd ["_law_script", "_law_k"]
  law_pieces : Df K mg "_law_pieces" s_law_pieces a.law_pieces a.law_pieces_fd ["_law_cell_here"]
  law_rows : Df K mg "_law_rows" s_law_rows a.law_rows a.law_rows_fd ["_law_script", "_law_at", "_law_count"]
  law_has : Df K mg "_law_has" s_law_has a.law_has a.law_has_fd ["_law_rows_here", "_law_piece", "_law_k"]
  law_samples : Df K mg "_law_samples" s_law_samples a.law_samples a.law_samples_fd ["_law_rows_here"]
  law_is_ground : Df K mg "_law_is_ground" s_law_is_ground a.law_is_ground a.law_is_ground_fd ["_law_actual"]
  law_cut : Df K mg "_law_cut" s_law_cut a.law_cut a.law_cut_fd ["_law_rows_here", "_law_cell_here"]
  law : Df K mg "law" s_law a.law a.law_fd ["_law_script"]
  e_ground : ErrC K mg "InvalidGround" (a.ea .ground) [.type "ValueError", .type "Exception", .type "BaseException", .type "object"]
  exm_ground_ground : PySem.W.exmOne K (.ref (a.ea .ground)) (.ref (a.ea .ground)) = some true
  exm_ground_kerb : PySem.W.exmOne K (.ref (a.ea .ground)) (.ref a.kerb) = some true
  kerb_g : mg "KerbError" = some (.ref a.kerb)
  b_bool : mg "bool" = none
  b_int : mg "int" = none
  b_isinstance : mg "isinstance" = none
  b_len : mg "len" = none
  b_list : mg "list" = none
  b_max : mg "max" = none
  b_range : mg "range" = none
  b_reversed : mg "reversed" = none
  b_sorted : mg "sorted" = none
  b_sum : mg "sum" = none
  b_tuple : mg "tuple" = none
def sp_check_row (K : PySem.W.Frag) (ea : Err → Addr) : Sp := fun vs H Q E => ∃ (c : Cl) (w0 : V) (a0 : (PySem.Str × Int × Int)), vs = [w0] ∧ Wf c H ∧ (tyT3 tyS tyI tyI).r c H w0 a0 ∧ Kont (fun y c' H' => ∀ v, tyU.r c' H' v y → Q v H') (fun e _ H' => E (.ref (ea e)) none H') [] c H (m_check_row a0)
theorem ok_check_row {P : Program} {w : World} {K : PySem.W.Frag} {mg : Str → Option Value} {base : Heap} {a : Ad} (T : Txt K mg a) : FnOk P w K mg base (L2.CX P w) 1 a.check_row a.check_row_fd ["row"] (sp_check_row K a.ea) := by
  have sc : FnScope ["row", "piece", "begin", "end"] ["row"] (defScope s_check_row) := ⟨rfl, rfl, rfl, by decide +kernel, rfl, by decide +kernel, by decide +kernel⟩
  refine T.check_row.F.okX sc (fun vs H Q E h => ?_) (fun cdv A outer s H0 vs Q E hr h => ?_)
  · obtain ⟨_, _, _, rfl, _⟩ := h
    rfl
  · obtain ⟨c0, w0, a0, rfl, wf0, h0, k⟩ := h
    refine ⟨_, (pss_cons (ps_asg (pv 0) (pg_tup (n := 3) (by rfl) (pgs_cons (pg_name (i := 1) sc.nd rfl (Or.inl rfl)) (pgs_cons (pg_name (i := 2) sc.nd rfl (Or.inl rfl)) (pgs_cons (pg_name (i := 3) sc.nd rfl (Or.inl rfl)) pgs_nil))))) (pss_one (ps_if (PW.pt (pw_or (pt_cmpR op_lt (pv 2) pe_int (nomark _)) (pw_or1 (pt_cmpR op_ge (pv 2) (pv 3) (nomark _))))) (pss_one (ps_raise rfl (takes_of rfl rfl rfl rfl) (SkE.pmk_own1 PySem.F.excBase_ValueError T.e_ground.ex T.e_ground.g T.e_ground.kp T.e_ground.raises (by rfl) (pv 1)))) pss_nil))), ?_⟩
    have g0 : Step [] c0 H0 c0 H0 := Step.refl wf0
    unfold m_check_row at k
    refine seq_u ?_
    refine asg_u ?_
    refine Pv.go (pv_v rfl) ?_
    obtain ⟨ad1, u2, u3, u4, e9, rd8, h5, h6, h7⟩ := open3 h0
    subst e9
    refine gtup_u rd8 rfl ?_
    obtain ⟨h5, h5s⟩ := h5
    subst h5
    refine gcons_u ?_
    refine gname_u ?_
    have h6 : u3 = (V.int a0.2.1) := h6
    subst h6
    refine gcons_u ?_
    refine gname_u ?_
    have h7 : u4 = (V.int a0.2.2) := h7
    subst h7
    refine gcons_u ?_
    refine gname_u ?_
    refine gnil_u ?_
    refine nx_go ?_
    refine PvT.ifS (b := ((decide (a0.2.1 < (0 : Int))) || (decide (a0.2.2 ≤ a0.2.1)))) ?_ (fun b10 => ?_) (fun b10 => ?_)
    · exact (show PvT _ _ _ ((decide (a0.2.1 < (0 : Int))) || (decide (a0.2.2 ≤ a0.2.1))) from (pt_or (pt_t (pv_2 (pv_v rfl) pv_c rv_i)) (fun _ => (pt_t (pv_2 (pv_v rfl) (pv_v rfl) rv_i)))))
    · have k := k.brT b10
      refine (pv_v rfl) _ ?_
      exact k.fail g0
    · rw [brF_eq b10] at k
      refine next_u ?_
      refine nx_go ?_
      exact (k.done g0) _ rfl
def sp_normal (K : PySem.W.Frag) (ea : Err → Addr) : Sp := fun vs H Q E => ∃ (c : Cl) (w0 : V) (a0 : List (PySem.Str × Int × Int)), vs = [w0] ∧ Wf c H ∧ rP (tyT3 tyS tyI tyI) c H w0 a0 ∧ Kont (fun y c' H' => ∀ v, rO (tyT3 tyS tyI tyI) H c' H' v y → Q v H') (fun e _ H' => E (.ref (ea e)) none H') [] c H (m_normal a0)
theorem ok_normal {P : Program} {w : World} {K : PySem.W.Frag} {mg : Str → Option Value} {base : Heap} {a : Ad} (T : Txt K mg a) (G_check_row : FnOk P w K mg base (L2.CX P w) 1 a.check_row a.check_row_fd ["row"] (sp_check_row K a.ea)) : FnOk P w K mg base (L2.CX P w) 2 a.normal a.normal_fd ["rows"] (sp_normal K a.ea) := by
  have sc : FnScope ["rows", "row", "ground", "piece", "begin", "end"] ["rows"] (defScope s_normal) := ⟨rfl, rfl, rfl, by decide +kernel, rfl, by decide +kernel, by decide +kernel⟩
  refine T.normal.F.okX sc (fun vs H Q E h => ?_) (fun cdv A outer s H0 vs Q E hr h => ?_)
  · obtain ⟨_, _, _, rfl, _⟩ := h
    rfl
  · obtain ⟨c0, w0, a0, rfl, wf0, h0, k⟩ := h
    refine ⟨_, (pss_cons (ps_for (passes_of rfl) rfl (pi_list (pv 0)) (pg_name (i := 1) sc.nd rfl (Or.inl rfl)) (pss_one (ps_expr (pe_call G_check_row hr (by rfl) T.check_row.g T.check_row.F.kp T.check_row.b .nil (passes_call (takes_of rfl rfl rfl rfl) (fun _ _ _ _ h => h)) (pa_cons (pv 1) pa_nil))))) (pss_cons (ps_set (i := 2) sc.nd rfl (Or.inl rfl) (pe_lst pa_nil)) (pss_cons (ps_for (passes_of rfl) rfl (pi_list (pe_callB cr_sortT (by rfl) T.b_sorted (by decide +kernel) (pa_cons (pv 0) pa_nil))) (pg_tup (n := 3) (by rfl) (pgs_cons (pg_name (i := 3) sc.nd rfl (Or.inl rfl)) (pgs_cons (pg_name (i := 4) sc.nd rfl (Or.inl rfl)) (pgs_cons (pg_name (i := 5) sc.nd rfl (Or.inl rfl)) pgs_nil)))) (pss_one (ps_if (PW.pt (pw_and (pt_truth (pv 2) (by intro _; rfl)) (pw_and (pt_cmpR op_eq (pe_ix ix_tup (pe_ix ix_list (pv 2) (pe_un un_neg pe_int) (fun _ _ => rfl)) pe_int (fun _ _ => rfl)) (pv 3) (nomark _)) (pw_and1 (pt_cmpR op_le (pv 4) (pe_ix ix_tup (pe_ix ix_list (pv 2) (pe_un un_neg pe_int) (fun _ _ => rfl)) pe_int (fun _ _ => rfl)) (nomark _)))))) (pss_one (ps_asg (pe_tup (pa_cons (pv 3) (pa_cons (pe_ix ix_tup (pe_ix ix_list (pv 2) (pe_un un_neg pe_int) (fun _ _ => rfl)) pe_int (fun _ _ => rfl)) (pa_cons (pe_callB (call_max2 rfl) (by rfl) T.b_max (by decide +kernel) (pa_cons (pv 5) (pa_cons (pe_ix ix_tup (pe_ix ix_list (pv 2) (pe_un un_neg pe_int) (fun _ _ => rfl)) pe_int (fun _ _ => rfl)) pa_nil))) pa_nil)))) (pg_sub (pv 2) (pe_un un_neg pe_int) set_list))) (pss_one (ps_expr (pe_bm PySem.F.plainAttrs_list PySem.F.slot_list_append PySem.F.type_list_append mt_append (pv 2) (pa_cons (pe_tup (pa_cons (pv 3) (pa_cons (pv 4) (pa_cons (pv 5) pa_nil)))) pa_nil))))))) (pss_one (ps_ret (pv 2)))))), ?_⟩
    have g0 : Step [] c0 H0 c0 H0 := Step.refl wf0
    unfold m_normal at k
    refine seq_u ?_
    refine for_u ?_
    refine ilist_u ?_
    refine Pv.go (pv_v rfl) ?_
    obtain ⟨ad1, us2, e4, h3⟩ := rB_open h0.b
    subst e4
    refine ilist_e ((h3.at g0).rd) ?_
    refine for_n (A := (tyT3 tyS tyI tyI)) (a := ad1) (us := us2) (s0 := (() : Unit)) k (fun (s5 : Unit) (c : Cl) (H : Hp) (σ : L2.St) => ∃ (y6 : Option V), σ = [some (V.ref ad1), y6, none, none, none, none] ∧ Step [] c0 H0 c H) ⟨_, rfl, g0⟩ ?_ ?_ ?_
    · exact fun s c H σ ⟨y6, _, g⟩ => ⟨(h3.at g).rd, (h3.at g).rs⟩
    · intro s5 x7 v8 c10 H11 σ N i h9 k
      obtain ⟨y6, rfl, g12⟩ := i
      refine gname_u ?_
      refine drop_u ?_
      refine call_u ?_
      refine PvA.go (pa_c (pv_v rfl) pa_n) ?_
      refine ⟨c10, _, x7, rfl, g12.wf, h9, ?_⟩
      refine Kont.call k g12 (fun _ z => by cases z) (fun y13 e14 k c15 H16 st17 g18 v19 r20 => ?_) (fun e e14 c15 H16 st17 g18 pe => ?_)
      rotate_left
      · exact pe
      have r20 : v19 = V.non := r20
      subst r20
      have h9 := lift h9 st17
      refine nx_go ?_
      exact (k.done g18) _ ⟨_, rfl, g18⟩
    · intro s5 c21 H22 σ i k
      obtain ⟨y6, rfl, g23⟩ := i
      refine nx_go ?_
      refine seq_u ?_
      refine asg_u ?_
      refine lst_u ?_
      refine PvA.go pa_n ?_
      refine lst_end (Nat.le_of_ble_eq_true rfl) g23.wf fun p24 c25 H26 st27 cp28 ob29 np30 => ?_
      have w32 := g23.fresh np30
      have g33 := g23.tr0 st27
      have o31 : Own (tyT3 tyS tyI tyI) H0 c25 H26 p24 [] ([] : List (PySem.Str × Int × Int)) := ⟨cp28, ob29, trivial, w32⟩
      refine gname_u ?_
      refine nx_go ?_
      refine seq_u ?_
      refine for_u ?_
      refine ilist_u ?_
      refine cb_u ?_
      refine PvA.go (pa_c (pv_v rfl) pa_n) ?_
      refine sorted_end (H0 := H0) sk_SII (g33.pl0 h0).b g33.wf (fun _ n => g33.fresh n) fun p34 us35 c36 H37 o39_n st38 o39 => ?_
      have n40 : p24 ≠ p34 := ne_of_none o31.obj o39_n
      have g41 := g33.tr0 st38
      have o31 := o31.step0 st38
      refine ilist_e ((.inl (.inl o39.obj))) ?_
      refine for_n (A := (tyT3 tyS tyI tyI)) (a := p34) (us := us35) (s0 := ((([] : List (PySem.Str × Int × Int))) : List (PySem.Str × Int × Int))) k (fun (s42 : List (PySem.Str × Int × Int)) (c : Cl) (H : Hp) (σ : L2.St) => ∃ (us43 : List V) (y44 : Option V) (y45 : Option V) (y46 : Option V), σ = [some (V.ref ad1), y6, some (V.ref p24), y44, y45, y46] ∧ Step [] c0 H0 c H ∧ Own (tyT3 tyS tyI tyI) H0 c H p24 us43 s42 ∧ Own (tyT3 tyS tyI tyI) H0 c H p34 us35 (sortK keySII a0)) ⟨_, _, _, _, rfl, g41, o31, o39⟩ ?_ ?_ ?_
      · exact fun s c H σ ⟨us43, y44, y45, y46, _, g, _, hit⟩ => ⟨.inl (.inl hit.obj), hit.rs⟩
      · intro s42 x47 v48 c50 H51 σ N i h49 k
        obtain ⟨us43, y44, y45, y46, rfl, g52, o53, o39⟩ := i
        obtain ⟨ad54, u55, u56, u57, e62, rd61, h58, h59, h60⟩ := open3 h49
        subst e62
        refine gtup_u rd61 rfl ?_
        obtain ⟨h58, h58s⟩ := h58
        subst h58
        refine gcons_u ?_
        refine gname_u ?_
        have h59 : u56 = (V.int x47.2.1) := h59
        subst h59
        refine gcons_u ?_
        refine gname_u ?_
        have h60 : u57 = (V.int x47.2.2) := h60
        subst h60
        refine gcons_u ?_
        refine gname_u ?_
        refine gnil_u ?_
        refine if_cut k (fun (s63 : List (PySem.Str × Int × Int)) (c : Cl) (H : Hp) (σ : L2.St) => ∃ (us64 : List V), σ = [some (V.ref ad1), y6, some (V.ref p24), some (V.str x47.1), some (V.int x47.2.1), some (V.int x47.2.2)] ∧ Step [] c0 H0 c H ∧ Own (tyT3 tyS tyI tyI) H0 c H p24 us64 s63 ∧ Own (tyT3 tyS tyI tyI) H0 c H p34 us35 (sortK keySII a0)) ?_ ?_
        rotate_left
        · intro k
          obtain ⟨b101, e102, k⟩ := k.bindP (ne_andN ne_ok (ne_andN (ne_opt fun _ => ne_ok) (ne_opt fun _ => ne_ok)))
          refine PvT.ifS (b := b101) ?_ (fun b103 => ?_) (fun b103 => ?_)
          · exact (show PvT _ _ _ b101 from (pt_andN e102 (fun _ h => (by have h := h; exact PvT.is (pt_list o53.b (pv_v rfl)) (Res.ok.inj h))) (fun _ h => (pt_andN h (fun _ h => (by have h := h; obtain ⟨x88, e89, h⟩ := opt_inv h; obtain ⟨u85, h86, q87⟩ := rv_ixB o53.b e89; obtain ⟨u90, h91, q92⟩ := ix3_0 h86; obtain ⟨h91, h91s⟩ := h91; subst h91; exact PvT.is (pt_t (pv_2 (pv_2 (pv_2 (pv_v rfl) (pv_neg pv_c) (q87)) pv_c (q92)) (pv_v rfl) rv_eqs)) (Res.ok.inj h))) (fun _ h => (by have h := h; obtain ⟨x96, e97, h⟩ := opt_inv h; obtain ⟨u93, h94, q95⟩ := rv_ixB o53.b e97; obtain ⟨u98, h99, q100⟩ := ix3_2 h94; have h99 : u98 = (V.int x96.2.2) := h99; subst h99; exact PvT.is (pt_t (pv_2 (pv_v rfl) (pv_2 (pv_2 (pv_v rfl) (pv_neg pv_c) (q95)) pv_c (q100)) rv_i)) (Res.ok.inj h)))))))
          · have k := k.brT b103
            refine asg_u ?_
            refine tup_u ?_
            obtain ⟨x107, e108, k⟩ := k.opt
            obtain ⟨u104, h105, q106⟩ := rv_ixB o53.b e108
            obtain ⟨u109, h110, q111⟩ := ix3_1 h105
            have h110 : u109 = (V.int x107.2.1) := h110
            subst h110
            obtain ⟨x115, e116, k⟩ := k.opt
            obtain ⟨u112, h113, q114⟩ := rv_ixB o53.b e116
            obtain ⟨u117, h118, q119⟩ := ix3_2 h113
            have h118 : u117 = (V.int x115.2.2) := h118
            subst h118
            refine PvA.go (pa_c (pv_v rfl) (pa_c (pv_2 (pv_2 (pv_v rfl) (pv_neg pv_c) (q106)) pv_c (q111)) (pa_c (pv_cb (pa_c (pv_v rfl) (pa_c (pv_2 (pv_2 (pv_v rfl) (pv_neg pv_c) (q114)) pv_c (q119)) pa_n)) rc_max) pa_n))) ?_
            refine tup_end (Nat.le_of_ble_eq_true rfl) g52.wf fun p120 c121 H122 st123 cp124 rd125 np126 => ?_
            have n128 : p24 ≠ p120 := ne_of_none o53.obj np126
            have n129 : p34 ≠ p120 := ne_of_none o39.obj np126
            have g130 := g52.tr0 st123
            have o53 := o53.step0 st123
            have o39 := o39.step0 st123
            have h127 : (tyT3 tyS tyI tyI).r c121 H122 (V.ref p120) (x47.1, x107.2.1, (if x115.2.2 > x47.2.2 then x115.2.2 else x47.2.2)) := ⟨p120, _, _, _, rfl, cp124, rd125, ⟨rfl, h58s⟩, rfl, rfl⟩
            refine gsub_u ?_
            refine Pv.go (pv_v rfl) ?_
            refine Pv.go (pv_neg pv_c) ?_
            obtain ⟨j131, e132, k⟩ := k.opt
            refine set_end o53 g130.wf h127 e132 fun H133 st134 o135 => ?_
            have g136 := g130.tr1 st134 (.inr o135.new)
            have o39 := o39.step1 st134 (Ne.symm n40)
            exact k.done g136 _ ⟨_, rfl, g136, o135, o39⟩
          · rw [brF_eq b103] at k
            refine drop_u ?_
            refine bm_u ?_
            refine Pv.go (pv_v rfl) ?_
            refine ⟨ty_list (.inl o53.obj), ?_⟩
            refine cons_u ?_
            refine tup_u ?_
            refine PvA.go (pa_c (pv_v rfl) (pa_c (pv_v rfl) (pa_c (pv_v rfl) pa_n))) ?_
            refine tup_end (Nat.le_of_ble_eq_true rfl) g52.wf fun p137 c138 H139 st140 cp141 rd142 np143 => ?_
            have n145 : p24 ≠ p137 := ne_of_none o53.obj np143
            have n146 : p34 ≠ p137 := ne_of_none o39.obj np143
            have g147 := g52.tr0 st140
            have o53 := o53.step0 st140
            have o39 := o39.step0 st140
            have h144 : (tyT3 tyS tyI tyI).r c138 H139 (V.ref p137) (x47.1, x47.2.1, x47.2.2) := ⟨p137, _, _, _, rfl, cp141, rd142, ⟨rfl, h58s⟩, rfl, rfl⟩
            refine nil_u ?_
            obtain ⟨e148, k⟩ := k.chk
            refine append_end o53 g147.wf h144 (of_decide_eq_true e148) fun H149 st150 o151 => ?_
            have g152 := g147.tr1 st150 (.inr o151.new)
            have o39 := o39.step1 st150 (Ne.symm n40)
            exact k.done g152 _ ⟨_, rfl, g152, o151, o39⟩
        · intro s63 c65 H66 σ i k
          obtain ⟨us64, rfl, g67, o68, o39⟩ := i
          refine nx_go ?_
          exact (k.done g67) _ ⟨_, _, _, _, rfl, g67, o68, o39⟩
      · intro s42 c153 H154 σ i k
        obtain ⟨us43, y44, y45, y46, rfl, g155, o156, o39⟩ := i
        refine nx_go ?_
        refine ret_u ?_
        refine Pv.go (pv_v rfl) ?_
        exact (k.done g155) _ ⟨_, _, rfl, o156⟩
def sp_size (K : PySem.W.Frag) (ea : Err → Addr) : Sp := fun vs H Q E => ∃ (c : Cl) (w0 : V) (a0 : List (PySem.Str × Int × Int)), vs = [w0] ∧ Wf c H ∧ rP (tyT3 tyS tyI tyI) c H w0 a0 ∧ Kont (fun y c' H' => ∀ v, tyI.r c' H' v y → Q v H') (fun _ _ _ => False) [] c H (m_size a0)
theorem ok_size {P : Program} {w : World} {K : PySem.W.Frag} {mg : Str → Option Value} {base : Heap} {a : Ad} (T : Txt K mg a) : FnOk P w K mg base CX0 1 a.size a.size_fd ["ground"] (sp_size K a.ea) := by
  have sc : FnScope ["ground", "piece", "begin", "end"] ["ground"] (defScope s_size) := ⟨rfl, rfl, rfl, by decide +kernel, rfl, by decide +kernel, by decide +kernel⟩
  refine T.size.F.ok sc (fun vs H Q E h => ?_) (fun cdv A outer s H0 vs Q E hr h => ?_)
  · obtain ⟨_, _, _, rfl, _⟩ := h
    rfl
  · obtain ⟨c0, w0, a0, rfl, wf0, h0, k⟩ := h
    refine ⟨_, (pss_one (ps_ret (pe_callB (cr_sum (by rfl)) (by rfl) T.b_sum (by decide +kernel) (pa_cons (pe_lc (by rfl) sc.nd (pi_list (pv 0)) (blkOk_by (own := [("piece", 1), ("begin", 2), ("end", 3)]) (N := ["ground", "piece", "begin", "end"]) (sc := defScope s_size) (by decide +kernel)) (fun _ _ _ _ _ => (pg_tupK (K := K) (n := 3) (by rfl) (by rfl) (pgs_cons (pg_name (i := 1) sc.nd rfl (Or.inl rfl)) (pgs_cons (pg_name (i := 2) sc.nd rfl (Or.inl rfl)) (pgs_cons (pg_name (i := 3) sc.nd rfl (Or.inl rfl)) pgs_nil))))) (fun _ _ _ _ _ => pts_nil) (fun _ _ _ _ _ => (pe_op op_sub (pv 3) (pv 2)))) pa_nil)))), ?_⟩
    have g0 : Step [] c0 H0 c0 H0 := Step.refl wf0
    unfold m_size at k
    refine ret_u ?_
    refine cb_u ?_
    refine cons_u ?_
    refine lc_u ?_
    refine ilist_u ?_
    refine Pv.go (pv_v rfl) ?_
    obtain ⟨ad1, us2, e4, h3⟩ := rB_open h0.b
    subst e4
    refine ilist_e ((h3.at g0).rd) ?_
    obtain ⟨e5, k⟩ := k.chk
    refine comp_pB (A := (tyT3 tyS tyI tyI)) (B := tyI) (xs := a0) k g0 e5 (fun ci Hi st => pit_l (h3.at (g0.tr0 st)).rd (h3.at (g0.tr0 st)).rs) ?_ ?_
    · intro x6 v7 c9 H10 Qe Qn st11 gi_ h8 k
      have h13 := gi_.pl0 h0
      have h14 := h3.at gi_
      have g12 : Step [] c9 H10 c9 H10 := Step.refl gi_.wf
      obtain ⟨ad15, u16, u17, u18, e23, rd22, h19, h20, h21⟩ := open3 h8
      subst e23
      refine gtup_u rd22 rfl ?_
      obtain ⟨h19, h19s⟩ := h19
      subst h19
      refine gcons_u ?_
      refine gname_u ?_
      have h20 : u17 = (V.int x6.2.1) := h20
      subst h20
      refine gcons_u ?_
      refine gname_u ?_
      have h21 : u18 = (V.int x6.2.2) := h21
      subst h21
      refine gcons_u ?_
      refine gname_u ?_
      refine gnil_u ?_
      refine ⟨rfl, yes_u ?_⟩
      refine Pv.go (pv_2 (pv_v rfl) (pv_v rfl) rv_i) ?_
      exact (k.done g12) _ rfl
    intro y24 p25 us26 c27 H28 o30_n st29 o30 k
    have g31 := g0.tr0 st29
    refine nil_u ?_
    refine sum_end o30.b ?_
    exact (k.done g31) _ rfl
def sp_has (K : PySem.W.Frag) (ea : Err → Addr) : Sp := fun vs H Q E => ∃ (c : Cl) (w0 : V) (a0 : List (PySem.Str × Int × Int)) (w1 : V) (a1 : PySem.Str) (w2 : V) (a2 : Int), vs = [w0, w1, w2] ∧ Wf c H ∧ rP (tyT3 tyS tyI tyI) c H w0 a0 ∧ tyS.r c H w1 a1 ∧ tyI.r c H w2 a2 ∧ Kont (fun y c' H' => ∀ v, tyB.r c' H' v y → Q v H') (fun _ _ _ => False) [] c H (m_has a0 a1 a2)
theorem ok_has {P : Program} {w : World} {K : PySem.W.Frag} {mg : Str → Option Value} {base : Heap} {a : Ad} (T : Txt K mg a) : FnOk P w K mg base CX0 1 a.has a.has_fd ["ground", "piece", "k"] (sp_has K a.ea) := by
  have sc : FnScope ["ground", "piece", "k", "other", "begin", "end"] ["ground", "piece", "k"] (defScope s_has) := ⟨rfl, rfl, rfl, by decide +kernel, rfl, by decide +kernel, by decide +kernel⟩
  refine T.has.F.ok sc (fun vs H Q E h => ?_) (fun cdv A outer s H0 vs Q E hr h => ?_)
  · obtain ⟨_, _, _, _, _, _, _, rfl, _⟩ := h
    rfl
  · obtain ⟨c0, w0, a0, w1, a1, w2, a2, rfl, wf0, h0, h1, h2, k⟩ := h
    refine ⟨_, (pss_cons (ps_for PassesOwn.never rfl (pi_list (pv 0)) (pg_tup (n := 3) (by rfl) (pgs_cons (pg_name (i := 3) sc.nd rfl (Or.inl rfl)) (pgs_cons (pg_name (i := 4) sc.nd rfl (Or.inl rfl)) (pgs_cons (pg_name (i := 5) sc.nd rfl (Or.inl rfl)) pgs_nil)))) (pss_one (ps_if (PW.pt (pw_and (pt_cmpR op_eq (pv 3) (pv 1) (nomark _)) (pw_and1 (pt_chain op_le op_lt (pv 4) (pv 2) (pv 5))))) (pss_one (ps_ret pe_bl)) pss_nil))) (pss_one (ps_ret pe_bl))), ?_⟩
    obtain ⟨h1, h1s⟩ := h1
    subst h1
    have h2 : w2 = (V.int a2) := h2
    subst h2
    have g0 : Step [] c0 H0 c0 H0 := Step.refl wf0
    unfold m_has at k
    refine seq_u ?_
    refine for_u ?_
    refine ilist_u ?_
    refine Pv.go (pv_v rfl) ?_
    obtain ⟨ad1, us2, e4, h3⟩ := rB_open h0.b
    subst e4
    refine ilist_e ((h3.at g0).rd) ?_
    refine for_r (A := (tyT3 tyS tyI tyI)) (a := ad1) (us := us2) (s0 := (() : Unit)) (Rr := tyB.r) k (fun (s5 : Unit) (c : Cl) (H : Hp) (σ : L2.St) => ∃ (y6 : Option V) (y7 : Option V) (y8 : Option V), σ = [some (V.ref ad1), some (V.str a1), some (V.int a2), y6, y7, y8] ∧ Step [] c0 H0 c H) ⟨_, _, _, rfl, g0⟩ ?_ ?_ (fun r k c H g v hv => (k.done g) v hv) ?_
    · exact fun s c H σ ⟨y6, y7, y8, _, g⟩ => ⟨(h3.at g).rd, (h3.at g).rs⟩
    · intro s5 x9 v10 c12 H13 σ N i h11 k
      obtain ⟨y6, y7, y8, rfl, g14⟩ := i
      obtain ⟨ad15, u16, u17, u18, e23, rd22, h19, h20, h21⟩ := open3 h11
      subst e23
      refine gtup_u rd22 rfl ?_
      obtain ⟨h19, h19s⟩ := h19
      subst h19
      refine gcons_u ?_
      refine gname_u ?_
      have h20 : u17 = (V.int x9.2.1) := h20
      subst h20
      refine gcons_u ?_
      refine gname_u ?_
      have h21 : u18 = (V.int x9.2.2) := h21
      subst h21
      refine gcons_u ?_
      refine gname_u ?_
      refine gnil_u ?_
      refine PvT.ifS (b := ((decide (x9.1 = a1)) && ((decide (x9.2.1 ≤ a2)) && (decide (a2 < x9.2.2))))) ?_ (fun b24 => ?_) (fun b24 => ?_)
      · exact (show PvT _ _ _ ((decide (x9.1 = a1)) && ((decide (x9.2.1 ≤ a2)) && (decide (a2 < x9.2.2)))) from (pt_and (pt_t (pv_2 (pv_v rfl) (pv_v rfl) rv_eqs)) (fun _ => (pt_t (pv_ch (pv_v rfl) (pv_v rfl) rv_i (fun _ => (pv_v rfl)) (fun _ => rv_i))))))
      · have k := k.brT b24
        refine ret_u ?_
        refine Pv.go pv_c ?_
        exact (k.done g14) _ rfl
      · rw [brF_eq b24] at k
        refine next_u ?_
        refine nx_go ?_
        exact (k.done g14) _ ⟨_, _, _, rfl, g14⟩
    · intro s5 c25 H26 σ i k
      obtain ⟨y6, y7, y8, rfl, g27⟩ := i
      refine nx_go ?_
      refine ret_u ?_
      refine Pv.go pv_c ?_
      exact (k.done g27) _ rfl
def sp_law_cell (K : PySem.W.Frag) (ea : Err → Addr) : Sp := fun vs H Q E => ∃ (c : Cl) (w0 : V) (a0 : List Int) (w1 : V) (a1 : Int), vs = [w0, w1] ∧ Wf c H ∧ rB K tyI c H w0 a0 ∧ tyI.r c H w1 a1 ∧ Kont (fun y c' H' => ∀ v, tyI.r c' H' v y → Q v H') (fun _ _ _ => False) [] c H (m_law_cell a0 a1)
theorem ok_law_cell {P : Program} {w : World} {K : PySem.W.Frag} {mg : Str → Option Value} {base : Heap} {a : Ad} (T : Txt K mg a) : FnOk P w K mg base CX0 1 a.law_cell a.law_cell_fd ["_law_script", "_law_k"] (sp_law_cell K a.ea) := by
  have sc : FnScope ["_law_script", "_law_k"] ["_law_script", "_law_k"] (defScope s_law_cell) := ⟨rfl, rfl, rfl, by decide +kernel, rfl, by decide +kernel, by decide +kernel⟩
  refine T.law_cell.F.ok sc (fun vs H Q E h => ?_) (fun cdv A outer s H0 vs Q E hr h => ?_)
  · obtain ⟨_, _, _, _, _, rfl, _⟩ := h
    rfl
  · obtain ⟨c0, w0, a0, w1, a1, rfl, wf0, h0, h1, k⟩ := h
    refine ⟨_, (pss_cons (ps_if (pt_cmpR op_lt (pv 1) (pe_callB call_len_seq (by rfl) T.b_len PySem.boot_len (pa_cons (pv 0) pa_nil)) (nomark _)) (pss_one (ps_ret (pe_callTy call_int1 (by rfl) T.b_int (by decide +kernel) (pa_cons (pe_ix ix_list (pv 0) (pv 1) (fun _ _ => rfl)) pa_nil)))) pss_nil) (pss_one (ps_ret (pe_op op_mulW pe_int (pv 1))))), ?_⟩
    have h1 : w1 = (V.int a1) := h1
    subst h1
    have g0 : Step [] c0 H0 c0 H0 := Step.refl wf0
    unfold m_law_cell at k
    refine seq_u ?_
    refine PvT.ifS (b := (decide (a1 < (a0.length : Int)))) ?_ (fun b1 => ?_) (fun b1 => ?_)
    · exact (show PvT _ _ _ (decide (a1 < (a0.length : Int))) from (pt_t (pv_2 (pv_v rfl) (len_B (g0.b0 h0) (pv_v rfl)) rv_i)))
    · have k := k.brT b1
      refine ret_u ?_
      obtain ⟨x5, e6, k⟩ := k.opt
      obtain ⟨u2, h3, q4⟩ := rv_ixB (g0.b0 h0) e6
      have h3 : u2 = (V.int x5) := h3
      subst h3
      refine Pv.go (pv_cb (pa_c (pv_2 (pv_v rfl) (pv_v rfl) (q4)) pa_n) rc_int) ?_
      exact (k.done g0) _ rfl
    · rw [brF_eq b1] at k
      refine next_u ?_
      refine nx_go ?_
      refine ret_u ?_
      obtain ⟨e7, k⟩ := k.chk
      refine Pv.go (pv_2 pv_c (pv_v rfl) (rv_mul e7)) ?_
      exact (k.done g0) _ rfl
def sp_law_pieces (K : PySem.W.Frag) (ea : Err → Addr) : Sp := fun vs H Q E => ∃ (c : Cl) (w0 : V) (a0 : Int), vs = [w0] ∧ Wf c H ∧ tyI.r c H w0 a0 ∧ Kont (fun y c' H' => ∀ v, rO tyS H c' H' v y → Q v H') (fun _ _ _ => False) [] c H (m_law_pieces a0)
theorem ok_law_pieces {P : Program} {w : World} {K : PySem.W.Frag} {mg : Str → Option Value} {base : Heap} {a : Ad} (T : Txt K mg a) : FnOk P w K mg base CX0 1 a.law_pieces a.law_pieces_fd ["_law_cell_here"] (sp_law_pieces K a.ea) := by
  have sc : FnScope ["_law_cell_here", "_law_base", "_law_at", "_law_sign"] ["_law_cell_here"] (defScope s_law_pieces) := ⟨rfl, rfl, rfl, by decide +kernel, rfl, by decide +kernel, by decide +kernel⟩
  refine T.law_pieces.F.ok sc (fun vs H Q E h => ?_) (fun cdv A outer s H0 vs Q E hr h => ?_)
  · obtain ⟨_, _, _, rfl, _⟩ := h
    rfl
  · obtain ⟨c0, w0, a0, rfl, wf0, h0, k⟩ := h
    refine ⟨_, (pss_cons (ps_if (pt_cmpR op_ne (pe_op op_mod (pv 0) pe_int) pe_int (nomark _)) (pss_one (ps_ret (pe_lst (pa_cons pe_str (pa_cons pe_str (pa_cons pe_str (pa_cons pe_str pa_nil))))))) pss_nil) (pss_cons (ps_set (i := 1) sc.nd rfl (Or.inr rfl) (pe_slice sl_str pe_str po_none (po_some (pe_op op_add pe_int (pe_op op_mod (pe_op op_fdiv (pv 0) pe_int) pe_int))))) (pss_cons (ps_set (i := 2) sc.nd rfl (Or.inr rfl) (pe_op op_mod (pe_op op_fdiv (pv 0) pe_int) (pe_callB call_len_str (by rfl) T.b_len PySem.boot_len (pa_cons (pv 1) pa_nil)))) (pss_one (ps_ret (pe_op op_cat (pe_lst (pa_cons (pv 1) pa_nil)) (pe_lc (by rfl) sc.nd (pi_str pe_str) (blkOk_by (own := [("_law_sign", 3)]) (N := ["_law_cell_here", "_law_base", "_law_at", "_law_sign"]) (sc := defScope s_law_pieces) (by decide +kernel)) (fun _ _ _ _ _ => (pg_name (i := 3) sc.nd rfl (Or.inl rfl))) (fun _ _ _ _ _ => pts_nil) (fun _ _ _ _ _ => (pe_op op_add_str (pe_op op_add_str (pe_slice sl_str (pv 1) po_none (po_some (pv 2))) (pv 3)) (pe_slice sl_str (pv 1) (po_some (pe_op op_add (pv 2) pe_int)) po_none)))))))))), ?_⟩
    have h0 : w0 = (V.int a0) := h0
    subst h0
    have g0 : Step [] c0 H0 c0 H0 := Step.refl wf0
    unfold m_law_pieces at k
    refine seq_u ?_
    refine PvT.ifS (b := (!decide ((a0 % (3 : Int)) = (1 : Int)))) ?_ (fun b1 => ?_) (fun b1 => ?_)
    · exact (show PvT _ _ _ (!decide ((a0 % (3 : Int)) = (1 : Int))) from (pt_t (pv_2 (pv_2 (pv_v rfl) pv_c (rv_modL (by decide))) pv_c rv_nei)))
    · have k := k.brT b1
      refine ret_u ?_
      refine lst_u ?_
      refine PvA.go (pa_c pv_c (pa_c pv_c (pa_c pv_c (pa_c pv_c pa_n)))) ?_
      refine lst_end (Nat.le_of_ble_eq_true rfl) g0.wf fun p2 c3 H4 st5 cp6 ob7 np8 => ?_
      have w10 := g0.fresh np8
      have g11 := g0.tr0 st5
      have o9 : Own tyS H0 c3 H4 p2 [(V.str ("a" : PySem.Str)), (V.str ("b" : PySem.Str)), (V.str ("a1" : PySem.Str)), (V.str ("main" : PySem.Str))] ([("a" : PySem.Str), ("b" : PySem.Str), ("a1" : PySem.Str), ("main" : PySem.Str)] : List PySem.Str) := ⟨cp6, ob7, ⟨⟨rfl, (show PyData.strOk ("a" : PySem.Str) = true by decide +kernel)⟩, ⟨⟨rfl, (show PyData.strOk ("b" : PySem.Str) = true by decide +kernel)⟩, ⟨⟨rfl, (show PyData.strOk ("a1" : PySem.Str) = true by decide +kernel)⟩, ⟨⟨rfl, (show PyData.strOk ("main" : PySem.Str) = true by decide +kernel)⟩, trivial⟩⟩⟩⟩, w10⟩
      exact (k.done g11) _ ⟨_, _, rfl, o9⟩
    · rw [brF_eq b1] at k
      refine next_u ?_
      refine nx_go ?_
      refine seq_u ?_
      refine asg_u ?_
      obtain ⟨e12, k⟩ := k.chk
      refine Pv.go (sl_s pv_c po_n (po_s (pv_2 pv_c (pv_2 (pv_2 (pv_v rfl) pv_c (rv_divL ⟨by decide, by decide⟩)) pv_c (rv_modL (by decide))) rv_i)) (of_decide_eq_true e12)) ?_
      refine gname_u ?_
      refine nx_go ?_
      refine seq_u ?_
      refine asg_u ?_
      obtain ⟨e13, k⟩ := k.chk
      obtain ⟨e14, k⟩ := k.chk
      refine Pv.go (pv_2 (pv_2 (pv_v rfl) pv_c (rv_divL ⟨by decide, by decide⟩)) (pv_cb (pa_c (pv_v rfl) pa_n) (rc_lens (of_decide_eq_true e13))) (rv_mod e14)) ?_
      refine gname_u ?_
      refine nx_go ?_
      refine ret_u ?_
      refine op_u ?_
      refine lst_u ?_
      refine PvA.go (pa_c (pv_v rfl) pa_n) ?_
      refine lst_end (Nat.le_of_ble_eq_true rfl) g0.wf fun p15 c16 H17 st18 cp19 ob20 np21 => ?_
      have w23 := g0.fresh np21
      have g24 := g0.tr0 st18
      have o22 : Own tyS H0 c16 H17 p15 [(V.str (cutS ("northroadsab" : PySem.Str) none (some ((2 : Int) + ((a0 / (3 : Int)) % (11 : Int))))))] ([(cutS ("northroadsab" : PySem.Str) none (some ((2 : Int) + ((a0 / (3 : Int)) % (11 : Int)))))] : List PySem.Str) := ⟨cp19, ob20, ⟨⟨rfl, (ok_cut (show PyData.strOk ("northroadsab" : PySem.Str) = true by decide +kernel))⟩, trivial⟩, w23⟩
      refine lc_u ?_
      refine istr_u ?_
      refine Pv.go pv_c ?_
      refine istr_e ?_
      obtain ⟨e25, k⟩ := k.chk
      refine comp_pB (A := tyS) (B := tyS) (xs := (signs ("xyz" : PySem.Str))) k g24 e25 (fun _ _ _ => pit_s (show PyData.strOk ("xyz" : PySem.Str) = true by decide +kernel)) ?_ ?_
      · intro x26 v27 c29 H30 Qe Qn st31 gi_ h28 k
        have o22 := o22.step0 st31
        have g32 : Step [] c29 H30 c29 H30 := Step.refl gi_.wf
        obtain ⟨h28, h28s⟩ := h28
        subst h28
        refine gname_u ?_
        refine ⟨rfl, yes_u ?_⟩
        obtain ⟨e33, k⟩ := k.chk
        obtain ⟨e34, k⟩ := k.chk
        obtain ⟨e35, k⟩ := k.chk
        obtain ⟨e36, k⟩ := k.chk
        refine Pv.go (pv_2 (pv_2 (sl_s (pv_v rfl) po_n (po_s (pv_v rfl)) (of_decide_eq_true e33)) (pv_v rfl) (rv_cats (of_decide_eq_true e34))) (sl_s (pv_v rfl) (po_s (pv_2 (pv_v rfl) pv_c rv_i)) po_n (of_decide_eq_true e35)) (rv_cats (of_decide_eq_true e36))) ?_
        exact (k.done g32) _ ⟨rfl, (ok_cat (ok_cat (ok_cut (ok_cut (show PyData.strOk ("northroadsab" : PySem.Str) = true by decide +kernel))) h28s) (ok_cut (ok_cut (show PyData.strOk ("northroadsab" : PySem.Str) = true by decide +kernel))))⟩
      intro y37 p38 us39 c40 H41 o43_n st42 o43 k
      have n44 : p15 ≠ p38 := ne_of_none o22.obj o43_n
      have g45 := g24.tr0 st42
      have o22 := o22.step0 st42
      obtain ⟨e46, k⟩ := k.chk
      refine cat_B (H0 := H0) o22.pl o43.pl g45.wf (fun _ n => g45.fresh n) (of_decide_eq_true e46) fun p47 us48 c49 H50 o52_n st51 o52 => ?_
      have g53 := g45.tr0 st51
      exact (k.done g53) _ ⟨_, _, rfl, o52⟩
def sp_law_rows (K : PySem.W.Frag) (ea : Err → Addr) : Sp := fun vs H Q E => ∃ (c : Cl) (w0 : V) (a0 : List Int) (w1 : V) (a1 : Int) (w2 : V) (a2 : Int), vs = [w0, w1, w2] ∧ Wf c H ∧ rB K tyI c H w0 a0 ∧ tyI.r c H w1 a1 ∧ tyI.r c H w2 a2 ∧ Kont (fun y c' H' => ∀ v, rO (tyT3 tyS tyI tyI) H c' H' v y → Q v H') (fun _ _ _ => False) [] c H (m_law_rows a0 a1 a2)
theorem ok_law_rows {P : Program} {w : World} {K : PySem.W.Frag} {mg : Str → Option Value} {base : Heap} {a : Ad} (T : Txt K mg a) (G_law_cell : FnOk P w K mg base CX0 1 a.law_cell a.law_cell_fd ["_law_script", "_law_k"] (sp_law_cell K a.ea)) (G_law_pieces : FnOk P w K mg base CX0 1 a.law_pieces a.law_pieces_fd ["_law_cell_here"] (sp_law_pieces K a.ea)) : FnOk P w K mg base CX0 2 a.law_rows a.law_rows_fd ["_law_script", "_law_at", "_law_count"] (sp_law_rows K a.ea) := by
  have sc : FnScope ["_law_script", "_law_at", "_law_count", "_law_rows_here", "_law_k", "_law_cell_here", "_law_piece", "_law_begin", "_law_length"] ["_law_script", "_law_at", "_law_count"] (defScope s_law_rows) := ⟨rfl, rfl, rfl, by decide +kernel, rfl, by decide +kernel, by decide +kernel⟩
  refine T.law_rows.F.ok sc (fun vs H Q E h => ?_) (fun cdv A outer s H0 vs Q E hr h => ?_)
  · obtain ⟨_, _, _, _, _, _, _, rfl, _⟩ := h
    rfl
  · obtain ⟨c0, w0, a0, w1, a1, w2, a2, rfl, wf0, h0, h1, h2, k⟩ := h
    refine ⟨_, (pss_cons (ps_set (i := 3) sc.nd rfl (Or.inl rfl) (pe_lst pa_nil)) (pss_cons (ps_for PassesOwn.never rfl (pi_range1 (by rfl) T.b_range (pa_cons (pv 2) pa_nil)) (pg_name (i := 4) sc.nd rfl (Or.inl rfl)) (pss_cons (ps_set (i := 5) sc.nd rfl (Or.inl rfl) (pe_call G_law_cell hr (by rfl) T.law_cell.g T.law_cell.F.kp T.law_cell.b .nil pass0 (pa_cons (pv 0) (pa_cons (pe_op op_add (pv 1) (pv 4)) pa_nil)))) (pss_cons (ps_set (i := 6) sc.nd rfl (Or.inl rfl) (pe_ix ix_list (pe_call G_law_pieces hr (by rfl) T.law_pieces.g T.law_pieces.F.kp T.law_pieces.b .nil pass0 (pa_cons (pe_call G_law_cell hr (by rfl) T.law_cell.g T.law_cell.F.kp T.law_cell.b .nil pass0 (pa_cons (pv 0) (pa_cons pe_int pa_nil))) pa_nil)) (pe_op op_mod (pv 5) pe_int) (fun _ _ => rfl))) (pss_cons (ps_set (i := 7) sc.nd rfl (Or.inl rfl) (pe_op op_mod (pe_op op_fdiv (pv 5) pe_int) (pe_ix ix_list (pe_lst (pa_cons pe_int (pa_cons pe_int (pa_cons pe_int pa_nil)))) (pe_op op_mod (pe_op op_fdiv (pv 5) pe_int) pe_int) (fun _ _ => rfl)))) (pss_cons (ps_set (i := 8) sc.nd rfl (Or.inl rfl) (pe_op op_add pe_int (pe_op op_mod (pe_op op_fdiv (pv 5) pe_int) (pe_ix ix_list (pe_lst (pa_cons pe_int (pa_cons pe_int (pa_cons pe_int pa_nil)))) (pe_op op_mod (pe_op op_fdiv (pv 5) pe_int) pe_int) (fun _ _ => rfl))))) (pss_one (ps_expr (pe_bm PySem.F.plainAttrs_list PySem.F.slot_list_append PySem.F.type_list_append mt_append (pv 3) (pa_cons (pe_tup (pa_cons (pv 6) (pa_cons (pv 7) (pa_cons (pe_op op_add (pv 7) (pv 8)) pa_nil)))) pa_nil))))))))) (pss_one (ps_ret (pv 3))))), ?_⟩
    have h1 : w1 = (V.int a1) := h1
    subst h1
    have h2 : w2 = (V.int a2) := h2
    subst h2
    have g0 : Step [] c0 H0 c0 H0 := Step.refl wf0
    unfold m_law_rows at k
    refine seq_u ?_
    refine asg_u ?_
    refine lst_u ?_
    refine PvA.go pa_n ?_
    refine lst_end (Nat.le_of_ble_eq_true rfl) g0.wf fun p1 c2 H3 st4 cp5 ob6 np7 => ?_
    have w9 := g0.fresh np7
    have g10 := g0.tr0 st4
    have o8 : Own (tyT3 tyS tyI tyI) H0 c2 H3 p1 [] ([] : List (PySem.Str × Int × Int)) := ⟨cp5, ob6, trivial, w9⟩
    refine gname_u ?_
    refine nx_go ?_
    refine seq_u ?_
    refine for_u ?_
    refine irng1_u ?_
    refine PvA.go (pa_c (pv_v rfl) pa_n) ?_
    obtain ⟨e11, k⟩ := k.chk
    refine irng1_e e11 ?_
    refine for_rgn (s0 := ((([] : List (PySem.Str × Int × Int))) : List (PySem.Str × Int × Int))) k (fun (s12 : List (PySem.Str × Int × Int)) (c : Cl) (H : Hp) (σ : L2.St) => ∃ (us13 : List V) (y14 : Option V) (y15 : Option V) (y16 : Option V) (y17 : Option V) (y18 : Option V), σ = [some w0, some (V.int a1), some (V.int a2), some (V.ref p1), y14, y15, y16, y17, y18] ∧ Step [] c0 H0 c H ∧ Own (tyT3 tyS tyI tyI) H0 c H p1 us13 s12) ⟨_, _, _, _, _, _, rfl, g10, o8⟩ ?_ ?_
    · intro s12 x19 c22 H23 σ N i k
      obtain ⟨us13, y14, y15, y16, y17, y18, rfl, g24, o25⟩ := i
      refine gname_u ?_
      refine seq_u ?_
      refine asg_u ?_
      refine call_u ?_
      refine PvA.go (pa_c (pv_v rfl) (pa_c (pv_2 (pv_v rfl) (pv_v rfl) rv_i) pa_n)) ?_
      refine ⟨c22, _, a0, _, (a1 + x19), rfl, g24.wf, (g24.b0 h0), rfl, ?_⟩
      refine Kont.call k g24 (fun _ z => by cases z) (fun y26 e27 k c28 H29 st30 g31 v32 r33 => ?_) (fun _ _ _ _ _ _ z => z)
      have r33 : v32 = (V.int y26) := r33
      subst r33
      have o25 := o25.step0 st30
      refine gname_u ?_
      refine nx_go ?_
      refine seq_u ?_
      refine asg_u ?_
      refine op_u ?_
      refine call_u ?_
      refine cons_u ?_
      refine call_u ?_
      refine PvA.go (pa_c (pv_v rfl) (pa_c pv_c pa_n)) ?_
      refine ⟨c28, _, a0, _, (1 : Int), rfl, g31.wf, (g31.b0 h0), rfl, ?_⟩
      refine Kont.call k g31 (fun _ z => by cases z) (fun y34 e35 k c36 H37 st38 g39 v40 r41 => ?_) (fun _ _ _ _ _ _ z => z)
      have r41 : v40 = (V.int y34) := r41
      subst r41
      have o25 := o25.step0 st38
      refine nil_u ?_
      refine ⟨c36, _, y34, rfl, g39.wf, rfl, ?_⟩
      refine Kont.call k g39 (fun _ z => by cases z) (fun y42 e43 k c44 H45 st46 g47 v48 r49 => ?_) (fun _ _ _ _ _ _ z => z)
      obtain ⟨p50, us51, rfl, r49⟩ := r49
      have n52 : p1 ≠ p50 := ne_of_none o25.obj r49.new
      have r49 := r49.base g39
      have o25 := o25.step0 st46
      refine Pv.go (pv_2 (pv_v rfl) pv_c (rv_modL (by decide))) ?_
      obtain ⟨x56, e57, k⟩ := k.opt
      obtain ⟨u53, h54, q55⟩ := rv_ixB r49.b e57
      obtain ⟨h54, h54s⟩ := h54
      subst h54
      refine q55 _ ?_
      refine gname_u ?_
      refine nx_go ?_
      refine seq_u ?_
      refine asg_u ?_
      refine op_u ?_
      refine Pv.go (pv_2 (pv_v rfl) pv_c (rv_divL ⟨by decide, by decide⟩)) ?_
      refine op_u ?_
      refine lst_u ?_
      refine PvA.go (pa_c pv_c (pa_c pv_c (pa_c pv_c pa_n))) ?_
      refine lst_end (Nat.le_of_ble_eq_true rfl) g47.wf fun p58 c59 H60 st61 cp62 ob63 np64 => ?_
      have n66 : p1 ≠ p58 := ne_of_none o25.obj np64
      have w67 := g47.fresh np64
      have g68 := g47.tr0 st61
      have o25 := o25.step0 st61
      have o65 : Own tyI H0 c59 H60 p58 [(V.int (8 : Int)), (V.int (40 : Int)), (V.int (1000000 : Int))] ([(8 : Int), (40 : Int), (1000000 : Int)] : List Int) := ⟨cp62, ob63, ⟨rfl, ⟨rfl, ⟨rfl, trivial⟩⟩⟩, w67⟩
      refine Pv.go (pv_2 (pv_2 (pv_v rfl) pv_c (rv_divL ⟨by decide, by decide⟩)) pv_c (rv_modL (by decide))) ?_
      obtain ⟨x72, e73, k⟩ := k.opt
      obtain ⟨u69, h70, q71⟩ := rv_ixB o65.b e73
      have h70 : u69 = (V.int x72) := h70
      subst h70
      refine q71 _ ?_
      obtain ⟨e74, k⟩ := k.chk
      refine (rv_mod e74) _ ?_
      refine gname_u ?_
      refine nx_go ?_
      refine seq_u ?_
      refine asg_u ?_
      refine op_u ?_
      refine Pv.go pv_c ?_
      refine op_u ?_
      refine Pv.go (pv_2 (pv_v rfl) pv_c (rv_divL ⟨by decide, by decide⟩)) ?_
      refine op_u ?_
      refine lst_u ?_
      refine PvA.go (pa_c pv_c (pa_c pv_c (pa_c pv_c pa_n))) ?_
      refine lst_end (Nat.le_of_ble_eq_true rfl) g68.wf fun p75 c76 H77 st78 cp79 ob80 np81 => ?_
      have n83 : p1 ≠ p75 := ne_of_none o25.obj np81
      have w84 := g68.fresh np81
      have g85 := g68.tr0 st78
      have o25 := o25.step0 st78
      have o82 : Own tyI H0 c76 H77 p75 [(V.int (4 : Int)), (V.int (20 : Int)), (V.int (1000000 : Int))] ([(4 : Int), (20 : Int), (1000000 : Int)] : List Int) := ⟨cp79, ob80, ⟨rfl, ⟨rfl, ⟨rfl, trivial⟩⟩⟩, w84⟩
      refine Pv.go (pv_2 (pv_2 (pv_v rfl) pv_c (rv_divL ⟨by decide, by decide⟩)) pv_c (rv_modL (by decide))) ?_
      obtain ⟨x89, e90, k⟩ := k.opt
      obtain ⟨u86, h87, q88⟩ := rv_ixB o82.b e90
      have h87 : u86 = (V.int x89) := h87
      subst h87
      refine q88 _ ?_
      obtain ⟨e91, k⟩ := k.chk
      refine (rv_mod e91) _ ?_
      refine rv_i _ ?_
      refine gname_u ?_
      refine nx_go ?_
      refine drop_u ?_
      refine bm_u ?_
      refine Pv.go (pv_v rfl) ?_
      refine ⟨ty_list (.inl o25.obj), ?_⟩
      refine cons_u ?_
      refine tup_u ?_
      refine PvA.go (pa_c (pv_v rfl) (pa_c (pv_v rfl) (pa_c (pv_2 (pv_v rfl) (pv_v rfl) rv_i) pa_n))) ?_
      refine tup_end (Nat.le_of_ble_eq_true rfl) g85.wf fun p92 c93 H94 st95 cp96 rd97 np98 => ?_
      have n100 : p1 ≠ p92 := ne_of_none o25.obj np98
      have g101 := g85.tr0 st95
      have o25 := o25.step0 st95
      have h99 : (tyT3 tyS tyI tyI).r c93 H94 (V.ref p92) (x56, ((y26 / (4 : Int)) % x72), (((y26 / (4 : Int)) % x72) + ((1 : Int) + ((y26 / (31 : Int)) % x89)))) := ⟨p92, _, _, _, rfl, cp96, rd97, ⟨rfl, h54s⟩, rfl, rfl⟩
      refine nil_u ?_
      obtain ⟨e102, k⟩ := k.chk
      refine append_end o25 g101.wf h99 (of_decide_eq_true e102) fun H103 st104 o105 => ?_
      have g106 := g101.tr1 st104 (.inr o105.new)
      refine nx_go ?_
      exact (k.done g106) _ ⟨_, _, _, _, _, _, rfl, g106, o105⟩
    · intro s12 c107 H108 σ i k
      obtain ⟨us13, y14, y15, y16, y17, y18, rfl, g109, o110⟩ := i
      refine nx_go ?_
      refine ret_u ?_
      refine Pv.go (pv_v rfl) ?_
      exact (k.done g109) _ ⟨_, _, rfl, o110⟩
def sp_law_has (K : PySem.W.Frag) (ea : Err → Addr) : Sp := fun vs H Q E => ∃ (c : Cl) (w0 : V) (a0 : List (PySem.Str × Int × Int)) (w1 : V) (a1 : PySem.Str) (w2 : V) (a2 : Int), vs = [w0, w1, w2] ∧ Wf c H ∧ rP (tyT3 tyS tyI tyI) c H w0 a0 ∧ tyS.r c H w1 a1 ∧ tyI.r c H w2 a2 ∧ Kont (fun y c' H' => ∀ v, tyB.r c' H' v y → Q v H') (fun _ _ _ => False) [] c H (m_law_has a0 a1 a2)
theorem ok_law_has {P : Program} {w : World} {K : PySem.W.Frag} {mg : Str → Option Value} {base : Heap} {a : Ad} (T : Txt K mg a) : FnOk P w K mg base CX0 1 a.law_has a.law_has_fd ["_law_rows_here", "_law_piece", "_law_k"] (sp_law_has K a.ea) := by
  have sc : FnScope ["_law_rows_here", "_law_piece", "_law_k", "_law_other", "_law_begin", "_law_end"] ["_law_rows_here", "_law_piece", "_law_k"] (defScope s_law_has) := ⟨rfl, rfl, rfl, by decide +kernel, rfl, by decide +kernel, by decide +kernel⟩
  refine T.law_has.F.ok sc (fun vs H Q E h => ?_) (fun cdv A outer s H0 vs Q E hr h => ?_)
  · obtain ⟨_, _, _, _, _, _, _, rfl, _⟩ := h
    rfl
  · obtain ⟨c0, w0, a0, w1, a1, w2, a2, rfl, wf0, h0, h1, h2, k⟩ := h
    refine ⟨_, (pss_cons (ps_for PassesOwn.never rfl (pi_list (pv 0)) (pg_tup (n := 3) (by rfl) (pgs_cons (pg_name (i := 3) sc.nd rfl (Or.inl rfl)) (pgs_cons (pg_name (i := 4) sc.nd rfl (Or.inl rfl)) (pgs_cons (pg_name (i := 5) sc.nd rfl (Or.inl rfl)) pgs_nil)))) (pss_one (ps_if (PW.pt (pw_and (pt_cmpR op_eq (pv 3) (pv 1) (nomark _)) (pw_and1 (pt_chain op_le op_lt (pv 4) (pv 2) (pv 5))))) (pss_one (ps_ret pe_bl)) pss_nil))) (pss_one (ps_ret pe_bl))), ?_⟩
    obtain ⟨h1, h1s⟩ := h1
    subst h1
    have h2 : w2 = (V.int a2) := h2
    subst h2
    have g0 : Step [] c0 H0 c0 H0 := Step.refl wf0
    unfold m_law_has at k
    refine seq_u ?_
    refine for_u ?_
    refine ilist_u ?_
    refine Pv.go (pv_v rfl) ?_
    obtain ⟨ad1, us2, e4, h3⟩ := rB_open h0.b
    subst e4
    refine ilist_e ((h3.at g0).rd) ?_
    refine for_r (A := (tyT3 tyS tyI tyI)) (a := ad1) (us := us2) (s0 := (() : Unit)) (Rr := tyB.r) k (fun (s5 : Unit) (c : Cl) (H : Hp) (σ : L2.St) => ∃ (y6 : Option V) (y7 : Option V) (y8 : Option V), σ = [some (V.ref ad1), some (V.str a1), some (V.int a2), y6, y7, y8] ∧ Step [] c0 H0 c H) ⟨_, _, _, rfl, g0⟩ ?_ ?_ (fun r k c H g v hv => (k.done g) v hv) ?_
    · exact fun s c H σ ⟨y6, y7, y8, _, g⟩ => ⟨(h3.at g).rd, (h3.at g).rs⟩
    · intro s5 x9 v10 c12 H13 σ N i h11 k
      obtain ⟨y6, y7, y8, rfl, g14⟩ := i
      obtain ⟨ad15, u16, u17, u18, e23, rd22, h19, h20, h21⟩ := open3 h11
      subst e23
      refine gtup_u rd22 rfl ?_
      obtain ⟨h19, h19s⟩ := h19
      subst h19
      refine gcons_u ?_
      refine gname_u ?_
      have h20 : u17 = (V.int x9.2.1) := h20
      subst h20
      refine gcons_u ?_
      refine gname_u ?_
      have h21 : u18 = (V.int x9.2.2) := h21
      subst h21
      refine gcons_u ?_
      refine gname_u ?_
      refine gnil_u ?_
      refine PvT.ifS (b := ((decide (x9.1 = a1)) && ((decide (x9.2.1 ≤ a2)) && (decide (a2 < x9.2.2))))) ?_ (fun b24 => ?_) (fun b24 => ?_)
      · exact (show PvT _ _ _ ((decide (x9.1 = a1)) && ((decide (x9.2.1 ≤ a2)) && (decide (a2 < x9.2.2)))) from (pt_and (pt_t (pv_2 (pv_v rfl) (pv_v rfl) rv_eqs)) (fun _ => (pt_t (pv_ch (pv_v rfl) (pv_v rfl) rv_i (fun _ => (pv_v rfl)) (fun _ => rv_i))))))
      · have k := k.brT b24
        refine ret_u ?_
        refine Pv.go pv_c ?_
        exact (k.done g14) _ rfl
      · rw [brF_eq b24] at k
        refine next_u ?_
        refine nx_go ?_
        exact (k.done g14) _ ⟨_, _, _, rfl, g14⟩
    · intro s5 c25 H26 σ i k
      obtain ⟨y6, y7, y8, rfl, g27⟩ := i
      refine nx_go ?_
      refine ret_u ?_
      refine Pv.go pv_c ?_
      exact (k.done g27) _ rfl
def sp_law_samples (K : PySem.W.Frag) (ea : Err → Addr) : Sp := fun vs H Q E => ∃ (c : Cl) (w0 : V) (a0 : List (PySem.Str × Int × Int)), vs = [w0] ∧ Wf c H ∧ rP (tyT3 tyS tyI tyI) c H w0 a0 ∧ Kont (fun y c' H' => ∀ v, rO (tyT2 tyS tyI) H c' H' v y → Q v H') (fun _ _ _ => False) [] c H (m_law_samples a0)
theorem ok_law_samples {P : Program} {w : World} {K : PySem.W.Frag} {mg : Str → Option Value} {base : Heap} {a : Ad} (T : Txt K mg a) : FnOk P w K mg base CX0 1 a.law_samples a.law_samples_fd ["_law_rows_here"] (sp_law_samples K a.ea) := by
  have sc : FnScope ["_law_rows_here", "_law_cells", "_law_piece", "_law_begin", "_law_end", "_law_k"] ["_law_rows_here"] (defScope s_law_samples) := ⟨rfl, rfl, rfl, by decide +kernel, rfl, by decide +kernel, by decide +kernel⟩
  refine T.law_samples.F.ok sc (fun vs H Q E h => ?_) (fun cdv A outer s H0 vs Q E hr h => ?_)
  · obtain ⟨_, _, _, rfl, _⟩ := h
    rfl
  · obtain ⟨c0, w0, a0, rfl, wf0, h0, k⟩ := h
    refine ⟨_, (pss_cons (ps_set (i := 1) sc.nd rfl (Or.inl rfl) (pe_lst (pa_cons (pe_tup (pa_cons pe_str (pa_cons pe_int pa_nil))) (pa_cons (pe_tup (pa_cons pe_str (pa_cons pe_int pa_nil))) pa_nil)))) (pss_cons (ps_for PassesOwn.never rfl (pi_list (pv 0)) (pg_tup (n := 3) (by rfl) (pgs_cons (pg_name (i := 2) sc.nd rfl (Or.inl rfl)) (pgs_cons (pg_name (i := 3) sc.nd rfl (Or.inl rfl)) (pgs_cons (pg_name (i := 4) sc.nd rfl (Or.inl rfl)) pgs_nil)))) (pss_one (ps_for PassesOwn.never rfl (pi_tup (pe_tup (pa_cons (pe_op op_sub (pv 3) pe_int) (pa_cons (pv 3) (pa_cons (pe_op op_add (pv 3) pe_int) (pa_cons (pe_op op_sub (pv 4) pe_int) (pa_cons (pv 4) pa_nil))))))) (pg_name (i := 5) sc.nd rfl (Or.inl rfl)) (pss_one (ps_if (pt_cmpR op_ge (pv 5) pe_int (nomark _)) (pss_one (ps_expr (pe_bm PySem.F.plainAttrs_list PySem.F.slot_list_append PySem.F.type_list_append mt_append (pv 1) (pa_cons (pe_tup (pa_cons (pv 2) (pa_cons (pv 5) pa_nil))) pa_nil)))) pss_nil))))) (pss_one (ps_ret (pv 1))))), ?_⟩
    have g0 : Step [] c0 H0 c0 H0 := Step.refl wf0
    unfold m_law_samples at k
    refine seq_u ?_
    refine asg_u ?_
    refine lst_u ?_
    refine cons_u ?_
    refine tup_u ?_
    refine PvA.go (pa_c pv_c (pa_c pv_c pa_n)) ?_
    refine tup_end (Nat.le_of_ble_eq_true rfl) g0.wf fun p1 c2 H3 st4 cp5 rd6 np7 => ?_
    have g9 := g0.tr0 st4
    have h8 : (tyT2 tyS tyI).r c2 H3 (V.ref p1) (("a" : PySem.Str), (0 : Int)) := ⟨p1, _, _, rfl, cp5, rd6, ⟨rfl, (show PyData.strOk ("a" : PySem.Str) = true by decide +kernel)⟩, rfl⟩
    refine cons_u ?_
    refine tup_u ?_
    refine PvA.go (pa_c pv_c (pa_c pv_c pa_n)) ?_
    refine tup_end (Nat.le_of_ble_eq_true rfl) g9.wf fun p10 c11 H12 st13 cp14 rd15 np16 => ?_
    have g18 := g9.tr0 st13
    have h8 := lift h8 st13
    have h17 : (tyT2 tyS tyI).r c11 H12 (V.ref p10) (("zz" : PySem.Str), (3 : Int)) := ⟨p10, _, _, rfl, cp14, rd15, ⟨rfl, (show PyData.strOk ("zz" : PySem.Str) = true by decide +kernel)⟩, rfl⟩
    refine nil_u ?_
    refine lst_end (Nat.le_of_ble_eq_true rfl) g18.wf fun p19 c20 H21 st22 cp23 ob24 np25 => ?_
    have w27 := g18.fresh np25
    have g28 := g18.tr0 st22
    have h8 := lift h8 st22
    have h17 := lift h17 st22
    have o26 : Own (tyT2 tyS tyI) H0 c20 H21 p19 [(V.ref p1), (V.ref p10)] ([(("a" : PySem.Str), (0 : Int)), (("zz" : PySem.Str), (3 : Int))] : List (PySem.Str × Int)) := ⟨cp23, ob24, ⟨h8, ⟨h17, trivial⟩⟩, w27⟩
    refine gname_u ?_
    refine nx_go ?_
    refine seq_u ?_
    refine for_u ?_
    refine ilist_u ?_
    refine Pv.go (pv_v rfl) ?_
    obtain ⟨ad29, us30, e32, h31⟩ := rB_open h0.b
    subst e32
    refine ilist_e ((h31.at g28).rd) ?_
    refine for_n (A := (tyT3 tyS tyI tyI)) (a := ad29) (us := us30) (s0 := ((([(("a" : PySem.Str), (0 : Int)), (("zz" : PySem.Str), (3 : Int))] : List (PySem.Str × Int))) : List (PySem.Str × Int))) k (fun (s33 : List (PySem.Str × Int)) (c : Cl) (H : Hp) (σ : L2.St) => ∃ (us34 : List V) (y35 : Option V) (y36 : Option V) (y37 : Option V) (y38 : Option V), σ = [some (V.ref ad29), some (V.ref p19), y35, y36, y37, y38] ∧ Step [] c0 H0 c H ∧ Own (tyT2 tyS tyI) H0 c H p19 us34 s33) ⟨_, _, _, _, _, rfl, g28, o26⟩ ?_ ?_ ?_
    · exact fun s c H σ ⟨us34, y35, y36, y37, y38, _, g, _⟩ => ⟨(h31.at g).rd, (h31.at g).rs⟩
    · intro s33 x39 v40 c42 H43 σ N i h41 k
      obtain ⟨us34, y35, y36, y37, y38, rfl, g44, o45⟩ := i
      obtain ⟨ad46, u47, u48, u49, e54, rd53, h50, h51, h52⟩ := open3 h41
      subst e54
      refine gtup_u rd53 rfl ?_
      obtain ⟨h50, h50s⟩ := h50
      subst h50
      refine gcons_u ?_
      refine gname_u ?_
      have h51 : u48 = (V.int x39.2.1) := h51
      subst h51
      refine gcons_u ?_
      refine gname_u ?_
      have h52 : u49 = (V.int x39.2.2) := h52
      subst h52
      refine gcons_u ?_
      refine gname_u ?_
      refine gnil_u ?_
      refine for_u ?_
      refine itup_u ?_
      refine tup_u ?_
      refine PvA.go (pa_c (pv_2 (pv_v rfl) pv_c rv_i) (pa_c (pv_v rfl) (pa_c (pv_2 (pv_v rfl) pv_c rv_i) (pa_c (pv_2 (pv_v rfl) pv_c rv_i) (pa_c (pv_v rfl) pa_n))))) ?_
      refine tup_end (Nat.le_of_ble_eq_true rfl) g44.wf fun p55 c56 H57 st58 cp59 rd60 np61 => ?_
      have n63 : p19 ≠ p55 := ne_of_none o45.obj np61
      have g64 := g44.tr0 st58
      have o45 := o45.step0 st58
      have h62 : (tyT5 tyI tyI tyI tyI tyI).r c56 H57 (V.ref p55) ((x39.2.1 - (1 : Int)), x39.2.1, (x39.2.1 + (1 : Int)), (x39.2.2 - (1 : Int)), x39.2.2) := ⟨p55, _, _, _, _, _, rfl, cp59, rd60, rfl, rfl, rfl, rfl, rfl⟩
      refine itup_e' (sqT5 h62) ?_
      refine for_p (A := tyI) (s0 := ((s33) : List (PySem.Str × Int))) k (fun (s65 : List (PySem.Str × Int)) (c : Cl) (H : Hp) (σ : L2.St) => ∃ (us66 : List V) (y67 : Option V), σ = [some (V.ref ad29), some (V.ref p19), some (V.str x39.1), some (V.int x39.2.1), some (V.int x39.2.2), y67] ∧ Step [] c0 H0 c H ∧ Own (tyT2 tyS tyI) H0 c H p19 us66 s65 ∧ (tyT5 tyI tyI tyI tyI tyI).r c H (V.ref p55) ((x39.2.1 - (1 : Int)), x39.2.1, (x39.2.1 + (1 : Int)), (x39.2.2 - (1 : Int)), x39.2.2)) ⟨_, _, rfl, g64, o45, h62⟩ ?_ ?_ ?_
      · exact fun s c H σ ⟨us66, y67, _, g, _, hit⟩ => pitT5 hit
      · intro s65 x68 v69 c71 H72 σ N i h70 k
        obtain ⟨us66, y67, rfl, g73, o74, h62⟩ := i
        have h70 : v69 = (V.int x68) := h70
        subst h70
        refine gname_u ?_
        refine if_cut k (fun (s75 : List (PySem.Str × Int)) (c : Cl) (H : Hp) (σ : L2.St) => ∃ (us76 : List V), σ = [some (V.ref ad29), some (V.ref p19), some (V.str x39.1), some (V.int x39.2.1), some (V.int x39.2.2), some (V.int x68)] ∧ Step [] c0 H0 c H ∧ Own (tyT2 tyS tyI) H0 c H p19 us76 s75 ∧ (tyT5 tyI tyI tyI tyI tyI).r c H (V.ref p55) ((x39.2.1 - (1 : Int)), x39.2.1, (x39.2.1 + (1 : Int)), (x39.2.2 - (1 : Int)), x39.2.2)) ?_ ?_
        rotate_left
        · intro k
          refine PvT.ifS (b := (decide ((0 : Int) ≤ x68))) ?_ (fun b81 => ?_) (fun b81 => ?_)
          · exact (show PvT _ _ _ (decide ((0 : Int) ≤ x68)) from (pt_t (pv_2 (pv_v rfl) pv_c rv_i)))
          · have k := k.brT b81
            refine drop_u ?_
            refine bm_u ?_
            refine Pv.go (pv_v rfl) ?_
            refine ⟨ty_list (.inl o74.obj), ?_⟩
            refine cons_u ?_
            refine tup_u ?_
            refine PvA.go (pa_c (pv_v rfl) (pa_c (pv_v rfl) pa_n)) ?_
            refine tup_end (Nat.le_of_ble_eq_true rfl) g73.wf fun p82 c83 H84 st85 cp86 rd87 np88 => ?_
            have n90 : p19 ≠ p82 := ne_of_none o74.obj np88
            have g91 := g73.tr0 st85
            have o74 := o74.step0 st85
            have h62 := lift h62 st85
            have h89 : (tyT2 tyS tyI).r c83 H84 (V.ref p82) (x39.1, x68) := ⟨p82, _, _, rfl, cp86, rd87, ⟨rfl, h50s⟩, rfl⟩
            refine nil_u ?_
            obtain ⟨e92, k⟩ := k.chk
            refine append_end o74 g91.wf h89 (of_decide_eq_true e92) fun H93 st94 o95 => ?_
            have g96 := g91.tr1 st94 (.inr o95.new)
            have h62 := lift h62 st94
            exact k.done g96 _ ⟨_, rfl, g96, o95, h62⟩
          · rw [brF_eq b81] at k
            refine next_u ?_
            exact k.done g73 _ ⟨_, rfl, g73, o74, h62⟩
        · intro s75 c77 H78 σ i k
          obtain ⟨us76, rfl, g79, o80, h62⟩ := i
          refine nx_go ?_
          exact (k.done g79) _ ⟨_, _, rfl, g79, o80, h62⟩
      · intro s65 c97 H98 σ i k
        obtain ⟨us66, y67, rfl, g99, o100, h62⟩ := i
        refine nx_go ?_
        exact (k.done g99) _ ⟨_, _, _, _, _, rfl, g99, o100⟩
    · intro s33 c101 H102 σ i k
      obtain ⟨us34, y35, y36, y37, y38, rfl, g103, o104⟩ := i
      refine nx_go ?_
      refine ret_u ?_
      refine Pv.go (pv_v rfl) ?_
      exact (k.done g103) _ ⟨_, _, rfl, o104⟩
def sp_law_is_ground (K : PySem.W.Frag) (ea : Err → Addr) : Sp := fun vs H Q E => ∃ (c : Cl) (w0 : V) (a0 : List (PySem.Str × Int × Int)), vs = [w0] ∧ Wf c H ∧ rP (tyT3 tyS tyI tyI) c H w0 a0 ∧ Kont (fun y c' H' => ∀ v, tyB.r c' H' v y → Q v H') (fun _ _ _ => False) [] c H (m_law_is_ground a0)
theorem ok_law_is_ground {P : Program} {w : World} {K : PySem.W.Frag} {mg : Str → Option Value} {base : Heap} {a : Ad} (T : Txt K mg a) : FnOk P w K mg base CX0 1 a.law_is_ground a.law_is_ground_fd ["_law_actual"] (sp_law_is_ground K a.ea) := by
  have sc : FnScope ["_law_actual", "_law_k", "_law_piece", "_law_begin", "_law_end"] ["_law_actual"] (defScope s_law_is_ground) := ⟨rfl, rfl, rfl, by decide +kernel, rfl, by decide +kernel, by decide +kernel⟩
  refine T.law_is_ground.F.ok sc (fun vs H Q E h => ?_) (fun cdv A outer s H0 vs Q E hr h => ?_)
  · obtain ⟨_, _, _, rfl, _⟩ := h
    rfl
  · obtain ⟨c0, w0, a0, rfl, wf0, h0, k⟩ := h
    refine ⟨_, (pss_cons (ps_if (pt_not (pt_val (pe_callB call_isi (by rfl) T.b_isinstance (by decide +kernel) (pa_cons (pv 0) (pa_cons (pe_bltn (v := .ty "list") (by rfl) T.b_list (by decide +kernel) rfl) pa_nil))))) (pss_one (ps_ret pe_bl)) pss_nil) (pss_cons (ps_for PassesOwn.never rfl (pi_range1 (by rfl) T.b_range (pa_cons (pe_callB call_len_seq (by rfl) T.b_len PySem.boot_len (pa_cons (pv 0) pa_nil)) pa_nil)) (pg_name (i := 1) sc.nd rfl (Or.inl rfl)) (pss_cons (ps_if (PW.pt (pw_or (pt_not (pt_val (pe_callB call_isi (by rfl) T.b_isinstance (by decide +kernel) (pa_cons (pe_ix ix_list (pv 0) (pv 1) (fun _ _ => rfl)) (pa_cons (pe_bltn (v := .ty "tuple") (by rfl) T.b_tuple (by decide +kernel) rfl) pa_nil))))) (pw_or1 (pt_cmpR op_ne (pe_callB call_len_seq (by rfl) T.b_len PySem.boot_len (pa_cons (pe_ix ix_list (pv 0) (pv 1) (fun _ _ => rfl)) pa_nil)) pe_int (nomark _))))) (pss_one (ps_ret pe_bl)) pss_nil) (pss_cons (ps_asg (pe_ix ix_list (pv 0) (pv 1) (fun _ _ => rfl)) (pg_tup (n := 3) (by rfl) (pgs_cons (pg_name (i := 2) sc.nd rfl (Or.inl rfl)) (pgs_cons (pg_name (i := 3) sc.nd rfl (Or.inl rfl)) (pgs_cons (pg_name (i := 4) sc.nd rfl (Or.inl rfl)) pgs_nil))))) (pss_cons (ps_if (PW.pt (pw_or (pt_val (pe_callB call_isi (by rfl) T.b_isinstance (by decide +kernel) (pa_cons (pv 3) (pa_cons (pe_bltn (v := .ty "bool") (by rfl) T.b_bool (by decide +kernel) rfl) pa_nil)))) (pw_or (pt_val (pe_callB call_isi (by rfl) T.b_isinstance (by decide +kernel) (pa_cons (pv 4) (pa_cons (pe_bltn (v := .ty "bool") (by rfl) T.b_bool (by decide +kernel) rfl) pa_nil)))) (pw_or (pt_cmpR op_lt (pv 3) pe_int (nomark _)) (pw_or1 (pt_cmpR op_ge (pv 3) (pv 4) (nomark _))))))) (pss_one (ps_ret pe_bl)) pss_nil) (pss_one (ps_if (PW.pt (pw_and (pt_cmpR op_gt (pv 1) pe_int (nomark _)) (pw_and1 (PW.pt (pw_or (pt_cmpR op_gt_str (pe_ix ix_tup (pe_ix ix_list (pv 0) (pe_op op_sub (pv 1) pe_int) (fun _ _ => rfl)) pe_int (fun _ _ => rfl)) (pv 2) (nomark _)) (pw_or1 (PW.pt (pw_and (pt_cmpR op_eq (pe_ix ix_tup (pe_ix ix_list (pv 0) (pe_op op_sub (pv 1) pe_int) (fun _ _ => rfl)) pe_int (fun _ _ => rfl)) (pv 2) (nomark _)) (pw_and1 (pt_cmpR op_ge (pe_ix ix_tup (pe_ix ix_list (pv 0) (pe_op op_sub (pv 1) pe_int) (fun _ _ => rfl)) pe_int (fun _ _ => rfl)) (pv 3) (nomark _))))))))))) (pss_one (ps_ret pe_bl)) pss_nil)))))) (pss_one (ps_ret pe_bl)))), ?_⟩
    have g0 : Step [] c0 H0 c0 H0 := Step.refl wf0
    unfold m_law_is_ground at k
    refine seq_u ?_
    refine PvT.ifS (b := false) ?_ (fun b1 => by cases b1) (fun b1 => ?_)
    · exact (show PvT _ _ _ (!true) from (pt_not (pt_b (pv_cb (pa_c (pv_v rfl) (pa_c pv_c pa_n)) (rc_isi (.ty _) (tyx_lst (g0.pl0 h0)) (kit_ty (by decide +kernel)))))))
    refine next_u ?_
    refine nx_go ?_
    refine seq_u ?_
    refine for_u ?_
    refine irng1_u ?_
    refine PvA.go (pa_c (len_B (g0.pl0 h0).b (pv_v rfl)) pa_n) ?_
    obtain ⟨e2, k⟩ := k.chk
    refine irng1_e e2 ?_
    refine for_rgr (s0 := (() : Unit)) (Rr := tyB.r) k (fun (s3 : Unit) (c : Cl) (H : Hp) (σ : L2.St) => ∃ (y4 : Option V) (y5 : Option V) (y6 : Option V) (y7 : Option V), σ = [some w0, y4, y5, y6, y7] ∧ Step [] c0 H0 c H) ⟨_, _, _, _, rfl, g0⟩ ?_ (fun r k c H g v hv => (k.done g) v hv) ?_
    · intro s3 x8 c11 H12 σ N i k
      obtain ⟨y4, y5, y6, y7, rfl, g13⟩ := i
      refine gname_u ?_
      refine seq_u ?_
      obtain ⟨b34, e35, k⟩ := k.bindP (ne_orN (ne_opt fun _ => ne_ok) (ne_opt fun _ => ne_ok))
      refine PvT.ifS (b := b34) ?_ (fun b36 => ?_) (fun b36 => ?_)
      · exact (show PvT _ _ _ b34 from (pt_orN e35 (fun _ h => (by have h := h; obtain ⟨x27, e28, h⟩ := opt_inv h; obtain ⟨u24, h25, q26⟩ := rv_ixB (g13.pl0 h0).b e28; exact PvT.is (pt_not (pt_b (pv_cb (pa_c (pv_2 (pv_v rfl) (pv_v rfl) (q26)) (pa_c pv_c pa_n)) (rc_isi (.ty _) (tyx3 h25) (kit_ty (by decide +kernel)))))) (Res.ok.inj h))) (fun _ h => (by have h := h; obtain ⟨x32, e33, h⟩ := opt_inv h; obtain ⟨u29, h30, q31⟩ := rv_ixB (g13.pl0 h0).b e33; exact PvT.is (pt_t (pv_2 (lenT3 h30 (pv_2 (pv_v rfl) (pv_v rfl) (q31))) pv_c rv_nei)) (Res.ok.inj h)))))
      · have k := k.brT b36
        refine ret_u ?_
        refine Pv.go pv_c ?_
        exact (k.done g13) _ rfl
      · rw [brF_eq b36] at k
        refine next_u ?_
        refine nx_go ?_
        refine seq_u ?_
        refine asg_u ?_
        obtain ⟨x40, e41, k⟩ := k.opt
        obtain ⟨u37, h38, q39⟩ := rv_ixB (g13.pl0 h0).b e41
        refine Pv.go (pv_2 (pv_v rfl) (pv_v rfl) (q39)) ?_
        obtain ⟨ad42, u43, u44, u45, e50, rd49, h46, h47, h48⟩ := open3 h38
        subst e50
        refine gtup_u rd49 rfl ?_
        obtain ⟨h46, h46s⟩ := h46
        subst h46
        refine gcons_u ?_
        refine gname_u ?_
        have h47 : u44 = (V.int x40.2.1) := h47
        subst h47
        refine gcons_u ?_
        refine gname_u ?_
        have h48 : u45 = (V.int x40.2.2) := h48
        subst h48
        refine gcons_u ?_
        refine gname_u ?_
        refine gnil_u ?_
        refine nx_go ?_
        refine seq_u ?_
        refine PvT.ifS (b := (false || (false || ((decide (x40.2.1 < (0 : Int))) || (decide (x40.2.2 ≤ x40.2.1)))))) ?_ (fun b51 => ?_) (fun b51 => ?_)
        · exact (show PvT _ _ _ (false || (false || ((decide (x40.2.1 < (0 : Int))) || (decide (x40.2.2 ≤ x40.2.1))))) from (pt_or (pt_b (pv_cb (pa_c (pv_v rfl) (pa_c pv_c pa_n)) (rc_isi (.ty _) tyx_int (kit_ty (by decide +kernel))))) (fun _ => (pt_or (pt_b (pv_cb (pa_c (pv_v rfl) (pa_c pv_c pa_n)) (rc_isi (.ty _) tyx_int (kit_ty (by decide +kernel))))) (fun _ => (pt_or (pt_t (pv_2 (pv_v rfl) pv_c rv_i)) (fun _ => (pt_t (pv_2 (pv_v rfl) (pv_v rfl) rv_i)))))))))
        · have k := k.brT b51
          refine ret_u ?_
          refine Pv.go pv_c ?_
          exact (k.done g13) _ rfl
        · rw [brF_eq b51] at k
          refine next_u ?_
          refine nx_go ?_
          obtain ⟨b100, e101, k⟩ := k.bindP (ne_andN ne_ok (ne_orN (ne_opt fun _ => ne_ok) (ne_andN (ne_opt fun _ => ne_ok) (ne_opt fun _ => ne_ok))))
          refine PvT.ifS (b := b100) ?_ (fun b102 => ?_) (fun b102 => ?_)
          · exact (show PvT _ _ _ b100 from (pt_andN e101 (fun _ h => (by have h := h; exact PvT.is (pt_t (pv_2 (pv_v rfl) pv_c rv_i)) (Res.ok.inj h))) (fun _ h => (pt_orN h (fun _ h => (by have h := h; obtain ⟨x79, e80, h⟩ := opt_inv h; obtain ⟨u76, h77, q78⟩ := rv_ixB (g13.pl0 h0).b e80; obtain ⟨u81, h82, q83⟩ := ix3_0 h77; obtain ⟨h82, h82s⟩ := h82; subst h82; exact PvT.is (pt_t (pv_2 (pv_2 (pv_2 (pv_v rfl) (pv_2 (pv_v rfl) pv_c rv_i) (q78)) pv_c (q83)) (pv_v rfl) (fun _ q => ⟨_, _, rfl, rfl, q⟩))) (Res.ok.inj h))) (fun _ h => (pt_andN h (fun _ h => (by have h := h; obtain ⟨x87, e88, h⟩ := opt_inv h; obtain ⟨u84, h85, q86⟩ := rv_ixB (g13.pl0 h0).b e88; obtain ⟨u89, h90, q91⟩ := ix3_0 h85; obtain ⟨h90, h90s⟩ := h90; subst h90; exact PvT.is (pt_t (pv_2 (pv_2 (pv_2 (pv_v rfl) (pv_2 (pv_v rfl) pv_c rv_i) (q86)) pv_c (q91)) (pv_v rfl) rv_eqs)) (Res.ok.inj h))) (fun _ h => (by have h := h; obtain ⟨x95, e96, h⟩ := opt_inv h; obtain ⟨u92, h93, q94⟩ := rv_ixB (g13.pl0 h0).b e96; obtain ⟨u97, h98, q99⟩ := ix3_2 h93; have h98 : u97 = (V.int x95.2.2) := h98; subst h98; exact PvT.is (pt_t (pv_2 (pv_2 (pv_2 (pv_v rfl) (pv_2 (pv_v rfl) pv_c rv_i) (q94)) pv_c (q99)) (pv_v rfl) rv_i)) (Res.ok.inj h)))))))))
          · have k := k.brT b102
            refine ret_u ?_
            refine Pv.go pv_c ?_
            exact (k.done g13) _ rfl
          · rw [brF_eq b102] at k
            refine next_u ?_
            refine nx_go ?_
            exact (k.done g13) _ ⟨_, _, _, _, rfl, g13⟩
    · intro s3 c103 H104 σ i k
      obtain ⟨y4, y5, y6, y7, rfl, g105⟩ := i
      refine nx_go ?_
      refine ret_u ?_
      refine Pv.go pv_c ?_
      exact (k.done g105) _ rfl
def sp_law_cut (K : PySem.W.Frag) (ea : Err → Addr) : Sp := fun vs H Q E => ∃ (c : Cl) (w0 : V) (a0 : List (PySem.Str × Int × Int)) (w1 : V) (a1 : Int), vs = [w0, w1] ∧ Wf c H ∧ rP (tyT3 tyS tyI tyI) c H w0 a0 ∧ tyI.r c H w1 a1 ∧ Kont (fun y c' H' => ∀ v, rO (tyT3 tyS tyI tyI) H c' H' v y → Q v H') (fun _ _ _ => False) [] c H (m_law_cut a0 a1)
theorem ok_law_cut {P : Program} {w : World} {K : PySem.W.Frag} {mg : Str → Option Value} {base : Heap} {a : Ad} (T : Txt K mg a) : FnOk P w K mg base CX0 1 a.law_cut a.law_cut_fd ["_law_rows_here", "_law_cell_here"] (sp_law_cut K a.ea) := by
  have sc : FnScope ["_law_rows_here", "_law_cell_here", "_law_cut_here", "_law_piece", "_law_begin", "_law_end", "_law_at"] ["_law_rows_here", "_law_cell_here"] (defScope s_law_cut) := ⟨rfl, rfl, rfl, by decide +kernel, rfl, by decide +kernel, by decide +kernel⟩
  refine T.law_cut.F.ok sc (fun vs H Q E h => ?_) (fun cdv A outer s H0 vs Q E hr h => ?_)
  · obtain ⟨_, _, _, _, _, rfl, _⟩ := h
    rfl
  · obtain ⟨c0, w0, a0, w1, a1, rfl, wf0, h0, h1, k⟩ := h
    refine ⟨_, (pss_cons (ps_set (i := 2) sc.nd rfl (Or.inl rfl) (pe_lst pa_nil)) (pss_cons (ps_for PassesOwn.never rfl (pi_list (pv 0)) (pg_tup (n := 3) (by rfl) (pgs_cons (pg_name (i := 3) sc.nd rfl (Or.inl rfl)) (pgs_cons (pg_name (i := 4) sc.nd rfl (Or.inl rfl)) (pgs_cons (pg_name (i := 5) sc.nd rfl (Or.inl rfl)) pgs_nil)))) (pss_cons (ps_set (i := 6) sc.nd rfl (Or.inl rfl) (pe_op op_add (pv 4) (pe_op op_mod (pv 1) (pe_op op_sub (pv 5) (pv 4))))) (pss_cons (ps_if (pt_cmpR op_gt (pv 6) (pv 4) (nomark _)) (pss_one (ps_expr (pe_bm PySem.F.plainAttrs_list PySem.F.slot_list_append PySem.F.type_list_append mt_append (pv 2) (pa_cons (pe_tup (pa_cons (pv 3) (pa_cons (pv 4) (pa_cons (pv 6) pa_nil)))) pa_nil)))) pss_nil) (pss_one (ps_expr (pe_bm PySem.F.plainAttrs_list PySem.F.slot_list_append PySem.F.type_list_append mt_append (pv 2) (pa_cons (pe_tup (pa_cons (pv 3) (pa_cons (pv 6) (pa_cons (pv 5) pa_nil)))) pa_nil))))))) (pss_one (ps_ret (pe_listRev (by rfl) (by rfl) T.b_list (by rfl) T.b_reversed (pv 2)))))), ?_⟩
    have h1 : w1 = (V.int a1) := h1
    subst h1
    have g0 : Step [] c0 H0 c0 H0 := Step.refl wf0
    unfold m_law_cut at k
    refine seq_u ?_
    refine asg_u ?_
    refine lst_u ?_
    refine PvA.go pa_n ?_
    refine lst_end (Nat.le_of_ble_eq_true rfl) g0.wf fun p1 c2 H3 st4 cp5 ob6 np7 => ?_
    have w9 := g0.fresh np7
    have g10 := g0.tr0 st4
    have o8 : Own (tyT3 tyS tyI tyI) H0 c2 H3 p1 [] ([] : List (PySem.Str × Int × Int)) := ⟨cp5, ob6, trivial, w9⟩
    refine gname_u ?_
    refine nx_go ?_
    refine seq_u ?_
    refine for_u ?_
    refine ilist_u ?_
    refine Pv.go (pv_v rfl) ?_
    obtain ⟨ad11, us12, e14, h13⟩ := rB_open h0.b
    subst e14
    refine ilist_e ((h13.at g10).rd) ?_
    refine for_n (A := (tyT3 tyS tyI tyI)) (a := ad11) (us := us12) (s0 := ((([] : List (PySem.Str × Int × Int))) : List (PySem.Str × Int × Int))) k (fun (s15 : List (PySem.Str × Int × Int)) (c : Cl) (H : Hp) (σ : L2.St) => ∃ (us16 : List V) (y17 : Option V) (y18 : Option V) (y19 : Option V) (y20 : Option V), σ = [some (V.ref ad11), some (V.int a1), some (V.ref p1), y17, y18, y19, y20] ∧ Step [] c0 H0 c H ∧ Own (tyT3 tyS tyI tyI) H0 c H p1 us16 s15) ⟨_, _, _, _, _, rfl, g10, o8⟩ ?_ ?_ ?_
    · exact fun s c H σ ⟨us16, y17, y18, y19, y20, _, g, _⟩ => ⟨(h13.at g).rd, (h13.at g).rs⟩
    · intro s15 x21 v22 c24 H25 σ N i h23 k
      obtain ⟨us16, y17, y18, y19, y20, rfl, g26, o27⟩ := i
      obtain ⟨ad28, u29, u30, u31, e36, rd35, h32, h33, h34⟩ := open3 h23
      subst e36
      refine gtup_u rd35 rfl ?_
      obtain ⟨h32, h32s⟩ := h32
      subst h32
      refine gcons_u ?_
      refine gname_u ?_
      have h33 : u30 = (V.int x21.2.1) := h33
      subst h33
      refine gcons_u ?_
      refine gname_u ?_
      have h34 : u31 = (V.int x21.2.2) := h34
      subst h34
      refine gcons_u ?_
      refine gname_u ?_
      refine gnil_u ?_
      refine seq_u ?_
      refine asg_u ?_
      obtain ⟨e37, k⟩ := k.chk
      refine Pv.go (pv_2 (pv_v rfl) (pv_2 (pv_v rfl) (pv_2 (pv_v rfl) (pv_v rfl) rv_i) (rv_mod e37)) rv_i) ?_
      refine gname_u ?_
      refine nx_go ?_
      refine seq_u ?_
      refine if_cut k (fun (s38 : List (PySem.Str × Int × Int)) (c : Cl) (H : Hp) (σ : L2.St) => ∃ (us39 : List V), σ = [some (V.ref ad11), some (V.int a1), some (V.ref p1), some (V.str x21.1), some (V.int x21.2.1), some (V.int x21.2.2), some (V.int (x21.2.1 + (a1 % (x21.2.2 - x21.2.1))))] ∧ Step [] c0 H0 c H ∧ Own (tyT3 tyS tyI tyI) H0 c H p1 us39 s38) ?_ ?_
      rotate_left
      · intro k
        refine PvT.ifS (b := (decide (x21.2.1 < (x21.2.1 + (a1 % (x21.2.2 - x21.2.1)))))) ?_ (fun b44 => ?_) (fun b44 => ?_)
        · exact (show PvT _ _ _ (decide (x21.2.1 < (x21.2.1 + (a1 % (x21.2.2 - x21.2.1))))) from (pt_t (pv_2 (pv_v rfl) (pv_v rfl) rv_i)))
        · have k := k.brT b44
          refine drop_u ?_
          refine bm_u ?_
          refine Pv.go (pv_v rfl) ?_
          refine ⟨ty_list (.inl o27.obj), ?_⟩
          refine cons_u ?_
          refine tup_u ?_
          refine PvA.go (pa_c (pv_v rfl) (pa_c (pv_v rfl) (pa_c (pv_v rfl) pa_n))) ?_
          refine tup_end (Nat.le_of_ble_eq_true rfl) g26.wf fun p45 c46 H47 st48 cp49 rd50 np51 => ?_
          have n53 : p1 ≠ p45 := ne_of_none o27.obj np51
          have g54 := g26.tr0 st48
          have o27 := o27.step0 st48
          have h52 : (tyT3 tyS tyI tyI).r c46 H47 (V.ref p45) (x21.1, x21.2.1, (x21.2.1 + (a1 % (x21.2.2 - x21.2.1)))) := ⟨p45, _, _, _, rfl, cp49, rd50, ⟨rfl, h32s⟩, rfl, rfl⟩
          refine nil_u ?_
          obtain ⟨e55, k⟩ := k.chk
          refine append_end o27 g54.wf h52 (of_decide_eq_true e55) fun H56 st57 o58 => ?_
          have g59 := g54.tr1 st57 (.inr o58.new)
          exact k.done g59 _ ⟨_, rfl, g59, o58⟩
        · rw [brF_eq b44] at k
          refine next_u ?_
          exact k.done g26 _ ⟨_, rfl, g26, o27⟩
      · intro s38 c40 H41 σ i k
        obtain ⟨us39, rfl, g42, o43⟩ := i
        refine nx_go ?_
        refine drop_u ?_
        refine bm_u ?_
        refine Pv.go (pv_v rfl) ?_
        refine ⟨ty_list (.inl o43.obj), ?_⟩
        refine cons_u ?_
        refine tup_u ?_
        refine PvA.go (pa_c (pv_v rfl) (pa_c (pv_v rfl) (pa_c (pv_v rfl) pa_n))) ?_
        refine tup_end (Nat.le_of_ble_eq_true rfl) g42.wf fun p60 c61 H62 st63 cp64 rd65 np66 => ?_
        have n68 : p1 ≠ p60 := ne_of_none o43.obj np66
        have g69 := g42.tr0 st63
        have o43 := o43.step0 st63
        have h67 : (tyT3 tyS tyI tyI).r c61 H62 (V.ref p60) (x21.1, (x21.2.1 + (a1 % (x21.2.2 - x21.2.1))), x21.2.2) := ⟨p60, _, _, _, rfl, cp64, rd65, ⟨rfl, h32s⟩, rfl, rfl⟩
        refine nil_u ?_
        obtain ⟨e70, k⟩ := k.chk
        refine append_end o43 g69.wf h67 (of_decide_eq_true e70) fun H71 st72 o73 => ?_
        have g74 := g69.tr1 st72 (.inr o73.new)
        refine nx_go ?_
        exact (k.done g74) _ ⟨_, _, _, _, _, rfl, g74, o73⟩
    · intro s15 c75 H76 σ i k
      obtain ⟨us16, y17, y18, y19, y20, rfl, g77, o78⟩ := i
      refine nx_go ?_
      refine ret_u ?_
      refine lrev_u ?_
      refine Pv.go (pv_v rfl) ?_
      refine lrev_end (H0 := H0) o78.b g77.wf (fun _ n => g77.fresh n) fun p79 us80 c81 H82 o84_n st83 o84 => ?_
      have n85 : p1 ≠ p79 := ne_of_none o78.obj o84_n
      have g86 := g77.tr0 st83
      have o78 := o78.step0 st83
      exact (k.done g86) _ ⟨_, _, rfl, o84⟩
def sp_law (K : PySem.W.Frag) (ea : Err → Addr) : Sp := fun vs H Q E => ∃ (c : Cl) (w0 : V) (a0 : List Int), vs = [w0] ∧ Wf c H ∧ rB K tyI c H w0 a0 ∧ Kont (fun y c' H' => ∀ v, tyB.r c' H' v y → Q v H') (fun _ _ _ => False) [] c H (m_law a0)
theorem ok_law {P : Program} {w : World} {K : PySem.W.Frag} {mg : Str → Option Value} {base : Heap} {a : Ad} (T : Txt K mg a) (G_law_cell : FnOk P w K mg base CX0 1 a.law_cell a.law_cell_fd ["_law_script", "_law_k"] (sp_law_cell K a.ea)) (G_law_cut : FnOk P w K mg base CX0 1 a.law_cut a.law_cut_fd ["_law_rows_here", "_law_cell_here"] (sp_law_cut K a.ea)) (G_law_has : FnOk P w K mg base CX0 1 a.law_has a.law_has_fd ["_law_rows_here", "_law_piece", "_law_k"] (sp_law_has K a.ea)) (G_law_is_ground : FnOk P w K mg base CX0 1 a.law_is_ground a.law_is_ground_fd ["_law_actual"] (sp_law_is_ground K a.ea)) (G_law_rows : FnOk P w K mg base CX0 2 a.law_rows a.law_rows_fd ["_law_script", "_law_at", "_law_count"] (sp_law_rows K a.ea)) (G_law_samples : FnOk P w K mg base CX0 1 a.law_samples a.law_samples_fd ["_law_rows_here"] (sp_law_samples K a.ea)) (G_has : FnOk P w K mg base CX0 1 a.has a.has_fd ["ground", "piece", "k"] (sp_has K a.ea)) (G_normal : FnOk P w K mg base (L2.CX P w) 2 a.normal a.normal_fd ["rows"] (sp_normal K a.ea)) (G_size : FnOk P w K mg base CX0 1 a.size a.size_fd ["ground"] (sp_size K a.ea)) : FnOk P w K mg base CX0 3 a.law a.law_fd ["_law_script"] (sp_law K a.ea) := by
  have sc : FnScope ["_law_script", "_law_rows_here", "_law_kept", "_law_actual", "_law_piece", "_law_k", "_law_begin", "_law_end", "_law_again", "_law_due"] ["_law_script"] (defScope s_law) := ⟨rfl, rfl, rfl, by decide +kernel, rfl, by decide +kernel, by decide +kernel⟩
  refine T.law.F.ok sc (fun vs H Q E h => ?_) (fun cdv A outer s H0 vs Q E hr h => ?_)
  · obtain ⟨_, _, _, rfl, _⟩ := h
    rfl
  · obtain ⟨c0, w0, a0, rfl, wf0, h0, k⟩ := h
    refine ⟨_, (pss_cons (ps_set (i := 1) sc.nd rfl (Or.inl rfl) (pe_call G_law_rows hr (by rfl) T.law_rows.g T.law_rows.F.kp T.law_rows.b .nil pass0 (pa_cons (pv 0) (pa_cons pe_int (pa_cons (pe_op op_mod (pe_call G_law_cell (hr.mono (by decide)) (by rfl) T.law_cell.g T.law_cell.F.kp T.law_cell.b .nil pass0 (pa_cons (pv 0) (pa_cons pe_int pa_nil))) pe_int) pa_nil))))) (pss_cons (ps_set (i := 2) sc.nd rfl (Or.inl rfl) (pe_callTy cr_list (by rfl) T.b_list (by decide +kernel) (pa_cons (pv 1) pa_nil))) (pss_cons (ps_set (i := 3) sc.nd rfl (Or.inl rfl) (pe_call G_normal hr (by rfl) T.normal.g T.normal.F.kp T.normal.b .nil (passes_call (W := fun _ _ _ _ => False) takes0 (fun _ _ _ _ h => h)) (pa_cons (pv 1) pa_nil))) (pss_cons (ps_if (PW.pt (pw_or (pt_cmpR (op_neD hr.units) (pv 1) (pv 2) (nomark _)) (pw_or1 (pt_not (pt_val (pe_call G_law_is_ground (hr.mono (by decide)) (by rfl) T.law_is_ground.g T.law_is_ground.F.kp T.law_is_ground.b .nil pass0 (pa_cons (pv 3) pa_nil))))))) (pss_one (ps_ret pe_bl)) pss_nil) (pss_cons (ps_for PassesOwn.never rfl (pi_list (pe_call G_law_samples (hr.mono (by decide)) (by rfl) T.law_samples.g T.law_samples.F.kp T.law_samples.b .nil pass0 (pa_cons (pv 1) pa_nil))) (pg_tup (n := 2) (by rfl) (pgs_cons (pg_name (i := 4) sc.nd rfl (Or.inl rfl)) (pgs_cons (pg_name (i := 5) sc.nd rfl (Or.inl rfl)) pgs_nil))) (pss_cons (ps_if (PW.pt (pw_or (pt_cmpR op_ne (pe_call G_has (hr.mono (by decide)) (by rfl) T.has.g T.has.F.kp T.has.b .nil pass0 (pa_cons (pv 3) (pa_cons (pv 4) (pa_cons (pv 5) pa_nil)))) (pe_call G_law_has (hr.mono (by decide)) (by rfl) T.law_has.g T.law_has.F.kp T.law_has.b .nil pass0 (pa_cons (pv 2) (pa_cons (pv 4) (pa_cons (pv 5) pa_nil)))) (nomark _)) (pw_or1 (pt_cmpR op_ne (pe_call G_law_has (hr.mono (by decide)) (by rfl) T.law_has.g T.law_has.F.kp T.law_has.b .nil pass0 (pa_cons (pv 3) (pa_cons (pv 4) (pa_cons (pv 5) pa_nil)))) (pe_call G_law_has (hr.mono (by decide)) (by rfl) T.law_has.g T.law_has.F.kp T.law_has.b .nil pass0 (pa_cons (pv 2) (pa_cons (pv 4) (pa_cons (pv 5) pa_nil)))) (nomark _))))) (pss_one (ps_ret pe_bl)) pss_nil) (pss_one (ps_if (pt_not (pt_val (pe_callB call_isi (by rfl) T.b_isinstance (by decide +kernel) (pa_cons (pe_call G_has (hr.mono (by decide)) (by rfl) T.has.g T.has.F.kp T.has.b .nil pass0 (pa_cons (pv 3) (pa_cons (pv 4) (pa_cons (pv 5) pa_nil)))) (pa_cons (pe_bltn (v := .ty "bool") (by rfl) T.b_bool (by decide +kernel) rfl) pa_nil))))) (pss_one (ps_ret pe_bl)) pss_nil)))) (pss_cons (ps_for PassesOwn.never rfl (pi_list (pv 3)) (pg_tup (n := 3) (by rfl) (pgs_cons (pg_name (i := 4) sc.nd rfl (Or.inl rfl)) (pgs_cons (pg_name (i := 6) sc.nd rfl (Or.inl rfl)) (pgs_cons (pg_name (i := 7) sc.nd rfl (Or.inl rfl)) pgs_nil)))) (pss_cons (ps_if (PW.pt (pw_or (pt_not (pt_val (pe_call G_law_has (hr.mono (by decide)) (by rfl) T.law_has.g T.law_has.F.kp T.law_has.b .nil pass0 (pa_cons (pv 2) (pa_cons (pv 4) (pa_cons (pv 6) pa_nil)))))) (pw_or1 (pt_not (pt_val (pe_call G_law_has (hr.mono (by decide)) (by rfl) T.law_has.g T.law_has.F.kp T.law_has.b .nil pass0 (pa_cons (pv 2) (pa_cons (pv 4) (pa_cons (pe_op op_sub (pv 7) pe_int) pa_nil))))))))) (pss_one (ps_ret pe_bl)) pss_nil) (pss_one (ps_if (PW.pt (pw_or (PW.pt (pw_and (pt_cmpR op_gt (pv 6) pe_int (nomark _)) (pw_and1 (pt_val (pe_call G_law_has (hr.mono (by decide)) (by rfl) T.law_has.g T.law_has.F.kp T.law_has.b .nil pass0 (pa_cons (pv 2) (pa_cons (pv 4) (pa_cons (pe_op op_sub (pv 6) pe_int) pa_nil)))))))) (pw_or1 (pt_val (pe_call G_law_has (hr.mono (by decide)) (by rfl) T.law_has.g T.law_has.F.kp T.law_has.b .nil pass0 (pa_cons (pv 2) (pa_cons (pv 4) (pa_cons (pv 7) pa_nil)))))))) (pss_one (ps_ret pe_bl)) pss_nil)))) (pss_cons (ps_if (pt_cmpR op_ne (pe_call G_size (hr.mono (by decide)) (by rfl) T.size.g T.size.F.kp T.size.b .nil pass0 (pa_cons (pv 3) pa_nil)) (pe_callB (cr_sum (by rfl)) (by rfl) T.b_sum (by decide +kernel) (pa_cons (pe_lc (by rfl) sc.nd (pi_list (pv 3)) (blkOk_by (own := [("_law_piece", 4), ("_law_begin", 6), ("_law_end", 7)]) (N := ["_law_script", "_law_rows_here", "_law_kept", "_law_actual", "_law_piece", "_law_k", "_law_begin", "_law_end", "_law_again", "_law_due"]) (sc := defScope s_law) (by decide +kernel)) (fun _ _ _ _ _ => (pg_tupK (K := K) (n := 3) (by rfl) (by rfl) (pgs_cons (pg_name (i := 4) sc.nd rfl (Or.inl rfl)) (pgs_cons (pg_name (i := 6) sc.nd rfl (Or.inl rfl)) (pgs_cons (pg_name (i := 7) sc.nd rfl (Or.inl rfl)) pgs_nil))))) (fun _ _ _ _ _ => pts_nil) (fun _ _ _ _ _ => (pe_op op_sub (pv 7) (pv 6)))) pa_nil)) (nomark _)) (pss_one (ps_ret pe_bl)) pss_nil) (pss_cons (ps_if (PW.pt (pw_or (pt_val (pe_callB call_isi (by rfl) T.b_isinstance (by decide +kernel) (pa_cons (pe_call G_size (hr.mono (by decide)) (by rfl) T.size.g T.size.F.kp T.size.b .nil pass0 (pa_cons (pv 3) pa_nil)) (pa_cons (pe_bltn (v := .ty "bool") (by rfl) T.b_bool (by decide +kernel) rfl) pa_nil)))) (pw_or1 (pt_cmpR (op_neD hr.units) (pe_call G_normal hr (by rfl) T.normal.g T.normal.F.kp T.normal.b .nil (passes_call (W := fun _ _ _ _ => False) takes0 (fun _ _ _ _ h => h)) (pa_cons (pe_call G_law_cut (hr.mono (by decide)) (by rfl) T.law_cut.g T.law_cut.F.kp T.law_cut.b .nil pass0 (pa_cons (pv 2) (pa_cons (pe_call G_law_cell (hr.mono (by decide)) (by rfl) T.law_cell.g T.law_cell.F.kp T.law_cell.b .nil pass0 (pa_cons (pv 0) (pa_cons pe_int pa_nil))) pa_nil))) pa_nil)) (pv 3) (nomark _))))) (pss_one (ps_ret pe_bl)) pss_nil) (pss_cons (ps_set (i := 8) sc.nd rfl (Or.inl rfl) (pe_call G_normal hr (by rfl) T.normal.g T.normal.F.kp T.normal.b .nil (passes_call (W := fun _ _ _ _ => False) takes0 (fun _ _ _ _ h => h)) (pa_cons (pv 3) pa_nil))) (pss_cons (ps_set (i := 9) sc.nd rfl (Or.inl rfl) (pe_callTy cr_list (by rfl) T.b_list (by decide +kernel) (pa_cons (pv 3) pa_nil))) (pss_cons (ps_expr (pe_bm PySem.F.plainAttrs_list PySem.F.slot_list_append PySem.F.type_list_append mt_append (pv 8) (pa_cons (pe_tup (pa_cons pe_str (pa_cons pe_int (pa_cons pe_int pa_nil)))) pa_nil))) (pss_one (ps_ret (pe_and (pe_cmpR (op_eqD hr.units) (pv 3) (pv 9) (nomark _)) (pe_one (pe_cmpR (op_eqD hr.units) (pe_slice sl_list (pv 8) po_none (po_some (pe_un un_neg pe_int))) (pv 9) (nomark _))))))))))))))))), ?_⟩
    have g0 : Step [] c0 H0 c0 H0 := Step.refl wf0
    unfold m_law at k
    refine seq_u ?_
    refine asg_u ?_
    refine call_u ?_
    refine cons_u ?_
    refine Pv.go (pv_v rfl) ?_
    refine cons_u ?_
    refine Pv.go pv_c ?_
    refine cons_u ?_
    refine op_u ?_
    refine call_u ?_
    refine PvA.go (pa_c (pv_v rfl) (pa_c pv_c pa_n)) ?_
    refine ⟨c0, _, a0, _, (0 : Int), rfl, g0.wf, (g0.b0 h0), rfl, ?_⟩
    refine Kont.call k g0 (fun _ z => by cases z) (fun y1 e2 k c3 H4 st5 g6 v7 r8 => ?_) (fun _ _ _ _ _ _ z => z)
    have r8 : v7 = (V.int y1) := r8
    subst r8
    refine Pv.go pv_c ?_
    refine (rv_modL (by decide)) _ ?_
    refine nil_u ?_
    refine ⟨c3, _, a0, _, (2 : Int), _, (y1 % (15 : Int)), rfl, g6.wf, (g6.b0 h0), rfl, rfl, ?_⟩
    refine Kont.call k g6 (fun _ z => by cases z) (fun y9 e10 k c11 H12 st13 g14 v15 r16 => ?_) (fun _ _ _ _ _ _ z => z)
    obtain ⟨p17, us18, rfl, r16⟩ := r16
    have r16 := r16.base g6
    have h19 := r16.frz
    have g20 := g14.frz (p := p17) r16.new
    refine gname_u ?_
    refine nx_go ?_
    refine seq_u ?_
    refine asg_u ?_
    refine cb_u ?_
    refine PvA.go (pa_c (pv_v rfl) pa_n) ?_
    refine listof_end (H0 := H0) (tyL_b h19) g20.wf (fun _ n => g20.fresh n) fun p21 us22 c23 H24 o26_n st25 o26 => ?_
    have g27 := g20.tr0 st25
    have h19 := lift h19 st25
    have h28 := o26.frz
    have g29 := g27.frz (p := p21) o26.new
    have h19 := liftF (p := p21) h19
    refine gname_u ?_
    refine nx_go ?_
    refine seq_u ?_
    refine asg_u ?_
    refine call_u ?_
    refine PvA.go (pa_c (pv_v rfl) pa_n) ?_
    refine ⟨(frz c23 p21), _, y9, rfl, g29.wf, (tyL_p h19), ?_⟩
    refine Kont.call k g29 (fun _ z => by cases z) (fun y30 e31 k c32 H33 st34 g35 v36 r37 => ?_) (fun e e31 c32 H33 st34 g35 pe => ?_)
    rotate_left
    · exact pe
    obtain ⟨p38, us39, rfl, r37⟩ := r37
    have r37 := r37.base g29
    have h19 := lift h19 st34
    have h28 := lift h28 st34
    have h40 := r37.frz
    have g41 := g35.frz (p := p38) r37.new
    have h19 := liftF (p := p38) h19
    have h28 := liftF (p := p38) h28
    refine gname_u ?_
    refine nx_go ?_
    refine seq_u ?_
    refine ifS_u ?_
    refine or_s ?_
    refine PvT.go (pt_t (pv_2 (pv_v rfl) (pv_v rfl) (rv_nel (tyL_b h19) (tyL_b h28) (by decide)))) ?_
    refine ite_b (b := (!decide (y9 = y9))) (fun b42 => ?_) (fun b42 => ?_)
    · have k := k.brT b42
      refine ret_u ?_
      refine Pv.go pv_c ?_
      exact (k.done g41) _ rfl
    · rw [brF_eq b42] at k
      refine not_s ?_
      refine tB_u ?_
      refine call_u ?_
      refine PvA.go (pa_c (pv_v rfl) pa_n) ?_
      refine ⟨(frz c32 p38), _, y30, rfl, g41.wf, (tyL_p h40), ?_⟩
      refine Kont.call k g41 (fun _ z => by cases z) (fun y43 e44 k c45 H46 st47 g48 v49 r50 => ?_) (fun _ _ _ _ _ _ z => z)
      have r50 : v49 = (V.bl y43) := r50
      subst r50
      have h19 := lift h19 st47
      have h28 := lift h28 st47
      have h40 := lift h40 st47
      refine ⟨_, rfl, ?_⟩
      refine ite_b (b := y43) (fun b51 => ?_) (fun b51 => ?_)
      · have k := k.brT b51
        refine next_u ?_
        refine nx_go ?_
        refine seq_u ?_
        refine for_u ?_
        refine ilist_u ?_
        refine call_u ?_
        refine PvA.go (pa_c (pv_v rfl) pa_n) ?_
        refine ⟨c45, _, y9, rfl, g48.wf, (tyL_p h19), ?_⟩
        refine Kont.call k g48 (fun _ z => by cases z) (fun y52 e53 k c54 H55 st56 g57 v58 r59 => ?_) (fun _ _ _ _ _ _ z => z)
        obtain ⟨p60, us61, rfl, r59⟩ := r59
        have r59 := r59.base g48
        have h19 := lift h19 st56
        have h28 := lift h28 st56
        have h40 := lift h40 st56
        refine ilist_e ((.inl (.inl r59.obj))) ?_
        refine for_r (A := (tyT2 tyS tyI)) (a := p60) (us := us61) (s0 := (() : Unit)) (Rr := tyB.r) k (fun (s62 : Unit) (c : Cl) (H : Hp) (σ : L2.St) => ∃ (y63 : Option V) (y64 : Option V), σ = [some w0, some (V.ref p17), some (V.ref p21), some (V.ref p38), y63, y64, none, none, none, none] ∧ Step [] c0 H0 c H ∧ (tyL (tyT3 tyS tyI tyI)).r c H (V.ref p17) y9 ∧ (tyL (tyT3 tyS tyI tyI)).r c H (V.ref p21) y9 ∧ (tyL (tyT3 tyS tyI tyI)).r c H (V.ref p38) y30 ∧ Own (tyT2 tyS tyI) H0 c H p60 us61 y52) ⟨_, _, rfl, g57, h19, h28, h40, r59⟩ ?_ ?_ (fun r k c H g v hv => (k.done g) v hv) ?_
        · exact fun s c H σ ⟨y63, y64, _, g, _, _, _, hit⟩ => ⟨.inl (.inl hit.obj), hit.rs⟩
        · intro s62 x65 v66 c68 H69 σ N i h67 k
          obtain ⟨y63, y64, rfl, g70, h19, h28, h40, r59⟩ := i
          obtain ⟨ad71, u72, u73, e77, rd76, h74, h75⟩ := open2 h67
          subst e77
          refine gtup_u rd76 rfl ?_
          obtain ⟨h74, h74s⟩ := h74
          subst h74
          refine gcons_u ?_
          refine gname_u ?_
          have h75 : u73 = (V.int x65.2) := h75
          subst h75
          refine gcons_u ?_
          refine gname_u ?_
          refine gnil_u ?_
          refine seq_u ?_
          refine ifS_u ?_
          refine or_s ?_
          refine test_u ?_
          refine op_u ?_
          refine call_u ?_
          refine PvA.go (pa_c (pv_v rfl) (pa_c (pv_v rfl) (pa_c (pv_v rfl) pa_n))) ?_
          refine ⟨c68, _, y30, _, x65.1, _, x65.2, rfl, g70.wf, (tyL_p h40), ⟨rfl, h74s⟩, rfl, ?_⟩
          refine Kont.call k g70 (fun _ z => by cases z) (fun y78 e79 k c80 H81 st82 g83 v84 r85 => ?_) (fun _ _ _ _ _ _ z => z)
          have r85 : v84 = (V.bl y78) := r85
          subst r85
          have h19 := lift h19 st82
          have h28 := lift h28 st82
          have h40 := lift h40 st82
          have r59 := r59.step0 st82
          refine call_u ?_
          refine PvA.go (pa_c (pv_v rfl) (pa_c (pv_v rfl) (pa_c (pv_v rfl) pa_n))) ?_
          refine ⟨c80, _, y9, _, x65.1, _, x65.2, rfl, g83.wf, (tyL_p h28), ⟨rfl, h74s⟩, rfl, ?_⟩
          refine Kont.call k g83 (fun _ z => by cases z) (fun y86 e87 k c88 H89 st90 g91 v92 r93 => ?_) (fun _ _ _ _ _ _ z => z)
          have r93 : v92 = (V.bl y86) := r93
          subst r93
          have h19 := lift h19 st90
          have h28 := lift h28 st90
          have h40 := lift h40 st90
          have r59 := r59.step0 st90
          refine rv_neb _ ?_
          refine ⟨_, rfl, ?_⟩
          refine ite_b (b := (!decide (y78 = y86))) (fun b94 => ?_) (fun b94 => ?_)
          · have k := k.brT b94
            refine ret_u ?_
            refine Pv.go pv_c ?_
            exact (k.done g91) _ rfl
          · rw [brF_eq b94] at k
            refine test_u ?_
            refine op_u ?_
            refine call_u ?_
            refine PvA.go (pa_c (pv_v rfl) (pa_c (pv_v rfl) (pa_c (pv_v rfl) pa_n))) ?_
            refine ⟨c88, _, y30, _, x65.1, _, x65.2, rfl, g91.wf, (tyL_p h40), ⟨rfl, h74s⟩, rfl, ?_⟩
            refine Kont.call k g91 (fun _ z => by cases z) (fun y95 e96 k c97 H98 st99 g100 v101 r102 => ?_) (fun _ _ _ _ _ _ z => z)
            have r102 : v101 = (V.bl y95) := r102
            subst r102
            have h19 := lift h19 st99
            have h28 := lift h28 st99
            have h40 := lift h40 st99
            have r59 := r59.step0 st99
            refine call_u ?_
            refine PvA.go (pa_c (pv_v rfl) (pa_c (pv_v rfl) (pa_c (pv_v rfl) pa_n))) ?_
            refine ⟨c97, _, y9, _, x65.1, _, x65.2, rfl, g100.wf, (tyL_p h28), ⟨rfl, h74s⟩, rfl, ?_⟩
            refine Kont.call k g100 (fun _ z => by cases z) (fun y103 e104 k c105 H106 st107 g108 v109 r110 => ?_) (fun _ _ _ _ _ _ z => z)
            have r110 : v109 = (V.bl y103) := r110
            subst r110
            have h19 := lift h19 st107
            have h28 := lift h28 st107
            have h40 := lift h40 st107
            have r59 := r59.step0 st107
            refine rv_neb _ ?_
            refine ⟨_, rfl, ?_⟩
            refine ite_b (b := (!decide (y95 = y103))) (fun b111 => ?_) (fun b111 => ?_)
            · have k := k.brT b111
              refine ret_u ?_
              refine Pv.go pv_c ?_
              exact (k.done g108) _ rfl
            · rw [brF_eq b111] at k
              refine next_u ?_
              refine nx_go ?_
              refine ifS_u ?_
              refine not_s ?_
              refine tB_u ?_
              refine cb_u ?_
              refine cons_u ?_
              refine call_u ?_
              refine PvA.go (pa_c (pv_v rfl) (pa_c (pv_v rfl) (pa_c (pv_v rfl) pa_n))) ?_
              refine ⟨c105, _, y30, _, x65.1, _, x65.2, rfl, g108.wf, (tyL_p h40), ⟨rfl, h74s⟩, rfl, ?_⟩
              refine Kont.call k g108 (fun _ z => by cases z) (fun y112 e113 k c114 H115 st116 g117 v118 r119 => ?_) (fun _ _ _ _ _ _ z => z)
              have r119 : v118 = (V.bl y112) := r119
              subst r119
              have h19 := lift h19 st116
              have h28 := lift h28 st116
              have h40 := lift h40 st116
              have r59 := r59.step0 st116
              refine cons_u ?_
              refine Pv.go pv_c ?_
              refine nil_u ?_
              refine (rc_isi (b := true) (.ty _) tyx_bl (kit_ty (by decide +kernel))) _ ?_
              refine ⟨_, rfl, ?_⟩
              refine ite_b (b := true) (fun b120 => ?_) (fun b120 => by cases b120)
              refine next_u ?_
              refine nx_go ?_
              exact (k.done g117) _ ⟨_, _, rfl, g117, h19, h28, h40, r59⟩
        · intro s62 c121 H122 σ i k
          obtain ⟨y63, y64, rfl, g123, h19, h28, h40, r59⟩ := i
          refine nx_go ?_
          refine seq_u ?_
          refine for_u ?_
          refine ilist_u ?_
          refine Pv.go (pv_v rfl) ?_
          obtain ⟨ad124, us125, e127, h126⟩ := tyL_open h40
          cases e127
          refine ilist_e (h126.rd) ?_
          refine for_r (A := (tyT3 tyS tyI tyI)) (a := p38) (us := us125) (s0 := (() : Unit)) (Rr := tyB.r) k (fun (s128 : Unit) (c : Cl) (H : Hp) (σ : L2.St) => ∃ (y129 : Option V) (y130 : Option V) (y131 : Option V), σ = [some w0, some (V.ref p17), some (V.ref p21), some (V.ref p38), y129, y64, y130, y131, none, none] ∧ Step [] c0 H0 c H ∧ (tyL (tyT3 tyS tyI tyI)).r c H (V.ref p17) y9 ∧ (tyL (tyT3 tyS tyI tyI)).r c H (V.ref p21) y9 ∧ (tyL (tyT3 tyS tyI tyI)).r c H (V.ref p38) y30 ∧ Fzl (tyT3 tyS tyI tyI) c H p38 us125 y30) ⟨_, _, _, rfl, g123, h19, h28, h40, h126⟩ ?_ ?_ (fun r k c H g v hv => (k.done g) v hv) ?_
          · exact fun s c H σ ⟨y129, y130, y131, _, g, _, _, _, hit⟩ => ⟨hit.rd, hit.rs⟩
          · intro s128 x132 v133 c135 H136 σ N i h134 k
            obtain ⟨y129, y130, y131, rfl, g137, h19, h28, h40, h126⟩ := i
            obtain ⟨ad138, u139, u140, u141, e146, rd145, h142, h143, h144⟩ := open3 h134
            subst e146
            refine gtup_u rd145 rfl ?_
            obtain ⟨h142, h142s⟩ := h142
            subst h142
            refine gcons_u ?_
            refine gname_u ?_
            have h143 : u140 = (V.int x132.2.1) := h143
            subst h143
            refine gcons_u ?_
            refine gname_u ?_
            have h144 : u141 = (V.int x132.2.2) := h144
            subst h144
            refine gcons_u ?_
            refine gname_u ?_
            refine gnil_u ?_
            refine seq_u ?_
            refine ifS_u ?_
            refine or_s ?_
            refine not_s ?_
            refine tB_u ?_
            refine call_u ?_
            refine PvA.go (pa_c (pv_v rfl) (pa_c (pv_v rfl) (pa_c (pv_v rfl) pa_n))) ?_
            refine ⟨c135, _, y9, _, x132.1, _, x132.2.1, rfl, g137.wf, (tyL_p h28), ⟨rfl, h142s⟩, rfl, ?_⟩
            refine Kont.call k g137 (fun _ z => by cases z) (fun y147 e148 k c149 H150 st151 g152 v153 r154 => ?_) (fun _ _ _ _ _ _ z => z)
            have r154 : v153 = (V.bl y147) := r154
            subst r154
            have h19 := lift h19 st151
            have h28 := lift h28 st151
            have h40 := lift h40 st151
            have h126 := h126.lift st151
            refine ⟨_, rfl, ?_⟩
            refine ite_b (b := y147) (fun b155 => ?_) (fun b155 => ?_)
            · have k := k.brT b155
              refine not_s ?_
              refine tB_u ?_
              refine call_u ?_
              refine PvA.go (pa_c (pv_v rfl) (pa_c (pv_v rfl) (pa_c (pv_2 (pv_v rfl) pv_c rv_i) pa_n))) ?_
              refine ⟨c149, _, y9, _, x132.1, _, (x132.2.2 - (1 : Int)), rfl, g152.wf, (tyL_p h28), ⟨rfl, h142s⟩, rfl, ?_⟩
              refine Kont.call k g152 (fun _ z => by cases z) (fun y156 e157 k c158 H159 st160 g161 v162 r163 => ?_) (fun _ _ _ _ _ _ z => z)
              have r163 : v162 = (V.bl y156) := r163
              subst r163
              have h19 := lift h19 st160
              have h28 := lift h28 st160
              have h40 := lift h40 st160
              have h126 := h126.lift st160
              refine ⟨_, rfl, ?_⟩
              refine ite_b (b := y156) (fun b164 => ?_) (fun b164 => ?_)
              · have k := k.brT b164
                refine next_u ?_
                refine nx_go ?_
                refine ifS_u ?_
                refine or_s ?_
                refine and_s ?_
                refine PvT.go (pt_t (pv_2 (pv_v rfl) pv_c rv_i)) ?_
                refine ite_b (b := (decide ((0 : Int) < x132.2.1))) (fun b165 => ?_) (fun b165 => ?_)
                · have k := k.brT b165
                  refine tB_u ?_
                  refine call_u ?_
                  refine PvA.go (pa_c (pv_v rfl) (pa_c (pv_v rfl) (pa_c (pv_2 (pv_v rfl) pv_c rv_i) pa_n))) ?_
                  refine ⟨c158, _, y9, _, x132.1, _, (x132.2.1 - (1 : Int)), rfl, g161.wf, (tyL_p h28), ⟨rfl, h142s⟩, rfl, ?_⟩
                  refine Kont.call k g161 (fun _ z => by cases z) (fun y166 e167 k c168 H169 st170 g171 v172 r173 => ?_) (fun _ _ _ _ _ _ z => z)
                  have r173 : v172 = (V.bl y166) := r173
                  subst r173
                  have h19 := lift h19 st170
                  have h28 := lift h28 st170
                  have h40 := lift h40 st170
                  have h126 := h126.lift st170
                  refine ⟨_, rfl, ?_⟩
                  refine ite_b (b := y166) (fun b174 => ?_) (fun b174 => ?_)
                  · have k := k.brT b174
                    refine ret_u ?_
                    refine Pv.go pv_c ?_
                    exact (k.done g171) _ rfl
                  · rw [brF_eq b174] at k
                    refine tB_u ?_
                    refine call_u ?_
                    refine PvA.go (pa_c (pv_v rfl) (pa_c (pv_v rfl) (pa_c (pv_v rfl) pa_n))) ?_
                    refine ⟨c168, _, y9, _, x132.1, _, x132.2.2, rfl, g171.wf, (tyL_p h28), ⟨rfl, h142s⟩, rfl, ?_⟩
                    refine Kont.call k g171 (fun _ z => by cases z) (fun y175 e176 k c177 H178 st179 g180 v181 r182 => ?_) (fun _ _ _ _ _ _ z => z)
                    have r182 : v181 = (V.bl y175) := r182
                    subst r182
                    have h19 := lift h19 st179
                    have h28 := lift h28 st179
                    have h40 := lift h40 st179
                    have h126 := h126.lift st179
                    refine ⟨_, rfl, ?_⟩
                    refine ite_b (b := y175) (fun b183 => ?_) (fun b183 => ?_)
                    · have k := k.brT b183
                      refine ret_u ?_
                      refine Pv.go pv_c ?_
                      exact (k.done g180) _ rfl
                    · rw [brF_eq b183] at k
                      refine next_u ?_
                      refine nx_go ?_
                      exact (k.done g180) _ ⟨_, _, _, rfl, g180, h19, h28, h40, h126⟩
                · rw [brF_eq b165] at k
                  refine tB_u ?_
                  refine call_u ?_
                  refine PvA.go (pa_c (pv_v rfl) (pa_c (pv_v rfl) (pa_c (pv_v rfl) pa_n))) ?_
                  refine ⟨c158, _, y9, _, x132.1, _, x132.2.2, rfl, g161.wf, (tyL_p h28), ⟨rfl, h142s⟩, rfl, ?_⟩
                  refine Kont.call k g161 (fun _ z => by cases z) (fun y184 e185 k c186 H187 st188 g189 v190 r191 => ?_) (fun _ _ _ _ _ _ z => z)
                  have r191 : v190 = (V.bl y184) := r191
                  subst r191
                  have h19 := lift h19 st188
                  have h28 := lift h28 st188
                  have h40 := lift h40 st188
                  have h126 := h126.lift st188
                  refine ⟨_, rfl, ?_⟩
                  refine ite_b (b := y184) (fun b192 => ?_) (fun b192 => ?_)
                  · have k := k.brT b192
                    refine ret_u ?_
                    refine Pv.go pv_c ?_
                    exact (k.done g189) _ rfl
                  · rw [brF_eq b192] at k
                    refine next_u ?_
                    refine nx_go ?_
                    exact (k.done g189) _ ⟨_, _, _, rfl, g189, h19, h28, h40, h126⟩
              · rw [brF_eq b164] at k
                refine ret_u ?_
                refine Pv.go pv_c ?_
                exact (k.done g161) _ rfl
            · rw [brF_eq b155] at k
              refine ret_u ?_
              refine Pv.go pv_c ?_
              exact (k.done g152) _ rfl
          · intro s128 c193 H194 σ i k
            obtain ⟨y129, y130, y131, rfl, g195, h19, h28, h40, h126⟩ := i
            refine nx_go ?_
            refine seq_u ?_
            refine ifS_u ?_
            refine test_u ?_
            refine op_u ?_
            refine call_u ?_
            refine PvA.go (pa_c (pv_v rfl) pa_n) ?_
            refine ⟨c193, _, y30, rfl, g195.wf, (tyL_p h40), ?_⟩
            refine Kont.call k g195 (fun _ z => by cases z) (fun y196 e197 k c198 H199 st200 g201 v202 r203 => ?_) (fun _ _ _ _ _ _ z => z)
            have r203 : v202 = (V.int y196) := r203
            subst r203
            have h19 := lift h19 st200
            have h28 := lift h28 st200
            have h40 := lift h40 st200
            refine cb_u ?_
            refine cons_u ?_
            refine lc_u ?_
            refine ilist_u ?_
            refine Pv.go (pv_v rfl) ?_
            obtain ⟨ad204, us205, e207, h206⟩ := tyL_open h40
            cases e207
            refine ilist_e (h206.rd) ?_
            obtain ⟨e208, k⟩ := k.chk
            refine comp_pB (A := (tyT3 tyS tyI tyI)) (B := tyI) (xs := y30) k g201 e208 (fun ci Hi st => pit_l (h206.lift st).rd (h206.lift st).rs) ?_ ?_
            · intro x209 v210 c212 H213 Qe Qn st214 gi_ h211 k
              have h19 := lift h19 st214
              have h28 := lift h28 st214
              have h40 := lift h40 st214
              have h206 := h206.lift st214
              have h216 := gi_.b0 h0
              have g215 : Step [] c212 H213 c212 H213 := Step.refl gi_.wf
              obtain ⟨ad217, u218, u219, u220, e225, rd224, h221, h222, h223⟩ := open3 h211
              subst e225
              refine gtup_u rd224 rfl ?_
              obtain ⟨h221, h221s⟩ := h221
              subst h221
              refine gcons_u ?_
              refine gname_u ?_
              have h222 : u219 = (V.int x209.2.1) := h222
              subst h222
              refine gcons_u ?_
              refine gname_u ?_
              have h223 : u220 = (V.int x209.2.2) := h223
              subst h223
              refine gcons_u ?_
              refine gname_u ?_
              refine gnil_u ?_
              refine ⟨rfl, yes_u ?_⟩
              refine Pv.go (pv_2 (pv_v rfl) (pv_v rfl) rv_i) ?_
              exact (k.done g215) _ rfl
            intro y226 p227 us228 c229 H230 o232_n st231 o232 k
            have g233 := g201.tr0 st231
            have h19 := lift h19 st231
            have h28 := lift h28 st231
            have h40 := lift h40 st231
            refine nil_u ?_
            refine sum_end o232.b ?_
            refine rv_nei _ ?_
            refine ⟨_, rfl, ?_⟩
            refine ite_b (b := (!decide (y196 = (List.sum y226)))) (fun b234 => ?_) (fun b234 => ?_)
            · have k := k.brT b234
              refine ret_u ?_
              refine Pv.go pv_c ?_
              exact (k.done g233) _ rfl
            · rw [brF_eq b234] at k
              refine next_u ?_
              refine nx_go ?_
              refine seq_u ?_
              refine ifS_u ?_
              refine or_s ?_
              refine tB_u ?_
              refine cb_u ?_
              refine cons_u ?_
              refine call_u ?_
              refine PvA.go (pa_c (pv_v rfl) pa_n) ?_
              refine ⟨c229, _, y30, rfl, g233.wf, (tyL_p h40), ?_⟩
              refine Kont.call k g233 (fun _ z => by cases z) (fun y235 e236 k c237 H238 st239 g240 v241 r242 => ?_) (fun _ _ _ _ _ _ z => z)
              have r242 : v241 = (V.int y235) := r242
              subst r242
              have h19 := lift h19 st239
              have h28 := lift h28 st239
              have h40 := lift h40 st239
              refine cons_u ?_
              refine Pv.go pv_c ?_
              refine nil_u ?_
              refine (rc_isi (b := false) (.ty _) tyx_int (kit_ty (by decide +kernel))) _ ?_
              refine ⟨_, rfl, ?_⟩
              refine ite_b (b := false) (fun b243 => by cases b243) (fun b243 => ?_)
              refine test_u ?_
              refine op_u ?_
              refine call_u ?_
              refine cons_u ?_
              refine call_u ?_
              refine cons_u ?_
              refine Pv.go (pv_v rfl) ?_
              refine cons_u ?_
              refine call_u ?_
              refine PvA.go (pa_c (pv_v rfl) (pa_c pv_c pa_n)) ?_
              refine ⟨c237, _, a0, _, (1 : Int), rfl, g240.wf, (g240.b0 h0), rfl, ?_⟩
              refine Kont.call k g240 (fun _ z => by cases z) (fun y244 e245 k c246 H247 st248 g249 v250 r251 => ?_) (fun _ _ _ _ _ _ z => z)
              have r251 : v250 = (V.int y244) := r251
              subst r251
              have h19 := lift h19 st248
              have h28 := lift h28 st248
              have h40 := lift h40 st248
              refine nil_u ?_
              refine ⟨c246, _, y9, _, y244, rfl, g249.wf, (tyL_p h28), rfl, ?_⟩
              refine Kont.call k g249 (fun _ z => by cases z) (fun y252 e253 k c254 H255 st256 g257 v258 r259 => ?_) (fun _ _ _ _ _ _ z => z)
              obtain ⟨p260, us261, rfl, r259⟩ := r259
              have r259 := r259.base g249
              have h19 := lift h19 st256
              have h28 := lift h28 st256
              have h40 := lift h40 st256
              refine nil_u ?_
              refine ⟨c254, _, y252, rfl, g257.wf, r259.pl, ?_⟩
              refine Kont.call k g257 (fun _ z => by cases z) (fun y262 e263 k c264 H265 st266 g267 v268 r269 => ?_) (fun e e263 c264 H265 st266 g267 pe => ?_)
              rotate_left
              · exact pe
              obtain ⟨p270, us271, rfl, r269⟩ := r269
              have r269 := r269.base g257
              have h19 := lift h19 st266
              have h28 := lift h28 st266
              have h40 := lift h40 st266
              refine Pv.go (pv_v rfl) ?_
              refine (rv_nel r269.b (tyL_b h40) (by decide)) _ ?_
              refine ⟨_, rfl, ?_⟩
              refine ite_b (b := (!decide (y262 = y30))) (fun b272 => ?_) (fun b272 => ?_)
              · have k := k.brT b272
                refine ret_u ?_
                refine Pv.go pv_c ?_
                exact (k.done g267) _ rfl
              · rw [brF_eq b272] at k
                refine next_u ?_
                refine nx_go ?_
                refine seq_u ?_
                refine asg_u ?_
                refine call_u ?_
                refine PvA.go (pa_c (pv_v rfl) pa_n) ?_
                refine ⟨c264, _, y30, rfl, g267.wf, (tyL_p h40), ?_⟩
                refine Kont.call k g267 (fun _ z => by cases z) (fun y273 e274 k c275 H276 st277 g278 v279 r280 => ?_) (fun e e274 c275 H276 st277 g278 pe => ?_)
                rotate_left
                · exact pe
                obtain ⟨p281, us282, rfl, r280⟩ := r280
                have r280 := r280.base g267
                have h19 := lift h19 st277
                have h28 := lift h28 st277
                have h40 := lift h40 st277
                refine gname_u ?_
                refine nx_go ?_
                refine seq_u ?_
                refine asg_u ?_
                refine cb_u ?_
                refine PvA.go (pa_c (pv_v rfl) pa_n) ?_
                refine listof_end (H0 := H0) (tyL_b h40) g278.wf (fun _ n => g278.fresh n) fun p283 us284 c285 H286 o288_n st287 o288 => ?_
                have n289 : p281 ≠ p283 := ne_of_none r280.obj o288_n
                have g290 := g278.tr0 st287
                have h19 := lift h19 st287
                have h28 := lift h28 st287
                have h40 := lift h40 st287
                have r280 := r280.step0 st287
                have h291 := o288.frz
                have g292 := g290.frz (p := p283) o288.new
                have h19 := liftF (p := p283) h19
                have h28 := liftF (p := p283) h28
                have h40 := liftF (p := p283) h40
                have r280 := r280.other n289
                refine gname_u ?_
                refine nx_go ?_
                refine seq_u ?_
                refine drop_u ?_
                refine bm_u ?_
                refine Pv.go (pv_v rfl) ?_
                refine ⟨ty_list (.inl r280.obj), ?_⟩
                refine cons_u ?_
                refine tup_u ?_
                refine PvA.go (pa_c pv_c (pa_c pv_c (pa_c pv_c pa_n))) ?_
                refine tup_end (Nat.le_of_ble_eq_true rfl) g292.wf fun p293 c294 H295 st296 cp297 rd298 np299 => ?_
                have n301 : p281 ≠ p293 := ne_of_none r280.obj np299
                have g302 := g292.tr0 st296
                have h19 := lift h19 st296
                have h28 := lift h28 st296
                have h40 := lift h40 st296
                have r280 := r280.step0 st296
                have h291 := lift h291 st296
                have h300 : (tyT3 tyS tyI tyI).r c294 H295 (V.ref p293) (("zz" : PySem.Str), (0 : Int), (1 : Int)) := ⟨p293, _, _, _, rfl, cp297, rd298, ⟨rfl, (show PyData.strOk ("zz" : PySem.Str) = true by decide +kernel)⟩, rfl, rfl⟩
                refine nil_u ?_
                obtain ⟨e303, k⟩ := k.chk
                refine append_end r280 g302.wf h300 (of_decide_eq_true e303) fun H304 st305 o306 => ?_
                have g307 := g302.tr1 st305 (.inr o306.new)
                have h19 := lift h19 st305
                have h28 := lift h28 st305
                have h40 := lift h40 st305
                have h291 := lift h291 st305
                refine nx_go ?_
                refine ret_u ?_
                refine vb_cut k (fun (s308 : Unit) (c : Cl) (H : Hp) (σ : L2.St) => σ = [some w0, some (V.ref p17), some (V.ref p21), some (V.ref p38), y129, y64, y130, y131, some (V.ref p281), some (V.ref p283)] ∧ Step [] c0 H0 c H ∧ (tyL (tyT3 tyS tyI tyI)).r c H (V.ref p17) y9 ∧ (tyL (tyT3 tyS tyI tyI)).r c H (V.ref p21) y9 ∧ (tyL (tyT3 tyS tyI tyI)).r c H (V.ref p38) y30 ∧ Own (tyT3 tyS tyI tyI) H0 c H p281 (us282 ++ [(V.ref p293)]) (y273 ++ [(("zz" : PySem.Str), (0 : Int), (1 : Int))]) ∧ (tyL (tyT3 tyS tyI tyI)).r c H (V.ref p283) y30) ?_ ?_
                rotate_left
                · intro k
                  refine andV_u ?_
                  refine Pv.go (pv_2 (pv_v rfl) (pv_v rfl) (rv_eql (tyL_b h40) (tyL_b h291) (by decide))) ?_
                  refine ⟨(decide (y30 = y30)), rfl, ite_b (b := (decide (y30 = y30))) (fun b312 => ?_) (fun b312 => ?_)⟩
                  · have k := k.brT b312
                    refine op_u ?_
                    refine sl_u ?_
                    refine Pv.go (pv_v rfl) ?_
                    refine PvO.go po_n ?_
                    refine PvO.go (po_s (pv_neg pv_c)) ?_
                    refine slice_end (H0 := H0) o306.b g307.wf (fun _ n => g307.fresh n) fun p313 us314 c315 H316 o318_n st317 o318 => ?_
                    change Own _ H0 _ _ _ _ (sliceL (y273 ++ [(("zz" : PySem.Str), (0 : Int), (1 : Int))]) none (some (-(1 : Int)))) at o318
                    have n319 : p281 ≠ p313 := ne_of_none o306.obj o318_n
                    have g320 := g307.tr0 st317
                    have h19 := lift h19 st317
                    have h28 := lift h28 st317
                    have h40 := lift h40 st317
                    have o306 := o306.step0 st317
                    have h291 := lift h291 st317
                    refine Pv.go (pv_v rfl) ?_
                    refine (rv_eql o318.b (tyL_b h291) (by decide)) _ ?_
                    exact k.done g320 ⟨rfl, g320, h19, h28, h40, o306, h291⟩
                  · rw [brF_eq b312] at k
                    exact k.done g307 ⟨rfl, g307, h19, h28, h40, o306, h291⟩
                intro b321 c309 H310 i k
                obtain ⟨_, g311, h19, h28, h40, o306, h291⟩ := i
                exact (k.done g311) _ rfl
      · rw [brF_eq b51] at k
        refine ret_u ?_
        refine Pv.go pv_c ?_
        exact (k.done g48) _ rfl
theorem all_ok {P : Program} {w : World} {K : PySem.W.Frag} {mg : Str → Option Value} {base : Heap} {a : Ad} (T : Txt K mg a) : FnOk P w K mg base CX0 3 a.law a.law_fd ["_law_script"] (sp_law K a.ea) := by
  have G_check_row := ok_check_row (P := P) (w := w) (base := base) T
  have G_normal := ok_normal (P := P) (w := w) (base := base) T G_check_row
  have G_size := ok_size (P := P) (w := w) (base := base) T
  have G_has := ok_has (P := P) (w := w) (base := base) T
  have G_law_cell := ok_law_cell (P := P) (w := w) (base := base) T
  have G_law_pieces := ok_law_pieces (P := P) (w := w) (base := base) T
  have G_law_rows := ok_law_rows (P := P) (w := w) (base := base) T G_law_cell G_law_pieces
  have G_law_has := ok_law_has (P := P) (w := w) (base := base) T
  have G_law_samples := ok_law_samples (P := P) (w := w) (base := base) T
  have G_law_is_ground := ok_law_is_ground (P := P) (w := w) (base := base) T
  have G_law_cut := ok_law_cut (P := P) (w := w) (base := base) T
  have G_law := ok_law (P := P) (w := w) (base := base) T G_law_cell G_law_cut G_law_has G_law_is_ground G_law_rows G_law_samples G_has G_normal G_size
  exact G_law
theorem all_mk {P : Program} {w : World} {K : PySem.W.Frag} {h : Heap} {mg : Str → Option Value} {fa : Addr} (X : K.In h) (G : h.Ns mainGlobals mg) (hfa : mg "law" = some (.ref fa))
    {f0 : Addr} {od0 an0 : Option Addr} {sl0 : Array (Option Value)} {oc0 kV0 dc0 pm0 cd0 ct0 : Value}
    {f1 : Addr} {od1 an1 : Option Addr} {sl1 : Array (Option Value)} {oc1 kV1 dc1 pm1 cd1 ct1 : Value}
    {f2 : Addr} {od2 an2 : Option Addr} {sl2 : Array (Option Value)} {oc2 kV2 dc2 pm2 cd2 ct2 : Value}
    {f3 : Addr} {od3 an3 : Option Addr} {sl3 : Array (Option Value)} {oc3 kV3 dc3 pm3 cd3 ct3 : Value}
    {f4 : Addr} {od4 an4 : Option Addr} {sl4 : Array (Option Value)} {oc4 kV4 dc4 pm4 cd4 ct4 : Value}
    {f5 : Addr} {od5 an5 : Option Addr} {sl5 : Array (Option Value)} {oc5 kV5 dc5 pm5 cd5 ct5 : Value}
    {f6 : Addr} {od6 an6 : Option Addr} {sl6 : Array (Option Value)} {oc6 kV6 dc6 pm6 cd6 ct6 : Value}
    {f7 : Addr} {od7 an7 : Option Addr} {sl7 : Array (Option Value)} {oc7 kV7 dc7 pm7 cd7 ct7 : Value}
    {f8 : Addr} {od8 an8 : Option Addr} {sl8 : Array (Option Value)} {oc8 kV8 dc8 pm8 cd8 ct8 : Value}
    {f9 : Addr} {od9 an9 : Option Addr} {sl9 : Array (Option Value)} {oc9 kV9 dc9 pm9 cd9 ct9 : Value}
    {f10 : Addr} {od10 an10 : Option Addr} {sl10 : Array (Option Value)} {oc10 kV10 dc10 pm10 cd10 ct10 : Value}
    {f11 : Addr} {od11 an11 : Option Addr} {sl11 : Array (Option Value)} {oc11 kV11 dc11 pm11 cd11 ct11 : Value}
    {Cground Ckerb : Addr}
    (a0 : PySem.W.nsIn K mainGlobals "check_row" = some (some (.ref f0)))
    (l0 : K.lookup f0 = some ⟨oc0, od0, .func (PySem.W.fnOf "check_row" "check_row" (defArgs s_check_row) (defBody s_check_row) (defScope s_check_row) .none kV0 dc0 pm0 an0 cd0 ct0), sl0⟩)
    (c0 : PySem.W.codeIn K cd0 "check_row" = true)
    (k0 : PySem.W.keepIn K (.ref f0) = true)
    (a1 : PySem.W.nsIn K mainGlobals "normal" = some (some (.ref f1)))
    (l1 : K.lookup f1 = some ⟨oc1, od1, .func (PySem.W.fnOf "normal" "normal" (defArgs s_normal) (defBody s_normal) (defScope s_normal) .none kV1 dc1 pm1 an1 cd1 ct1), sl1⟩)
    (c1 : PySem.W.codeIn K cd1 "normal" = true)
    (k1 : PySem.W.keepIn K (.ref f1) = true)
    (a2 : PySem.W.nsIn K mainGlobals "size" = some (some (.ref f2)))
    (l2 : K.lookup f2 = some ⟨oc2, od2, .func (PySem.W.fnOf "size" "size" (defArgs s_size) (defBody s_size) (defScope s_size) .none kV2 dc2 pm2 an2 cd2 ct2), sl2⟩)
    (c2 : PySem.W.codeIn K cd2 "size" = true)
    (k2 : PySem.W.keepIn K (.ref f2) = true)
    (a3 : PySem.W.nsIn K mainGlobals "has" = some (some (.ref f3)))
    (l3 : K.lookup f3 = some ⟨oc3, od3, .func (PySem.W.fnOf "has" "has" (defArgs s_has) (defBody s_has) (defScope s_has) .none kV3 dc3 pm3 an3 cd3 ct3), sl3⟩)
    (c3 : PySem.W.codeIn K cd3 "has" = true)
    (k3 : PySem.W.keepIn K (.ref f3) = true)
    (a4 : PySem.W.nsIn K mainGlobals "_law_cell" = some (some (.ref f4)))
    (l4 : K.lookup f4 = some ⟨oc4, od4, .func (PySem.W.fnOf "_law_cell" "_law_cell" (defArgs s_law_cell) (defBody s_law_cell) (defScope s_law_cell) .none kV4 dc4 pm4 an4 cd4 ct4), sl4⟩)
    (c4 : PySem.W.codeIn K cd4 "_law_cell" = true)
    (k4 : PySem.W.keepIn K (.ref f4) = true)
    (a5 : PySem.W.nsIn K mainGlobals "_law_pieces" = some (some (.ref f5)))
    (l5 : K.lookup f5 = some ⟨oc5, od5, .func (PySem.W.fnOf "_law_pieces" "_law_pieces" (defArgs s_law_pieces) (defBody s_law_pieces) (defScope s_law_pieces) .none kV5 dc5 pm5 an5 cd5 ct5), sl5⟩)
    (c5 : PySem.W.codeIn K cd5 "_law_pieces" = true)
    (k5 : PySem.W.keepIn K (.ref f5) = true)
    (a6 : PySem.W.nsIn K mainGlobals "_law_rows" = some (some (.ref f6)))
    (l6 : K.lookup f6 = some ⟨oc6, od6, .func (PySem.W.fnOf "_law_rows" "_law_rows" (defArgs s_law_rows) (defBody s_law_rows) (defScope s_law_rows) .none kV6 dc6 pm6 an6 cd6 ct6), sl6⟩)
    (c6 : PySem.W.codeIn K cd6 "_law_rows" = true)
    (k6 : PySem.W.keepIn K (.ref f6) = true)
    (a7 : PySem.W.nsIn K mainGlobals "_law_has" = some (some (.ref f7)))
    (l7 : K.lookup f7 = some ⟨oc7, od7, .func (PySem.W.fnOf "_law_has" "_law_has" (defArgs s_law_has) (defBody s_law_has) (defScope s_law_has) .none kV7 dc7 pm7 an7 cd7 ct7), sl7⟩)
    (c7 : PySem.W.codeIn K cd7 "_law_has" = true)
    (k7 : PySem.W.keepIn K (.ref f7) = true)
    (a8 : PySem.W.nsIn K mainGlobals "_law_samples" = some (some (.ref f8)))
    (l8 : K.lookup f8 = some ⟨oc8, od8, .func (PySem.W.fnOf "_law_samples" "_law_samples" (defArgs s_law_samples) (defBody s_law_samples) (defScope s_law_samples) .none kV8 dc8 pm8 an8 cd8 ct8), sl8⟩)
    (c8 : PySem.W.codeIn K cd8 "_law_samples" = true)
    (k8 : PySem.W.keepIn K (.ref f8) = true)
    (a9 : PySem.W.nsIn K mainGlobals "_law_is_ground" = some (some (.ref f9)))
    (l9 : K.lookup f9 = some ⟨oc9, od9, .func (PySem.W.fnOf "_law_is_ground" "_law_is_ground" (defArgs s_law_is_ground) (defBody s_law_is_ground) (defScope s_law_is_ground) .none kV9 dc9 pm9 an9 cd9 ct9), sl9⟩)
    (c9 : PySem.W.codeIn K cd9 "_law_is_ground" = true)
    (k9 : PySem.W.keepIn K (.ref f9) = true)
    (a10 : PySem.W.nsIn K mainGlobals "_law_cut" = some (some (.ref f10)))
    (l10 : K.lookup f10 = some ⟨oc10, od10, .func (PySem.W.fnOf "_law_cut" "_law_cut" (defArgs s_law_cut) (defBody s_law_cut) (defScope s_law_cut) .none kV10 dc10 pm10 an10 cd10 ct10), sl10⟩)
    (c10 : PySem.W.codeIn K cd10 "_law_cut" = true)
    (k10 : PySem.W.keepIn K (.ref f10) = true)
    (a11 : PySem.W.nsIn K mainGlobals "law" = some (some (.ref f11)))
    (l11 : K.lookup f11 = some ⟨oc11, od11, .func (PySem.W.fnOf "law" "law" (defArgs s_law) (defBody s_law) (defScope s_law) .none kV11 dc11 pm11 an11 cd11 ct11), sl11⟩)
    (c11 : PySem.W.codeIn K cd11 "law" = true)
    (k11 : PySem.W.keepIn K (.ref f11) = true)
    (aC_ground : PySem.W.nsIn K mainGlobals "InvalidGround" = some (some (.ref Cground)))
    (ex_ground : PySem.W.excIn K Cground [.type "ValueError", .type "Exception", .type "BaseException", .type "object"] "ValueError.__new__" = true)
    (kp_ground : PySem.W.keepIn K (.ref Cground) = true)
    (hg_ground : PySem.W.findIn K (.ref Cground) "__getattribute__" = some (some (.builtin "BaseException.__getattribute__")))
    (hk_ground : PySem.W.findIn K (.ref Cground) "__getattr__" = some none)
    (hac_ground : PySem.W.findIn K (.ref Cground) "__class__" = some (some (.builtin "object.__class__")))
    (hm_ground : PySem.W.mroIn K Cground (.type "object") = some true)
    (sb_ground : PySem.W.subIn K (.ref Cground) (.type "BaseException") = some true)
    (ty_ground : PySem.W.typeIn K (.ref Cground) = some (.type "type"))
    (hd_ground : PySem.W.hasDictIn K Cground = true)
    (ic_ground : PySem.W.isClsIn K Cground = true)
    (sv_ground : PySem.W.subIn K (.ref Cground) (.type "ValueError") = some true)
    (aC_kerb : PySem.W.nsIn K mainGlobals "KerbError" = some (some (.ref Ckerb)))
    (sb_kerb : PySem.W.subIn K (.ref Ckerb) (.type "BaseException") = some true)
    (ty_kerb : PySem.W.typeIn K (.ref Ckerb) = some (.type "type"))
    (hd_kerb : PySem.W.hasDictIn K Ckerb = true)
    (ic_kerb : PySem.W.isClsIn K Ckerb = true)
    (sv_kerb : PySem.W.subIn K (.ref Ckerb) (.type "ValueError") = some true)
    (hn : PySem.W.specialIn K (.builtin "object.__class__") "__get__" = some (some (.builtin "getset_descriptor.__get__")))
    (htk : PySem.W.takesIn K (.builtin "object.__class__") = some true)
    (su_ground_ground : PySem.W.subIn K (.ref Cground) (.ref Cground) = some true)
    (su_ground_kerb : PySem.W.subIn K (.ref Cground) (.ref Ckerb) = some true)
    (su_kerb_ground : PySem.W.subIn K (.ref Ckerb) (.ref Cground) = some false)
    (su_kerb_kerb : PySem.W.subIn K (.ref Ckerb) (.ref Ckerb) = some true)
    (z_bool : PySem.W.nsIn K mainGlobals "bool" = some none)
    (z_int : PySem.W.nsIn K mainGlobals "int" = some none)
    (z_isinstance : PySem.W.nsIn K mainGlobals "isinstance" = some none)
    (z_len : PySem.W.nsIn K mainGlobals "len" = some none)
    (z_list : PySem.W.nsIn K mainGlobals "list" = some none)
    (z_max : PySem.W.nsIn K mainGlobals "max" = some none)
    (z_range : PySem.W.nsIn K mainGlobals "range" = some none)
    (z_reversed : PySem.W.nsIn K mainGlobals "reversed" = some none)
    (z_sorted : PySem.W.nsIn K mainGlobals "sorted" = some none)
    (z_sum : PySem.W.nsIn K mainGlobals "sum" = some none)
    (z_tuple : PySem.W.nsIn K mainGlobals "tuple" = some none) :
    ∃ fd : FuncData, (∀ (s : Shared) (v : Value), BindsTo s fd ⟨[v], []⟩ [("_law_script", v)]) ∧ ∀ base : Heap, K.In base → base.Ns mainGlobals mg → FnOk P w K mg base CX0 3 fa fd ["_law_script"] (sp_law K (fun _ => 0)) := by
  have e := hfa.symm.trans (PySem.W.mg_of X G a11)
  cases e
  have T : Txt K mg ⟨(fun e => match e with | .ground => Cground | _ => 0), Ckerb, f0, (PySem.W.fnOf "check_row" "check_row" (defArgs s_check_row) (defBody s_check_row) (defScope s_check_row) .none kV0 dc0 pm0 an0 cd0 ct0), f1, (PySem.W.fnOf "normal" "normal" (defArgs s_normal) (defBody s_normal) (defScope s_normal) .none kV1 dc1 pm1 an1 cd1 ct1), f2, (PySem.W.fnOf "size" "size" (defArgs s_size) (defBody s_size) (defScope s_size) .none kV2 dc2 pm2 an2 cd2 ct2), f3, (PySem.W.fnOf "has" "has" (defArgs s_has) (defBody s_has) (defScope s_has) .none kV3 dc3 pm3 an3 cd3 ct3), f4, (PySem.W.fnOf "_law_cell" "_law_cell" (defArgs s_law_cell) (defBody s_law_cell) (defScope s_law_cell) .none kV4 dc4 pm4 an4 cd4 ct4), f5, (PySem.W.fnOf "_law_pieces" "_law_pieces" (defArgs s_law_pieces) (defBody s_law_pieces) (defScope s_law_pieces) .none kV5 dc5 pm5 an5 cd5 ct5), f6, (PySem.W.fnOf "_law_rows" "_law_rows" (defArgs s_law_rows) (defBody s_law_rows) (defScope s_law_rows) .none kV6 dc6 pm6 an6 cd6 ct6), f7, (PySem.W.fnOf "_law_has" "_law_has" (defArgs s_law_has) (defBody s_law_has) (defScope s_law_has) .none kV7 dc7 pm7 an7 cd7 ct7), f8, (PySem.W.fnOf "_law_samples" "_law_samples" (defArgs s_law_samples) (defBody s_law_samples) (defScope s_law_samples) .none kV8 dc8 pm8 an8 cd8 ct8), f9, (PySem.W.fnOf "_law_is_ground" "_law_is_ground" (defArgs s_law_is_ground) (defBody s_law_is_ground) (defScope s_law_is_ground) .none kV9 dc9 pm9 an9 cd9 ct9), f10, (PySem.W.fnOf "_law_cut" "_law_cut" (defArgs s_law_cut) (defBody s_law_cut) (defScope s_law_cut) .none kV10 dc10 pm10 an10 cd10 ct10), fa, (PySem.W.fnOf "law" "law" (defArgs s_law) (defBody s_law) (defScope s_law) .none kV11 dc11 pm11 an11 cd11 ct11)⟩ :=
    { check_row := df_mk X G a0 l0 c0 k0 (fun _ _ _ _ _ _ us hl => match us, hl with | [_], _ => rfl),
      normal := df_mk X G a1 l1 c1 k1 (fun _ _ _ _ _ _ us hl => match us, hl with | [_], _ => rfl),
      size := df_mk X G a2 l2 c2 k2 (fun _ _ _ _ _ _ us hl => match us, hl with | [_], _ => rfl),
      has := df_mk X G a3 l3 c3 k3 (fun _ _ _ _ _ _ us hl => match us, hl with | [_, _, _], _ => rfl),
      law_cell := df_mk X G a4 l4 c4 k4 (fun _ _ _ _ _ _ us hl => match us, hl with | [_, _], _ => rfl),
      law_pieces := df_mk X G a5 l5 c5 k5 (fun _ _ _ _ _ _ us hl => match us, hl with | [_], _ => rfl),
      law_rows := df_mk X G a6 l6 c6 k6 (fun _ _ _ _ _ _ us hl => match us, hl with | [_, _, _], _ => rfl),
      law_has := df_mk X G a7 l7 c7 k7 (fun _ _ _ _ _ _ us hl => match us, hl with | [_, _, _], _ => rfl),
      law_samples := df_mk X G a8 l8 c8 k8 (fun _ _ _ _ _ _ us hl => match us, hl with | [_], _ => rfl),
      law_is_ground := df_mk X G a9 l9 c9 k9 (fun _ _ _ _ _ _ us hl => match us, hl with | [_], _ => rfl),
      law_cut := df_mk X G a10 l10 c10 k10 (fun _ _ _ _ _ _ us hl => match us, hl with | [_, _], _ => rfl),
      law := df_mk X G a11 l11 c11 k11 (fun _ _ _ _ _ _ us hl => match us, hl with | [_], _ => rfl),
      e_ground := err_mk X G aC_ground ex_ground kp_ground sb_ground ty_ground hg_ground hk_ground hd_ground hac_ground hm_ground hn htk,
      exm_ground_ground := PySem.W.exm_ref sb_ground hd_ground ty_ground su_ground_ground,
      exm_ground_kerb := PySem.W.exm_ref sb_kerb hd_kerb ty_kerb su_ground_kerb,
      kerb_g := PySem.W.mg_of X G aC_kerb,
      b_bool := PySem.W.mg_none_of X G z_bool,
      b_int := PySem.W.mg_none_of X G z_int,
      b_isinstance := PySem.W.mg_none_of X G z_isinstance,
      b_len := PySem.W.mg_none_of X G z_len,
      b_list := PySem.W.mg_none_of X G z_list,
      b_max := PySem.W.mg_none_of X G z_max,
      b_range := PySem.W.mg_none_of X G z_range,
      b_reversed := PySem.W.mg_none_of X G z_reversed,
      b_sorted := PySem.W.mg_none_of X G z_sorted,
      b_sum := PySem.W.mg_none_of X G z_sum,
      b_tuple := PySem.W.mg_none_of X G z_tuple }
  exact ⟨_, fun s v => .of_eq rfl, fun base _ _ => all_ok (P := P) (w := w) (base := base) T⟩
end Lw
/-! Km: mathematics for mirrors -/
namespace Kb
open PySem L2
theorem sizeLine_big : 1000000 ≤ sizeLine := by decide
theorem forN_inv {α σ : Type} {f : σ → α → Res σ} (I : Nat → σ → Prop) : ∀ {xs : List α} {s0 : σ} {k : Nat}, I k s0 → (∀ i s x, xs[i]? = some x → I (k + i) s → ∃ s', f s x = .ok s' ∧ I (k + i + 1) s') → ∃ s, forN xs s0 f = .ok s ∧ I (k + xs.length) s
  | [], s0, k, h0, _ => ⟨s0, rfl, h0⟩
  | x :: xs, s0, k, h0, st => by
    obtain ⟨s1, e1, h1⟩ := st 0 s0 x rfl h0
    obtain ⟨s2, e2, h2⟩ := forN_inv I (xs := xs) (s0 := s1) (k := k + 1) h1 (fun i s y hy hi => by
      have z := st (i + 1) s y (by simpa using hy) (by rw [show k + (i + 1) = k + 1 + i from by omega]; exact hi)
      rw [show k + 1 + i + 1 = k + (i + 1) + 1 from by omega]
      exact z)
    refine ⟨s2, by rw [forN_cons, e1]; exact e2, ?_⟩
    rw [List.length_cons, show k + (xs.length + 1) = k + 1 + xs.length from by omega]
    exact h2
theorem forN_inv0 {α σ : Type} {f : σ → α → Res σ} {xs : List α} {s0 : σ} (I : Nat → σ → Prop) (h0 : I 0 s0) (st : ∀ i s x, xs[i]? = some x → I i s → ∃ s', f s x = .ok s' ∧ I (i + 1) s') : ∃ s, forN xs s0 f = .ok s ∧ I xs.length s := by
  obtain ⟨s, e, h⟩ := forN_inv I (k := 0) h0 (fun i s x hx hi => by
    rw [Nat.zero_add] at hi ⊢
    exact st i s x hx hi)
  exact ⟨s, e, by rw [Nat.zero_add] at h; exact h⟩
/-- a loop whose turns are a plain function -/
theorem forN_fold {α σ : Type} {f : σ → α → Res σ} (g : σ → α → σ) : ∀ {xs : List α} {s0 : σ}, (∀ s x, x ∈ xs → f s x = .ok (g s x)) → forN xs s0 f = .ok (xs.foldl g s0)
  | [], _, _ => rfl
  | x :: xs, s0, h => by
    rw [forN_cons, h s0 x List.mem_cons_self, bind_ok, forN_fold g fun s y hy => h s y (List.mem_cons_of_mem _ hy)]
    rfl
theorem compN_c {α β : Type} {x : α} {xs : List α} {f : α → Res β} : compN (x :: xs) f = (nx (f x)).bind fun y => (compN xs f).bind fun ys => .ok (y :: ys) := rfl
theorem compN_map {α β : Type} {f : α → Res β} (g : α → β) : ∀ {xs : List α}, (∀ x ∈ xs, f x = .ok (g x)) → compN xs f = .ok (xs.map g)
  | [], _ => rfl
  | x :: xs, h => by
    rw [compN_c, h x List.mem_cons_self, nx_ok, bind_ok, compN_map g fun y hy => h y (List.mem_cons_of_mem _ hy)]
    rfl
theorem atI_of {α : Type} {xs : List α} {i : Int} {x : α} (h0 : 0 ≤ i) (h : xs[i.toNat]? = some x) : atI xs i = some x := by
  have z := atI_nat h
  rw [show ((i.toNat : Nat) : Int) = i from by omega] at z
  exact z
theorem atI_in {α : Type} {xs : List α} {i : Int} (h0 : 0 ≤ i) (h : i < xs.length) : ∃ x, atI xs i = some x ∧ x ∈ xs := by
  have hl : i.toNat < xs.length := by omega
  exact ⟨xs[i.toNat], atI_of h0 (List.getElem?_eq_getElem hl), List.getElem_mem hl⟩
theorem atI_getD {α : Type} {xs : List α} {i : Int} (d : α) (h0 : 0 ≤ i) (h : i < xs.length) : atI xs i = some (xs.getD i.toNat d) := by
  have hl : i.toNat < xs.length := by omega
  rw [List.getD_eq_getElem?_getD, List.getElem?_eq_getElem hl]
  exact atI_of h0 (List.getElem?_eq_getElem hl)
theorem atI_neg1 {α : Type} {xs : List α} {x : α} (h : xs.getLast? = some x) : atI xs (-(1 : Int)) = some x := by
  cases xs with
  | nil => cases h
  | cons y ys =>
    have e : (y :: ys) = (y :: ys).dropLast ++ [x] := by
      rw [List.getLast?_eq_getLast (List.cons_ne_nil y ys)] at h
      have h' := Option.some.inj h
      rw [← h']
      exact (List.dropLast_concat_getLast (List.cons_ne_nil y ys)).symm
    rw [e]
    exact atI_last _ _
theorem ixN_neg1 {n : Nat} (h : 0 < n) : ixN n (-(1 : Int)) = some (n - 1) := by
  unfold ixN
  rw [if_neg (by decide), if_pos (by omega)]
  congr 1
  omega
theorem log2_le_self (n : Nat) : n.log2 ≤ n := by
  cases n with
  | zero => decide
  | succ n => exact Nat.le_of_lt ((Nat.log2_lt (by omega)).mpr (Nat.lt_pow_self (by decide)))
theorem mulOk_of {a b : Int} {m n : Nat} (ha : a.natAbs ≤ m) (hb : b.natAbs ≤ n) (h : m + n < 1000000) : mulOk a b = true := by
  unfold mulOk
  have h1 := log2_le_self a.natAbs
  have h2 := log2_le_self b.natAbs
  exact decide_eq_true (by omega)
theorem rngOk_of {i : Int} (h1 : -4611686018427387904 ≤ i) (h2 : i < 4611686018427387904) : rngOk i = true := by
  unfold rngOk
  rw [decide_eq_true (show -(2 ^ 62) ≤ i from h1), decide_eq_true (show i < 2 ^ 62 from h2)]
  rfl
theorem rng_mem {lo : Int} : ∀ {n : Nat} {x : Int}, x ∈ rng lo n ↔ lo ≤ x ∧ x < lo + n := by
  intro n
  induction n generalizing lo with
  | zero =>
    intro x
    show x ∈ ([] : List Int) ↔ _
    constructor
    · intro h; cases h
    · intro h; omega
  | succ n ih =>
    intro x
    show x ∈ lo :: rng (lo + 1) n ↔ _
    rw [List.mem_cons, ih]
    constructor
    · rintro (h | h) <;> omega
    · intro h
      by_cases e : x = lo
      · exact .inl e
      · exact .inr (by omega)
theorem rng_get {lo : Int} {n i : Nat} {x : Int} (h : (rng lo n)[i]? = some x) : x = lo + i ∧ i < n := by
  have hl : i < n := by
    have z := (List.getElem?_eq_some_iff.mp h).1
    rw [ints_len] at z
    exact z
  have e := ints_at n lo i hl
  rw [h] at e
  exact ⟨Option.some.inj e, hl⟩

/-! #### it ends well, and what it gives -/
def Ok {α : Type} (r : Res α) (P : α → Prop) : Prop := ∃ y, r = .ok y ∧ P y
section
variable {α β σ ρ : Type}
theorem Ok.ret {x : α} {P : α → Prop} (h : P x) : Ok (.ok x) P := ⟨x, rfl, h⟩
theorem Ok.of {r : Res α} {x : α} {P : α → Prop} (e : r = .ok x) (h : P x) : Ok r P := ⟨x, e, h⟩
theorem Ok.imp {r : Res α} {P Q : α → Prop} (h : Ok r P) (q : ∀ x, P x → Q x) : Ok r Q := let ⟨x, e, p⟩ := h; ⟨x, e, q x p⟩
theorem Ok.bind {m : Res α} {f : α → Res β} {R : α → Prop} {P : β → Prop} (h : Ok m R) (q : ∀ y, R y → Ok (f y) P) : Ok (m.bind f) P := by
  obtain ⟨y, rfl, hy⟩ := h
  exact q y hy
/-- with the equation kept -/
theorem Ok.bindE {m : Res α} {f : α → Res β} {R : α → Prop} {P : β → Prop} (h : Ok m R) (q : ∀ y, m = .ok y → R y → Ok (f y) P) : Ok (m.bind f) P := by
  obtain ⟨y, e, hy⟩ := h
  rw [e]
  exact q y e hy
theorem Ok.nx {m : Res α} {P : α → Prop} (h : Ok m P) : Ok (Kb.nx m) P := by
  obtain ⟨y, rfl, hy⟩ := h
  exact ⟨y, rfl, hy⟩
theorem Ok.chk {b : Bool} {r : Res α} {P : α → Prop} (hb : b = true) (h : Ok r P) : Ok (Kb.chk b r) P := by subst hb; exact h
theorem Ok.chkD {c : Prop} [Decidable c] {r : Res α} {P : α → Prop} (hc : c) (h : Ok r P) : Ok (Kb.chk (decide c) r) P := Ok.chk (decide_eq_true hc) h
theorem Ok.opt {o : Option α} {f : α → Res β} {x : α} {P : β → Prop} (e : o = some x) (h : Ok (f x) P) : Ok (Kb.opt o f) P := by subst e; exact h
theorem Ok.br {b : Bool} {x y : Res α} {P : α → Prop} (ht : b = true → Ok x P) (hf : b = false → Ok y P) : Ok (Kb.br b x y) P := by
  cases b with
  | true => exact ht rfl
  | false => exact hf rfl
theorem Ok.brT {b : Bool} {x y : Res α} {P : α → Prop} (hb : b = true) (h : Ok x P) : Ok (Kb.br b x y) P := by subst hb; exact h
theorem Ok.brF {b : Bool} {x y : Res α} {P : α → Prop} (hb : b = false) (h : Ok y P) : Ok (Kb.br b x y) P := by subst hb; exact h
theorem Ok.forN {xs : List α} {s0 : σ} {f : σ → α → Res σ} {rest : σ → Res β} {P : β → Prop} (I : Nat → σ → Prop) (h0 : I 0 s0) (st : ∀ i s x, xs[i]? = some x → I i s → Ok (f s x) (I (i + 1))) (q : ∀ s, I xs.length s → Ok (rest s) P) : Ok ((Kb.forN xs s0 f).bind rest) P := by
  obtain ⟨s, e, h⟩ := forN_inv0 (f := f) (xs := xs) (s0 := s0) I h0 fun i s x hx hi => st i s x hx hi
  rw [e]
  exact q s h
/-- a loop with a return: each turn goes on, or returns what is wanted -/
theorem Ok.forR {xs : List α} {s0 : σ} {f : σ → α → Res (Ctl σ ρ)} {rest : Ctl σ ρ → Res β} {P : β → Prop} (I : Nat → σ → Prop) (R : ρ → Prop) (h0 : I 0 s0) (st : ∀ i s x, xs[i]? = some x → I i s → Ok (f s x) (fun c => match c with | .nx s' => I (i + 1) s' | .ret r => R r)) (q : ∀ s, I xs.length s → Ok (rest (.nx s)) P) (qr : ∀ r, R r → Ok (rest (.ret r)) P) : Ok ((Kb.forR xs s0 f).bind rest) P := by
  have key : ∀ (l : List α) (k : Nat) (s : σ), I k s → (∀ i s x, l[i]? = some x → I (k + i) s → Ok (f s x) (fun c => match c with | .nx s' => I (k + i + 1) s' | .ret r => R r)) → Ok (Kb.forR l s f) (fun c => match c with | .nx s' => I (k + l.length) s' | .ret r => R r) := by
    intro l
    induction l with
    | nil => intro k s h _; exact ⟨_, rfl, h⟩
    | cons x l ih =>
      intro k s h st
      rw [forR_cons]
      obtain ⟨c, e, hc⟩ := st 0 s x rfl h
      rw [e, bind_ok]
      cases c with
      | ret r => exact ⟨_, rfl, hc⟩
      | nx s' =>
        have z := ih (k + 1) s' hc fun i s y hy hi => by
          have z := st (i + 1) s y (by simpa using hy) (by rw [show k + (i + 1) = k + 1 + i from by omega]; exact hi)
          rw [show k + 1 + i + 1 = k + (i + 1) + 1 from by omega]
          exact z
        rw [List.length_cons, show k + (l.length + 1) = k + 1 + l.length from by omega]
        exact z
  obtain ⟨c, e, hc⟩ := key xs 0 s0 h0 fun i s x hx hi => by
    rw [Nat.zero_add] at hi ⊢
    exact st i s x hx hi
  rw [e, bind_ok]
  cases c with
  | ret r => exact qr r hc
  | nx s =>
    rw [Nat.zero_add] at hc
    exact q s hc
theorem Ok.compN {xs : List α} {f : α → Res β} {R : α → β → Prop} (h : ∀ x ∈ xs, Ok (f x) (R x)) : Ok (Kb.compN xs f) (fun ys => ys.length = xs.length ∧ ∀ (i : Nat) x y, xs[i]? = some x → ys[i]? = some y → R x y) := by
  induction xs with
  | nil => exact ⟨[], rfl, rfl, fun i x y e _ => by simp at e⟩
  | cons x xs ih =>
    obtain ⟨y, e, hy⟩ := h x List.mem_cons_self
    obtain ⟨ys, es, hl, hs⟩ := ih fun z hz => h z (List.mem_cons_of_mem _ hz)
    refine ⟨y :: ys, by rw [compN_c, e, nx_ok, bind_ok, es]; rfl, by simp [hl], fun i a b ea eb => ?_⟩
    cases i with
    | zero =>
      have e1 : x = a := by simpa using ea
      have e2 : y = b := by simpa using eb
      rw [← e1, ← e2]; exact hy
    | succ i => exact hs i a b (by simpa using ea) (by simpa using eb)
/-- it is the one value -/
theorem Ok.eq {r : Res α} {x : α} (h : Ok r (fun y => y = x)) : r = .ok x := by
  obtain ⟨y, e, rfl⟩ := h
  exact e
end
theorem mod_lt' (a : Int) {m : Int} (h : 0 < m) : 0 ≤ a % m ∧ a % m < m := ⟨Int.emod_nonneg _ (by omega), Int.emod_lt_of_pos _ h⟩
theorem pick {α : Type} {xs : List α} {a m : Int} (h : 0 < m) (hl : m = xs.length) : ∃ x, atI xs (a % m) = some x ∧ x ∈ xs := atI_in (mod_lt' a h).1 (by have := (mod_lt' a h).2; omega)
theorem sliceL_len {α : Type} (xs : List α) (lo hi : Option Int) : (sliceL xs lo hi).length ≤ xs.length := by
  unfold sliceL
  rw [List.length_take, List.length_drop]
  omega
end Kb
/-! Kg: grounds -/
namespace Kb
open PySem L2
abbrev Rw := PySem.Str × Int × Int
def gd (r : Rw) : Prop := 0 ≤ r.2.1 ∧ r.2.1 < r.2.2
abbrev ltS (x y : PySem.Str) : Prop := x.cps.toList < y.cps.toList
theorem ltS_irr (x : PySem.Str) : ¬ ltS x x := by
  have h := PyProof.Rows.strKind.irrefl x.cps.toList
  exact of_decide_eq_false h
theorem ltS_tr {x y z : PySem.Str} (h1 : ltS x y) (h2 : ltS y z) : ltS x z := by
  have h := PyProof.Rows.strKind.trans x.cps.toList y.cps.toList z.cps.toList (decide_eq_true h1) (decide_eq_true h2)
  exact of_decide_eq_true h
theorem ltS_tot {x y : PySem.Str} (h1 : ¬ ltS x y) (h2 : ¬ ltS y x) : x = y := by
  have h := PyProof.Rows.strKind.total x.cps.toList y.cps.toList (decide_eq_false h1) (decide_eq_false h2)
  cases x with | mk a => cases y with | mk b =>
    have e : a.toList = b.toList := h
    rw [Array.toList_inj.mp e]
/-- sorted rows -/
def Le (a b : Rw) : Prop := ¬ ltS b.1 a.1 ∧ (a.1 = b.1 → a.2.1 ≤ b.2.1)
theorem le_of {a b : Rw} (h : leK (keySII a) (keySII b) = true) : Le a b := by
  unfold leK ltK keySII at h
  rw [Bool.not_eq_true'] at h
  obtain ⟨h1, h2⟩ := PyProof.Rows.lex_false.mp h
  refine ⟨of_decide_eq_false h1, fun e => ?_⟩
  have h3 := h2.resolve_left (by
    rw [show PyProof.Rows.itemOrd.blt (Sum.inr a.1.cps.toList) (Sum.inr b.1.cps.toList) = decide (a.1.cps.toList < b.1.cps.toList) from rfl, e]
    intro z
    exact ltS_irr _ (of_decide_eq_true z))
  obtain ⟨h4, _⟩ := PyProof.Rows.lex_false.mp h3
  have z : ¬ (b.2.1 < a.2.1) := of_decide_eq_false h4
  omega
theorem sorted_le (rows : List Rw) : (sortK keySII rows).Pairwise Le := List.Pairwise.imp (S := Le) (fun {a b} h => le_of (a := a) (b := b) h) (sortK_sorted (key := keySII) rows)
/-- a cell of the rows -/
def cov (g : List Rw) (p : PySem.Str) (k : Int) : Prop := ∃ r ∈ g, r.1 = p ∧ r.2.1 ≤ k ∧ k < r.2.2
def covR (r : Rw) (p : PySem.Str) (k : Int) : Prop := r.1 = p ∧ r.2.1 ≤ k ∧ k < r.2.2
theorem cov_nil {p k} : ¬ cov [] p k := fun ⟨r, h, _⟩ => by cases h
theorem cov_cons {r : Rw} {g p k} : cov (r :: g) p k ↔ covR r p k ∨ cov g p k := by
  constructor
  · rintro ⟨q, h, c⟩
    rcases List.mem_cons.mp h with rfl | h
    · exact .inl c
    · exact .inr ⟨q, h, c⟩
  · rintro (c | ⟨q, h, c⟩)
    · exact ⟨r, List.mem_cons_self, c⟩
    · exact ⟨q, List.mem_cons_of_mem _ h, c⟩
theorem cov_app {a b : List Rw} {p k} : cov (a ++ b) p k ↔ cov a p k ∨ cov b p k := by
  constructor
  · rintro ⟨q, h, c⟩
    rcases List.mem_append.mp h with h | h
    · exact .inl ⟨q, h, c⟩
    · exact .inr ⟨q, h, c⟩
  · rintro (⟨q, h, c⟩ | ⟨q, h, c⟩)
    · exact ⟨q, List.mem_append_left _ h, c⟩
    · exact ⟨q, List.mem_append_right _ h, c⟩
theorem cov_one {r : Rw} {p k} : cov [r] p k ↔ covR r p k := by
  rw [cov_cons]
  exact ⟨fun h => h.resolve_right cov_nil, .inl⟩
theorem cov_perm {a b : List Rw} (h : a.Perm b) {p k} : cov a p k ↔ cov b p k :=
  ⟨fun ⟨r, m, c⟩ => ⟨r, h.mem_iff.mp m, c⟩, fun ⟨r, m, c⟩ => ⟨r, h.mem_iff.mpr m, c⟩⟩
instance {g : List Rw} {p : PySem.Str} {k : Int} : Decidable (cov g p k) := inferInstanceAs (Decidable (∃ r ∈ g, r.1 = p ∧ r.2.1 ≤ k ∧ k < r.2.2))
/-- rows of a ground, one behind the other -/
def GR (a b : Rw) : Prop := ltS a.1 b.1 ∨ (a.1 = b.1 ∧ a.2.2 < b.2.1)
theorem GR.tr {a b c : Rw} (g : gd b) (h1 : GR a b) (h2 : GR b c) : GR a c := by
  unfold gd at g
  rcases h1 with h1 | ⟨e1, h1⟩ <;> rcases h2 with h2 | ⟨e2, h2⟩
  · exact .inl (ltS_tr h1 h2)
  · exact .inl (e2 ▸ h1)
  · exact .inl (e1 ▸ h2)
  · exact .inr ⟨e1.trans e2, by omega⟩
def isG (g : List Rw) : Prop := (∀ r ∈ g, gd r) ∧ g.Pairwise GR
theorem isG.nil : isG [] := ⟨fun r h => (by cases h), List.Pairwise.nil⟩
/-- one row more -/
def mst (g : List Rw) (r : Rw) : List Rw := match g.getLast? with
  | none => [r]
  | some l => if l.1 = r.1 ∧ r.2.1 ≤ l.2.2 then g.set (g.length - 1) (r.1, l.2.1, (if l.2.2 > r.2.2 then l.2.2 else r.2.2)) else g ++ [r]
theorem mst_len (g : List Rw) (r : Rw) : (mst g r).length ≤ g.length + 1 := by
  unfold mst
  split
  · simp
  · split
    · simp
    · simp
theorem set_last (g : List Rw) (l x : Rw) : (g ++ [l]).set ((g ++ [l]).length - 1) x = g ++ [x] := by
  rw [List.length_append, List.length_singleton, Nat.add_sub_cancel]
  rw [List.set_append_right _ _ (Nat.le_refl _), Nat.sub_self]
  rfl
theorem mst_nil (r : Rw) : mst [] r = [r] := rfl
theorem mst_app (g : List Rw) (l r : Rw) : mst (g ++ [l]) r = if l.1 = r.1 ∧ r.2.1 ≤ l.2.2 then g ++ [(r.1, l.2.1, (if l.2.2 > r.2.2 then l.2.2 else r.2.2))] else g ++ [l] ++ [r] := by
  unfold mst
  rw [List.getLast?_append]
  show (match some l with | none => [r] | some l => _) = _
  dsimp only
  rw [set_last]
  rfl
def lastLe (g : List Rw) (r : Rw) : Prop := ∀ l, g.getLast? = some l → Le l r
theorem mst_ok {g : List Rw} {r : Rw} (hg : isG g) (hr : gd r) (hl : lastLe g r) : isG (mst g r) ∧ (∀ p k, cov (mst g r) p k ↔ cov g p k ∨ covR r p k) ∧ ∀ q, Le r q → lastLe (mst g r) q := by
  rcases List.eq_nil_or_concat g with rfl | ⟨g0, l, rfl⟩
  · rw [mst_nil]
    refine ⟨⟨fun q h => by rw [List.mem_singleton.mp h]; exact hr, List.pairwise_singleton _ _⟩, fun p k => ?_, fun q hq l e => ?_⟩
    · rw [cov_one]
      exact ⟨.inr, fun h => h.resolve_left cov_nil⟩
    · cases e
      exact hq
  · have e : g0.concat l = g0 ++ [l] := List.concat_eq_append
    rw [e] at hg hl ⊢
    have le : Le l r := hl l (by rw [List.getLast?_append]; rfl)
    have hgl : gd l := hg.1 l (by simp)
    obtain ⟨p1, _, p3⟩ := List.pairwise_append.mp hg.2
    rw [mst_app]
    unfold gd at hr hgl
    by_cases c : l.1 = r.1 ∧ r.2.1 ≤ l.2.2
    · rw [if_pos c]
      have lb := le.2 c.1
      have hmx : l.2.2 ≤ (if l.2.2 > r.2.2 then l.2.2 else r.2.2) ∧ r.2.2 ≤ (if l.2.2 > r.2.2 then l.2.2 else r.2.2) ∧ ((if l.2.2 > r.2.2 then l.2.2 else r.2.2) = l.2.2 ∨ (if l.2.2 > r.2.2 then l.2.2 else r.2.2) = r.2.2) := by
        split <;> omega
      generalize (if l.2.2 > r.2.2 then l.2.2 else r.2.2) = m at hmx
      refine ⟨⟨fun q h => ?_, List.pairwise_append.mpr ⟨p1, List.pairwise_singleton _ _, fun a ha b hb => ?_⟩⟩, fun p k => ?_, fun q hq x hx => ?_⟩
      · rcases List.mem_append.mp h with h | h
        · exact hg.1 q (List.mem_append_left _ h)
        · rw [List.mem_singleton.mp h]
          exact ⟨hgl.1, by show l.2.1 < m; omega⟩
      · rw [List.mem_singleton.mp hb]
        rcases p3 a ha l List.mem_cons_self with z | ⟨z1, z2⟩
        · exact .inl (by show ltS a.1 r.1; rw [← c.1]; exact z)
        · exact .inr ⟨by show a.1 = r.1; rw [← c.1]; exact z1, z2⟩
      · rw [cov_app, cov_app, cov_one, cov_one]
        unfold covR
        dsimp only
        rw [← c.1]
        constructor
        · rintro (h | ⟨h1, h2, h3⟩)
          · exact .inl (.inl h)
          · by_cases z : k < l.2.2
            · exact .inl (.inr ⟨h1, h2, z⟩)
            · exact .inr ⟨h1, by omega, by omega⟩
        · rintro ((h | ⟨h1, h2, h3⟩) | ⟨h1, h2, h3⟩)
          · exact .inl h
          · exact .inr ⟨h1, h2, by omega⟩
          · exact .inr ⟨h1, by omega, by omega⟩
      · rw [List.getLast?_append] at hx
        have hx' : (r.1, l.2.1, m) = x := Option.some.inj hx
        subst hx'
        exact ⟨hq.1, fun z => by have := hq.2 z; show l.2.1 ≤ q.2.1; omega⟩
    · rw [if_neg c]
      have gr : GR l r := by
        by_cases z : l.1 = r.1
        · exact .inr ⟨z, by
            by_cases y : r.2.1 ≤ l.2.2
            · exact absurd ⟨z, y⟩ c
            · omega⟩
        · refine .inl ?_
          by_cases y : ltS l.1 r.1
          · exact y
          · exact absurd (ltS_tot y le.1) z
      refine ⟨⟨fun q h => ?_, List.pairwise_append.mpr ⟨hg.2, List.pairwise_singleton _ _, fun a ha b hb => ?_⟩⟩, fun p k => ?_, fun q hq x hx => ?_⟩
      · rcases List.mem_append.mp h with h | h
        · exact hg.1 q h
        · rw [List.mem_singleton.mp h]
          exact hr
      · rw [List.mem_singleton.mp hb]
        rcases List.mem_append.mp ha with ha | ha
        · exact GR.tr hgl (p3 a ha l List.mem_cons_self) gr
        · rw [List.mem_singleton.mp ha]
          exact gr
      · rw [cov_app (a := g0 ++ [l]), cov_one]
      · rw [List.getLast?_append] at hx
        have hx' : r = x := Option.some.inj hx
        subst hx'
        exact hq
theorem fold_ok : ∀ {rs : List Rw} {g : List Rw}, isG g → (∀ r ∈ rs, gd r) → rs.Pairwise Le → (∀ r ∈ rs, lastLe g r) → isG (rs.foldl mst g) ∧ ∀ p k, cov (rs.foldl mst g) p k ↔ cov g p k ∨ cov rs p k
  | [], g, hg, _, _, _ => ⟨hg, fun p k => ⟨.inl, fun h => h.resolve_right cov_nil⟩⟩
  | r :: rs, g, hg, hr, hp, hl => by
    obtain ⟨p1, p2⟩ := List.pairwise_cons.mp hp
    obtain ⟨a1, a2, a3⟩ := mst_ok hg (hr r List.mem_cons_self) (hl r List.mem_cons_self)
    obtain ⟨b1, b2⟩ := fold_ok (rs := rs) a1 (fun q h => hr q (List.mem_cons_of_mem _ h)) p2 fun q h => a3 q (p1 q h)
    refine ⟨b1, fun p k => ?_⟩
    rw [show (r :: rs).foldl mst g = rs.foldl mst (mst g r) from rfl, b2, a2, cov_cons, or_assoc]
def nrm (rows : List Rw) : List Rw := (sortK keySII rows).foldl mst []
theorem nrm_ok {rows : List Rw} (h : ∀ r ∈ rows, gd r) : isG (nrm rows) ∧ ∀ p k, cov (nrm rows) p k ↔ cov rows p k := by
  obtain ⟨a, b⟩ := fold_ok (rs := sortK keySII rows) isG.nil (fun r m => h r ((sortK_perm rows).mem_iff.mp m)) (sorted_le rows) fun r _ l e => by cases e
  refine ⟨a, fun p k => ?_⟩
  rw [show nrm rows = (sortK keySII rows).foldl mst [] from rfl, b, cov_perm (sortK_perm rows)]
  exact ⟨fun h => h.resolve_left cov_nil, .inr⟩
theorem foldl_len : ∀ (rs g : List Rw), (rs.foldl mst g).length ≤ g.length + rs.length
  | [], _ => Nat.le_refl _
  | r :: rs, g => by
    have h1 := foldl_len rs (mst g r)
    have h2 := mst_len g r
    show (rs.foldl mst (mst g r)).length ≤ _
    rw [List.length_cons]
    omega
theorem nrm_len (rows : List Rw) : (nrm rows).length ≤ rows.length := by
  have h := foldl_len (sortK keySII rows) []
  rw [(sortK_perm rows).length_eq] at h
  simpa [nrm] using h
/-- behind the last cell of a row, and ahead of its first, there is none -/
theorem isG.ends {g : List Rw} (h : isG g) {r : Rw} (m : r ∈ g) : cov g r.1 r.2.1 ∧ cov g r.1 (r.2.2 - 1) ∧ ¬ cov g r.1 (r.2.1 - 1) ∧ ¬ cov g r.1 r.2.2 := by
  have hr := h.1 r m
  unfold gd at hr
  refine ⟨⟨r, m, rfl, by omega, by omega⟩, ⟨r, m, rfl, by omega, by omega⟩, ?_, ?_⟩
  all_goals
    rintro ⟨q, mq, e, h1, h2⟩
    obtain ⟨i, hi, ei⟩ := List.getElem_of_mem m
    obtain ⟨j, hj, ej⟩ := List.getElem_of_mem mq
    have pw := List.pairwise_iff_getElem.mp h.2
    have hq := h.1 q mq
    unfold gd at hq
    rcases Nat.lt_trichotomy i j with c | c | c
    · have z := pw i j hi hj c
      rw [ei, ej] at z
      rcases z with z | ⟨_, z⟩
      · rw [e] at z; exact ltS_irr _ z
      · omega
    · subst c
      rw [ei] at ej
      subst ej
      omega
    · have z := pw j i hj hi c
      rw [ei, ej] at z
      rcases z with z | ⟨_, z⟩
      · rw [e] at z; exact ltS_irr _ z
      · omega
theorem head_le {a : Rw} {g : List Rw} (h : isG (a :: g)) {p k} (c : cov (a :: g) p k) : ltS a.1 p ∨ (a.1 = p ∧ a.2.1 ≤ k) := by
  obtain ⟨q, mq, e, h1, h2⟩ := c
  rcases List.mem_cons.mp mq with rfl | mq
  · exact .inr ⟨e, h1⟩
  · have z := (List.pairwise_cons.mp h.2).1 q mq
    have ha := h.1 a List.mem_cons_self
    unfold gd at ha
    rcases z with z | ⟨z1, z2⟩
    · exact .inl (e ▸ z)
    · exact .inr ⟨z1.trans e, by omega⟩
theorem head_eq {a b : Rw} {g h : List Rw} (hg : isG (a :: g)) (hh : isG (b :: h)) (e : ∀ p k, cov (a :: g) p k ↔ cov (b :: h) p k) : a.1 = b.1 ∧ a.2.1 = b.2.1 := by
  have ca := (hg.ends List.mem_cons_self).1
  have cb := (hh.ends List.mem_cons_self).1
  have h1 := head_le hh ((e _ _).mp ca)
  have h2 := head_le hg ((e _ _).mpr cb)
  rcases h1 with h1 | ⟨h1, h1'⟩ <;> rcases h2 with h2 | ⟨h2, h2'⟩
  · exact absurd (ltS_tr h1 h2) (ltS_irr _)
  · rw [h2] at h1; exact absurd h1 (ltS_irr _)
  · rw [h1] at h2; exact absurd h2 (ltS_irr _)
  · exact ⟨h2, by omega⟩
theorem end_le {a b : Rw} {g h : List Rw} (hg : isG (a :: g)) (hh : isG (b :: h)) (e : ∀ p k, cov (a :: g) p k ↔ cov (b :: h) p k) (e1 : a.1 = b.1) (e2 : a.2.1 = b.2.1) : b.2.2 ≤ a.2.2 := by
  have ca := (hg.ends List.mem_cons_self).2.2.2
  have ga := hg.1 a List.mem_cons_self
  unfold gd at ga
  by_cases c : b.2.2 ≤ a.2.2
  · exact c
  · exact absurd ((e a.1 a.2.2).mpr ⟨b, List.mem_cons_self, e1.symm, by omega, by omega⟩) ca
theorem ground_uniq : ∀ {g h : List Rw}, isG g → isG h → (∀ p k, cov g p k ↔ cov h p k) → g = h
  | [], [], _, _, _ => rfl
  | [], b :: h, _, hh, e => absurd ((e _ _).mpr (hh.ends List.mem_cons_self).1) cov_nil
  | a :: g, [], hg, _, e => absurd ((e _ _).mp (hg.ends List.mem_cons_self).1) cov_nil
  | a :: g, b :: h, hg, hh, e => by
    obtain ⟨e1, e2⟩ := head_eq hg hh e
    have h1 := end_le hg hh e e1 e2
    have h2 := end_le hh hg (fun p k => (e p k).symm) e1.symm e2.symm
    have ab : a = b := Prod.ext e1 (Prod.ext e2 (Int.le_antisymm h2 h1))
    subst ab
    have tg : isG g := ⟨fun r m => hg.1 r (List.mem_cons_of_mem _ m), (List.pairwise_cons.mp hg.2).2⟩
    have th : isG h := ⟨fun r m => hh.1 r (List.mem_cons_of_mem _ m), (List.pairwise_cons.mp hh.2).2⟩
    have dis : ∀ {g : List Rw}, isG (a :: g) → ∀ p k, cov g p k → ¬ covR a p k := by
      rintro g hg p k ⟨q, mq, e, z1, z2⟩ ⟨e', y1, y2⟩
      rcases (List.pairwise_cons.mp hg.2).1 q mq with z | ⟨_, z⟩
      · rw [e, e'] at z; exact ltS_irr _ z
      · omega
    have key : ∀ p k, cov g p k ↔ cov h p k := fun p k => by
      have z := e p k
      rw [cov_cons, cov_cons] at z
      constructor
      · intro c
        exact (z.mp (.inr c)).resolve_left (dis hg p k c)
      · intro c
        exact (z.mpr (.inr c)).resolve_left (dis hh p k c)
    rw [ground_uniq tg th key]
theorem normal_loop {rows : List Rw} (h : rows.length ≤ 1000000) :
    forN rows ([] : List Rw) (fun s42 x47 => ((andN (.ok (!s42.isEmpty)) (andN (opt (atI s42 (-(1 : Int))) fun x88 => .ok (decide (x88.1 = x47.1))) (opt (atI s42 (-(1 : Int))) fun x96 => .ok (decide (x47.2.1 ≤ x96.2.2))))).bind fun b101 => br b101 (opt (atI s42 (-(1 : Int))) fun x107 => opt (atI s42 (-(1 : Int))) fun x115 => opt (ixN s42.length (-(1 : Int))) fun j131 => .ok ((s42.set j131 (x47.1, x107.2.1, (if x115.2.2 > x47.2.2 then x115.2.2 else x47.2.2))))) (chk (decide (s42.length < sizeLine)) <| .ok ((s42 ++ [(x47.1, x47.2.1, x47.2.2)])))).bind fun s63 => .ok (s63))
      = .ok (rows.foldl mst []) := by
  have key : ∀ (rs : List Rw) (g : List Rw), g.length + rs.length ≤ 1000000 → forN rs g (fun s42 x47 => ((andN (.ok (!s42.isEmpty)) (andN (opt (atI s42 (-(1 : Int))) fun x88 => .ok (decide (x88.1 = x47.1))) (opt (atI s42 (-(1 : Int))) fun x96 => .ok (decide (x47.2.1 ≤ x96.2.2))))).bind fun b101 => br b101 (opt (atI s42 (-(1 : Int))) fun x107 => opt (atI s42 (-(1 : Int))) fun x115 => opt (ixN s42.length (-(1 : Int))) fun j131 => .ok ((s42.set j131 (x47.1, x107.2.1, (if x115.2.2 > x47.2.2 then x115.2.2 else x47.2.2))))) (chk (decide (s42.length < sizeLine)) <| .ok ((s42 ++ [(x47.1, x47.2.1, x47.2.2)])))).bind fun s63 => .ok (s63))
      = .ok (rs.foldl mst g) := by
    intro rs
    induction rs with
    | nil => intro g _; rfl
    | cons r rs ih =>
      intro g hl
      rw [List.length_cons] at hl
      have hz := sizeLine_big
      have hlt : decide (g.length < sizeLine) = true := decide_eq_true (by omega)
      rw [forN_cons]
      have turn : ((andN (.ok (!g.isEmpty)) (andN (opt (atI g (-(1 : Int))) fun x88 => .ok (decide (x88.1 = r.1))) (opt (atI g (-(1 : Int))) fun x96 => .ok (decide (r.2.1 ≤ x96.2.2))))).bind fun b101 => br b101 (opt (atI g (-(1 : Int))) fun x107 => opt (atI g (-(1 : Int))) fun x115 => opt (ixN g.length (-(1 : Int))) fun j131 => .ok ((g.set j131 (r.1, x107.2.1, (if x115.2.2 > r.2.2 then x115.2.2 else r.2.2))))) (chk (decide (g.length < sizeLine)) <| .ok ((g ++ [(r.1, r.2.1, r.2.2)])))) = .ok (mst g r) := by
        unfold mst
        cases hg : g.getLast? with
        | none =>
          have e : g = [] := List.getLast?_eq_none_iff.mp hg
          subst e
          rw [hlt]
          rfl
        | some l =>
          have hne : g ≠ [] := fun z => by rw [z] at hg; cases hg
          have hat := atI_neg1 hg
          have hpos : 0 < g.length := List.length_pos_iff.mpr hne
          have hie : (!g.isEmpty) = true := by cases g with | nil => exact absurd rfl hne | cons _ _ => rfl
          rw [hie, hat, ixN_neg1 hpos, hlt]
          dsimp only
          by_cases h1 : l.1 = r.1
          · by_cases h2 : r.2.1 ≤ l.2.2
            · rw [if_pos ⟨h1, h2⟩]
              simp [andN, h1, h2]
            · rw [if_neg (fun z => h2 z.2)]
              simp [andN, h1, h2]
          · rw [if_neg (fun z => h1 z.1)]
            simp [andN, h1]
      rw [turn, bind_ok]
      exact ih (mst g r) (by have := mst_len g r; omega)
  exact key rows [] (by simpa using h)
theorem any_loop {α : Type} (q : α → Bool) : ∀ xs : List α, forR xs () (fun (_ : Unit) x => br (q x) (.ok (Ctl.ret true)) (.ok (.nx ()))) = .ok (if xs.any q = true then .ret true else .nx ())
  | [] => rfl
  | x :: xs => by
    rw [forR_cons, List.any_cons]
    cases h : q x with
    | true => rfl
    | false =>
      rw [br_false, bind_ok, Bool.false_or]
      exact any_loop q xs
theorem cov_any {g : List Rw} {p : PySem.Str} {k : Int} : (g.any fun x9 => (decide (x9.1 = p)) && ((decide (x9.2.1 ≤ k)) && (decide (k < x9.2.2)))) = decide (cov g p k) := by
  rw [Bool.eq_iff_iff, List.any_eq_true, decide_eq_true_iff]
  unfold cov
  simp only [Bool.and_eq_true, decide_eq_true_iff]
theorem has_loop (g : List Rw) (p : PySem.Str) (k : Int) : (forR g () (fun (_ : Unit) x9 => br ((decide (x9.1 = p)) && ((decide (x9.2.1 ≤ k)) && (decide (k < x9.2.2)))) (.ok (.ret true)) (.ok (.nx ())))).bind (fun cc => ctl cc (fun _ => .ok false) (fun r => .ok r)) = (.ok (decide (cov g p k)) : Res Bool) := by
  rw [any_loop, bind_ok, cov_any]
  by_cases c : cov g p k
  · rw [decide_eq_true c]; rfl
  · rw [decide_eq_false c]; rfl
theorem cutS_len (s : PySem.Str) (lo hi : Option Int) : (cutS s lo hi).length ≤ s.length := by
  unfold cutS PySem.Str.length
  rw [List.size_toArray, List.length_take, List.length_drop, Array.length_toList]
  omega
theorem cat_len (s t : PySem.Str) : (s ++ t).length = s.length + t.length := by
  show (s.cps ++ t.cps).size = _
  rw [Array.size_append]
  rfl
/-- a row in two -/
def cutF (c : Int) (r : Rw) : List Rw := if r.2.1 < r.2.1 + c % (r.2.2 - r.2.1) then [(r.1, r.2.1, r.2.1 + c % (r.2.2 - r.2.1)), (r.1, r.2.1 + c % (r.2.2 - r.2.1), r.2.2)] else [(r.1, r.2.1 + c % (r.2.2 - r.2.1), r.2.2)]
theorem cutF_ok {c : Int} {r : Rw} (h : gd r) : (cutF c r).length ≤ 2 ∧ (∀ q ∈ cutF c r, gd q) ∧ ∀ p k, cov (cutF c r) p k ↔ covR r p k := by
  unfold gd at h
  have m := mod_lt' c (m := r.2.2 - r.2.1) (by omega)
  unfold cutF
  generalize c % (r.2.2 - r.2.1) = d at m
  split
  · refine ⟨Nat.le_refl _, fun q hq => ?_, fun p k => ?_⟩
    · rcases List.mem_cons.mp hq with rfl | hq
      · exact ⟨h.1, by assumption⟩
      · rw [List.mem_singleton.mp hq]
        exact ⟨by show 0 ≤ r.2.1 + d; omega, by show r.2.1 + d < r.2.2; omega⟩
    · rw [cov_cons, cov_one]
      unfold covR
      dsimp only
      constructor
      · rintro (⟨a, b, c⟩ | ⟨a, b, c⟩)
        · exact ⟨a, b, by omega⟩
        · exact ⟨a, by omega, c⟩
      · rintro ⟨a, b, c⟩
        by_cases z : k < r.2.1 + d
        · exact .inl ⟨a, b, z⟩
        · exact .inr ⟨a, by omega, c⟩
  · refine ⟨by simp, fun q hq => ?_, fun p k => ?_⟩
    · rw [List.mem_singleton.mp hq]
      exact ⟨by show 0 ≤ r.2.1 + d; omega, by show r.2.1 + d < r.2.2; omega⟩
    · rw [cov_one]
      unfold covR
      dsimp only
      constructor
      · rintro ⟨a, b, c⟩
        exact ⟨a, by omega, c⟩
      · rintro ⟨a, b, c⟩
        exact ⟨a, by omega, c⟩
theorem isG.pick {g : List Rw} (h : isG g) {i : Nat} {a b : Rw} (ha : g[i]? = some a) (hb : g[i + 1]? = some b) : GR a b := by
  obtain ⟨h1, e1⟩ := List.getElem?_eq_some_iff.mp ha
  obtain ⟨h2, e2⟩ := List.getElem?_eq_some_iff.mp hb
  have z := List.pairwise_iff_getElem.mp h.2 i (i + 1) h1 h2 (Nat.lt_succ_self _)
  rw [e1, e2] at z
  exact z
end Kb
namespace Lw
open PySem L2 Kb
theorem check_ok {r : Rw} (h : gd r) : m_check_row r = .ok () := by
  unfold m_check_row
  obtain ⟨h1, h2⟩ := h
  rw [decide_eq_false (show ¬ r.2.1 < 0 by omega), decide_eq_false (show ¬ r.2.2 ≤ r.2.1 by omega)]
  rfl
theorem checks_ok : ∀ {rows : List Rw}, (∀ r ∈ rows, gd r) → forN rows () (fun _ x => (m_check_row x).bind fun _ => .ok ()) = .ok ()
  | [], _ => rfl
  | r :: rows, h => by
    rw [forN_cons, check_ok (h r List.mem_cons_self)]
    exact checks_ok fun q hq => h q (List.mem_cons_of_mem _ hq)
theorem normal_ok {rows : List Rw} (h : ∀ r ∈ rows, gd r) (hl : rows.length ≤ 1000000) : m_normal rows = .ok (nrm rows) := by
  unfold m_normal
  rw [checks_ok h, bind_ok, normal_loop (by rw [(sortK_perm rows).length_eq]; exact hl)]
  rfl
theorem has_ok (g : List Rw) (p : PySem.Str) (k : Int) : m_has g p k = .ok (decide (cov g p k)) := by
  unfold m_has
  exact has_loop g p k
theorem lhas_ok (g : List Rw) (p : PySem.Str) (k : Int) : m_law_has g p k = .ok (decide (cov g p k)) := by
  unfold m_law_has
  exact has_loop g p k
theorem size_ok {g : List Rw} (h : g.length ≤ 1000000) : m_size g = .ok (List.sum (g.map fun r => r.2.2 - r.2.1)) := by
  unfold m_size
  have hz := sizeLine_big
  rw [decide_eq_true (show g.length ≤ sizeLine by omega), chk_true, compN_map (fun r : Rw => r.2.2 - r.2.1) fun x _ => rfl]
  rfl
theorem isg_ok {g : List Rw} (h : isG g) (hl : g.length ≤ 1000000) : m_law_is_ground g = .ok true := by
  refine Ok.eq ?_
  unfold m_law_is_ground
  refine Ok.chk (rngOk_of (by omega) (by omega)) (Ok.forR (fun _ _ => True) (fun _ => False) trivial ?_ ?_ ?_)
  · rintro i s x hx _
    obtain ⟨ex, hi⟩ := rng_get hx
    rw [Int.zero_add] at ex
    subst ex
    have hi' : i < g.length := by omega
    have ea : atI g (i : Int) = some g[i] := atI_of (by omega) (by rw [Int.toNat_natCast]; exact List.getElem?_eq_getElem hi')
    have ga := h.1 g[i] (List.getElem_mem hi')
    have hgi : g[i]? = some g[i] := List.getElem?_eq_getElem hi'
    generalize g[i] = r at ea ga hgi
    unfold gd at ga
    rw [ea]
    have e0 : ((orN (opt (some r) fun x27 => .ok (!true)) (opt (some r) fun x32 => .ok (!decide ((3 : Int) = (3 : Int))))) : Res Bool) = .ok false := rfl
    rw [e0, bind_ok, br_false, opt_some, decide_eq_false (show ¬ r.2.1 < 0 by omega), decide_eq_false (show ¬ r.2.2 ≤ r.2.1 by omega)]
    refine Ok.brF rfl ?_
    cases i with
    | zero => exact Ok.ret trivial
    | succ j =>
      have hj : j < g.length := by omega
      have eb : atI g (((j + 1 : Nat) : Int) - 1) = some g[j] := by
        rw [show (((j + 1 : Nat) : Int) - 1) = (j : Int) from by omega]
        exact atI_of (by omega) (by rw [Int.toNat_natCast]; exact List.getElem?_eq_getElem hj)
      have z := h.pick (List.getElem?_eq_getElem hj) hgi
      generalize g[j] = q at eb z
      rw [eb]
      have n1 : ¬ (r.1.cps.toList < q.1.cps.toList) := fun c => by
        rcases z with z | ⟨z, _⟩
        · exact ltS_irr _ (ltS_tr (x := q.1) (y := r.1) (z := q.1) z c)
        · rw [z] at c; exact ltS_irr _ c
      simp only [opt_some]
      rw [decide_eq_false n1, decide_eq_true (show (0 : Int) < ((j + 1 : Nat) : Int) by omega)]
      by_cases e1 : q.1 = r.1
      · have n2 : ¬ r.2.1 ≤ q.2.2 := fun c => by
          rcases z with z | ⟨_, z⟩
          · rw [e1] at z; exact ltS_irr _ z
          · omega
        rw [decide_eq_true e1, decide_eq_false n2]
        exact Ok.ret trivial
      · rw [decide_eq_false e1]
        exact Ok.ret trivial
  · exact fun s _ => Ok.ret rfl
  · exact fun r h => h.elim
theorem samples_ok {g : List Rw} (hl : g.length ≤ 1000) : Ok (m_law_samples g) (fun _ => True) := by
  unfold m_law_samples
  have hz := sizeLine_big
  refine Ok.forN (fun i (s : List (PySem.Str × Int)) => s.length ≤ 2 + 5 * i) (by simp) ?_ fun s _ => Ok.ret trivial
  rintro i s x hx h
  have hi := (List.getElem?_eq_some_iff.mp hx).1
  refine Ok.forN (fun j (t : List (PySem.Str × Int)) => t.length ≤ 2 + 5 * i + j) (by simpa using h) ?_ fun t ht => Ok.ret (by simp at ht; omega)
  rintro j t y hy ht
  have hj := (List.getElem?_eq_some_iff.mp hy).1
  simp at hj
  refine Ok.bind (R := fun u : List (PySem.Str × Int) => u.length ≤ 2 + 5 * i + (j + 1)) (Ok.br (fun _ => Ok.chkD (by omega) (Ok.ret (by simp; omega))) (fun _ => Ok.ret (by omega))) fun u hu => Ok.ret hu
theorem cut_ok {g : List Rw} (h : ∀ r ∈ g, gd r) (hl : g.length ≤ 1000) (c : Int) : Ok (m_law_cut g c) (fun q => q.length ≤ 2000 ∧ (∀ r ∈ q, gd r) ∧ ∀ p k, cov q p k ↔ cov g p k) := by
  unfold m_law_cut
  have hz := sizeLine_big
  refine Ok.forN (fun i (s : List Rw) => s = (g.take i).flatMap (cutF c)) rfl ?_ ?_
  · rintro i s x hx rfl
    obtain ⟨hi, ei⟩ := List.getElem?_eq_some_iff.mp hx
    have gx : gd x := h x (List.mem_of_getElem? hx)
    have gx' := gx
    unfold gd at gx'
    have hlen : ∀ l : List Rw, (∀ r ∈ l, gd r) → (l.flatMap (cutF c)).length ≤ 2 * l.length := by
      intro l
      induction l with
      | nil => intro _; exact Nat.le_refl _
      | cons r l ih =>
        intro hh
        rw [List.flatMap_cons, List.length_append, List.length_cons]
        have a := (cutF_ok (c := c) (hh r List.mem_cons_self)).1
        have b := ih fun q hq => hh q (List.mem_cons_of_mem _ hq)
        omega
    have hs := hlen (g.take i) fun r hr => h r (List.mem_of_mem_take hr)
    rw [List.length_take] at hs
    have et : g.take (i + 1) = g.take i ++ [x] := by rw [List.take_add_one, hx]; rfl
    rw [et, List.flatMap_append]
    generalize (g.take i).flatMap (cutF c) = s at hs
    refine Ok.chkD (by omega) ?_
    have e1 : [x].flatMap (cutF c) = cutF c x := by simp
    rw [e1]
    unfold cutF
    by_cases z : x.2.1 < x.2.1 + c % (x.2.2 - x.2.1)
    · rw [if_pos z, decide_eq_true z, br_true, decide_eq_true (show s.length < sizeLine by omega), chk_true, bind_ok, decide_eq_true (by rw [List.length_append, List.length_singleton]; omega), chk_true]
      exact Ok.ret (by simp)
    · rw [if_neg z, decide_eq_false z, br_false, bind_ok, decide_eq_true (show s.length < sizeLine by omega), chk_true]
      exact Ok.ret rfl
  · rintro s rfl
    rw [List.take_length]
    refine Ok.ret ?_
    have key : ∀ l : List Rw, (∀ r ∈ l, gd r) → (l.flatMap (cutF c)).length ≤ 2 * l.length ∧ (∀ r ∈ l.flatMap (cutF c), gd r) ∧ ∀ p k, cov (l.flatMap (cutF c)) p k ↔ cov l p k := by
      intro l
      induction l with
      | nil => exact fun _ => ⟨Nat.le_refl _, fun r h => (by cases h), fun p k => Iff.rfl⟩
      | cons r l ih =>
        intro hh
        obtain ⟨a1, a2, a3⟩ := cutF_ok (c := c) (hh r List.mem_cons_self)
        obtain ⟨b1, b2, b3⟩ := ih fun q hq => hh q (List.mem_cons_of_mem _ hq)
        rw [List.flatMap_cons]
        refine ⟨by rw [List.length_append, List.length_cons]; omega, fun q hq => ?_, fun p k => by rw [cov_app, a3, b3, cov_cons]⟩
        rcases List.mem_append.mp hq with hq | hq
        · exact a2 q hq
        · exact b2 q hq
    obtain ⟨k1, k2, k3⟩ := key g h
    refine ⟨by rw [List.length_reverse]; omega, fun r hr => k2 r (List.mem_reverse.mp hr), fun p k => ?_⟩
    rw [cov_perm (List.reverse_perm _), k3]
/-! the law's own numbers -/
theorem cell_ok (ns : List Int) {k : Int} (h0 : 0 ≤ k) (h1 : k ≤ 1000) : ∃ v, m_law_cell ns k = .ok v := by
  unfold m_law_cell
  by_cases h : k < (ns.length : Int)
  · rw [decide_eq_true h]
    obtain ⟨x, e, _⟩ := atI_in h0 h
    exact ⟨x, by rw [br_true, e]; rfl⟩
  · rw [decide_eq_false h, mulOk_of (m := 7) (n := 1000) (by decide) (by omega) (by decide)]
    exact ⟨_, rfl⟩
theorem base_pos {m : Int} (h0 : 0 ≤ m) (h1 : m < 11) : 0 < ((cutS ("northroadsab" : PySem.Str) none (some ((2 : Int) + m))).length : Int) := by
  have h : m = 0 ∨ m = 1 ∨ m = 2 ∨ m = 3 ∨ m = 4 ∨ m = 5 ∨ m = 6 ∨ m = 7 ∨ m = 8 ∨ m = 9 ∨ m = 10 := by omega
  rcases h with rfl | rfl | rfl | rfl | rfl | rfl | rfl | rfl | rfl | rfl | rfl <;> decide +kernel
theorem pieces_ok (c : Int) : Ok (m_law_pieces c) (fun ps => ps.length = 4) := by
  unfold m_law_pieces
  have hz := sizeLine_big
  refine Ok.br (fun _ => Ok.ret rfl) fun _ => ?_
  have m11 := mod_lt' (c / 3) (m := 11) (by decide)
  have bp := base_pos m11.1 m11.2
  have hb : ("northroadsab" : PySem.Str).length = 12 := by decide +kernel
  have bl : (cutS ("northroadsab" : PySem.Str) none (some ((2 : Int) + c / 3 % 11))).length ≤ 12 := hb ▸ cutS_len _ _ _
  have sg : (signs ("xyz" : PySem.Str)).length = 3 := by decide +kernel
  have s1 : ∀ x ∈ signs ("xyz" : PySem.Str), x.length = 1 := by
    intro x hx
    unfold signs at hx
    obtain ⟨n, _, rfl⟩ := List.mem_map.mp hx
    rfl
  generalize cutS ("northroadsab" : PySem.Str) none (some ((2 : Int) + c / 3 % 11)) = b at bp bl
  refine Ok.chkD (by omega) (Ok.chkD (by omega) (Ok.chkD bp (Ok.chkD (by omega) ?_)))
  refine Ok.bind (Ok.compN (R := fun _ _ => True) fun x hx => ?_) fun ys hy => Ok.chkD (by rw [hy.1, sg]; simp; omega) (Ok.ret (by rw [List.length_append, hy.1, sg]; rfl))
  have l1 := cutS_len b none (some (c / 33 % (b.length : Int)))
  have l2 := cutS_len b (some (c / 33 % (b.length : Int) + 1)) none
  have x1 := s1 x hx
  exact Ok.chkD (by omega) (Ok.chkD (by omega) (Ok.chkD (by omega) (Ok.chkD (by rw [cat_len]; omega) (Ok.ret trivial))))
theorem rows_ok (ns : List Int) {at_ n : Int} (h0 : 0 ≤ at_) (h1 : at_ + n ≤ 900) (hn : 0 ≤ n) : Ok (m_law_rows ns at_ n) (fun rows => rows.length ≤ 900 ∧ ∀ r ∈ rows, gd r) := by
  unfold m_law_rows
  have hz := sizeLine_big
  refine Ok.chk (rngOk_of (by omega) (by omega)) (Ok.forN (fun i (s : List Rw) => s.length = i ∧ ∀ r ∈ s, gd r) ⟨rfl, fun r hr => (by cases hr)⟩ ?_ ?_)
  · rintro i s x hx ⟨hl, hg⟩
    obtain ⟨ex, hi⟩ := rng_get hx
    obtain ⟨v, ev⟩ := cell_ok ns (k := at_ + x) (by omega) (by omega)
    obtain ⟨w, ew⟩ := cell_ok ns (k := 1) (by omega) (by omega)
    obtain ⟨ps, eps, lps⟩ := pieces_ok w
    obtain ⟨p, ep, _⟩ := pick (xs := ps) (a := v) (m := 4) (by decide) (by rw [lps]; rfl)
    obtain ⟨q, eq, mq⟩ := pick (xs := [(8 : Int), 40, 1000000]) (a := v / 400) (m := 3) (by decide) rfl
    obtain ⟨t, et, mt⟩ := pick (xs := [(4 : Int), 20, 1000000]) (a := v / 400) (m := 3) (by decide) rfl
    have hq : 0 < q := by simp at mq; omega
    have ht : 0 < t := by simp at mt; omega
    rw [ev, bind_ok, ew, bind_ok, eps, bind_ok]
    refine Ok.opt ep (Ok.opt eq (Ok.chkD hq (Ok.opt et (Ok.chkD ht (Ok.chkD (by omega) (Ok.ret ⟨by simp [hl], ?_⟩))))))
    intro r hr
    rcases List.mem_append.mp hr with hr | hr
    · exact hg r hr
    · have e := List.mem_singleton.mp hr
      subst e
      have a1 := mod_lt' (v / 4) hq
      have a2 := mod_lt' (v / 31) ht
      exact ⟨a1.1, by show v / 4 % q < v / 4 % q + (1 + v / 31 % t); omega⟩
  · rintro s ⟨hl, hg⟩
    rw [ints_len] at hl
    exact Ok.ret ⟨by omega, hg⟩
theorem neg_decide_eq {a b : Bool} (h : a = b) : (!decide (a = b)) = false := by rw [decide_eq_true h]; rfl
theorem law_ok (ns : List Int) (h : ns.length ≤ 63) : m_law ns = .ok true := by
  refine Ok.eq ?_
  unfold m_law
  have hz := sizeLine_big
  obtain ⟨c0, e0⟩ := cell_ok ns (k := 0) (by decide) (by decide)
  obtain ⟨c1, e1⟩ := cell_ok ns (k := 1) (by decide) (by decide)
  have m15 := mod_lt' c0 (m := 15) (by decide)
  obtain ⟨rows, er, hl, hg⟩ := rows_ok ns (at_ := 2) (n := c0 % 15) (by decide) (by omega) m15.1
  obtain ⟨gG, gC⟩ := nrm_ok hg
  have gl := nrm_len rows
  rw [e0, bind_ok, er, bind_ok, normal_ok hg (by omega), bind_ok]
  refine Ok.brF (by rw [decide_eq_true rfl]; rfl) ?_
  rw [isg_ok gG (by omega), bind_ok, br_true]
  obtain ⟨ss, es, _⟩ := samples_ok (g := rows) (by omega)
  rw [es, bind_ok]
  have hd : ∀ p k, decide (cov (nrm rows) p k) = decide (cov rows p k) := fun p k => decide_eq_decide.mpr (gC p k)
  refine Ok.forR (fun _ _ => True) (fun _ => False) trivial ?_ ?_ (fun _ h => h.elim)
  · rintro i s x hx _
    simp only [has_ok, lhas_ok, bind_ok]
    exact Ok.brF (neg_decide_eq (hd _ _)) (Ok.brF (neg_decide_eq (hd _ _)) (Ok.ret trivial))
  rintro s _
  refine Ok.forR (fun _ _ => True) (fun _ => False) trivial ?_ ?_ (fun _ h => h.elim)
  · rintro i s x hx _
    have mx : x ∈ nrm rows := List.mem_of_getElem? hx
    obtain ⟨a1, a2, a3, a4⟩ := gG.ends mx
    rw [gC] at a1 a2 a3 a4
    simp only [lhas_ok, bind_ok]
    rw [decide_eq_true a1, br_true, decide_eq_true a2, br_true, decide_eq_false a4, br_false, decide_eq_false a3, br_false]
    exact Ok.br (fun _ => Ok.ret trivial) (fun _ => Ok.ret trivial)
  rintro s _
  rw [size_ok (g := nrm rows) (by omega), bind_ok]
  refine Ok.chkD (by omega) ?_
  rw [compN_map (fun r : Rw => r.2.2 - r.2.1) fun x _ => rfl, bind_ok]
  refine Ok.brF (by rw [decide_eq_true rfl]; rfl) ?_
  rw [bind_ok, e1, bind_ok]
  obtain ⟨q, eq, ql, qg, qc⟩ := cut_ok hg (by omega) c1
  rw [eq, bind_ok, normal_ok qg (by omega), bind_ok]
  obtain ⟨qG, qC⟩ := nrm_ok qg
  have same : nrm q = nrm rows := ground_uniq qG gG fun p k => by rw [qC, qc, gC]
  refine Ok.brF (by rw [decide_eq_true same]; rfl) ?_
  rw [normal_ok gG.1 (by omega), bind_ok]
  obtain ⟨aG, aC⟩ := nrm_ok gG.1
  have again : nrm (nrm rows) = nrm rows := ground_uniq aG gG aC
  rw [again]
  refine Ok.chkD (by omega) ?_
  rw [decide_eq_true rfl, br_true, bind_ok]
  refine Ok.ret ?_
  have sl : sliceL (nrm rows ++ [(("zz" : PySem.Str), (0 : Int), (1 : Int))]) none (some (-(1 : Int))) = nrm rows := by
    unfold sliceL HT.sIx
    dsimp only
    rw [if_pos (by decide), List.length_append, List.length_singleton, show ((-1 : Int) + (((nrm rows).length + 1 : Nat) : Int)).toNat = (nrm rows).length from by omega, Nat.sub_zero, List.drop_zero, List.take_left']
    rfl
  exact decide_eq_true sl
end Lw
open PySem PySem.W PyProof.Rows
set_option maxRecDepth 100000 in
set_option maxHeartbeats 0 in
theorem PySem.Challenge.cw_kerbmark_k15_ground_in_one_form_holds : PySem.Challenge.rw_kerbmark_k15_ground_in_one_form.Holds := by
  w_on; o_law; k_head; (case hw => w_witness2)
  k_fill
  refine L2.walk_ofK (l := PySem.Challenge.rw_kerbmark_k15_ground_in_one_form) (n := 63) (k := 3) (x := "_law_script") (CX := L2.CX0) (sp := fun K => Lw.sp_law K (fun _ => 0)) rfl (by decide) rfl ⟨rfl, by decide, by decide⟩ (fun w h Y => PySem.W.kIn_of Y) ?F (fun _ _ a ns hl _ hS => Kb.law_end (Lw.law_ok ns hl) hS) (fun _ _ _ _ h => h)
  case F =>
    intro w mg fa h KX G hmg
    refine' Lw.all_mk KX G hmg ?a0 ?l0 ?c0 ?k0 ?a1 ?l1 ?c1 ?k1 ?a2 ?l2 ?c2 ?k2 ?a3 ?l3 ?c3 ?k3 ?a4 ?l4 ?c4 ?k4 ?a5 ?l5 ?c5 ?k5 ?a6 ?l6 ?c6 ?k6 ?a7 ?l7 ?c7 ?k7 ?a8 ?l8 ?c8 ?k8 ?a9 ?l9 ?c9 ?k9 ?a10 ?l10 ?c10 ?k10 ?a11 ?l11 ?c11 ?k11 ?aC_ground ?ex_ground ?kp_ground ?hg_ground ?hk_ground ?hac_ground ?hm_ground ?sb_ground ?ty_ground ?hd_ground ?ic_ground ?sv_ground ?aC_kerb ?sb_kerb ?ty_kerb ?hd_kerb ?ic_kerb ?sv_kerb ?hn ?htk ?su_ground_ground ?su_ground_kerb ?su_kerb_ground ?su_kerb_kerb ?z_bool ?z_int ?z_isinstance ?z_len ?z_list ?z_max ?z_range ?z_reversed ?z_sorted ?z_sum ?z_tuple
    (case a0 => k_is)
    (case l0 => k_is)
    (case c0 => k_is)
    (case k0 => k_is)
    (case a1 => k_is)
    (case l1 => k_is)
    (case c1 => k_is)
    (case k1 => k_is)
    (case a2 => k_is)
    (case l2 => k_is)
    (case c2 => k_is)
    (case k2 => k_is)
    (case a3 => k_is)
    (case l3 => k_is)
    (case c3 => k_is)
    (case k3 => k_is)
    (case a4 => k_is)
    (case l4 => k_is)
    (case c4 => k_is)
    (case k4 => k_is)
    (case a5 => k_is)
    (case l5 => k_is)
    (case c5 => k_is)
    (case k5 => k_is)
    (case a6 => k_is)
    (case l6 => k_is)
    (case c6 => k_is)
    (case k6 => k_is)
    (case a7 => k_is)
    (case l7 => k_is)
    (case c7 => k_is)
    (case k7 => k_is)
    (case a8 => k_is)
    (case l8 => k_is)
    (case c8 => k_is)
    (case k8 => k_is)
    (case a9 => k_is)
    (case l9 => k_is)
    (case c9 => k_is)
    (case k9 => k_is)
    (case a10 => k_is)
    (case l10 => k_is)
    (case c10 => k_is)
    (case k10 => k_is)
    (case a11 => k_is)
    (case l11 => k_is)
    (case c11 => k_is)
    (case k11 => k_is)
    (case aC_ground => k_is)
    (case ex_ground => k_exc)
    (case kp_ground => k_is)
    (case hg_ground => k_is)
    (case hk_ground => k_is)
    (case hac_ground => k_is)
    (case hm_ground => k_is)
    (case sb_ground => k_is)
    (case ty_ground => k_is)
    (case hd_ground => k_is)
    (case ic_ground => k_is)
    (case sv_ground => k_is)
    (case aC_kerb => k_is)
    (case sb_kerb => k_is)
    (case ty_kerb => k_is)
    (case hd_kerb => k_is)
    (case ic_kerb => k_is)
    (case sv_kerb => k_is)
    (case hn => k_is)
    (case htk => k_is)
    (case su_ground_ground => first | rfl | k_is)
    (case su_ground_kerb => first | rfl | k_is)
    (case su_kerb_ground => first | rfl | k_is)
    (case su_kerb_kerb => first | rfl | k_is)
    (case z_bool => k_is)
    (case z_int => k_is)
    (case z_isinstance => k_is)
    (case z_len => k_is)
    (case z_list => k_is)
    (case z_max => k_is)
    (case z_range => k_is)
    (case z_reversed => k_is)
    (case z_sorted => k_is)
    (case z_sum => k_is)
    (case z_tuple => k_is)
