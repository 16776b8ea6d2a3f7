import PyProof.Rows.All
import Wide.All
import OpenK.AllK
import Wide.FinOn
import HandS.ForMost
import HandS.ForExc
import HandS.Wide
import KE.KSortTupG
import HandS.Sort
import HandS.ForSpec
import HandS.RaiseMore
import HandS.IsInst
import HandS.ExcIs
import HandS.TryMany
import HandS.Rev
import HandS.RevTup
import HandS.Iter
import HandS.Dict
import HandS.Defaults
import HandS.TupLe
import PySem.Challenge.RW_kerbmark_k16_ground_put_together
set_option Elab.async false
set_option linter.all false
set_option maxRecDepth 100000
set_option maxHeartbeats 4000000
set_option synthInstance.maxSize 4000
/-! Kb: typed representation, colours, mirrored results -/
namespace Kb
open PySem L2

/-! ### colours: whose an address is (none: frozen, some r: of the structure rooted at r) -/
abbrev Cl := Addr → Option Addr
def setC (c : Cl) (p : Addr) (o : Option Addr) : Cl := fun a => if a = p then o else c a
theorem setC_same {c : Cl} {p : Addr} {o : Option Addr} : setC c p o p = o := by unfold setC; rw [if_pos rfl]
theorem setC_ne {c : Cl} {p a : Addr} {o : Option Addr} (h : a ≠ p) : setC c p o a = c a := by unfold setC; rw [if_neg h]
def Wf (c : Cl) (H : Hp) : Prop := ∀ a o r, H a = some o → c a = some r → ∃ u, H r = some u

/-- the frozen part has grown -/
structure Up (c : Cl) (H : Hp) (c' : Cl) (H' : Hp) : Prop where
  obj : ∀ a o, H a = some o → c a = none → H' a = some o
  col : ∀ a o, H a = some o → c a = none → c' a = none
theorem Up.refl (c : Cl) (H : Hp) : Up c H c H := ⟨fun _ _ h _ => h, fun _ _ _ h => h⟩
theorem Up.trans {c H c1 H1 c2 H2} (a : Up c H c1 H1) (b : Up c1 H1 c2 H2) : Up c H c2 H2 :=
  ⟨fun x o h k => b.obj x o (a.obj x o h k) (a.col x o h k), fun x o h k => b.col x o (a.obj x o h k) (a.col x o h k)⟩

/-- a step that touches the structures rooted in S alone -/
structure Step (S : List Addr) (c : Cl) (H : Hp) (c' : Cl) (H' : Hp) : Prop where
  keep : ∀ a o, H a = some o → (∀ r, c a = some r → r ∉ S) → H' a = some o
  col : ∀ a o, H a = some o → c' a = c a
  live : ∀ a o, H a = some o → ∃ u, H' a = some u
  wf : Wf c' H'
  wf0 : Wf c H
theorem Step.refl {S : List Addr} {c : Cl} {H : Hp} (w : Wf c H) : Step S c H c H := ⟨fun _ _ h _ => h, fun _ _ _ => rfl, fun _ o h => ⟨o, h⟩, w, w⟩
theorem Step.up {S c H c' H'} (g : Step S c H c' H') : Up c H c' H' :=
  ⟨fun a o h k => g.keep a o h (fun r e => by rw [k] at e; cases e), fun a o h k => (g.col a o h).trans k⟩
theorem Step.fresh {S c H c' H'} (g : Step S c H c' H') {p : Addr} (h : H' p = none) : H p = none := by
  cases e : H p with
  | none => rfl
  | some o => obtain ⟨u, q⟩ := g.live p o e; rw [h] at q; cases q
/-- one more: T's roots are S's or fresh ones -/
theorem Step.trans {S T : List Addr} {c H c1 H1 c2 H2} (a : Step S c H c1 H1) (b : Step T c1 H1 c2 H2) (t : ∀ r ∈ T, r ∈ S ∨ H r = none) : Step S c H c2 H2 where
  keep x o h k := by
    refine b.keep x o (a.keep x o h k) fun r e hr => ?_
    rw [a.col x o h] at e
    rcases t r hr with q | q
    · exact k r e q
    · obtain ⟨u, z⟩ := a.wf0 x o r h e; rw [q] at z; cases z
  col x o h := by
    obtain ⟨u, q⟩ := a.live x o h
    rw [b.col x u q, a.col x o h]
  live x o h := by
    obtain ⟨u, q⟩ := a.live x o h
    exact b.live x u q
  wf := b.wf
  wf0 := a.wf0
theorem Step.tr0 {S : List Addr} {c H c1 H1 c2 H2} (a : Step S c H c1 H1) (b : Step [] c1 H1 c2 H2) : Step S c H c2 H2 := a.trans b fun _ h => by cases h
theorem Step.tr1 {S : List Addr} {p : Addr} {c H c1 H1 c2 H2} (a : Step S c H c1 H1) (b : Step [p] c1 H1 c2 H2) (n : p ∈ S ∨ H p = none) : Step S c H c2 H2 := a.trans b fun r h => by
  rcases List.mem_singleton.mp h with rfl
  exact n
theorem Step.weak {S T : List Addr} {c H c1 H1} (a : Step S c H c1 H1) (h : ∀ r ∈ S, r ∈ T) : Step T c H c1 H1 := ⟨fun x o e k => a.keep x o e fun r q z => k r q (h r z), a.col, a.live, a.wf, a.wf0⟩

/-- a new object at p with the colour o -/
theorem Step.new {c : Cl} {H : Hp} (w : Wf c H) {p : Addr} {u : HO} {o : Option Addr} (n : H p = none) (ho : ∀ r, o = some r → r = p ∨ ∃ v, H r = some v) : Step [] c H (setC c p o) (upd H p u) where
  keep a x h _ := by rw [upd_ne (ne_of_none h n)]; exact h
  col a x h := setC_ne (ne_of_none h n)
  live a x h := ⟨x, by rw [upd_ne (ne_of_none h n)]; exact h⟩
  wf := by
    intro a x r h e
    by_cases ea : a = p
    · subst ea
      rw [setC_same] at e
      rcases ho r e with rfl | ⟨v, q⟩
      · exact ⟨u, upd_same⟩
      · exact ⟨v, by rw [upd_ne (ne_of_none q n)]; exact q⟩
    · rw [upd_ne ea] at h
      rw [setC_ne ea] at e
      obtain ⟨v, q⟩ := w a x r h e
      exact ⟨v, by rw [upd_ne (ne_of_none q n)]; exact q⟩
  wf0 := w
/-- the object at p, of the structure r, is changed -/
theorem Step.mut {c : Cl} {H : Hp} (w : Wf c H) {p r : Addr} {u v : HO} (h : H p = some u) (hc : c p = some r) : Step [r] c H c (upd H p v) where
  keep a x e k := by
    by_cases ea : a = p
    · subst ea; exact absurd (List.mem_singleton.mpr rfl) (k r hc)
    · rw [upd_ne ea]; exact e
  col a x e := rfl
  live a x e := by
    by_cases ea : a = p
    · subst ea; exact ⟨v, upd_same⟩
    · exact ⟨x, by rw [upd_ne ea]; exact e⟩
  wf := by
    intro a x s e q
    have : ∃ x', H a = some x' := by
      by_cases ea : a = p
      · subst ea; exact ⟨u, h⟩
      · rw [upd_ne ea] at e; exact ⟨x, e⟩
    obtain ⟨x', e'⟩ := this
    obtain ⟨z, q'⟩ := w a x' s e' q
    by_cases es : s = p
    · subst es; exact ⟨v, upd_same⟩
    · exact ⟨z, by rw [upd_ne es]; exact q'⟩
  wf0 := w
/-- the structure rooted at p is frozen -/
def frz (c : Cl) (p : Addr) : Cl := fun a => if c a = some p then none else c a
theorem frz_none {c : Cl} {p a : Addr} (h : c a = none) : frz c p a = none := by unfold frz; split <;> simp_all
theorem frz_self {c : Cl} {p a : Addr} (h : c a = some p) : frz c p a = none := by unfold frz; rw [if_pos h]
theorem frz_ne {c : Cl} {p a q : Addr} (h : c a = some q) (n : q ≠ p) : frz c p a = some q := by
  unfold frz
  rw [if_neg (by rw [h]; intro e; exact n (Option.some.inj e))]
  exact h
theorem frz_wf {c : Cl} {H : Hp} {p : Addr} (w : Wf c H) : Wf (frz c p) H := fun a o r h e => by
  unfold frz at e
  split at e
  · cases e
  · exact w a o r h e
theorem frz_up {c : Cl} {H : Hp} {p : Addr} : Up c H (frz c p) H := ⟨fun _ _ h _ => h, fun _ _ _ h => frz_none h⟩
theorem Step.frz {S c0 H0 c H} {p : Addr} (g : Step S c0 H0 c H) (n : H0 p = none) : Step S c0 H0 (frz c p) H where
  keep := g.keep
  col a o h := by
    have e := g.col a o h
    unfold Kb.frz
    split
    · rename_i q
      rw [e] at q
      obtain ⟨u, z⟩ := g.wf0 a o p h q
      rw [n] at z; cases z
    · exact e
  live := g.live
  wf := frz_wf g.wf
  wf0 := g.wf0

/-! ### mirrored results -/
inductive Err where
  | ratio | ground | route | off | name | dup | unk | edn | gone | use | event | unkEvent | command
  deriving DecidableEq, Repr
inductive Res (α : Type) where
  | ok (x : α) | err (e : Err) | stk
  deriving DecidableEq, Repr
/-- what a turn of a loop comes to: the next turn's state, or the def's end -/
inductive Ctl (σ ρ : Type) where
  | nx (s : σ) | ret (r : ρ)
  deriving DecidableEq, Repr
def Res.bind {α β : Type} (m : Res α) (f : α → Res β) : Res β := match m with
  | .ok x => f x
  | .err e => .err e
  | .stk => .stk
@[simp] theorem bind_ok {α β : Type} {x : α} {f : α → Res β} : (Res.ok x).bind f = f x := rfl
@[simp] theorem bind_err {α β : Type} {e : Err} {f : α → Res β} : (Res.err e : Res α).bind f = .err e := rfl
@[simp] theorem bind_stk {α β : Type} {f : α → Res β} : (Res.stk : Res α).bind f = .stk := rfl
theorem bind_assoc {α β γ : Type} {m : Res α} {f : α → Res β} {g : β → Res γ} : (m.bind f).bind g = m.bind fun x => (f x).bind g := by cases m <;> rfl
/-- a side condition -/
def chk {α : Type} (b : Bool) (r : Res α) : Res α := if b = true then r else .stk
@[simp] theorem chk_true {α : Type} {r : Res α} : chk true r = r := rfl
@[simp] theorem chk_false {α : Type} {r : Res α} : chk false r = .stk := rfl
theorem chk_of {α : Type} {b : Bool} {r : Res α} (h : b = true) : chk b r = r := by rw [h]; rfl
/-- a place that must be there -/
def opt {α β : Type} (o : Option α) (f : α → Res β) : Res β := match o with
  | some x => f x
  | none => .stk
@[simp] theorem opt_some {α β : Type} {x : α} {f : α → Res β} : opt (some x) f = f x := rfl
@[simp] theorem opt_none {α β : Type} {f : α → Res β} : opt (none : Option α) f = .stk := rfl
theorem opt_of {α β : Type} {o : Option α} {x : α} {f : α → Res β} (h : o = some x) : opt o f = f x := by rw [h]; rfl
/-- a name for a value -/
def lt {α β : Type} (x : α) (f : α → β) : β := f x
@[simp] theorem lt_eq {α β : Type} {x : α} {f : α → β} : lt x f = f x := rfl
/-- a test -/
def br {α : Type} (b : Bool) (x y : Res α) : Res α := if b = true then x else y
@[simp] theorem br_true {α : Type} {x y : Res α} : br true x y = x := rfl
@[simp] theorem br_false {α : Type} {x y : Res α} : br false x y = y := rfl
/-- a for loop without a return in it -/
def forN {α σ : Type} : List α → σ → (σ → α → Res σ) → Res σ
  | [], s, _ => .ok s
  | x :: xs, s, f => (f s x).bind fun s' => forN xs s' f
@[simp] theorem forN_nil {α σ : Type} {s : σ} {f : σ → α → Res σ} : forN [] s f = .ok s := rfl
@[simp] theorem forN_cons {α σ : Type} {x : α} {xs : List α} {s : σ} {f : σ → α → Res σ} : forN (x :: xs) s f = (f s x).bind fun s' => forN xs s' f := rfl
/-- a for loop with a return in it -/
def forR {α σ ρ : Type} : List α → σ → (σ → α → Res (Ctl σ ρ)) → Res (Ctl σ ρ)
  | [], s, _ => .ok (.nx s)
  | x :: xs, s, f => (f s x).bind fun c => match c with
    | .nx s' => forR xs s' f
    | .ret r => .ok (.ret r)
@[simp] theorem forR_nil {α σ ρ : Type} {s : σ} {f : σ → α → Res (Ctl σ ρ)} : forR [] s f = .ok (.nx s) := rfl
theorem forR_cons {α σ ρ : Type} {x : α} {xs : List α} {s : σ} {f : σ → α → Res (Ctl σ ρ)} : forR (x :: xs) s f = (f s x).bind fun c => match c with
    | .nx s' => forR xs s' f
    | .ret r => .ok (.ret r) := rfl
/-- behind a loop: its state, or its return handed on -/
def ctl {σ ρ β : Type} (c : Ctl σ ρ) (f : σ → Res β) (g : ρ → Res β) : Res β := match c with
  | .nx s => f s
  | .ret r => g r
@[simp] theorem ctl_nx {σ ρ β : Type} {s : σ} {f : σ → Res β} {g : ρ → Res β} : ctl (.nx s) f g = f s := rfl
@[simp] theorem ctl_ret {σ ρ β : Type} {r : ρ} {f : σ → Res β} {g : ρ → Res β} : ctl (.ret r) f g = g r := rfl
/-- a while loop, with fuel; the test may be stuck -/
def whileN {σ : Type} : Nat → σ → (σ → Res Bool) → (σ → Res σ) → Res σ
  | 0, _, _, _ => .stk
  | n + 1, s, t, f => (t s).bind fun b => br b ((f s).bind fun s' => whileN n s' t f) (.ok s)
/-- no error is let out -/
def nx {α : Type} (m : Res α) : Res α := match m with
  | .ok x => .ok x
  | .err _ => .stk
  | .stk => .stk
@[simp] theorem nx_ok {α : Type} {x : α} : nx (.ok x) = .ok x := rfl
/-- a comprehension -/
def compN {α β : Type} : List α → (α → Res β) → Res (List β)
  | [], _ => .ok []
  | x :: xs, f => (nx (f x)).bind fun y => (compN xs f).bind fun ys => .ok (y :: ys)
/-- a comprehension with a test -/
def compF {α β : Type} : List α → (α → Res (Option β)) → Res (List β)
  | [], _ => .ok []
  | x :: xs, f => (nx (f x)).bind fun y => (compF xs f).bind fun ys => .ok (match y with | some z => z :: ys | none => ys)
/-- try: an error of ours is handed to the clause if it takes it -/
def tryN {α : Type} (m : Res α) (h : Err → Option (Res α)) : Res α := match m with
  | .ok x => .ok x
  | .err e => (h e).getD (.err e)
  | .stk => .stk
@[simp] theorem tryN_ok {α : Type} {x : α} {h : Err → Option (Res α)} : tryN (.ok x) h = .ok x := rfl
@[simp] theorem tryN_err {α : Type} {e : Err} {h : Err → Option (Res α)} : tryN (.err e : Res α) h = (h e).getD (.err e) := rfl

/-- try: body, one clause, what follows -/
def tryM {τ γ : Type} (m : Res τ) (h : Err → Option (Res γ)) (f : τ → Res γ) : Res γ := match m with
  | .ok s => f s
  | .err e => (h e).getD (.err e)
  | .stk => .stk
@[simp] theorem tryM_ok {τ γ : Type} {s : τ} {h : Err → Option (Res γ)} {f : τ → Res γ} : tryM (.ok s) h f = f s := rfl
@[simp] theorem tryM_err {τ γ : Type} {e : Err} {h : Err → Option (Res γ)} {f : τ → Res γ} : tryM (.err e : Res τ) h f = (h e).getD (.err e) := rfl
/-- what is wanted behind a mirrored result: from the base (c0, H0) on -/
def Kont {α : Type} (P : α → Cl → Hp → Prop) (PE : Err → Cl → Hp → Prop) (S : List Addr) (c0 : Cl) (H0 : Hp) : Res α → Prop
  | .ok y => ∀ c H, Step S c0 H0 c H → P y c H
  | .err e => ∀ c H, Step S c0 H0 c H → PE e c H
  | .stk => False
section
variable {α β : Type} {P : β → Cl → Hp → Prop} {PE : Err → Cl → Hp → Prop} {S : List Addr} {c0 : Cl} {H0 : Hp}
theorem Kont.chk {b : Bool} {r : Res β} (k : Kont P PE S c0 H0 (Kb.chk b r)) : b = true ∧ Kont P PE S c0 H0 r := by
  cases b with
  | true => exact ⟨rfl, k⟩
  | false => exact k.elim
theorem Kont.opt {o : Option α} {f : α → Res β} (k : Kont P PE S c0 H0 (Kb.opt o f)) : ∃ x, o = some x ∧ Kont P PE S c0 H0 (f x) := by
  cases o with
  | some x => exact ⟨x, rfl, k⟩
  | none => exact k.elim
theorem Kont.lt {x : α} {f : α → Res β} (k : Kont P PE S c0 H0 (Kb.lt x f)) : Kont P PE S c0 H0 (f x) := k
theorem Kont.brT {b : Bool} {x y : Res β} (k : Kont P PE S c0 H0 (Kb.br b x y)) (h : b = true) : Kont P PE S c0 H0 x := by subst h; exact k
theorem Kont.brF {b : Bool} {x y : Res β} (k : Kont P PE S c0 H0 (Kb.br b x y)) (h : b = false) : Kont P PE S c0 H0 y := by subst h; exact k
theorem Kont.bindT {m : Res α} {f : α → Res β} (k : Kont P PE S c0 H0 (m.bind f)) : Kont (fun y _ _ => Kont P PE S c0 H0 (f y)) (fun e _ _ => ∀ c H, Step S c0 H0 c H → PE e c H) S c0 H0 m := by
  cases m with
  | ok x => exact fun _ _ _ => k
  | err e => exact fun _ _ _ => k
  | stk => exact k.elim
/-- a call: what the callee's result is to bring -/
theorem Kont.call {m : Res α} {f : α → Res β} {T : List Addr} {c : Cl} {H : Hp} (k : Kont P PE S c0 H0 (m.bind f)) (g : Step S c0 H0 c H) (t : ∀ r ∈ T, r ∈ S ∨ H0 r = none) {Pc : α → Cl → Hp → Prop} {PEc : Err → Cl → Hp → Prop}
    (h : ∀ y, m = .ok y → Kont P PE S c0 H0 (f y) → ∀ c' H', Step T c H c' H' → Step S c0 H0 c' H' → Pc y c' H') (he : ∀ e, m = .err e → ∀ c' H', Step T c H c' H' → Step S c0 H0 c' H' → PE e c' H' → PEc e c' H') : Kont Pc PEc T c H m := by
  cases m with
  | ok x => exact fun c' H' st => h x rfl k c' H' st (g.trans st t)
  | err e => exact fun c' H' st => he e rfl c' H' st (g.trans st t) (k c' H' (g.trans st t))
  | stk => exact k.elim
theorem Kont.nx {m : Res α} {P : α → Cl → Hp → Prop} (k : Kont P PE S c0 H0 (Kb.nx m)) : Kont P (fun _ _ _ => False) S c0 H0 m := by
  cases m with
  | ok x => exact k
  | err e => exact k.elim
  | stk => exact k.elim
/-- a call of what raises nothing -/
theorem Kont.call0 {m : Res α} {f : α → Res β} {T : List Addr} {c : Cl} {H : Hp} (k : Kont P PE S c0 H0 ((Kb.nx m).bind f)) (g : Step S c0 H0 c H) (t : ∀ r ∈ T, r ∈ S ∨ H0 r = none) {Pc : α → Cl → Hp → Prop}
    (h : ∀ y, m = .ok y → Kont P PE S c0 H0 (f y) → ∀ c' H', Step T c H c' H' → Step S c0 H0 c' H' → Pc y c' H') : Kont Pc (fun _ _ _ => False) T c H m := by
  cases m with
  | ok x => exact fun c' H' st => h x rfl k c' H' st (g.trans st t)
  | err e => exact k.elim
  | stk => exact k.elim
theorem Kont.tryM {m : Res α} {h : Err → Option (Res β)} {f : α → Res β} (k : Kont P PE S c0 H0 (Kb.tryM m h f)) : Kont (fun s _ _ => Kont P PE S c0 H0 (f s)) (fun e _ _ => Kont P PE S c0 H0 ((h e).getD (.err e))) S c0 H0 m := by
  cases m with
  | ok x => exact fun _ _ _ => k
  | err e => exact fun _ _ _ => k
  | stk => exact k.elim
theorem Kont.imp {m : Res β} {P' : β → Cl → Hp → Prop} {PE' : Err → Cl → Hp → Prop} (k : Kont P PE S c0 H0 m) (h : ∀ y c H, Step S c0 H0 c H → P y c H → P' y c H) (he : ∀ e c H, Step S c0 H0 c H → PE e c H → PE' e c H) : Kont P' PE' S c0 H0 m := by
  cases m with
  | ok x => exact fun c H g => h _ _ _ g (k c H g)
  | err e => exact fun c H g => he _ _ _ g (k c H g)
  | stk => exact k.elim
theorem Kont.done {y : β} {c : Cl} {H : Hp} (k : Kont P PE S c0 H0 (.ok y)) (g : Step S c0 H0 c H) : P y c H := k c H g
theorem Kont.fail {e : Err} {c : Cl} {H : Hp} (k : Kont P PE S c0 H0 (.err e : Res β)) (g : Step S c0 H0 c H) : PE e c H := k c H g
end
end Kb
namespace Kb
open PySem L2

theorem rd_some {H : Hp} {a : Addr} {o : HO} (h : Rd H a o) : ∃ u, H a = some u := by
  rcases h with h | ⟨u, h⟩
  · exact ⟨_, h⟩
  · exact ⟨_, h⟩
theorem Up.rd {c H c' H'} (g : Up c H c' H') {a : Addr} {o : HO} (k : c a = none) (h : Rd H a o) : Rd H' a o := by
  rcases h with h | ⟨u, h⟩
  · exact .inl (g.obj a _ h k)
  · exact .inr ⟨u, g.obj a _ h k⟩
theorem Up.colR {c H c' H'} (g : Up c H c' H') {a : Addr} {o : HO} (k : c a = none) (h : Rd H a o) : c' a = none := by
  obtain ⟨u, e⟩ := rd_some h
  exact g.col a u e k
/-- a kind of data: how a value in the heap stands for it; its data -/
structure Ty (α : Type) [DecidableEq α] where
  r : Cl → Hp → V → α → Prop
  up : ∀ {c H c' H' v x}, Up c H c' H' → r c H v x → r c' H' v x
  enc : α → PyData
  dp : ∀ {K : PySem.W.Frag} {c H v x}, r c H v x → Dp K H v (enc x)
  lay : ∀ {c H v x}, r c H v x → (enc x).canLay0 = true
  dep : Nat
  hdep : ∀ x, (enc x).depth ≤ dep
  eqv : ∀ x y, PyData.eqv (enc x) (enc y) = decide (x = y)
def tyI : Ty Int where
  r _ _ v x := v = .int x
  up _ h := h
  enc x := .int x
  dp h := by subst h; exact .int _
  lay _ := rfl
  dep := 0
  hdep _ := Nat.le_refl _
  eqv x y := by simp only [PyData.eqv]; rw [Bool.eq_iff_iff]; simp
def tyB : Ty Bool where
  r _ _ v x := v = .bl x
  up _ h := h
  enc x := .bool x
  dp h := by subst h; exact .bl _
  lay _ := rfl
  dep := 0
  hdep _ := Nat.le_refl _
  eqv x y := by simp only [PyData.eqv]; rw [Bool.eq_iff_iff]; simp
def tyS : Ty Str where
  r _ _ v x := v = .str x ∧ PyData.strOk x = true
  up _ h := h
  enc x := .str x
  dp h := by obtain ⟨h, _⟩ := h; subst h; exact .str _
  lay h := h.2
  dep := 0
  hdep _ := Nat.le_refl _
  eqv x y := by simp only [PyData.eqv]; rw [Bool.eq_iff_iff]; simp
def tyU : Ty Unit where
  r _ _ v _ := v = .non
  up _ h := h
  enc _ := .none
  dp h := by subst h; exact .non
  lay _ := rfl
  dep := 0
  hdep _ := Nat.le_refl _
  eqv x y := by simp only [PyData.eqv]; simp
/-- None or a thing -/
def tyO {α : Type} [DecidableEq α] (A : Ty α) (hn : ∀ x, PyData.eqv (A.enc x) .none = false ∧ PyData.eqv .none (A.enc x) = false) (hv : ∀ c H x, ¬ A.r c H .non x) : Ty (Option α) where
  r c H v x := match x with
    | none => v = .non
    | some y => A.r c H v y
  up {c H c' H' v x} g h := by
    cases x with
    | none => exact h
    | some y => exact A.up g h
  enc x := match x with
    | none => .none
    | some y => A.enc y
  dp {K c H v x} h := by
    cases x with
    | none => have e : v = .non := h; subst e; exact .non
    | some y => exact A.dp h
  lay {c H v x} h := by
    cases x with
    | none => rfl
    | some y => exact A.lay h
  dep := A.dep
  hdep x := by
    cases x with
    | none => exact Nat.zero_le _
    | some y => exact A.hdep y
  eqv x y := by
    cases x with
    | none =>
      cases y with
      | none => simp [PyData.eqv]
      | some y => simp [(hn y).2]
    | some x =>
      cases y with
      | none => simp [(hn x).1]
      | some y => simp [A.eqv]
/-- a list's values stand for the data -/
def Rs {α : Type} [DecidableEq α] (A : Ty α) (c : Cl) (H : Hp) : List V → List α → Prop
  | [], [] => True
  | u :: us, x :: xs => A.r c H u x ∧ Rs A c H us xs
  | _, _ => False
section
variable {α : Type} [DecidableEq α] {A : Ty α} {c c' : Cl} {H H' : Hp}
theorem Rs.len : ∀ {us : List V} {xs : List α}, Rs A c H us xs → us.length = xs.length
  | [], [], _ => rfl
  | _ :: us, _ :: xs, h => by rw [List.length_cons, List.length_cons, Rs.len h.2]
  | [], _ :: _, h => h.elim
  | _ :: _, [], h => h.elim
theorem Rs.up (g : Up c H c' H') : ∀ {us : List V} {xs : List α}, Rs A c H us xs → Rs A c' H' us xs
  | [], [], _ => trivial
  | _ :: _, _ :: _, h => ⟨A.up g h.1, Rs.up g h.2⟩
  | [], _ :: _, h => h.elim
  | _ :: _, [], h => h.elim
theorem Rs.app : ∀ {us vs : List V} {xs ys : List α}, Rs A c H us xs → Rs A c H vs ys → Rs A c H (us ++ vs) (xs ++ ys)
  | [], _, [], _, _, h => h
  | _ :: _, _, _ :: _, _, h, k => ⟨h.1, Rs.app h.2 k⟩
  | [], _, _ :: _, _, h, _ => h.elim
  | _ :: _, _, [], _, h, _ => h.elim
theorem Rs.get : ∀ {us : List V} {xs : List α} {i : Nat} {u : V}, Rs A c H us xs → us[i]? = some u → ∃ x, xs[i]? = some x ∧ A.r c H u x
  | [], [], _, _, _, e => by simp at e
  | u :: us, x :: xs, 0, v, h, e => by
    have e' : u = v := by simpa using e
    subst e'
    exact ⟨x, rfl, h.1⟩
  | u :: us, x :: xs, i + 1, v, h, e => by
    obtain ⟨y, e1, r⟩ := Rs.get (i := i) (u := v) h.2 (by simpa using e)
    exact ⟨y, by simpa using e1, r⟩
  | [], _ :: _, _, _, h, _ => h.elim
  | _ :: _, [], _, _, h, _ => h.elim
theorem Rs.getX : ∀ {us : List V} {xs : List α} {i : Nat} {x : α}, Rs A c H us xs → xs[i]? = some x → ∃ u, us[i]? = some u ∧ A.r c H u x
  | [], [], _, _, _, e => by simp at e
  | u :: us, x :: xs, 0, y, h, e => by
    have e' : x = y := by simpa using e
    subst e'
    exact ⟨u, rfl, h.1⟩
  | u :: us, x :: xs, i + 1, y, h, e => by
    obtain ⟨v, e1, r⟩ := Rs.getX (i := i) (x := y) h.2 (by simpa using e)
    exact ⟨v, by simpa using e1, r⟩
  | [], _ :: _, _, _, h, _ => h.elim
  | _ :: _, [], _, _, h, _ => h.elim
theorem Rs.set {u : V} {x : α} (r : A.r c H u x) : ∀ {us : List V} {xs : List α} (i : Nat), Rs A c H us xs → Rs A c H (us.set i u) (xs.set i x)
  | [], [], _, _ => trivial
  | _ :: _, _ :: _, 0, h => ⟨r, h.2⟩
  | _ :: _, _ :: _, i + 1, h => ⟨h.1, Rs.set r i h.2⟩
  | [], _ :: _, _, h => h.elim
  | _ :: _, [], _, h => h.elim
theorem Rs.drop : ∀ {us : List V} {xs : List α} (n : Nat), Rs A c H us xs → Rs A c H (us.drop n) (xs.drop n)
  | _, _, 0, h => h
  | [], [], _ + 1, _ => trivial
  | _ :: _, _ :: _, n + 1, h => Rs.drop n h.2
  | [], _ :: _, _, h => h.elim
  | _ :: _, [], _, h => h.elim
theorem Rs.take : ∀ {us : List V} {xs : List α} (n : Nat), Rs A c H us xs → Rs A c H (us.take n) (xs.take n)
  | _, _, 0, h => by simp [Rs]
  | [], [], _ + 1, _ => trivial
  | _ :: _, _ :: _, n + 1, h => ⟨h.1, Rs.take n h.2⟩
  | [], _ :: _, _, h => h.elim
  | _ :: _, [], _, h => h.elim
theorem Rs.rev : ∀ {us : List V} {xs : List α}, Rs A c H us xs → Rs A c H us.reverse xs.reverse
  | [], [], _ => trivial
  | _ :: _, _ :: _, h => by
    rw [List.reverse_cons, List.reverse_cons]
    exact Rs.app (Rs.rev h.2) ⟨h.1, trivial⟩
  | [], _ :: _, h => h.elim
  | _ :: _, [], h => h.elim
theorem Rs.dp {K : PySem.W.Frag} : ∀ {us : List V} {xs : List α}, Rs A c H us xs → DpAll K H us (xs.map A.enc)
  | [], [], _ => .nil
  | _ :: _, _ :: _, h => .cons (A.dp h.1) (Rs.dp h.2)
  | [], _ :: _, h => h.elim
  | _ :: _, [], h => h.elim
theorem Rs.lay : ∀ {us : List V} {xs : List α}, Rs A c H us xs → PyData.canLayAll0 (xs.map A.enc) = true
  | [], [], _ => rfl
  | _ :: _, x :: xs, h => by
    show (PyData.canLay0 (A.enc x) && PyData.canLayAll0 (xs.map A.enc)) = true
    rw [A.lay h.1, Rs.lay h.2]; rfl
  | [], _ :: _, h => h.elim
  | _ :: _, [], h => h.elim
theorem depAll (A : Ty α) : ∀ xs : List α, PyData.depthAll (xs.map A.enc) ≤ A.dep
  | [] => Nat.zero_le _
  | x :: xs => Nat.max_le.mpr ⟨A.hdep x, depAll A xs⟩
theorem eqvAll (A : Ty α) : ∀ xs ys : List α, PyData.eqvAll (xs.map A.enc) (ys.map A.enc) = decide (xs = ys)
  | [], [] => rfl
  | [], _ :: _ => rfl
  | _ :: _, [] => rfl
  | x :: xs, y :: ys => by
    show (PyData.eqv (A.enc x) (A.enc y) && PyData.eqvAll (xs.map A.enc) (ys.map A.enc)) = decide (x :: xs = y :: ys)
    rw [A.eqv, eqvAll A xs ys, Bool.eq_iff_iff]
    simp
end
/-- a frozen list -/
def tyL {α : Type} [DecidableEq α] (A : Ty α) : Ty (List α) where
  r c H v xs := ∃ (a : Addr) (us : List V), v = .ref a ∧ c a = none ∧ H a = some (.lst us) ∧ Rs A c H us xs
  up := fun g ⟨a, us, e, k, q, h⟩ => ⟨a, us, e, g.col a _ q k, g.obj a _ q k, h.up g⟩
  enc xs := .list (xs.map A.enc)
  dp := fun ⟨a, us, e, k, q, h⟩ => by subst e; exact .lst (.inl (.inl q)) h.dp
  lay := fun ⟨a, us, e, k, q, h⟩ => h.lay
  dep := A.dep + 1
  hdep xs := Nat.succ_le_succ (depAll A xs)
  eqv x y := by simp only [PyData.eqv]; exact eqvAll A x y
def tyT2 {α0 : Type} [DecidableEq α0] {α1 : Type} [DecidableEq α1] (A0 : Ty α0) (A1 : Ty α1) : Ty (α0 × α1) where
  r c H v x := ∃ (a : Addr) (u0 u1 : V), v = .ref a ∧ c a = none ∧ Rd H a (.tup [u0, u1]) ∧ A0.r c H u0 x.1 ∧ A1.r c H u1 x.2
  up := fun g ⟨a, u0, u1, e, k, q, h0, h1⟩ => ⟨a, u0, u1, e, g.colR k q, g.rd k q, A0.up g h0, A1.up g h1⟩
  enc x := .tuple [A0.enc x.1, A1.enc x.2]
  dp := fun ⟨a, u0, u1, e, k, q, h0, h1⟩ => by subst e; exact .tup (.inl q) (.cons (A0.dp h0) (.cons (A1.dp h1) (.nil)))
  lay := fun ⟨a, u0, u1, e, k, q, h0, h1⟩ => by simp [PyData.canLay0, PyData.canLayAll0, A0.lay h0, A1.lay h1]
  dep := A0.dep+A1.dep + 1
  hdep x := by
    have h0 := A0.hdep x.1
    have h1 := A1.hdep x.2
    simp only [PyData.depth, PyData.depthAll]; omega
  eqv x y := by
    simp only [PyData.eqv, PyData.eqvAll, Bool.and_true, A0.eqv, A1.eqv]
    rw [Bool.eq_iff_iff]; simp only [Bool.and_eq_true, decide_eq_true_eq, Prod.ext_iff]
def tyT3 {α0 : Type} [DecidableEq α0] {α1 : Type} [DecidableEq α1] {α2 : Type} [DecidableEq α2] (A0 : Ty α0) (A1 : Ty α1) (A2 : Ty α2) : Ty (α0 × α1 × α2) where
  r c H v x := ∃ (a : Addr) (u0 u1 u2 : V), v = .ref a ∧ c a = none ∧ Rd H a (.tup [u0, u1, u2]) ∧ A0.r c H u0 x.1 ∧ A1.r c H u1 x.2.1 ∧ A2.r c H u2 x.2.2
  up := fun g ⟨a, u0, u1, u2, e, k, q, h0, h1, h2⟩ => ⟨a, u0, u1, u2, e, g.colR k q, g.rd k q, A0.up g h0, A1.up g h1, A2.up g h2⟩
  enc x := .tuple [A0.enc x.1, A1.enc x.2.1, A2.enc x.2.2]
  dp := fun ⟨a, u0, u1, u2, e, k, q, h0, h1, h2⟩ => by subst e; exact .tup (.inl q) (.cons (A0.dp h0) (.cons (A1.dp h1) (.cons (A2.dp h2) (.nil))))
  lay := fun ⟨a, u0, u1, u2, e, k, q, h0, h1, h2⟩ => by simp [PyData.canLay0, PyData.canLayAll0, A0.lay h0, A1.lay h1, A2.lay h2]
  dep := A0.dep+A1.dep+A2.dep + 1
  hdep x := by
    have h0 := A0.hdep x.1
    have h1 := A1.hdep x.2.1
    have h2 := A2.hdep x.2.2
    simp only [PyData.depth, PyData.depthAll]; omega
  eqv x y := by
    simp only [PyData.eqv, PyData.eqvAll, Bool.and_true, A0.eqv, A1.eqv, A2.eqv]
    rw [Bool.eq_iff_iff]; simp only [Bool.and_eq_true, decide_eq_true_eq, Prod.ext_iff]
def tyT4 {α0 : Type} [DecidableEq α0] {α1 : Type} [DecidableEq α1] {α2 : Type} [DecidableEq α2] {α3 : Type} [DecidableEq α3] (A0 : Ty α0) (A1 : Ty α1) (A2 : Ty α2) (A3 : Ty α3) : Ty (α0 × α1 × α2 × α3) where
  r c H v x := ∃ (a : Addr) (u0 u1 u2 u3 : V), v = .ref a ∧ c a = none ∧ Rd H a (.tup [u0, u1, u2, u3]) ∧ A0.r c H u0 x.1 ∧ A1.r c H u1 x.2.1 ∧ A2.r c H u2 x.2.2.1 ∧ A3.r c H u3 x.2.2.2
  up := fun g ⟨a, u0, u1, u2, u3, e, k, q, h0, h1, h2, h3⟩ => ⟨a, u0, u1, u2, u3, e, g.colR k q, g.rd k q, A0.up g h0, A1.up g h1, A2.up g h2, A3.up g h3⟩
  enc x := .tuple [A0.enc x.1, A1.enc x.2.1, A2.enc x.2.2.1, A3.enc x.2.2.2]
  dp := fun ⟨a, u0, u1, u2, u3, e, k, q, h0, h1, h2, h3⟩ => by subst e; exact .tup (.inl q) (.cons (A0.dp h0) (.cons (A1.dp h1) (.cons (A2.dp h2) (.cons (A3.dp h3) (.nil)))))
  lay := fun ⟨a, u0, u1, u2, u3, e, k, q, h0, h1, h2, h3⟩ => by simp [PyData.canLay0, PyData.canLayAll0, A0.lay h0, A1.lay h1, A2.lay h2, A3.lay h3]
  dep := A0.dep+A1.dep+A2.dep+A3.dep + 1
  hdep x := by
    have h0 := A0.hdep x.1
    have h1 := A1.hdep x.2.1
    have h2 := A2.hdep x.2.2.1
    have h3 := A3.hdep x.2.2.2
    simp only [PyData.depth, PyData.depthAll]; omega
  eqv x y := by
    simp only [PyData.eqv, PyData.eqvAll, Bool.and_true, A0.eqv, A1.eqv, A2.eqv, A3.eqv]
    rw [Bool.eq_iff_iff]; simp only [Bool.and_eq_true, decide_eq_true_eq, Prod.ext_iff]
def tyT5 {α0 : Type} [DecidableEq α0] {α1 : Type} [DecidableEq α1] {α2 : Type} [DecidableEq α2] {α3 : Type} [DecidableEq α3] {α4 : Type} [DecidableEq α4] (A0 : Ty α0) (A1 : Ty α1) (A2 : Ty α2) (A3 : Ty α3) (A4 : Ty α4) : Ty (α0 × α1 × α2 × α3 × α4) where
  r c H v x := ∃ (a : Addr) (u0 u1 u2 u3 u4 : V), v = .ref a ∧ c a = none ∧ Rd H a (.tup [u0, u1, u2, u3, u4]) ∧ A0.r c H u0 x.1 ∧ A1.r c H u1 x.2.1 ∧ A2.r c H u2 x.2.2.1 ∧ A3.r c H u3 x.2.2.2.1 ∧ A4.r c H u4 x.2.2.2.2
  up := fun g ⟨a, u0, u1, u2, u3, u4, e, k, q, h0, h1, h2, h3, h4⟩ => ⟨a, u0, u1, u2, u3, u4, e, g.colR k q, g.rd k q, A0.up g h0, A1.up g h1, A2.up g h2, A3.up g h3, A4.up g h4⟩
  enc x := .tuple [A0.enc x.1, A1.enc x.2.1, A2.enc x.2.2.1, A3.enc x.2.2.2.1, A4.enc x.2.2.2.2]
  dp := fun ⟨a, u0, u1, u2, u3, u4, e, k, q, h0, h1, h2, h3, h4⟩ => by subst e; exact .tup (.inl q) (.cons (A0.dp h0) (.cons (A1.dp h1) (.cons (A2.dp h2) (.cons (A3.dp h3) (.cons (A4.dp h4) (.nil))))))
  lay := fun ⟨a, u0, u1, u2, u3, u4, e, k, q, h0, h1, h2, h3, h4⟩ => by simp [PyData.canLay0, PyData.canLayAll0, A0.lay h0, A1.lay h1, A2.lay h2, A3.lay h3, A4.lay h4]
  dep := A0.dep+A1.dep+A2.dep+A3.dep+A4.dep + 1
  hdep x := by
    have h0 := A0.hdep x.1
    have h1 := A1.hdep x.2.1
    have h2 := A2.hdep x.2.2.1
    have h3 := A3.hdep x.2.2.2.1
    have h4 := A4.hdep x.2.2.2.2
    simp only [PyData.depth, PyData.depthAll]; omega
  eqv x y := by
    simp only [PyData.eqv, PyData.eqvAll, Bool.and_true, A0.eqv, A1.eqv, A2.eqv, A3.eqv, A4.eqv]
    rw [Bool.eq_iff_iff]; simp only [Bool.and_eq_true, decide_eq_true_eq, Prod.ext_iff]
def tyT6 {α0 : Type} [DecidableEq α0] {α1 : Type} [DecidableEq α1] {α2 : Type} [DecidableEq α2] {α3 : Type} [DecidableEq α3] {α4 : Type} [DecidableEq α4] {α5 : Type} [DecidableEq α5] (A0 : Ty α0) (A1 : Ty α1) (A2 : Ty α2) (A3 : Ty α3) (A4 : Ty α4) (A5 : Ty α5) : Ty (α0 × α1 × α2 × α3 × α4 × α5) where
  r c H v x := ∃ (a : Addr) (u0 u1 u2 u3 u4 u5 : V), v = .ref a ∧ c a = none ∧ Rd H a (.tup [u0, u1, u2, u3, u4, u5]) ∧ A0.r c H u0 x.1 ∧ A1.r c H u1 x.2.1 ∧ A2.r c H u2 x.2.2.1 ∧ A3.r c H u3 x.2.2.2.1 ∧ A4.r c H u4 x.2.2.2.2.1 ∧ A5.r c H u5 x.2.2.2.2.2
  up := fun g ⟨a, u0, u1, u2, u3, u4, u5, e, k, q, h0, h1, h2, h3, h4, h5⟩ => ⟨a, u0, u1, u2, u3, u4, u5, e, g.colR k q, g.rd k q, A0.up g h0, A1.up g h1, A2.up g h2, A3.up g h3, A4.up g h4, A5.up g h5⟩
  enc x := .tuple [A0.enc x.1, A1.enc x.2.1, A2.enc x.2.2.1, A3.enc x.2.2.2.1, A4.enc x.2.2.2.2.1, A5.enc x.2.2.2.2.2]
  dp := fun ⟨a, u0, u1, u2, u3, u4, u5, e, k, q, h0, h1, h2, h3, h4, h5⟩ => by subst e; exact .tup (.inl q) (.cons (A0.dp h0) (.cons (A1.dp h1) (.cons (A2.dp h2) (.cons (A3.dp h3) (.cons (A4.dp h4) (.cons (A5.dp h5) (.nil)))))))
  lay := fun ⟨a, u0, u1, u2, u3, u4, u5, e, k, q, h0, h1, h2, h3, h4, h5⟩ => by simp [PyData.canLay0, PyData.canLayAll0, A0.lay h0, A1.lay h1, A2.lay h2, A3.lay h3, A4.lay h4, A5.lay h5]
  dep := A0.dep+A1.dep+A2.dep+A3.dep+A4.dep+A5.dep + 1
  hdep x := by
    have h0 := A0.hdep x.1
    have h1 := A1.hdep x.2.1
    have h2 := A2.hdep x.2.2.1
    have h3 := A3.hdep x.2.2.2.1
    have h4 := A4.hdep x.2.2.2.2.1
    have h5 := A5.hdep x.2.2.2.2.2
    simp only [PyData.depth, PyData.depthAll]; omega
  eqv x y := by
    simp only [PyData.eqv, PyData.eqvAll, Bool.and_true, A0.eqv, A1.eqv, A2.eqv, A3.eqv, A4.eqv, A5.eqv]
    rw [Bool.eq_iff_iff]; simp only [Bool.and_eq_true, decide_eq_true_eq, Prod.ext_iff]
def tyT7 {α0 : Type} [DecidableEq α0] {α1 : Type} [DecidableEq α1] {α2 : Type} [DecidableEq α2] {α3 : Type} [DecidableEq α3] {α4 : Type} [DecidableEq α4] {α5 : Type} [DecidableEq α5] {α6 : Type} [DecidableEq α6] (A0 : Ty α0) (A1 : Ty α1) (A2 : Ty α2) (A3 : Ty α3) (A4 : Ty α4) (A5 : Ty α5) (A6 : Ty α6) : Ty (α0 × α1 × α2 × α3 × α4 × α5 × α6) where
  r c H v x := ∃ (a : Addr) (u0 u1 u2 u3 u4 u5 u6 : V), v = .ref a ∧ c a = none ∧ Rd H a (.tup [u0, u1, u2, u3, u4, u5, u6]) ∧ A0.r c H u0 x.1 ∧ A1.r c H u1 x.2.1 ∧ A2.r c H u2 x.2.2.1 ∧ A3.r c H u3 x.2.2.2.1 ∧ A4.r c H u4 x.2.2.2.2.1 ∧ A5.r c H u5 x.2.2.2.2.2.1 ∧ A6.r c H u6 x.2.2.2.2.2.2
  up := fun g ⟨a, u0, u1, u2, u3, u4, u5, u6, e, k, q, h0, h1, h2, h3, h4, h5, h6⟩ => ⟨a, u0, u1, u2, u3, u4, u5, u6, e, g.colR k q, g.rd k q, A0.up g h0, A1.up g h1, A2.up g h2, A3.up g h3, A4.up g h4, A5.up g h5, A6.up g h6⟩
  enc x := .tuple [A0.enc x.1, A1.enc x.2.1, A2.enc x.2.2.1, A3.enc x.2.2.2.1, A4.enc x.2.2.2.2.1, A5.enc x.2.2.2.2.2.1, A6.enc x.2.2.2.2.2.2]
  dp := fun ⟨a, u0, u1, u2, u3, u4, u5, u6, e, k, q, h0, h1, h2, h3, h4, h5, h6⟩ => by subst e; exact .tup (.inl q) (.cons (A0.dp h0) (.cons (A1.dp h1) (.cons (A2.dp h2) (.cons (A3.dp h3) (.cons (A4.dp h4) (.cons (A5.dp h5) (.cons (A6.dp h6) (.nil))))))))
  lay := fun ⟨a, u0, u1, u2, u3, u4, u5, u6, e, k, q, h0, h1, h2, h3, h4, h5, h6⟩ => by simp [PyData.canLay0, PyData.canLayAll0, A0.lay h0, A1.lay h1, A2.lay h2, A3.lay h3, A4.lay h4, A5.lay h5, A6.lay h6]
  dep := A0.dep+A1.dep+A2.dep+A3.dep+A4.dep+A5.dep+A6.dep + 1
  hdep x := by
    have h0 := A0.hdep x.1
    have h1 := A1.hdep x.2.1
    have h2 := A2.hdep x.2.2.1
    have h3 := A3.hdep x.2.2.2.1
    have h4 := A4.hdep x.2.2.2.2.1
    have h5 := A5.hdep x.2.2.2.2.2.1
    have h6 := A6.hdep x.2.2.2.2.2.2
    simp only [PyData.depth, PyData.depthAll]; omega
  eqv x y := by
    simp only [PyData.eqv, PyData.eqvAll, Bool.and_true, A0.eqv, A1.eqv, A2.eqv, A3.eqv, A4.eqv, A5.eqv, A6.eqv]
    rw [Bool.eq_iff_iff]; simp only [Bool.and_eq_true, decide_eq_true_eq, Prod.ext_iff]
theorem tyI_no (x : Int) : PyData.eqv (tyI.enc x) .none = false ∧ PyData.eqv .none (tyI.enc x) = false := by simp [tyI, PyData.eqv]
/-- a list whose own colour does not matter (it is read alone) -/
def rB {α : Type} [DecidableEq α] (K : PySem.W.Frag) (A : Ty α) (c : Cl) (H : Hp) (v : V) (xs : List α) : Prop := ∃ (a : Addr) (us : List V), v = .ref a ∧ SqL K H a us ∧ Rs A c H us xs
/-- the same, a list that stands by itself -/
def rP {α : Type} [DecidableEq α] (A : Ty α) (c : Cl) (H : Hp) (v : V) (xs : List α) : Prop := ∃ (a : Addr) (us : List V), v = .ref a ∧ H a = some (.lst us) ∧ Rs A c H us xs
/-- a list of one's own, rooted at p, not there ahead of H0 -/
structure Own {α : Type} [DecidableEq α] (A : Ty α) (H0 : Hp) (c : Cl) (H : Hp) (p : Addr) (us : List V) (xs : List α) : Prop where
  col : c p = some p
  obj : H p = some (.lst us)
  rs : Rs A c H us xs
  new : H0 p = none
def rO {α : Type} [DecidableEq α] (A : Ty α) (H0 : Hp) (c : Cl) (H : Hp) (v : V) (xs : List α) : Prop := ∃ (p : Addr) (us : List V), v = .ref p ∧ Own A H0 c H p us xs
section
variable {K : PySem.W.Frag} {α : Type} [DecidableEq α] {A : Ty α} {c c' c0 : Cl} {H H' H0 : Hp} {S T : List Addr} {p : Addr} {us : List V} {xs : List α}
theorem tyL_b {v : V} (h : (tyL A).r c H v xs) : rB K A c H v xs := let ⟨a, us, e, _, q, r⟩ := h; ⟨a, us, e, .inl (.inl q), r⟩
theorem rP.b {v : V} (h : rP A c H v xs) : rB K A c H v xs := let ⟨a, us, e, q, r⟩ := h; ⟨a, us, e, .inl (.inl q), r⟩
theorem tyL_p {v : V} (h : (tyL A).r c H v xs) : rP A c H v xs := let ⟨a, us, e, _, q, r⟩ := h; ⟨a, us, e, q, r⟩
theorem Own.pl (h : Own A H0 c H p us xs) : rP A c H (.ref p) xs := ⟨p, us, rfl, h.obj, h.rs⟩
theorem Step.pl0 {v : V} (g : Step [] c0 H0 c H) (h : rP A c0 H0 v xs) : rP A c H v xs := by
  obtain ⟨a, us, e, q, r⟩ := h
  exact ⟨a, us, e, g.keep a _ q (fun _ _ z => by cases z), r.up g.up⟩
theorem Own.b (h : Own A H0 c H p us xs) : rB K A c H (.ref p) xs := ⟨p, us, rfl, .inl (.inl h.obj), h.rs⟩
theorem Own.step (h : Own A H0 c H p us xs) (g : Step T c H c' H') (n : p ∉ T) : Own A H0 c' H' p us xs :=
  ⟨(g.col p _ h.obj).trans h.col, g.keep p _ h.obj (fun r e => by rw [h.col] at e; cases e; exact n), h.rs.up g.up, h.new⟩
theorem Own.step0 (h : Own A H0 c H p us xs) (g : Step [] c H c' H') : Own A H0 c' H' p us xs := h.step g (fun z => by cases z)
theorem Own.step1 {q : Addr} (h : Own A H0 c H p us xs) (g : Step [q] c H c' H') (n : p ≠ q) : Own A H0 c' H' p us xs := h.step g (fun z => n (List.mem_singleton.mp z))
/-- it is frozen -/
theorem Own.frz (h : Own A H0 c H p us xs) : (tyL A).r (frz c p) H (.ref p) xs := ⟨p, us, rfl, frz_self h.col, h.obj, h.rs.up frz_up⟩
theorem Own.other {q : Addr} (h : Own A H0 c H p us xs) (n : p ≠ q) : Own A H0 (Kb.frz c q) H p us xs := ⟨frz_ne h.col n, h.obj, h.rs.up frz_up, h.new⟩
/-- what the base knows of a list that is read alone stands -/
theorem Step.sq0 {a : Addr} (g : Step [] c0 H0 c H) (h : SqL K H0 a us) : SqL K H a us := by
  rcases h with (q | ⟨o, q⟩) | q
  · exact .inl (.inl (g.keep a _ q fun _ _ z => by cases z))
  · exact .inl (.inr ⟨o, g.keep a _ q fun _ _ z => by cases z⟩)
  · exact .inr q
theorem Step.b0 {v : V} (g : Step [] c0 H0 c H) (h : rB K A c0 H0 v xs) : rB K A c H v xs := by
  obtain ⟨a, us, e, q, r⟩ := h
  exact ⟨a, us, e, g.sq0 q, r.up g.up⟩
end
end Kb
/-! Kb3: what expressions evaluate to while nothing changes -/
namespace Kb
open PySem L2

def Pv (t : TE) (σ : L2.St) (H : Hp) (v : V) : Prop := ∀ Q : VK, Q v H → t σ H Q
def PvT (t : TT) (σ : L2.St) (H : Hp) (b : Bool) : Prop := ∀ Q : Bool → Hp → Prop, Q b H → t σ H Q
def PvA (t : TA) (σ : L2.St) (H : Hp) (vs : List V) : Prop := ∀ Q : List V → Hp → Prop, Q vs H → t σ H Q
def PvO (t : TO) (σ : L2.St) (H : Hp) (o : Option Int) : Prop := ∀ Q : Option Int → Hp → Prop, Q o H → t σ H Q
/-- an operation by values -/
def Rv (r : R2) (x y : V) (H : Hp) (z : V) : Prop := ∀ Q : VK, Q z H → r x y H Q
def Rc (r : List V → Hp → VK → Prop) (vs : List V) (H : Hp) (z : V) : Prop := ∀ Q : VK, Q z H → r vs H Q
section
variable {t ta tb tc : TE} {σ : L2.St} {H : Hp} {v x y z : V} {r r' : R2}
theorem Pv.go (h : Pv t σ H v) {Q : VK} (q : Q v H) : t σ H Q := h Q q
theorem PvT.go {t : TT} {b : Bool} (h : PvT t σ H b) {Q : Bool → Hp → Prop} (q : Q b H) : t σ H Q := h Q q
theorem PvA.go {t : TA} {vs : List V} (h : PvA t σ H vs) {Q : List V → Hp → Prop} (q : Q vs H) : t σ H Q := h Q q
theorem Pv.is {w : V} (h : Pv t σ H v) (e : v = w) : Pv t σ H w := e ▸ h
theorem PvT.is {t : TT} {a b : Bool} (h : PvT t σ H a) (e : a = b) : PvT t σ H b := e ▸ h
theorem pv_v {i : Nat} (h : σ[i]? = some (some v)) : Pv (tVar i) σ H v := fun _ q => ⟨v, h, q⟩
theorem pv_c : Pv (tC v) σ H v := fun _ q => q
theorem pv_2 (ha : Pv ta σ H x) (hb : Pv tb σ H y) (hr : Rv r x y H z) : Pv (tOp r ta tb) σ H z := fun Q q => ha _ (hb _ (hr Q q))
theorem pv_1 {r : V → Hp → VK → Prop} (ha : Pv ta σ H x) (hr : ∀ Q : VK, Q z H → r x H Q) : Pv (tUn r ta) σ H z := fun Q q => ha _ (hr Q q)
theorem pv_cb {r : List V → Hp → VK → Prop} {ta : TA} {vs : List V} (ha : PvA ta σ H vs) (hr : Rc r vs H z) : Pv (tCB r ta) σ H z := fun Q q => ha _ (hr Q q)
theorem pa_n : PvA tNil σ H [] := fun _ q => q
theorem pa_c {tr : TA} {vs : List V} (ha : Pv ta σ H x) (hr : PvA tr σ H vs) : PvA (tCons ta tr) σ H (x :: vs) := fun _ q => ha _ (hr _ q)
theorem pv_ch {a b : Bool} (ha : Pv ta σ H x) (hb : Pv tb σ H y) (hr : Rv r x y H (.bl a)) (hc : a = true → Pv tc σ H z) (hr' : a = true → Rv r' y z H (.bl b)) : Pv (tChain r r' ta tb tc) σ H (.bl (a && b)) := fun Q q => ha _ (hb _ (hr _ ⟨a, rfl, by
  cases a with
  | true => exact iteT (hc rfl _ (hr' rfl _ q))
  | false => exact iteF q⟩))
theorem pv_if {c : TT} {b : Bool} (hc : PvT c σ H b) (h1 : b = true → Pv ta σ H v) (h2 : b = false → Pv tb σ H v) : Pv (tIf c ta tb) σ H v := fun Q q => hc _ (by
  cases b with
  | true => exact iteT (h1 rfl Q q)
  | false => exact iteF (h2 rfl Q q))
theorem pv_andV {a b : Bool} (h1 : Pv ta σ H (.bl a)) (h2 : a = true → Pv tb σ H (.bl b)) : Pv (tAndV ta tb) σ H (.bl (a && b)) := fun Q q => h1 _ ⟨a, rfl, by
  cases a with
  | true => exact iteT (h2 rfl Q q)
  | false => exact iteF q⟩
theorem pv_orV {a b : Bool} (h1 : Pv ta σ H (.bl a)) (h2 : a = false → Pv tb σ H (.bl b)) : Pv (tOrV ta tb) σ H (.bl (a || b)) := fun Q q => h1 _ ⟨a, rfl, by
  cases a with
  | true => exact iteT q
  | false => exact iteF (h2 rfl Q q)⟩
theorem pv_notV {a : Bool} (h1 : Pv ta σ H (.bl a)) : Pv (tNotV ta) σ H (.bl (!a)) := fun Q q => h1 _ ⟨a, rfl, q⟩
theorem pt_t {b : Bool} (h : Pv t σ H (.bl b)) : PvT (tTest t) σ H b := fun _ q => h _ ⟨b, rfl, q⟩
theorem pt_b {b : Bool} (h : Pv t σ H (.bl b)) : PvT (tB t) σ H b := fun _ q => h _ ⟨b, rfl, q⟩
theorem pt_and {t u : TT} {a b : Bool} (h1 : PvT t σ H a) (h2 : a = true → PvT u σ H b) : PvT (tAnd t u) σ H (a && b) := fun Q q => h1 _ (by
  cases a with
  | true => exact iteT (h2 rfl Q q)
  | false => exact iteF q)
theorem pt_or {t u : TT} {a b : Bool} (h1 : PvT t σ H a) (h2 : a = false → PvT u σ H b) : PvT (tOr t u) σ H (a || b) := fun Q q => h1 _ (by
  cases a with
  | true => exact iteT q
  | false => exact iteF (h2 rfl Q q))
theorem pt_not {t : TT} {a : Bool} (h1 : PvT t σ H a) : PvT (tNot t) σ H (!a) := fun _ q => h1 _ q
theorem po_n : PvO tNoPart σ H none := fun _ q => q
theorem po_s {i : Int} (h : Pv t σ H (.int i)) : PvO (tPart t) σ H (some i) := fun _ q => h _ ⟨i, rfl, q⟩
/-! #### operations -/
theorem rv_i {g : Int → Int → V} {i j : Int} : Rv (rI0 g) (.int i) (.int j) H (g i j) := fun _ q => ⟨i, j, rfl, rfl, q⟩
theorem rv_ic {C : Int → Int → Prop} {g : Int → Int → V} {i j : Int} (hc : C i j) : Rv (rI C g) (.int i) (.int j) H (g i j) := fun _ q => ⟨i, j, rfl, rfl, hc, q⟩
theorem rv_eqi {i j : Int} : Rv rEq (.int i) (.int j) H (.bl (decide (i = j))) := fun _ q => ⟨rfl, by rw [dec_int]; rw [show (decide (i = j)) = (i == j) from by rw [Bool.eq_iff_iff]; simp] at q; exact q⟩
theorem rv_nei {i j : Int} : Rv rNe (.int i) (.int j) H (.bl (!decide (i = j))) := fun _ q => ⟨rfl, by rw [dec_int]; rw [show (decide (i = j)) = (i == j) from by rw [Bool.eq_iff_iff]; simp] at q; exact q⟩
theorem rv_eqs {i j : Str} : Rv rEq (.str i) (.str j) H (.bl (decide (i = j))) := fun _ q => ⟨rfl, by rw [dec_str]; rw [show (decide (i = j)) = (i == j) from by rw [Bool.eq_iff_iff]; simp] at q; exact q⟩
theorem rv_nes {i j : Str} : Rv rNe (.str i) (.str j) H (.bl (!decide (i = j))) := fun _ q => ⟨rfl, by rw [dec_str]; rw [show (decide (i = j)) = (i == j) from by rw [Bool.eq_iff_iff]; simp] at q; exact q⟩
theorem rv_eqb {i j : Bool} : Rv rEq (.bl i) (.bl j) H (.bl (decide (i = j))) := fun _ q => ⟨rfl, by rw [dec_bl]; rw [show (decide (i = j)) = (i == j) from by rw [Bool.eq_iff_iff]; simp] at q; exact q⟩
theorem rv_neb {i j : Bool} : Rv rNe (.bl i) (.bl j) H (.bl (!decide (i = j))) := fun _ q => ⟨rfl, by rw [dec_bl]; rw [show (decide (i = j)) = (i == j) from by rw [Bool.eq_iff_iff]; simp] at q; exact q⟩
/-- == of data -/
theorem rv_eqd {α : Type} [DecidableEq α] {A : Ty α} {K : PySem.W.Frag} {c : Cl} {a b : α} (h1 : A.r c H x a) (h2 : A.r c H y b) (hd : A.dep ≤ 64) : Rv (rEqD K) x y H (.bl (decide (a = b))) := fun Q q =>
  ⟨A.enc a, A.enc b, A.dp h1, A.dp h2, by unfold SeqAt.shaped; rw [A.lay h1, decide_eq_true (Nat.le_trans (A.hdep a) hd)]; rfl, by unfold SeqAt.shaped; rw [A.lay h2, decide_eq_true (Nat.le_trans (A.hdep b) hd)]; rfl, by rw [A.eqv]; exact q⟩
theorem rv_ned {α : Type} [DecidableEq α] {A : Ty α} {K : PySem.W.Frag} {c : Cl} {a b : α} (h1 : A.r c H x a) (h2 : A.r c H y b) (hd : A.dep ≤ 64) : Rv (rNeD K) x y H (.bl (!decide (a = b))) := fun Q q =>
  ⟨A.enc a, A.enc b, A.dp h1, A.dp h2, by unfold SeqAt.shaped; rw [A.lay h1, decide_eq_true (Nat.le_trans (A.hdep a) hd)]; rfl, by unfold SeqAt.shaped; rw [A.lay h2, decide_eq_true (Nat.le_trans (A.hdep b) hd)]; rfl, by rw [A.eqv]; exact q⟩
theorem rB.shape {α : Type} [DecidableEq α] {A : Ty α} {K : PySem.W.Frag} {c : Cl} {v : V} {xs : List α} (h : rB K A c H v xs) (hd : A.dep + 1 ≤ 64) : Dp K H v ((tyL A).enc xs) ∧ SeqAt.shaped ((tyL A).enc xs) = true := by
  obtain ⟨a, us, rfl, q, r⟩ := h
  refine ⟨.lst q r.dp, ?_⟩
  unfold SeqAt.shaped
  rw [show ((tyL A).enc xs).canLay0 = true from r.lay, decide_eq_true (Nat.le_trans ((tyL A).hdep xs) hd)]
  rfl
/-- == of lists, whatever their colours -/
theorem rv_eql {α : Type} [DecidableEq α] {A : Ty α} {K : PySem.W.Frag} {c : Cl} {a b : List α} (h1 : rB K A c H x a) (h2 : rB K A c H y b) (hd : A.dep + 1 ≤ 64) : Rv (rEqD K) x y H (.bl (decide (a = b))) := fun Q q =>
  ⟨_, _, (h1.shape (K := K) hd).1, (h2.shape (K := K) hd).1, (h1.shape (K := K) hd).2, (h2.shape (K := K) hd).2, by rw [(tyL A).eqv]; exact q⟩
theorem rv_nel {α : Type} [DecidableEq α] {A : Ty α} {K : PySem.W.Frag} {c : Cl} {a b : List α} (h1 : rB K A c H x a) (h2 : rB K A c H y b) (hd : A.dep + 1 ≤ 64) : Rv (rNeD K) x y H (.bl (!decide (a = b))) := fun Q q =>
  ⟨_, _, (h1.shape (K := K) hd).1, (h2.shape (K := K) hd).1, (h1.shape (K := K) hd).2, (h2.shape (K := K) hd).2, by rw [(tyL A).eqv]; exact q⟩
theorem rv_isN : Rv (fun x y H Q => y = .non ∧ Q (.bl (decide (x = .non))) H) x .non H (.bl (decide (x = .non))) := fun _ q => ⟨rfl, q⟩
theorem rv_isNN : Rv (fun x y H Q => y = .non ∧ Q (.bl (!decide (x = .non))) H) x .non H (.bl (!decide (x = .non))) := fun _ q => ⟨rfl, q⟩
theorem rv_cats {i j : Str} (h : i.length + j.length ≤ sizeLine) : Rv (fun x y H Q => ∃ i j, x = .str i ∧ y = .str j ∧ i.length + j.length ≤ sizeLine ∧ Q (.str (i ++ j)) H) (.str i) (.str j) H (.str (i ++ j)) := fun _ q => ⟨i, j, rfl, rfl, h, q⟩
/-- xs[i] -/
theorem ixN_map {n m : Nat} (h : n = m) (i : Int) : ixN n i = ixN m i := by rw [h]
theorem Rs.at {α : Type} [DecidableEq α] {A : Ty α} {c : Cl} {us : List V} {xs : List α} {i : Int} {a : α} (h : Rs A c H us xs) (e : atI xs i = some a) : ∃ u, atI us i = some u ∧ A.r c H u a := by
  unfold atI at e ⊢
  rw [h.len]
  cases q : ixN xs.length i with
  | none => rw [q] at e; cases e
  | some j =>
    rw [q] at e
    exact h.getX e
theorem rv_ixl {K : PySem.W.Frag} {a : Addr} {us : List V} {i : Int} (h : Rd H a (.lst us)) (e : atI us i = some v) : Rv (rIxL K) (.ref a) (.int i) H v := fun _ q => ⟨a, us, i, v, rfl, rfl, .inl h, e, q⟩
theorem rv_ixt {K : PySem.W.Frag} {a : Addr} {us : List V} {i : Int} (h : Rd H a (.tup us)) (e : atI us i = some v) : Rv (rIxT K) (.ref a) (.int i) H v := fun _ q => ⟨a, us, i, v, rfl, rfl, .inl h, e, q⟩
theorem rv_ixs {s : Str} {i : Int} {n : Nat} (h : s.length ≤ sizeLine) (e : atI s.cps.toList i = some n) : Rv rIxS (.str s) (.int i) H (.str ⟨#[n]⟩) := fun _ q => ⟨s, i, n, rfl, rfl, h, e, q⟩
/-! #### built-ins -/
theorem rc_abs {i : Int} : Rc (fun xs H Q => ∃ i, xs = [.int i] ∧ Q (.int (if i < 0 then -i else i)) H) [.int i] H (.int (if i < 0 then -i else i)) := fun _ q => ⟨i, rfl, q⟩
theorem rc_max {i j : Int} : Rc (fun xs H Q => ∃ i j, xs = [.int i, .int j] ∧ Q (.int (if j > i then j else i)) H) [.int i, .int j] H (.int (if j > i then j else i)) := fun _ q => ⟨i, j, rfl, q⟩
theorem rc_min {i j : Int} : Rc (fun xs H Q => ∃ i j, xs = [.int i, .int j] ∧ Q (.int (if j < i then j else i)) H) [.int i, .int j] H (.int (if j < i then j else i)) := fun _ q => ⟨i, j, rfl, q⟩
theorem rc_int {i : Int} : Rc (fun xs H Q => (∃ i, xs = [.int i] ∧ Q (.int i) H) ∨ ∃ k, xs = [.bl k] ∧ Q (.int (if k then 1 else 0)) H) [.int i] H (.int i) := fun _ q => .inl ⟨i, rfl, q⟩
theorem rc_lenl {K : PySem.W.Frag} {a : Addr} {us : List V} (h : Rd H a (.lst us)) : Rc (fun xs H Q => ∃ p ys, xs = [.ref p] ∧ (SqL K H p ys ∨ SqT K H p ys) ∧ Q (.int ys.length) H) [.ref a] H (.int us.length) := fun _ q => ⟨a, us, rfl, .inl (.inl h), q⟩
theorem rc_lent {K : PySem.W.Frag} {a : Addr} {us : List V} (h : Rd H a (.tup us)) : Rc (fun xs H Q => ∃ p ys, xs = [.ref p] ∧ (SqL K H p ys ∨ SqT K H p ys) ∧ Q (.int ys.length) H) [.ref a] H (.int us.length) := fun _ q => ⟨a, us, rfl, .inr (.inl h), q⟩
theorem rc_lenB {α : Type} [DecidableEq α] {A : Ty α} {K : PySem.W.Frag} {c : Cl} {xs : List α} (h : rB K A c H v xs) : Rc (fun xs H Q => ∃ p ys, xs = [.ref p] ∧ (SqL K H p ys ∨ SqT K H p ys) ∧ Q (.int ys.length) H) [v] H (.int xs.length) := fun Q q => by
  obtain ⟨a, us, rfl, h1, r⟩ := h
  exact ⟨a, us, rfl, .inl h1, by rw [r.len]; exact q⟩
theorem rc_lens {s : Str} (h : s.length ≤ sizeLine) : Rc (fun xs H Q => ∃ z, xs = [.str z] ∧ z.length ≤ sizeLine ∧ Q (.int z.length) H) [.str s] H (.int s.length) := fun _ q => ⟨s, rfl, h, q⟩
/-- truth of a list -/
theorem ptr_list {K : PySem.W.Frag} {a : Addr} {us : List V} (h : Rd H a (.lst us)) : SqL K H a us := .inl h
end
/-! #### the inverse of partial values -/
theorem opt_inv {α β : Type} {o : Option α} {f : α → Res β} {y : β} (h : opt o f = .ok y) : ∃ x, o = some x ∧ f x = .ok y := by
  cases o with
  | some x => exact ⟨x, rfl, h⟩
  | none => cases h
theorem chk_inv {β : Type} {b : Bool} {r : Res β} {y : β} (h : chk b r = .ok y) : b = true ∧ r = .ok y := by
  cases b with
  | true => exact ⟨rfl, h⟩
  | false => cases h
/-- and, or of partial tests -/
def andN (a b : Res Bool) : Res Bool := a.bind fun x => br x b (.ok false)
def orN (a b : Res Bool) : Res Bool := a.bind fun x => br x (.ok true) b
theorem pt_andN {t u : TT} {σ : L2.St} {H : Hp} {m n : Res Bool} {b : Bool} (h : andN m n = .ok b) (h1 : ∀ a, m = .ok a → PvT t σ H a) (h2 : ∀ a, n = .ok a → PvT u σ H a) : PvT (tAnd t u) σ H b := by
  cases m with
  | ok x =>
    cases x with
    | true => exact fun Q q => h1 true rfl _ (iteT (h2 b h Q q))
    | false =>
      have e : false = b := Res.ok.inj h
      subst e
      exact fun Q q => h1 false rfl _ (iteF q)
  | err e => cases h
  | stk => cases h
theorem pt_orN {t u : TT} {σ : L2.St} {H : Hp} {m n : Res Bool} {b : Bool} (h : orN m n = .ok b) (h1 : ∀ a, m = .ok a → PvT t σ H a) (h2 : ∀ a, n = .ok a → PvT u σ H a) : PvT (tOr t u) σ H b := by
  cases m with
  | ok x =>
    cases x with
    | true =>
      have e : true = b := Res.ok.inj h
      subst e
      exact fun Q q => h1 true rfl _ (iteT q)
    | false => exact fun Q q => h1 false rfl _ (iteF (h2 b h Q q))
  | err e => cases h
  | stk => cases h
theorem pv_andN {t u : TE} {σ : L2.St} {H : Hp} {m n : Res Bool} {b : Bool} (h : andN m n = .ok b) (h1 : ∀ a, m = .ok a → Pv t σ H (.bl a)) (h2 : ∀ a, n = .ok a → Pv u σ H (.bl a)) : Pv (tAndV t u) σ H (.bl b) := by
  cases m with
  | ok x =>
    cases x with
    | true => exact fun Q q => h1 true rfl _ ⟨true, rfl, iteT (h2 b h Q q)⟩
    | false =>
      have e : false = b := Res.ok.inj h
      subst e
      exact fun Q q => h1 false rfl _ ⟨false, rfl, iteF q⟩
  | err e => cases h
  | stk => cases h
theorem pv_orN {t u : TE} {σ : L2.St} {H : Hp} {m n : Res Bool} {b : Bool} (h : orN m n = .ok b) (h1 : ∀ a, m = .ok a → Pv t σ H (.bl a)) (h2 : ∀ a, n = .ok a → Pv u σ H (.bl a)) : Pv (tOrV t u) σ H (.bl b) := by
  cases m with
  | ok x =>
    cases x with
    | true =>
      have e : true = b := Res.ok.inj h
      subst e
      exact fun Q q => h1 true rfl _ ⟨true, rfl, iteT q⟩
    | false => exact fun Q q => h1 false rfl _ ⟨false, rfl, iteF (h2 b h Q q)⟩
  | err e => cases h
  | stk => cases h
/-- a partial value at a step -/
theorem Kont.bindP {α β : Type} {P : β → Cl → Hp → Prop} {PE : Err → Cl → Hp → Prop} {S : List Addr} {c0 : Cl} {H0 : Hp} {m : Res α} {f : α → Res β} (k : Kont P PE S c0 H0 (m.bind f)) (hm : ∀ e, m ≠ .err e) : ∃ x, m = .ok x ∧ Kont P PE S c0 H0 (f x) := by
  cases m with
  | ok x => exact ⟨x, rfl, k⟩
  | err e => exact absurd rfl (hm e)
  | stk => exact k.elim
theorem ne_ok {α : Type} {x : α} (e : Err) : (Res.ok x) ≠ Res.err e := fun h => by cases h
theorem ne_opt {α β : Type} {o : Option α} {f : α → Res β} (h : ∀ x e, f x ≠ .err e) (e : Err) : opt o f ≠ .err e := by
  cases o with
  | some x => exact h x e
  | none => exact fun z => by cases z
theorem ne_chk {β : Type} {b : Bool} {r : Res β} (h : ∀ e, r ≠ .err e) (e : Err) : chk b r ≠ .err e := by
  cases b with
  | true => exact h e
  | false => exact fun z => by cases z
theorem ne_andN {m n : Res Bool} (h1 : ∀ e, m ≠ .err e) (h2 : ∀ e, n ≠ .err e) (e : Err) : andN m n ≠ .err e := by
  cases m with
  | ok x =>
    cases x with
    | true => exact h2 e
    | false => exact fun z => by cases z
  | err x => exact absurd rfl (h1 x)
  | stk => exact fun z => by cases z
theorem ne_orN {m n : Res Bool} (h1 : ∀ e, m ≠ .err e) (h2 : ∀ e, n ≠ .err e) (e : Err) : orN m n ≠ .err e := by
  cases m with
  | ok x =>
    cases x with
    | true => exact fun z => by cases z
    | false => exact h2 e
  | err x => exact absurd rfl (h1 x)
  | stk => exact fun z => by cases z
end Kb
/-! Kb4: what changes the heap; loops -/
namespace Kb
open PySem L2
section
variable {t ta tb : TE} {σ : L2.St} {c c0 : Cl} {H H0 : Hp} {v x y z : V} {S : List Addr}
/-! #### openings -/
theorem op_u {r : R2} {Q : VK} (h : ta σ H fun x H1 => tb σ H1 fun y H2 => r x y H2 Q) : tOp r ta tb σ H Q := h
theorem un_u {r : V → Hp → VK → Prop} {Q : VK} (h : ta σ H fun x H1 => r x H1 Q) : tUn r ta σ H Q := h
theorem cons_u {tr : TA} {Q : List V → Hp → Prop} (h : ta σ H fun x H1 => tr σ H1 fun xs H2 => Q (x :: xs) H2) : tCons ta tr σ H Q := h
theorem nil_u {Q : List V → Hp → Prop} (h : Q [] H) : tNil σ H Q := h
def MkT (Q : VK) (xs : List V) (H1 : Hp) : Prop := xs.length ≤ sizeLine ∧ ∀ p, H1 p = none → Q (.ref p) (upd H1 p (.tup xs))
def MkL (Q : VK) (xs : List V) (H1 : Hp) : Prop := xs.length ≤ sizeLine ∧ ∀ p, H1 p = none → Q (.ref p) (upd H1 p (.lst xs))
theorem tup_u {ta : TA} {Q : VK} (h : ta σ H (MkT Q)) : tTup ta σ H Q := h
theorem lst_u {ta : TA} {Q : VK} (h : ta σ H (MkL Q)) : tLst ta σ H Q := h
theorem cb_u {r : List V → Hp → VK → Prop} {ta : TA} {Q : VK} (h : ta σ H fun vs H1 => r vs H1 Q) : tCB r ta σ H Q := h
theorem call_u {sp : Sp} {dvs : List V} {E : XK} {ta : TA} {Q : VK} (h : ta σ H fun vs H1 => sp (vs ++ dvs) H1 Q E) : tCall sp dvs E ta σ H Q := h
theorem callS_u {sp : Sp} {E : L2.St → XK} {ta : TA} {Q : VK} (h : ta σ H fun vs H1 => sp vs H1 Q (E σ)) : tCallS sp E ta σ H Q := h
theorem test_u {Q : Bool → Hp → Prop} (h : t σ H fun x H' => ∃ k, x = .bl k ∧ Q k H') : tTest t σ H Q := h
theorem tB_u {Q : Bool → Hp → Prop} (h : t σ H fun x H' => ∃ k, x = .bl k ∧ Q k H') : tB t σ H Q := h
theorem and_u {t u : TT} {Q : Bool → Hp → Prop} (h : t σ H fun c H1 => if c = true then u σ H1 Q else Q false H1) : tAnd t u σ H Q := h
theorem or_u {t u : TT} {Q : Bool → Hp → Prop} (h : t σ H fun c H1 => if c = true then Q true H1 else u σ H1 Q) : tOr t u σ H Q := h
theorem not_u {t : TT} {Q : Bool → Hp → Prop} (h : t σ H fun c H1 => Q (!c) H1) : tNot t σ H Q := h
theorem andV_u {Q : VK} (h : ta σ H fun x H1 => ∃ c, x = .bl c ∧ if c = true then tb σ H1 Q else Q (.bl false) H1) : tAndV ta tb σ H Q := h
theorem orV_u {Q : VK} (h : ta σ H fun x H1 => ∃ c, x = .bl c ∧ if c = true then Q (.bl true) H1 else tb σ H1 Q) : tOrV ta tb σ H Q := h
theorem notV_u {Q : VK} (h : ta σ H fun x H1 => ∃ c, x = .bl c ∧ Q (.bl (!c)) H1) : tNotV ta σ H Q := h
theorem ifE_u {c : TT} {Q : VK} (h : c σ H fun b H1 => if b = true then ta σ H1 Q else tb σ H1 Q) : tIf c ta tb σ H Q := h
theorem seq_u {t u : TS} {D : Ends} (h : t { D with nx := u D } σ H) : tSeq t u D σ H := h
theorem next_u {D : Ends} (h : D.nx σ H) : tNext D σ H := h
theorem drop_u {D : Ends} (h : t σ H fun _ H1 => D.nx σ H1) : tDrop t D σ H := h
theorem ret_u {D : Ends} (h : t σ H D.rt) : tRet t D σ H := h
theorem retN_u {D : Ends} (h : D.rt .non H) : tRetN D σ H := h
theorem ifS_u {c : TT} {t u : TS} {D : Ends} (h : c σ H fun b H1 => if b = true then t D σ H1 else u D σ H1) : tIfS c t u D σ H := h
theorem asg_u {g : TG} {D : Ends} (h : t σ H fun x H1 => g x σ H1 D.nx) : tAsg t g D σ H := h
theorem gname_u {i : Nat} {Q : L2.St → Hp → Prop} (h : Q (σ.set i (some v)) H) : gName i v σ H Q := h
theorem gtup_u {K : PySem.W.Frag} {n : Nat} {t : TGs} {a : Addr} {us : List V} {Q : L2.St → Hp → Prop} (r : Rd H a (.tup us)) (hn : us.length = n) (h : t us σ H Q) : gTup K n t (.ref a) σ H Q := ⟨a, us, rfl, .inl r, hn, h⟩
theorem gcons_u {t : TG} {u : TGs} {vs : List V} {Q : L2.St → Hp → Prop} (h : t v σ H fun σ' H' => u vs σ' H' Q) : gCons t u (v :: vs) σ H Q := ⟨v, vs, rfl, h⟩
theorem gnil_u {Q : L2.St → Hp → Prop} (h : Q σ H) : gNil [] σ H Q := ⟨rfl, h⟩
theorem gsub_u {to ti : TE} {t : TSet} {Q : L2.St → Hp → Prop} (h : to σ H fun o H1 => ti σ H1 fun i H2 => t o i v H2 fun H3 => Q σ H3) : gSub to ti t v σ H Q := h
theorem bm_u {K : PySem.W.Frag} {T : String} {r : V → List V → Hp → VK → Prop} {to : TE} {t : TA} {Q : VK} (h : to σ H fun x H1 => tyV K T x H1 ∧ t σ H1 fun xs H2 => r x xs H2 Q) : tBM K T r to t σ H Q := h
theorem bm0_u {K : PySem.W.Frag} {T : String} {r : V → List V → Hp → VK → Prop} {to : TE} {Q : VK} (h : to σ H fun x H1 => tyV K T x H1 ∧ r x [] H1 Q) : tBM0 K T r to σ H Q := h
theorem ty_list {K : PySem.W.Frag} {p : Addr} {us : List V} (h : Rd H p (.lst us)) : tyV K "list" (.ref p) H := .inl ⟨rfl, us, .inl h⟩
theorem sl_u {r : V → Option Int → Option Int → Hp → VK → Prop} {te : TE} {tl th : TO} {Q : VK} (h : te σ H fun x H1 => tl σ H1 fun l H2 => th σ H2 fun u H3 => r x l u H3 Q) : tSl r te tl th σ H Q := h
theorem PvO.go {t : TO} {o : Option Int} (h : PvO t σ H o) {Q : Option Int → Hp → Prop} (q : Q o H) : t σ H Q := h Q q
/-! #### ends that make new objects -/
theorem tup_end {vs : List V} (hl : vs.length ≤ 1000) (w : Wf c H) {Q : VK} (q : ∀ p c' H', Step [] c H c' H' → c' p = none → Rd H' p (.tup vs) → H p = none → Q (.ref p) H') : MkT Q vs H :=
  ⟨Nat.le_trans hl (by decide), fun p n => q p (setC c p none) _ (Step.new w n fun r e => by cases e) setC_same (.inl upd_same) n⟩
theorem lst_end {vs : List V} (hl : vs.length ≤ 1000) (w : Wf c H) {Q : VK} (q : ∀ p c' H', Step [] c H c' H' → c' p = some p → H' p = some (.lst vs) → H p = none → Q (.ref p) H') : MkL Q vs H :=
  ⟨Nat.le_trans hl (by decide), fun p n => q p (setC c p (some p)) _ (Step.new w n fun r e => by cases e; exact .inl rfl) setC_same upd_same n⟩
/-- a new list, wherever it comes from -/
theorem new_end {vs : List V} (w : Wf c H) {Q : VK} (q : ∀ p c' H', Step [] c H c' H' → c' p = some p → H' p = some (.lst vs) → H p = none → Q (.ref p) H') : ∀ p, H p = none → Q (.ref p) (upd H p (.lst vs)) :=
  fun p n => q p (setC c p (some p)) _ (Step.new w n fun r e => by cases e; exact .inl rfl) setC_same upd_same n
theorem newT_end {vs : List V} (w : Wf c H) {Q : VK} (q : ∀ p c' H', Step [] c H c' H' → c' p = none → Rd H' p (.tup vs) → H p = none → Q (.ref p) H') : ∀ p, H p = none → Q (.ref p) (upd H p (.tup vs)) :=
  fun p n => q p (setC c p none) _ (Step.new w n fun r e => by cases e) setC_same (.inl upd_same) n
section
variable {α : Type} [DecidableEq α] {A : Ty α} {p : Addr} {us : List V} {xs : List α} {a : α} {u : V}
theorem append_end (o : Own A H0 c H p us xs) (w : Wf c H) (r : A.r c H u a) (hl : xs.length < sizeLine) {Q : VK} (q : ∀ H', Step [p] c H c H' → Own A H0 c H' p (us ++ [u]) (xs ++ [a]) → Q .non H') : rAppend (.ref p) [u] H Q := by
  have st : Step [p] c H c (upd H p (.lst (us ++ [u]))) := Step.mut w o.obj o.col
  exact ⟨p, us, u, rfl, rfl, o.obj, by rw [o.rs.len]; exact hl, q _ st ⟨o.col, upd_same, (o.rs.up st.up).app ⟨A.up st.up r, trivial⟩, o.new⟩⟩
theorem set_end (o : Own A H0 c H p us xs) (w : Wf c H) (r : A.r c H u a) {i : Int} {j : Nat} (hi : ixN xs.length i = some j) {Q : Hp → Prop} (q : ∀ H', Step [p] c H c H' → Own A H0 c H' p (us.set j u) (xs.set j a) → Q H') : rSetL (.ref p) (.int i) u H Q := by
  have st : Step [p] c H c (upd H p (.lst (us.set j u))) := Step.mut w o.obj o.col
  exact ⟨p, us, i, j, rfl, rfl, o.obj, by rw [o.rs.len]; exact hi, q _ st ⟨o.col, upd_same, (o.rs.up st.up).set (A.up st.up r) j, o.new⟩⟩
theorem reverse_end (o : Own A H0 c H p us xs) (w : Wf c H) {Q : VK} (q : ∀ H', Step [p] c H c H' → Own A H0 c H' p us.reverse xs.reverse → Q .non H') : rReverse (.ref p) [] H Q := by
  have st : Step [p] c H c (upd H p (.lst us.reverse)) := Step.mut w o.obj o.col
  exact ⟨p, us, rfl, rfl, o.obj, q _ st ⟨o.col, upd_same, (o.rs.up st.up).rev, o.new⟩⟩
/-- an extension by a list that is read -/
theorem extend_end {vs : List V} {ys : List α} {b : Addr} (o : Own A H0 c H p us xs) (w : Wf c H) (hb : H b = some (.lst vs)) (r : Rs A c H vs ys) (hl : xs.length + ys.length ≤ sizeLine) {Q : VK} (q : ∀ H', Step [p] c H c H' → Own A H0 c H' p (us ++ vs) (xs ++ ys) → Q .non H') : rExtend (.ref p) [.ref b] H Q := by
  have st : Step [p] c H c (upd H p (.lst (us ++ vs))) := Step.mut w o.obj o.col
  exact ⟨p, b, us, vs, rfl, rfl, o.obj, hb, by rw [o.rs.len, r.len]; exact hl, q _ st ⟨o.col, upd_same, (o.rs.up st.up).app (r.up st.up), o.new⟩⟩
/-- a slice -/
theorem slice_end {K : PySem.W.Frag} {lo hi : Option Int} (hx : rB K A c H v xs) (w : Wf c H) (n0 : ∀ p, H p = none → H0 p = none) {Q : VK}
    (q : ∀ p us' c' H', H p = none → Step [] c H c' H' → Own A H0 c' H' p us' ((xs.drop (HT.sIx xs.length 0 lo)).take (HT.sIx xs.length xs.length hi - HT.sIx xs.length 0 lo)) → Q (.ref p) H') : rSlL K v lo hi H Q := by
  obtain ⟨a, us, rfl, h, r⟩ := hx
  refine ⟨a, us, rfl, h, new_end w fun p c' H' st cp hp np => q p _ c' H' np st ⟨cp, hp, ?_, n0 p np⟩⟩
  unfold cutV
  rw [r.len]
  exact ((r.up st.up).drop _).take _
def rListOf (K : PySem.W.Frag) : List V → Hp → VK → Prop := fun xs H Q => ∃ p ys, xs = [V.ref p] ∧ (SqL K H p ys ∨ SqT K H p ys) ∧ ∀ l, H l = none → Q (.ref l) (upd H l (.lst ys))
theorem cr_list {X : Cx} : CallR X (.type "list") (rListOf X.K) := call_list_of
/-- list(xs) -/
theorem listof_end {K : PySem.W.Frag} (hx : rB K A c H v xs) (w : Wf c H) (n0 : ∀ p, H p = none → H0 p = none) {Q : VK} (q : ∀ p us' c' H', H p = none → Step [] c H c' H' → Own A H0 c' H' p us' xs → Q (.ref p) H') :
    rListOf K [v] H Q := by
  obtain ⟨a, us, rfl, h, r⟩ := hx
  exact ⟨a, us, rfl, .inl h, new_end w fun p c' H' st cp hp np => q p _ c' H' np st ⟨cp, hp, r.up st.up, n0 p np⟩⟩
/-- the part of a list that a slice tells -/
def sliceL {α : Type} (xs : List α) (lo hi : Option Int) : List α := (xs.drop (HT.sIx xs.length 0 lo)).take (HT.sIx xs.length xs.length hi - HT.sIx xs.length 0 lo)
/-- xs + ys -/
theorem cat_end {ys : List α} {x y : V} {a b : Addr} {us vs : List V} (ex : x = .ref a) (ey : y = .ref b) (hx : H a = some (.lst us)) (rx : Rs A c H us xs) (hy : H b = some (.lst vs)) (ry : Rs A c H vs ys) (w : Wf c H) (n0 : ∀ p, H p = none → H0 p = none) (hl : xs.length + ys.length ≤ sizeLine) {Q : VK}
    (q : ∀ p us' c' H', H p = none → Step [] c H c' H' → Own A H0 c' H' p us' (xs ++ ys) → Q (.ref p) H') : rCat x y H Q := by
  subst ex ey
  exact ⟨a, b, us, vs, rfl, rfl, hx, hy, by rw [rx.len, ry.len]; exact hl, new_end w fun p c' H' st cp hp np => q p _ c' H' np st ⟨cp, hp, (rx.up st.up).app (ry.up st.up), n0 p np⟩⟩
end
end
/-! #### loops -/
section
variable {β τ α : Type} [DecidableEq α] {A : Ty α} {P : β → Cl → Hp → Prop} {PE : Err → Cl → Hp → Prop} {S : List Addr} {c0 c : Cl} {H0 H : Hp} {σ : L2.St} {g : TG} {tb : TS} {D : Ends} {K : PySem.W.Frag} {a : Addr} {us : List V} {xs : List α} {s0 : τ}
theorem Kont.turn {m : Res τ} {f : τ → Res β} (k : Kont P PE S c0 H0 (m.bind f)) : Kont (fun s _ _ => Kont P PE S c0 H0 (f s)) PE S c0 H0 m := by
  cases m with
  | ok x => exact fun _ _ _ => k
  | err e => exact k
  | stk => exact k.elim
theorem drop_at {l : List α} {i : Nat} {x : α} (h : l[i]? = some x) : l.drop i = x :: l.drop (i + 1) := by
  obtain ⟨hi, e⟩ := List.getElem?_eq_some_iff.mp h
  rw [List.drop_eq_getElem_cons hi, e]
theorem for_n {f : τ → α → Res τ} {rest : τ → Res β} (k : Kont P PE S c0 H0 ((forN xs s0 f).bind rest)) (I : τ → Cl → Hp → L2.St → Prop) (h0 : I s0 c H σ) (hl : ∀ s c H σ, I s c H σ → SqL K H a us ∧ Rs A c H us xs)
    (hb : ∀ s x v c H σ (N : L2.St → Hp → Prop), I s c H σ → A.r c H v x → Kont (fun s' c' H' => ∀ σ', I s' c' H' σ' → N σ' H') PE S c0 H0 (f s x) → g v σ H fun σ2 H2 => tb { D with nx := N, ct := N, bk := D.nx } σ2 H2)
    (hd : ∀ s c H σ, I s c H σ → Kont P PE S c0 H0 (rest s) → D.nx σ H) :
    ∃ W : Nat → Nat → L2.St → Hp → Prop, (∃ m, W 0 m σ H) ∧ ∀ i m σ H, W i m σ H →
      ((Itl K a).stop i H ∧ D.nx σ H) ∨ ((Itl K a).go i H ∧ ∃ N : L2.St → Hp → Prop, (∀ σ' H', N σ' H' → ∃ m', m' < m ∧ W (i + 1) m' σ' H') ∧ ∀ x H', (Itl K a).yld i H x H' → g x σ H' fun σ2 H2 => tb { D with nx := N, ct := N, bk := D.nx } σ2 H2) := by
  refine for_list (K := K) (a := a) (xs := us) (fun i σ H => ∃ s c, I s c H σ ∧ Kont P PE S c0 H0 ((forN (xs.drop i) s f).bind rest)) ⟨s0, c, h0, k⟩ (fun i σ H _ ⟨s, c, h, _⟩ => (hl s c H σ h).1) ?_ ?_
  · rintro i v σ1 H1 hi ⟨s, c1, h, k1⟩
    obtain ⟨_, r⟩ := hl s c1 H1 σ1 h
    obtain ⟨x, hx, rx⟩ := r.get hi
    rw [drop_at hx, forN_cons, bind_assoc] at k1
    refine hb s x v c1 H1 σ1 _ h rx (k1.turn.imp (fun s' c' H' st q σ' h' => ⟨s', c', h', q⟩) fun _ _ _ _ q => q)
  · rintro σ1 H1 ⟨s, c1, h, k1⟩
    obtain ⟨_, r⟩ := hl s c1 H1 σ1 h
    rw [List.drop_eq_nil_of_le (by rw [r.len]; exact Nat.le_refl _)] at k1
    exact hd s c1 H1 σ1 h k1
theorem for_r {ρ : Type} {f : τ → α → Res (Ctl τ ρ)} {rest : Ctl τ ρ → Res β} {Rr : Cl → Hp → V → ρ → Prop} (k : Kont P PE S c0 H0 ((forR xs s0 f).bind rest)) (I : τ → Cl → Hp → L2.St → Prop) (h0 : I s0 c H σ) (hl : ∀ s c H σ, I s c H σ → SqL K H a us ∧ Rs A c H us xs)
    (hb : ∀ s x v c H σ (N : L2.St → Hp → Prop), I s c H σ → A.r c H v x → Kont (fun y c' H' => match y with | .nx s' => ∀ σ', I s' c' H' σ' → N σ' H' | .ret r => ∀ v, Rr c' H' v r → D.rt v H') PE S c0 H0 (f s x) → g v σ H fun σ2 H2 => tb { D with nx := N, ct := N, bk := D.nx } σ2 H2)
    (hr : ∀ r, Kont P PE S c0 H0 (rest (.ret r)) → ∀ c H, Step S c0 H0 c H → ∀ v, Rr c H v r → D.rt v H)
    (hd : ∀ s c H σ, I s c H σ → Kont P PE S c0 H0 (rest (.nx s)) → D.nx σ H) :
    ∃ W : Nat → Nat → L2.St → Hp → Prop, (∃ m, W 0 m σ H) ∧ ∀ i m σ H, W i m σ H →
      ((Itl K a).stop i H ∧ D.nx σ H) ∨ ((Itl K a).go i H ∧ ∃ N : L2.St → Hp → Prop, (∀ σ' H', N σ' H' → ∃ m', m' < m ∧ W (i + 1) m' σ' H') ∧ ∀ x H', (Itl K a).yld i H x H' → g x σ H' fun σ2 H2 => tb { D with nx := N, ct := N, bk := D.nx } σ2 H2) := by
  refine for_list (K := K) (a := a) (xs := us) (fun i σ H => ∃ s c, I s c H σ ∧ Kont P PE S c0 H0 ((forR (xs.drop i) s f).bind rest)) ⟨s0, c, h0, k⟩ (fun i σ H _ ⟨s, c, h, _⟩ => (hl s c H σ h).1) ?_ ?_
  · rintro i v σ1 H1 hi ⟨s, c1, h, k1⟩
    obtain ⟨_, r⟩ := hl s c1 H1 σ1 h
    obtain ⟨x, hx, rx⟩ := r.get hi
    rw [drop_at hx, forR_cons, bind_assoc] at k1
    refine hb s x v c1 H1 σ1 _ h rx (k1.turn.imp (fun y c' H' st q => ?_) fun _ _ _ _ q => q)
    cases y with
    | nx s' => exact fun σ' h' => ⟨s', c', h', q⟩
    | ret r' => exact fun v hv => hr r' q c' H' st v hv
  · rintro σ1 H1 ⟨s, c1, h, k1⟩
    obtain ⟨_, r⟩ := hl s c1 H1 σ1 h
    rw [List.drop_eq_nil_of_le (by rw [r.len]; exact Nat.le_refl _)] at k1
    exact hd s c1 H1 σ1 h k1
/-- range(lo, ..), n turns: the items are lo, lo + 1, .. -/
def rng (lo : Int) : Nat → List Int
  | 0 => []
  | n + 1 => lo :: rng (lo + 1) n
theorem ints_len : ∀ (n : Nat) (lo : Int), (rng lo n).length = n
  | 0, _ => rfl
  | n + 1, lo => by show (rng (lo + 1) n).length + 1 = n + 1; rw [ints_len n]
theorem ints_at : ∀ (n : Nat) (lo : Int) (i : Nat), i < n → (rng lo n)[i]? = some (lo + i)
  | 0, _, i, h => absurd h (Nat.not_lt_zero _)
  | n + 1, lo, 0, _ => by show some lo = some (lo + ((0 : Nat) : Int)); simp
  | n + 1, lo, i + 1, h => by
    show (rng (lo + 1) n)[i]? = some (lo + ((i + 1 : Nat) : Int))
    rw [ints_at n (lo + 1) i (Nat.lt_of_succ_lt_succ h)]
    congr 1
    omega
theorem for_rgn {lo : Int} {n : Nat} {f : τ → Int → Res τ} {rest : τ → Res β} (k : Kont P PE S c0 H0 ((forN (rng lo n) s0 f).bind rest)) (I : τ → Cl → Hp → L2.St → Prop) (h0 : I s0 c H σ)
    (hb : ∀ s x c H σ (N : L2.St → Hp → Prop), I s c H σ → Kont (fun s' c' H' => ∀ σ', I s' c' H' σ' → N σ' H') PE S c0 H0 (f s x) → g (.int x) σ H fun σ2 H2 => tb { D with nx := N, ct := N, bk := D.nx } σ2 H2)
    (hd : ∀ s c H σ, I s c H σ → Kont P PE S c0 H0 (rest s) → D.nx σ H) :
    ∃ W : Nat → Nat → L2.St → Hp → Prop, (∃ m, W 0 m σ H) ∧ ∀ i m σ H, W i m σ H →
      ((Itr lo n).stop i H ∧ D.nx σ H) ∨ ((Itr lo n).go i H ∧ ∃ N : L2.St → Hp → Prop, (∀ σ' H', N σ' H' → ∃ m', m' < m ∧ W (i + 1) m' σ' H') ∧ ∀ x H', (Itr lo n).yld i H x H' → g x σ H' fun σ2 H2 => tb { D with nx := N, ct := N, bk := D.nx } σ2 H2) := by
  refine for_range (lo := lo) (n := n) (fun i σ H => ∃ s c, I s c H σ ∧ Kont P PE S c0 H0 ((forN ((rng lo n).drop i) s f).bind rest)) ⟨s0, c, h0, k⟩ ?_ ?_
  · rintro i σ1 H1 hi ⟨s, c1, h, k1⟩
    rw [drop_at (ints_at n lo i hi), forN_cons, bind_assoc] at k1
    exact hb s _ c1 H1 σ1 _ h (k1.turn.imp (fun s' c' H' st q σ' h' => ⟨s', c', h', q⟩) fun _ _ _ _ q => q)
  · rintro σ1 H1 ⟨s, c1, h, k1⟩
    rw [List.drop_eq_nil_of_le (by rw [ints_len]; exact Nat.le_refl _)] at k1
    exact hd s c1 H1 σ1 h k1
theorem for_rgr {ρ : Type} {lo : Int} {n : Nat} {f : τ → Int → Res (Ctl τ ρ)} {rest : Ctl τ ρ → Res β} {Rr : Cl → Hp → V → ρ → Prop} (k : Kont P PE S c0 H0 ((forR (rng lo n) s0 f).bind rest)) (I : τ → Cl → Hp → L2.St → Prop) (h0 : I s0 c H σ)
    (hb : ∀ s x c H σ (N : L2.St → Hp → Prop), I s c H σ → Kont (fun y c' H' => match y with | .nx s' => ∀ σ', I s' c' H' σ' → N σ' H' | .ret r => ∀ v, Rr c' H' v r → D.rt v H') PE S c0 H0 (f s x) → g (.int x) σ H fun σ2 H2 => tb { D with nx := N, ct := N, bk := D.nx } σ2 H2)
    (hr : ∀ r, Kont P PE S c0 H0 (rest (.ret r)) → ∀ c H, Step S c0 H0 c H → ∀ v, Rr c H v r → D.rt v H)
    (hd : ∀ s c H σ, I s c H σ → Kont P PE S c0 H0 (rest (.nx s)) → D.nx σ H) :
    ∃ W : Nat → Nat → L2.St → Hp → Prop, (∃ m, W 0 m σ H) ∧ ∀ i m σ H, W i m σ H →
      ((Itr lo n).stop i H ∧ D.nx σ H) ∨ ((Itr lo n).go i H ∧ ∃ N : L2.St → Hp → Prop, (∀ σ' H', N σ' H' → ∃ m', m' < m ∧ W (i + 1) m' σ' H') ∧ ∀ x H', (Itr lo n).yld i H x H' → g x σ H' fun σ2 H2 => tb { D with nx := N, ct := N, bk := D.nx } σ2 H2) := by
  refine for_range (lo := lo) (n := n) (fun i σ H => ∃ s c, I s c H σ ∧ Kont P PE S c0 H0 ((forR ((rng lo n).drop i) s f).bind rest)) ⟨s0, c, h0, k⟩ ?_ ?_
  · rintro i σ1 H1 hi ⟨s, c1, h, k1⟩
    rw [drop_at (ints_at n lo i hi), forR_cons, bind_assoc] at k1
    refine hb s _ c1 H1 σ1 _ h (k1.turn.imp (fun y c' H' st q => ?_) fun _ _ _ _ q => q)
    cases y with
    | nx s' => exact fun σ' h' => ⟨s', c', h', q⟩
    | ret r' => exact fun v hv => hr r' q c' H' st v hv
  · rintro σ1 H1 ⟨s, c1, h, k1⟩
    rw [List.drop_eq_nil_of_le (by rw [ints_len]; exact Nat.le_refl _)] at k1
    exact hd s c1 H1 σ1 h k1
/-- a while -/
def WhI (P : β → Cl → Hp → Prop) (PE : Err → Cl → Hp → Prop) (S : List Addr) (c0 : Cl) (H0 : Hp) (I : τ → Cl → Hp → L2.St → Prop) (t : τ → Res Bool) (f : τ → Res τ) (rest : τ → Res β) (n : Nat) (σ : L2.St) (H : Hp) : Prop :=
  ∃ s c, I s c H σ ∧ Kont P PE S c0 H0 ((whileN n s t f).bind rest)
theorem while_n {tc : TT} {fuel : Nat} {t : τ → Res Bool} {f : τ → Res τ} {rest : τ → Res β} (k : Kont P PE S c0 H0 ((whileN fuel s0 t f).bind rest)) (I : τ → Cl → Hp → L2.St → Prop) (h0 : I s0 c H σ)
    (hb : ∀ n s c H σ, I s c H σ → Kont P PE S c0 H0 ((t s).bind fun b => br b ((f s).bind fun s' => (whileN n s' t f).bind rest) (rest s)) →
      tc σ H fun b H1 => if b = true then ∃ N : L2.St → Hp → Prop, (∀ σ' H', N σ' H' → WhI P PE S c0 H0 I t f rest n σ' H') ∧ tb { D with nx := N, ct := N, bk := D.nx } σ H1 else D.nx σ H1)
    (mono : ∀ σ H Q Q', (∀ b H1, Q b H1 → Q' b H1) → tc σ H Q → tc σ H Q') : tWhile tc tb D σ H := by
  refine ⟨fun m σ H => WhI P PE S c0 H0 I t f rest m σ H, ⟨fuel, s0, c, h0, k⟩, ?_⟩
  rintro m σ1 H1 ⟨s, c1, h, k1⟩
  cases m with
  | zero => exact k1.elim
  | succ n =>
    have k2 : Kont P PE S c0 H0 ((t s).bind fun b => br b ((f s).bind fun s' => (whileN n s' t f).bind rest) (rest s)) := by
      have e : ((whileN (n + 1) s t f).bind rest) = ((t s).bind fun b => br b ((f s).bind fun s' => (whileN n s' t f).bind rest) (rest s)) := by
        show (((t s).bind fun b => br b ((f s).bind fun s' => whileN n s' t f) (.ok s)).bind rest) = _
        rw [bind_assoc]
        congr 1
        funext b
        cases b with
        | true => show (((f s).bind fun s' => whileN n s' t f).bind rest) = ((f s).bind fun s' => (whileN n s' t f).bind rest); rw [bind_assoc]
        | false => rfl
      rw [← e]
      exact k1
    refine mono _ _ _ _ (fun b H2 q => ?_) (hb n s c1 H1 σ1 h k2)
    cases b with
    | true =>
      obtain ⟨N, hN, q⟩ := q
      exact ⟨N, fun σ' H' q' => ⟨n, Nat.lt_succ_self _, hN σ' H' q'⟩, q⟩
    | false => exact q
end
/-! #### comprehensions -/
section
variable {γ β α : Type} [DecidableEq α] [DecidableEq β] {A : Ty α} {B : Ty β} {P : γ → Cl → Hp → Prop} {PE : Err → Cl → Hp → Prop} {S : List Addr} {c0 c : Cl} {H0 H : Hp} {σ : L2.St} {g : TG} {te : TE} {K : PySem.W.Frag} {a : Addr} {us : List V} {xs : List α}
theorem yes_u {te : TE} {σ : L2.St} {H : Hp} {Q : VK} {Qn : Hp → Prop} (h : te σ H Q) : tYes σ H fun b H3 => if b = true then te σ H3 Q else Qn H3 := by
  show (if true = true then te σ H Q else Qn H)
  rw [if_pos rfl]
  exact h
theorem compN_cons {x : α} {xs : List α} {f : α → Res β} : compN (x :: xs) f = (nx (f x)).bind fun y => (compN xs f).bind fun ys => .ok (y :: ys) := rfl
/-- the list that is made so far -/
structure Acc (B : Ty β) (H0 : Hp) (c : Cl) (H : Hp) (ci : Cl) (Hi : Hp) (d : Addr) (vs : List V) (ys : List β) : Prop where
  st : Step [] c H ci Hi
  own : Own B H0 ci Hi d vs ys
theorem Acc.start (w : Wf c H) {d : Addr} (n : H d = none) (n0 : H0 d = none) : Acc B H0 c H (setC c d (some d)) (upd H d (.lst [])) d [] [] :=
  ⟨Step.new w n fun r e => by cases e; exact .inl rfl, ⟨setC_same, upd_same, trivial, n0⟩⟩
theorem Acc.push {ci ci' : Cl} {Hi Hi' : Hp} {d : Addr} {vs : List V} {ys : List β} {u : V} {y : β} (h : Acc B H0 c H ci Hi d vs ys) (n : H d = none) (st : Step [] ci Hi ci' Hi') (r : B.r ci' Hi' u y) : Acc B H0 c H ci' (upd Hi' d (.lst (vs ++ [u]))) d (vs ++ [u]) (ys ++ [y]) := by
  have o := h.own.step0 st
  have m : Step [d] ci' Hi' ci' (upd Hi' d (.lst (vs ++ [u]))) := Step.mut st.wf o.obj o.col
  exact ⟨(h.st.tr0 st).tr1 m (.inr n), ⟨o.col, upd_same, (o.rs.up m.up).app ⟨B.up m.up r, trivial⟩, o.new⟩⟩
theorem comp_list {f : α → Res β} {rest : List β → Res γ} {vs : List Nat} {Q : VK} (k : Kont P PE S c0 H0 ((compN xs f).bind rest)) (w : Wf c H) (gs : Step S c0 H0 c H) (hx : SqL K H a us) (hr : Rs A c H us xs) (hl : xs.length ≤ sizeLine)
    (hk : ∀ ci Hi, Step [] c H ci Hi → SqL K Hi a us)
    (hb : ∀ x v ci Hi (Qe : VK) (Qn : Hp → Prop), Step [] c H ci Hi → Step S c0 H0 ci Hi → A.r ci Hi v x → Kont (fun y c' H' => Step [] ci Hi c' H' → ∀ u, B.r c' H' u y → Qe u H') (fun _ _ _ => False) S c0 H0 (f x) → g v (wipe σ vs) Hi fun σ2 H2 => wipe σ2 vs = wipe σ vs ∧ tYes σ2 H2 fun b H3 => if b = true then te σ2 H3 Qe else Qn H3)
    (hd : ∀ ys p us' c' H', H p = none → Step [] c H c' H' → Own B H0 c' H' p us' ys → Kont P PE S c0 H0 (rest ys) → Q (.ref p) H') : ∀ d, H d = none →
    ∃ W : Nat → Nat → Hp → Prop, (∃ m, W 0 m (upd H d (.lst []))) ∧ ∀ i m H, W i m H →
      ((Itl K a).stop i H ∧ Q (.ref d) H) ∨ ((Itl K a).go i H ∧ ∃ Nx : Hp → Prop, (∀ H', Nx H' → ∃ m', m' < m ∧ W (i + 1) m' H') ∧ ∀ x H', (Itl K a).yld i H x H' → g x (wipe σ vs) H' fun σ2 H2 => wipe σ2 vs = wipe σ vs ∧ tYes σ2 H2 fun b H3 =>
        if b = true then te σ2 H3 fun y H4 => ∃ acc, H4 d = some (.lst acc) ∧ acc.length < sizeLine ∧ Nx (upd H4 d (.lst (acc ++ [y]))) else Nx H3) := by
  intro d nd
  have n0 : H0 d = none := gs.fresh nd
  refine lc_list (K := K) (a := a) (xs := us) (Qd := fun H' => Q (.ref d) H') (fun i Hi => ∃ ci zs ys, Acc B H0 c H ci Hi d zs ys ∧ ys.length = i ∧ Kont P PE S c0 H0 ((compN (xs.drop i) f).bind fun r => rest (ys ++ r))) ⟨_, [], [], Acc.start w nd n0, rfl, k⟩ ?_ ?_ ?_
  · rintro i Hi _ ⟨ci, zs, ys, ac, _, _⟩
    exact hk ci Hi ac.st
  · rintro i v Hi hi ⟨ci, zs, ys, ac, el, k1⟩
    obtain ⟨x, hxi, rx⟩ := (hr.up ac.st.up).get hi
    rw [drop_at hxi, compN_cons, bind_assoc] at k1
    have gi : Step S c0 H0 ci Hi := gs.tr0 ac.st
    refine (hb x v ci Hi _ _ ac.st gi rx (k1.turn.nx.imp (fun y c' H' _ q st u ru => ?_) fun e cc HH _ q => q))
    have ac' := ac.push nd st ru
    have hlt : ys.length < xs.length := by rw [el]; exact (List.getElem?_eq_some_iff.mp hxi).1
    refine ⟨zs, (ac.own.step0 st).obj, by rw [ac.own.rs.len]; omega, c', _, _, ac', by rw [List.length_append, el]; rfl, ?_⟩
    rw [bind_assoc] at q
    rw [show (fun r => rest (ys ++ [y] ++ r)) = fun r => rest (ys ++ (y :: r)) from by funext r; rw [List.append_assoc]; rfl]
    exact q
  · rintro Hi ⟨ci, zs, ys, ac, el, k1⟩
    rw [List.drop_eq_nil_of_le (by rw [hr.len]; exact Nat.le_refl _)] at k1
    have k2 : Kont P PE S c0 H0 (rest (ys ++ [])) := k1
    rw [List.append_nil] at k2
    exact hd ys d zs ci Hi nd ac.st ac.own k2
end
end Kb
/-! Kb5: sorted of tuples of ints and texts -/
namespace Kb
open PySem L2 PyProof.Rows PyProof.Rows.G
abbrev SK := List (Int ⊕ List Nat)
def ltK (a b : SK) : Bool := lexLt itemOrd a b
def leK (a b : SK) : Bool := !ltK b a
def itemV : V → Option (Int ⊕ List Nat)
  | .int i => some (.inl i)
  | .str x => some (.inr x.cps.toList)
  | _ => none
def isS : V → Bool
  | .str _ => true
  | _ => false
def keyV : List V → Option SK
  | [] => some []
  | v :: vs => (itemV v).bind fun a => (keyV vs).map (a :: ·)
theorem key_items {sh : Nat → Bool} : ∀ {vs : List V} {its : List Value} {k : SK} (i : Nat), Vals vs its → keyV vs = some k → (∀ j v, vs[j]? = some v → isS v = sh (i + j)) → tupItems sh i its = some k
  | _, _, k, i, .nil, h, _ => by
    have e : ([] : SK) = k := Option.some.inj h
    subst e
    rfl
  | v :: vs, u :: its, k, i, .cons r t, h, s => by
    have s0 := s 0 v rfl
    have st : ∀ j w, vs[j]? = some w → isS w = sh (i + 1 + j) := fun j w e => by
      have z := s (j + 1) w (by simpa using e)
      rw [show i + 1 + j = i + (j + 1) from by omega]
      exact z
    unfold keyV at h
    cases v with
    | int n =>
      obtain ⟨tk, rfl⟩ := r
      have s0' : sh i = false := s0.symm
      cases q : keyV vs with
      | none => rw [q] at h; cases h
      | some k' =>
        rw [q] at h
        have e : (Sum.inl n :: k' : SK) = k := Option.some.inj h
        subst e
        have ih := key_items (i + 1) t q st
        show (if sh i = true then none else (tupItems sh (i + 1) its).map (Sum.inl n :: ·)) = _
        rw [s0', if_neg Bool.false_ne_true, ih]
        rfl
    | str x =>
      obtain ⟨tk, rfl⟩ := r
      have s0' : sh i = true := s0.symm
      cases q : keyV vs with
      | none => rw [q] at h; cases h
      | some k' =>
        rw [q] at h
        have e : (Sum.inr x.cps.toList :: k' : SK) = k := Option.some.inj h
        subst e
        have ih := key_items (i + 1) t q st
        show (if sh i = true then (tupItems sh (i + 1) its).map (Sum.inr x.cps.toList :: ·) else none) = _
        rw [s0', if_pos rfl, ih]
        rfl
    | _ => cases h
/-- sorted(xs), xs a list of tuples of ints and texts of one shape, any length -/
def rSortT (K : PySem.W.Frag) : List V → Hp → VK → Prop := fun vs H Q => ∃ (a : Addr) (us : List V) (kf : V → SK) (sh : Nat → Bool), vs = [V.ref a] ∧ SqL K H a us ∧
  (∀ u ∈ us, ∃ t ws, u = V.ref t ∧ Rd H t (.tup ws) ∧ ws ≠ [] ∧ keyV ws = some (kf u) ∧ ∀ j v, ws[j]? = some v → isS v = sh j) ∧
  ∀ ys p, ys.Perm us → ys.Pairwise (fun x y => leK (kf x) (kf y) = true) → H p = none → Q (.ref p) (upd H p (.lst ys))
section
variable {X : Cx}
theorem back_ref {v : Value} (h : ∃ a, v = Value.ref a) : ∃ a, v = Value.ref a ∧ backV v = V.ref a := by
  obtain ⟨a, rfl⟩ := h
  exact ⟨a, rfl, rfl⟩
theorem tups_of {h : Heap} {sh : Nat → Bool} : ∀ {its : List Value}, (∀ u ∈ its, ∃ f, TupOf h sh u f) → ∃ fs, TupsOf h sh its fs
  | [], _ => ⟨[], .nil⟩
  | u :: its, q => by
    obtain ⟨f, t⟩ := q u List.mem_cons_self
    obtain ⟨fs, r⟩ := tups_of fun v hv => q v (List.mem_cons_of_mem _ hv)
    exact ⟨f :: fs, .cons t r⟩
theorem cr_sortT : CallR X (.builtin "sorted") (rSortT X.K) := by
  intro pins s σ H vs us' Q I r h
  obtain ⟨a, us, kf, sh, rfl, hs, hx, q⟩ := h
  obtain ⟨its, rv, hl, hz⟩ := I.list hs
  obtain ⟨u, rfl, ru⟩ := vals1 r
  obtain rfl : u = Value.ref a := ru
  obtain ⟨e1, e2⟩ := refs_back rv fun x m => by
    obtain ⟨t, _, e, _⟩ := hx x m
    exact ⟨t, e⟩
  -- each value: a tuple of the shape
  have each : ∀ v ∈ its, ∃ t o xs n f, v = .ref t ∧ s.heap.get? t = some o ∧ o.cls = .type "tuple" ∧ o.data = .seq xs n ∧ tupItems sh 0 xs.toList = some (kf (backV v)) ∧ xs[0]? = some f ∧
      (sh 0 = false → ∃ k t, f = .int k t) ∧ (sh 0 = true → ∃ x t, f = .str x t) := fun v hv => by
    obtain ⟨t, rfl⟩ := e2 v hv
    have hm : V.ref t ∈ us := by rw [e1]; exact List.mem_map.mpr ⟨_, hv, rfl⟩
    obtain ⟨t', ws, e, hr, hne, hk, hsh⟩ := hx _ hm
    cases e
    obtain ⟨_, ws', r2, o, ho, hc, n, hd⟩ := hr.ok I.hok
    have hi := key_items (sh := sh) 0 r2 hk fun j v e => by rw [Nat.zero_add]; exact hsh j v e
    cases r2 with
    | nil => exact absurd rfl hne
    | cons r0 rt =>
      rename_i w wv ws0 its0 hlen
      have s0 := hsh 0 w rfl
      refine ⟨t, o, _, n, wv, rfl, ho, hc, hd, hi, rfl, fun z => ?_, fun z => ?_⟩
      · rw [z] at s0
        cases w with
        | int i => obtain ⟨tk, e⟩ := r0; exact ⟨i, tk, e⟩
        | str x => exact absurd s0 (by simp [isS])
        | _ => exact absurd hk (by simp [keyV, itemV])
      · rw [z] at s0
        cases w with
        | str x => obtain ⟨tk, e⟩ := r0; exact ⟨x, tk, e⟩
        | int i => exact absurd s0 (by simp [isS])
        | _ => exact absurd hk (by simp [keyV, itemV])
  have hkey : ∀ v ∈ its, tupKeyC s.heap sh v = some (kf (backV v)) := fun v hv => by
    obtain ⟨t, o, xs, n, f, rfl, ho, hc, hd, hi, _⟩ := each v hv
    unfold tupKeyC
    have e1 : isTupObj s.heap (.ref t) = true := by simp [isTupObj, ho, hc]
    rw [if_pos e1]
    simp only [tupKey, ho, hd]
    exact hi
  obtain ⟨fs, ht⟩ : ∃ fs, TupsOf s.heap sh its fs := tups_of fun v hv => by
    obtain ⟨t, o, xs, n, f, rfl, ho, hc, hd, hi, h0, f1, f2⟩ := each v hv
    exact ⟨f, t, o, xs, n, rfl, ho, hc, hd, h0, f1, f2⟩
  refine sorted_tups hl.isList ht (fun v hv => ⟨_, hkey v hv⟩) (by rw [← rv.length]; exact hz) fun st' hp hso _ => ?_
  have pl : (arrOf st').toList.Perm (its.zip its) := by
    have e := Array.perm_iff_toList_perm.mp hp
    rw [pairsOf_toList] at e
    exact e
  have both : ∀ p ∈ (arrOf st').toList, p.1 = p.2 ∧ p.1 ∈ its := fun p m => by
    have m' := pl.mem_iff.mp m
    exact mem_zip_self m'
  have outP : ((arrOf st').map (·.2)).toList.Perm its := by
    rw [Array.toList_map]
    have e := pl.map (·.2)
    rw [show (its.zip its).map (·.2) = its from by rw [List.map_snd_zip]; exact Nat.le_refl _] at e
    exact e
  have outR : ∀ u ∈ ((arrOf st').map (·.2)).toList, ∃ a, u = Value.ref a := fun u hu => e2 u (outP.mem_iff.mp hu)
  obtain ⟨n, hn⟩ := sortedAll_at s.heap its ((arrOf st').map (·.2))
  have pw : (((arrOf st').map (·.2)).toList.map backV).Pairwise (fun x y => leK (kf x) (kf y) = true) := by
    rw [Array.toList_map, List.map_map, List.pairwise_iff_getElem]
    intro i j hi hj hij
    rw [List.length_map] at hi hj
    have hsz : (pairsOf its).size = (arrOf st').toList.length := by
      have z := pl.length_eq
      rw [z, ← pairsOf_toList, Array.length_toList]
    have o := hso i j (Nat.le_of_lt hij) (by rw [hsz]; exact hj)
    have kk : ∀ m (hm : m < (arrOf st').toList.length), KK (tupKindC s.heap sh) (arrOf st') m = kf (backV ((arrOf st').toList[m]).2) := fun m hm => by
      have hm' : m < (arrOf st').size := by rw [Array.length_toList] at hm; exact hm
      obtain ⟨b1, b2⟩ := both _ (List.getElem_mem hm)
      unfold KK
      rw [show (arrOf st')[m]? = some ((arrOf st').toList[m]) from by rw [Array.getElem_toList]; exact Array.getElem?_eq_getElem hm']
      show ((tupKeyC s.heap sh ((arrOf st').toList[m]).1).getD []) = _
      rw [hkey _ b2, b1]
      rfl
    rw [kk i hi, kk j hj] at o
    rw [List.getElem_map, List.getElem_map]
    show (!ltK _ _) = true
    have o' : lexLt itemOrd (kf (backV ((arrOf st').toList[j]).2)) (kf (backV ((arrOf st').toList[i]).2)) = false := o
    unfold ltK
    show (!lexLt itemOrd (kf (backV ((arrOf st').toList[j]).2)) (kf (backV ((arrOf st').toList[i]).2))) = true
    rw [o']
    rfl
  refine ⟨.ref (s.heap.objs.size + 1), upd H (s.heap.objs.size + 1) (.lst (((arrOf st').map (·.2)).toList.map backV)), I.laid (t' := s.toks) (fun b o hb => sortedAll_old hb) (Nat.le_succ _) ⟨?_, ((arrOf st').map (·.2)).toList, n, vals_back outR, ?_⟩, rfl, q _ _ ?_ pw (I.hok.fresh (Nat.le_succ _))⟩
  · rw [List.length_map, outP.length_eq, ← rv.length]
    exact hz
  · rw [Array.toArray_toList]
    exact hn
  · rw [e1]
    exact outP.map backV
end

/-! #### by data -/
def kfH (H : Hp) : V → SK
  | .ref t => match H t with
    | some (.tup ws) => (keyV ws).getD []
    | some (.frz _ (.tup ws)) => (keyV ws).getD []
    | _ => []
  | _ => []
/-- data that tuples stand for, sorted as tuples are -/
structure SKey {α : Type} [DecidableEq α] (A : Ty α) (key : α → SK) (sh : Nat → Bool) : Prop where
  ok : ∀ {c H v x}, A.r c H v x → ∃ t ws, v = V.ref t ∧ Rd H t (.tup ws) ∧ ws ≠ [] ∧ keyV ws = some (key x) ∧ ∀ j v, ws[j]? = some v → isS v = sh j
  inj : ∀ x y, key x = key y → x = y
theorem kfH_of {H : Hp} {t : Addr} {ws : List V} {k : SK} (r : Rd H t (.tup ws)) (h : keyV ws = some k) : kfH H (.ref t) = k := by
  unfold kfH
  rcases r with r | ⟨o, r⟩ <;> simp only [r, h] <;> rfl
/-- insertion -/
def insK {α : Type} (key : α → SK) (x : α) : List α → List α
  | [] => [x]
  | y :: ys => if leK (key x) (key y) = true then x :: y :: ys else y :: insK key x ys
def sortK {α : Type} (key : α → SK) : List α → List α
  | [] => []
  | x :: xs => insK key x (sortK key xs)
theorem le_refl' (a : SK) : leK a a = true := by
  have z : lexLt itemOrd a a = false := (listOrd itemOrd).irrefl a
  unfold leK ltK
  rw [z]; rfl
theorem le_trans' {a b c : SK} (h1 : leK a b = true) (h2 : leK b c = true) : leK a c = true := by
  have e : ∀ {x y : SK}, leK x y = true → (listOrd itemOrd).kle x y := fun {x y} h => by
    unfold leK ltK at h
    show lexLt itemOrd y x = false
    simpa using h
  have z : lexLt itemOrd c a = false := KeyOrd.kle_trans (O := listOrd itemOrd) (e h1) (e h2)
  unfold leK ltK
  rw [z]; rfl
theorem le_total' (a b : SK) : leK a b = true ∨ leK b a = true := by
  unfold leK ltK
  cases h : lexLt itemOrd b a with
  | false => exact .inl rfl
  | true =>
    refine .inr ?_
    have z : (listOrd itemOrd).kle b a := KeyOrd.kle_of_klt (O := listOrd itemOrd) h
    have z' : lexLt itemOrd a b = false := z
    rw [z']; rfl
theorem le_anti' {a b : SK} (h1 : leK a b = true) (h2 : leK b a = true) : a = b := by
  unfold leK ltK at h1 h2
  exact (listOrd itemOrd).total a b (by simpa using h2) (by simpa using h1)
theorem insK_perm {α : Type} {key : α → SK} {x : α} : ∀ l : List α, (insK key x l).Perm (x :: l)
  | [] => .refl _
  | y :: ys => by
    unfold insK
    split
    · exact .refl _
    · exact ((insK_perm ys).cons y).trans (.swap x y ys)
theorem sortK_perm {α : Type} {key : α → SK} : ∀ l : List α, (sortK key l).Perm l
  | [] => .refl _
  | x :: xs => (insK_perm _).trans ((sortK_perm xs).cons x)
theorem insK_sorted {α : Type} {key : α → SK} {x : α} : ∀ {l : List α}, l.Pairwise (fun a b => leK (key a) (key b) = true) → (insK key x l).Pairwise (fun a b => leK (key a) (key b) = true)
  | [], _ => List.pairwise_singleton _ _
  | y :: ys, h => by
    obtain ⟨h1, h2⟩ := List.pairwise_cons.mp h
    unfold insK
    split
    · rename_i c
      refine List.pairwise_cons.mpr ⟨fun z hz => ?_, h⟩
      rcases List.mem_cons.mp hz with rfl | hz
      · exact c
      · exact le_trans' c (h1 z hz)
    · rename_i c
      refine List.pairwise_cons.mpr ⟨fun z hz => ?_, insK_sorted h2⟩
      have hz' := (insK_perm ys).mem_iff.mp hz
      rcases List.mem_cons.mp hz' with rfl | hz'
      · exact (le_total' _ _).resolve_left c
      · exact h1 z hz'
theorem sortK_sorted {α : Type} {key : α → SK} : ∀ l : List α, (sortK key l).Pairwise (fun a b => leK (key a) (key b) = true)
  | [] => .nil
  | x :: xs => insK_sorted (sortK_sorted xs)
theorem sorted_uniq {α : Type} {key : α → SK} (inj : ∀ x y, key x = key y → x = y) : ∀ {l m : List α}, l.Pairwise (fun a b => leK (key a) (key b) = true) → m.Pairwise (fun a b => leK (key a) (key b) = true) → l.Perm m → l = m
  | [], m, _, _, p => (List.Perm.nil_eq p)
  | x :: l, [], _, _, p => by have z := p.length_eq; simp at z
  | x :: l, y :: m, h1, h2, p => by
    obtain ⟨a1, a2⟩ := List.pairwise_cons.mp h1
    obtain ⟨b1, b2⟩ := List.pairwise_cons.mp h2
    have hx : leK (key x) (key y) = true := by
      have hm : y ∈ x :: l := p.mem_iff.mpr List.mem_cons_self
      rcases List.mem_cons.mp hm with e | hm
      · rw [e]; exact le_refl' _
      · exact a1 y hm
    have hy : leK (key y) (key x) = true := by
      have hm : x ∈ y :: m := p.mem_iff.mp List.mem_cons_self
      rcases List.mem_cons.mp hm with e | hm
      · rw [e]; exact le_refl' _
      · exact b1 x hm
    have e : x = y := inj _ _ (le_anti' hx hy)
    subst e
    rw [sorted_uniq inj a2 b2 (List.Perm.cons_inv p)]
section
variable {α : Type} [DecidableEq α] {A : Ty α} {c : Cl} {H H0 : Hp} {key : α → SK} {sh : Nat → Bool}
theorem Rs.perm {us vs : List V} (p : vs.Perm us) : ∀ {xs : List α}, Rs A c H us xs → ∃ ys, ys.Perm xs ∧ Rs A c H vs ys := by
  induction p with
  | nil =>
    intro xs h
    cases xs with
    | nil => exact ⟨[], .refl _, trivial⟩
    | cons _ _ => exact h.elim
  | cons u p ih =>
    intro xs h
    cases xs with
    | nil => exact h.elim
    | cons x xs =>
      obtain ⟨ys, p', r⟩ := ih h.2
      exact ⟨x :: ys, p'.cons x, h.1, r⟩
  | swap u v l =>
    intro xs h
    cases xs with
    | nil => exact h.elim
    | cons x xs =>
      cases xs with
      | nil => exact h.2.elim
      | cons y xs => exact ⟨y :: x :: xs, .swap _ _ _, h.2.1, h.1, h.2.2⟩
  | trans p q ih1 ih2 =>
    intro xs h
    obtain ⟨ys, p1, r1⟩ := ih2 h
    obtain ⟨zs, p2, r2⟩ := ih1 r1
    exact ⟨zs, p2.trans p1, r2⟩
theorem Rs.pw (K : SKey A key sh) : ∀ {us : List V} {xs : List α}, Rs A c H us xs → us.Pairwise (fun x y => leK (kfH H x) (kfH H y) = true) → xs.Pairwise (fun x y => leK (key x) (key y) = true)
  | [], [], _, _ => .nil
  | u :: us, x :: xs, h, p => by
    obtain ⟨p1, p2⟩ := List.pairwise_cons.mp p
    refine List.pairwise_cons.mpr ⟨fun y hy => ?_, Rs.pw K h.2 p2⟩
    obtain ⟨i, hi, e⟩ := List.getElem_of_mem hy
    obtain ⟨v, e1, r⟩ := h.2.getX (i := i) (x := y) (by rw [← e]; exact List.getElem?_eq_getElem hi)
    have q := p1 v (List.mem_of_getElem? e1)
    obtain ⟨t, ws, rfl, hr, _, hk, _⟩ := K.ok h.1
    obtain ⟨t', ws', rfl, hr', _, hk', _⟩ := K.ok r
    rw [kfH_of hr hk, kfH_of hr' hk'] at q
    exact q
  | [], _ :: _, h, _ => h.elim
  | _ :: _, [], h, _ => h.elim
theorem sorted_end {K : PySem.W.Frag} {v : V} {xs : List α} (SKx : SKey A key sh) (hx : rB K A c H v xs) (w : Wf c H) (n0 : ∀ p, H p = none → H0 p = none) {Q : VK} (q : ∀ p us' c' H', H p = none → Step [] c H c' H' → Own A H0 c' H' p us' (sortK key xs) → Q (.ref p) H') : rSortT K [v] H Q := by
  obtain ⟨a, us, rfl, h, r⟩ := hx
  refine ⟨a, us, kfH H, sh, rfl, h, fun u hu => ?_, fun ys p hp hs np => ?_⟩
  · obtain ⟨i, hi, e⟩ := List.getElem_of_mem hu
    obtain ⟨x, _, rx⟩ := r.get (i := i) (u := u) (by rw [← e]; exact List.getElem?_eq_getElem hi)
    obtain ⟨t, ws, rfl, hr, h1, h2, h3⟩ := SKx.ok rx
    exact ⟨t, ws, rfl, hr, h1, by rw [kfH_of hr h2]; exact h2, h3⟩
  · obtain ⟨zs, pz, rz⟩ := r.perm hp
    have e : zs = sortK key xs := sorted_uniq SKx.inj (rz.pw SKx hs) (sortK_sorted xs) (pz.trans (sortK_perm xs).symm)
    rw [← e] at q
    have st : Step [] c H (setC c p (some p)) (upd H p (.lst ys)) := Step.new w np fun r e => by cases e; exact .inl rfl
    exact q p ys _ _ np st ⟨setC_same, upd_same, rz.up st.up, n0 p np⟩
end
end Kb
/-! Kb6: own errors, isinstance -/
namespace Kb
open PySem L2
/-- isinstance(e, c), e the exception that the suite holds, whatever it is -/
def rIsX (K : PySem.W.Frag) (a : Addr) (cls : Value) (d : Option Addr) : List V → Hp → VK → Prop := fun xs H Q => ∃ (D : Addr) (c : V) (cv : Value) (b : Bool), cls = .ref D ∧ d = none ∧ ExcC K D ∧ xs = [.ref a, c] ∧ (∀ u, RelV c u → u = cv) ∧ PySem.W.kitOne K (.ref D) cv = some b ∧ Q (.bl b) H
theorem call_isX {X : Cx} {a : Addr} {cls : Value} {d : Option Addr} {oe : Obj} {pn : List (Addr × Obj)} (hz : Zc cls d oe) (hf : ∃ vs, oe.data = .fields vs) : CallR (X.suite a ((a, oe) :: pn)) (.builtin "isinstance") (rIsX X.K a cls d) := by
  intro pins s σ H xs us Q I r h
  obtain ⟨D, c, cv, b, rfl, rfl, C, e1, h1, h2, q⟩ := h
  exact call_isE C hz hf pins s σ H xs us Q I r ⟨c, cv, b, e1, h1, h2, q⟩
theorem rc_isX {K : PySem.W.Frag} {a : Addr} {D : Addr} {H : Hp} {c : V} {cv : Value} {b : Bool} (C : ExcC K D) (hk : PySem.W.kitOne K (.ref D) cv = some b) (hc : ∀ u, RelV c u → u = cv := by intro u h; exact h) : Rc (rIsX K a (.ref D) none) [.ref a, c] H (.bl b) := fun _ q => ⟨D, c, cv, b, rfl, rfl, C, rfl, hc, hk, q⟩
/-- the classes of errors, as the top has made them: ea e is e's class, kerb the base's -/
structure ErrC (K : PySem.W.Frag) (mg : Str → Option Value) (x : Str) (C : Addr) (tail : List Value) : Prop where
  g : mg x = some (.ref C)
  ex : PySem.W.excIn K C tail "ValueError.__new__" = true
  kp : PySem.W.keepIn K (.ref C) = true
  sub : PySem.W.subIn K (.ref C) (.type "BaseException") = some true
  ty : PySem.W.typeIn K (.ref C) = some (.type "type")
  ec : ExcC K C
theorem ErrC.raises {X : Cx} {x : Str} {C : Addr} {tail : List Value} (e : ErrC X.K X.mg x C tail) : Raises X (.ref C) := raises_own e.sub e.ty
/-- a def of the text, called by its name -/
structure Df (K : PySem.W.Frag) (mg : Str → Option Value) (x : Str) (st : Stmt) (f : Addr) (fd : FuncData) (ps : List Str) : Prop where
  F : Fun K x x st f fd
  g : mg x = some (.ref f)
  b : Binds K fd ps []
/-- isinstance of data whose kind is known -/
theorem rc_isi {K : PySem.W.Frag} {H : Hp} {x c : V} {t u : Value} {b : Bool} (hc : ClsV c u) (ht : TyX K H x t) (hk : PySem.W.kitOne K t u = some b) : Rc (rIsi K) [x, c] H (.bl b) := fun _ q => ⟨x, c, t, u, b, rfl, hc, ht, hk, q⟩
theorem tyx_int {K : PySem.W.Frag} {H : Hp} {i : Int} : TyX K H (.int i) (.type "int") := .base (by first | exact .int i | exact .int | constructor)
theorem tyx_bl {K : PySem.W.Frag} {H : Hp} {i : Bool} : TyX K H (.bl i) (.type "bool") := .base (by first | exact .bl i | exact .bl | constructor)
theorem tyx_str {K : PySem.W.Frag} {H : Hp} {i : Str} : TyX K H (.str i) (.type "str") := .base (by first | exact .str i | exact .str | constructor)
end Kb
/-! Kb7: steps by data -/
namespace Kb
open PySem L2
theorem lift {α : Type} [DecidableEq α] {A : Ty α} {c c' : Cl} {H H' : Hp} {T : List Addr} {v : V} {x : α} (h : A.r c H v x) (st : Step T c H c' H') : A.r c' H' v x := A.up st.up h
theorem liftF {α : Type} [DecidableEq α] {A : Ty α} {c : Cl} {H : Hp} {p : Addr} {v : V} {x : α} (h : A.r c H v x) : A.r (frz c p) H v x := A.up frz_up h
/-- a frozen list, opened -/
structure Fzl {α : Type} [DecidableEq α] (A : Ty α) (c : Cl) (H : Hp) (a : Addr) (us : List V) (xs : List α) : Prop where
  col : c a = none
  obj : H a = some (.lst us)
  rs : Rs A c H us xs
section
variable {α : Type} [DecidableEq α] {A : Ty α} {c c' c0 : Cl} {H H' H0 : Hp} {S T : List Addr} {p a : Addr} {us : List V} {xs : List α} {v x y : V} {σ : L2.St} {t ta tb : TE}
theorem tyL_open (h : (tyL A).r c H v xs) : ∃ a us, v = .ref a ∧ Fzl A c H a us xs := let ⟨a, us, e, k, q, r⟩ := h; ⟨a, us, e, k, q, r⟩
theorem Fzl.lift (h : Fzl A c H a us xs) (st : Step T c H c' H') : Fzl A c' H' a us xs := ⟨st.up.col a _ h.obj h.col, st.up.obj a _ h.obj h.col, h.rs.up st.up⟩
theorem Fzl.liftF (h : Fzl A c H a us xs) : Fzl A (frz c p) H a us xs := ⟨frz_none h.col, h.obj, h.rs.up frz_up⟩
theorem Fzl.rd {K : PySem.W.Frag} (h : Fzl A c H a us xs) : SqL K H a us := .inl (.inl h.obj)
theorem Fzl.b {K : PySem.W.Frag} (h : Fzl A c H a us xs) : rB K A c H (.ref a) xs := ⟨a, us, rfl, .inl (.inl h.obj), h.rs⟩
theorem Fzl.pl (h : Fzl A c H a us xs) : rP A c H (.ref a) xs := ⟨a, us, rfl, h.obj, h.rs⟩
theorem Fzl.ty (h : Fzl A c H a us xs) : (tyL A).r c H (.ref a) xs := ⟨a, us, rfl, h.col, h.obj, h.rs⟩
/-- what the base knows of a list that is read alone, opened -/
structure Bl (K : PySem.W.Frag) (A : Ty α) (c0 : Cl) (H0 : Hp) (a : Addr) (us : List V) (xs : List α) : Prop where
  rd : SqL K H0 a us
  rs : Rs A c0 H0 us xs
theorem rB_open {K : PySem.W.Frag} (h : rB K A c H v xs) : ∃ a us, v = .ref a ∧ Bl K A c H a us xs := let ⟨a, us, e, q, r⟩ := h; ⟨a, us, e, q, r⟩
theorem Bl.b {K : PySem.W.Frag} (h : Bl K A c H a us xs) : rB K A c H (.ref a) xs := ⟨a, us, rfl, h.rd, h.rs⟩
theorem Bl.at {K : PySem.W.Frag} (h : Bl K A c0 H0 a us xs) (g : Step [] c0 H0 c H) : Bl K A c H a us xs := by
  exact ⟨g.sq0 h.rd, h.rs.up g.up⟩
theorem rv_ixB {K : PySem.W.Frag} {i : Int} {z : α} (h : rB K A c H v xs) (e : atI xs i = some z) : ∃ u, A.r c H u z ∧ Rv (rIxL K) v (.int i) H u := by
  obtain ⟨a, us, rfl, q, r⟩ := h
  obtain ⟨u, e1, ru⟩ := r.at e
  exact ⟨u, ru, fun _ z => ⟨a, us, i, u, rfl, rfl, q, e1, z⟩⟩
theorem len_B {K : PySem.W.Frag} (h : rB K A c H v xs) (hv : Pv t σ H v) : Pv (tCB (fun xs H Q => ∃ p ys, xs = [.ref p] ∧ (SqL K H p ys ∨ SqT K H p ys) ∧ Q (.int ys.length) H) (tCons t tNil)) σ H (.int xs.length) := pv_cb (pa_c hv pa_n) (rc_lenB h)
theorem tyx_lst {K : PySem.W.Frag} (h : rP A c H v xs) : TyX K H v (.type "list") := by
  obtain ⟨a, us, rfl, q, r⟩ := h
  exact .base (.lst q)
theorem nx_go {a : L2.St → Hp → Prop} {b : VK} {cc d : L2.St → Hp → Prop} (h : a σ H) : Ends.nx ⟨a, b, cc, d⟩ σ H := h
theorem for_u {wi : TI} {g : TG} {tb : TS} {D : Ends} (h : wi σ H fun J H1 => ∃ W : Nat → Nat → L2.St → Hp → Prop, (∃ m, W 0 m σ H1) ∧ ∀ i m σ H, W i m σ H →
  (J.stop i H ∧ D.nx σ H) ∨ (J.go i H ∧ ∃ N : L2.St → Hp → Prop, (∀ σ' H', N σ' H' → ∃ m', m' < m ∧ W (i + 1) m' σ' H') ∧ ∀ x H', J.yld i H x H' → g x σ H' fun σ2 H2 => tb { D with nx := N, ct := N, bk := D.nx } σ2 H2)) : tFor wi g tb D σ H := h
def LIt (K : PySem.W.Frag) (R : It → Hp → Prop) (x : V) (H1 : Hp) : Prop := ∃ a, x = .ref a ∧ (∃ xs, SqL K H1 a xs) ∧ R (Itl K a) H1
theorem ilist_u {K : PySem.W.Frag} {tl : TE} {R : It → Hp → Prop} (h : tl σ H (LIt K R)) : iList K tl σ H R := h
theorem ilist_e {K : PySem.W.Frag} {R : It → Hp → Prop} (hr : SqL K H a us) (q : R (Itl K a) H) : LIt K R (V.ref a) H := ⟨a, rfl, ⟨us, hr⟩, q⟩
def RIt1 (R : It → Hp → Prop) (vs : List V) (H1 : Hp) : Prop := ∃ j : Int, vs = [.int j] ∧ -(2 ^ 62) ≤ j ∧ j < 2 ^ 62 ∧ R (Itr 0 j.toNat) H1
theorem irng1_u {ta : TA} {R : It → Hp → Prop} (h : ta σ H (RIt1 R)) : iRng1 ta σ H R := h
def RIt2 (R : It → Hp → Prop) (vs : List V) (H1 : Hp) : Prop := ∃ i j : Int, vs = [.int i, .int j] ∧ (-(2 ^ 62) ≤ i ∧ i < 2 ^ 62 ∧ -(2 ^ 62) ≤ j ∧ j < 2 ^ 62) ∧ R (Itr i (j - i).toNat) H1
theorem irng2_u {ta : TA} {R : It → Hp → Prop} (h : ta σ H (RIt2 R)) : iRng2 ta σ H R := h
@[irreducible] def rngOk (i : Int) : Bool := decide (-(2 ^ 62) ≤ i) && decide (i < 2 ^ 62)
theorem rngOk_iff {i : Int} (h : rngOk i = true) : -(2 ^ 62) ≤ i ∧ i < 2 ^ 62 := by
  unfold rngOk at h
  rw [Bool.and_eq_true] at h
  exact ⟨of_decide_eq_true h.1, of_decide_eq_true h.2⟩
theorem irng1_e {R : It → Hp → Prop} {j : Int} (h : rngOk j = true) (q : R (Itr 0 j.toNat) H) : RIt1 R [V.int j] H := ⟨j, rfl, (rngOk_iff h).1, (rngOk_iff h).2, q⟩
theorem irng2_e {R : It → Hp → Prop} {i j : Int} (h : rngOk i = true) (h' : rngOk j = true) (q : R (Itr i (j - i).toNat) H) : RIt2 R [V.int i, V.int j] H := ⟨i, j, rfl, ⟨(rngOk_iff h).1, (rngOk_iff h).2, (rngOk_iff h').1, (rngOk_iff h').2⟩, q⟩
@[irreducible] def mulOk (a b : Int) : Bool := decide (a.natAbs.log2 + b.natAbs.log2 < 1000000)
theorem rv_mul {i j : Int} (h : mulOk i j = true) : Rv (rI CMulW fun i j => .int (i * j)) (.int i) (.int j) H (.int (i * j)) := rv_ic (C := CMulW) (g := fun i j => .int (i * j)) (show i.natAbs.log2 + j.natAbs.log2 < 1000000 by unfold mulOk at h; exact of_decide_eq_true h)
@[irreducible] def divOk (b : Int) : Bool := decide (0 < b) && decide (b.natAbs.log2 < 9000)
theorem rv_div {i j : Int} (h : divOk j = true) : Rv (rI CDivW fun i j => .int (i / j)) (.int i) (.int j) H (.int (i / j)) := rv_ic (C := CDivW) (g := fun i j => .int (i / j)) (by
  unfold divOk at h
  rw [Bool.and_eq_true] at h
  exact ⟨of_decide_eq_true h.1, of_decide_eq_true h.2⟩)
theorem rv_mod {i j : Int} (h : decide (0 < j) = true) : Rv (rI (fun _ j => 0 < j) fun i j => .int (i % j)) (.int i) (.int j) H (.int (i % j)) := rv_ic (C := fun _ j => 0 < j) (g := fun i j => .int (i % j)) (of_decide_eq_true h)
theorem rv_modL {i j : Int} (h : 0 < j) : Rv (rI (fun _ j => 0 < j) fun i j => .int (i % j)) (.int i) (.int j) H (.int (i % j)) := rv_ic (C := fun _ j => 0 < j) (g := fun i j => .int (i % j)) h
theorem rv_divL {i j : Int} (h : CDiv i j) : Rv (rI CDiv fun i j => .int (i / j)) (.int i) (.int j) H (.int (i / j)) := rv_ic (C := CDiv) (g := fun i j => .int (i / j)) h
theorem rv_pow {i j : Int} (h : CPow i j) : Rv (rI CPow fun i j => .int (i ^ j.toNat)) (.int i) (.int j) H (.int (i ^ j.toNat)) := rv_ic (C := CPow) (g := fun i j => .int (i ^ j.toNat)) h
theorem pv_neg {i : Int} (h : Pv t σ H (.int i)) : Pv (tUn (rU fun i => .int (-i)) t) σ H (.int (-i)) := pv_1 h fun _ q => ⟨i, rfl, q⟩
/-- truth of a list -/
theorem pt_list {K : PySem.W.Frag} (h : rB K A c H v xs) (hv : Pv t σ H v) : PvT (fun σ H Q => t σ H fun x H' => ∃ k, TruV K x H' k ∧ Q k H') σ H (!xs.isEmpty) := by
  obtain ⟨a, us, rfl, q, r⟩ := h
  refine fun Q q1 => hv _ ⟨!xs.isEmpty, .inl ⟨us, q, ?_⟩, q1⟩
  have e := r.len
  cases us <;> cases xs <;> simp_all
/-- a test whose ways meet behind it -/
theorem if_cut {β τ : Type} {P : β → Cl → Hp → Prop} {PE : Err → Cl → Hp → Prop} {m : Res τ} {rest : τ → Res β} {cc : TT} {t u : TS} {D : Ends} (k : Kont P PE S c0 H0 (m.bind rest)) (I : τ → Cl → Hp → L2.St → Prop) (kk : ∀ s c H σ, I s c H σ → Kont P PE S c0 H0 (rest s) → D.nx σ H)
    (h : Kont (fun s c' H' => ∀ σ', I s c' H' σ' → D.nx σ' H') PE S c0 H0 m → tIfS cc t u D σ H) : tIfS cc t u D σ H := h (k.turn.imp (fun s c H _ q σ i => kk s c H σ i q) fun _ _ _ _ q => q)
theorem Own.base {c1 : Cl} {H1 : Hp} (h : Own A H1 c H p us xs) (g : Step S c0 H0 c1 H1) : Own A H0 c H p us xs := ⟨h.col, h.obj, h.rs, g.fresh h.new⟩
theorem PvT.ifS {cc : TT} {t u : TS} {D : Ends} {b : Bool} (h : PvT cc σ H b) (ht : b = true → t D σ H) (hf : b = false → u D σ H) : tIfS cc t u D σ H := h _ (by
  cases b with
  | true => exact iteT (ht rfl)
  | false => exact iteF (hf rfl))
theorem ite_b {b : Bool} {A B : Prop} (ht : b = true → A) (hf : b = false → B) : if b = true then A else B := by
  cases b with
  | true => exact iteT (ht rfl)
  | false => exact iteF (hf rfl)
theorem not_s {t : TT} {A B : Hp → Prop} (h : t σ H fun c H1 => if c = true then B H1 else A H1) : tNot t σ H fun b H1 => if b = true then A H1 else B H1 := by
  show t σ H fun c H1 => if (!c) = true then A H1 else B H1
  have e : (fun (c : Bool) (H1 : Hp) => if (!c) = true then A H1 else B H1) = fun c H1 => if c = true then B H1 else A H1 := by
    funext c H1
    cases c <;> rfl
  rw [e]
  exact h
theorem and_s {t u : TT} {A B : Hp → Prop} (h : t σ H fun c H1 => if c = true then (u σ H1 fun b H2 => if b = true then A H2 else B H2) else B H1) : tAnd t u σ H fun b H1 => if b = true then A H1 else B H1 := by
  show t σ H fun c H1 => if c = true then (u σ H1 fun b H2 => if b = true then A H2 else B H2) else (if false = true then A H1 else B H1)
  have e : (fun (c : Bool) (H1 : Hp) => if c = true then (u σ H1 fun b H2 => if b = true then A H2 else B H2) else (if false = true then A H1 else B H1)) = fun c H1 => if c = true then (u σ H1 fun b H2 => if b = true then A H2 else B H2) else B H1 := by
    funext c H1
    cases c <;> rfl
  rw [e]
  exact h
theorem or_s {t u : TT} {A B : Hp → Prop} (h : t σ H fun c H1 => if c = true then A H1 else (u σ H1 fun b H2 => if b = true then A H2 else B H2)) : tOr t u σ H fun b H1 => if b = true then A H1 else B H1 := by
  show t σ H fun c H1 => if c = true then (if true = true then A H1 else B H1) else (u σ H1 fun b H2 => if b = true then A H2 else B H2)
  have e : (fun (c : Bool) (H1 : Hp) => if c = true then (if true = true then A H1 else B H1) else (u σ H1 fun b H2 => if b = true then A H2 else B H2)) = fun c H1 => if c = true then A H1 else (u σ H1 fun b H2 => if b = true then A H2 else B H2) := by
    funext c H1
    cases c <;> rfl
  rw [e]
  exact h
theorem cat_B {ys : List α} (hx : rP A c H v xs) (hy : rP A c H x ys) (w : Wf c H) (n0 : ∀ p, H p = none → H0 p = none) (hl : xs.length + ys.length ≤ sizeLine) {Q : VK}
    (q : ∀ p us' c' H', H p = none → Step [] c H c' H' → Own A H0 c' H' p us' (xs ++ ys) → Q (.ref p) H') : rCat v x H Q := by
  obtain ⟨a, us, rfl, h1, r1⟩ := hx
  obtain ⟨b, vs, rfl, h2, r2⟩ := hy
  exact cat_end rfl rfl h1 r1 h2 r2 w n0 hl q
theorem ok_cat {x y : Str} (h1 : PyData.strOk x = true) (h2 : PyData.strOk y = true) : PyData.strOk (x ++ y) = true := by
  unfold PyData.strOk at *
  show (x.cps ++ y.cps).all _ = true
  rw [Array.all_append, h1, h2]; rfl
theorem ok_at {x : Str} {i : Int} {n : Nat} (h : PyData.strOk x = true) (e : atI x.cps.toList i = some n) : PyData.strOk ⟨#[n]⟩ = true := by
  unfold PyData.strOk at *
  rw [Array.all_eq_true] at h
  unfold atI at e
  cases q : ixN x.cps.toList.length i with
  | none => rw [q] at e; cases e
  | some j =>
    rw [q] at e
    have e' : x.cps.toList[j]? = some n := e
    obtain ⟨hj, ej⟩ := List.getElem?_eq_some_iff.mp e'
    have hj' : j < x.cps.size := by rw [← Array.length_toList]; exact hj
    have z := h j hj'
    rw [← Array.getElem_toList] at z
    rw [ej] at z
    simpa using z
/-- from a base to a list's places -/
theorem base_ok (w : Wf c H) : Step [] c H c H := Step.refl w
end

theorem ix2_0 {α0 : Type} [DecidableEq α0] {A0 : Ty α0} {α1 : Type} [DecidableEq α1] {A1 : Ty α1} {c : Cl} {H : Hp} {v : V} {x : α0 × α1} (h : (tyT2 A0 A1).r c H v x) : ∃ u, A0.r c H u (x.1) ∧ ∀ {K : PySem.W.Frag}, Rv (rIxT K) v (.int 0) H u := by
  obtain ⟨a, u0, u1, rfl, _, q, h0, h1⟩ := h
  exact ⟨u0, h0, rv_ixt q rfl⟩
theorem ix2_1 {α0 : Type} [DecidableEq α0] {A0 : Ty α0} {α1 : Type} [DecidableEq α1] {A1 : Ty α1} {c : Cl} {H : Hp} {v : V} {x : α0 × α1} (h : (tyT2 A0 A1).r c H v x) : ∃ u, A1.r c H u (x.2) ∧ ∀ {K : PySem.W.Frag}, Rv (rIxT K) v (.int 1) H u := by
  obtain ⟨a, u0, u1, rfl, _, q, h0, h1⟩ := h
  exact ⟨u1, h1, rv_ixt q rfl⟩
theorem open2 {α0 : Type} [DecidableEq α0] {A0 : Ty α0} {α1 : Type} [DecidableEq α1] {A1 : Ty α1} {c : Cl} {H : Hp} {v : V} {x : α0 × α1} (h : (tyT2 A0 A1).r c H v x) : ∃ (a : Addr) (u0 u1 : V), v = .ref a ∧ Rd H a (.tup [u0, u1]) ∧ A0.r c H u0 (x.1) ∧ A1.r c H u1 (x.2) := by
  obtain ⟨a, u0, u1, e, _, q, h0, h1⟩ := h
  exact ⟨a, u0, u1, e, q, h0, h1⟩
theorem tyx2 {α0 : Type} [DecidableEq α0] {A0 : Ty α0} {α1 : Type} [DecidableEq α1] {A1 : Ty α1} {c : Cl} {H : Hp} {v : V} {x : α0 × α1} {K : PySem.W.Frag} (h : (tyT2 A0 A1).r c H v x) : TyX K H v (.type "tuple") := by
  obtain ⟨a, u0, u1, rfl, _, q, h0, h1⟩ := h
  rcases q with q | ⟨o, q⟩
  · exact .base (.tup q)
  · exact .fTuple q
theorem lenT2 {α0 : Type} [DecidableEq α0] {A0 : Ty α0} {α1 : Type} [DecidableEq α1] {A1 : Ty α1} {c : Cl} {H : Hp} {v : V} {x : α0 × α1} {K : PySem.W.Frag} {σ : L2.St} {t : TE} (h : (tyT2 A0 A1).r c H v x) (hv : Pv t σ H v) : Pv (tCB (fun xs H Q => ∃ p ys, xs = [.ref p] ∧ (SqL K H p ys ∨ SqT K H p ys) ∧ Q (.int ys.length) H) (tCons t tNil)) σ H (.int 2) := by
  obtain ⟨a, u0, u1, rfl, _, q, h0, h1⟩ := h
  exact pv_cb (pa_c hv pa_n) (rc_lent q)
theorem ix3_0 {α0 : Type} [DecidableEq α0] {A0 : Ty α0} {α1 : Type} [DecidableEq α1] {A1 : Ty α1} {α2 : Type} [DecidableEq α2] {A2 : Ty α2} {c : Cl} {H : Hp} {v : V} {x : α0 × α1 × α2} (h : (tyT3 A0 A1 A2).r c H v x) : ∃ u, A0.r c H u (x.1) ∧ ∀ {K : PySem.W.Frag}, Rv (rIxT K) v (.int 0) H u := by
  obtain ⟨a, u0, u1, u2, rfl, _, q, h0, h1, h2⟩ := h
  exact ⟨u0, h0, rv_ixt q rfl⟩
theorem ix3_1 {α0 : Type} [DecidableEq α0] {A0 : Ty α0} {α1 : Type} [DecidableEq α1] {A1 : Ty α1} {α2 : Type} [DecidableEq α2] {A2 : Ty α2} {c : Cl} {H : Hp} {v : V} {x : α0 × α1 × α2} (h : (tyT3 A0 A1 A2).r c H v x) : ∃ u, A1.r c H u (x.2.1) ∧ ∀ {K : PySem.W.Frag}, Rv (rIxT K) v (.int 1) H u := by
  obtain ⟨a, u0, u1, u2, rfl, _, q, h0, h1, h2⟩ := h
  exact ⟨u1, h1, rv_ixt q rfl⟩
theorem ix3_2 {α0 : Type} [DecidableEq α0] {A0 : Ty α0} {α1 : Type} [DecidableEq α1] {A1 : Ty α1} {α2 : Type} [DecidableEq α2] {A2 : Ty α2} {c : Cl} {H : Hp} {v : V} {x : α0 × α1 × α2} (h : (tyT3 A0 A1 A2).r c H v x) : ∃ u, A2.r c H u (x.2.2) ∧ ∀ {K : PySem.W.Frag}, Rv (rIxT K) v (.int 2) H u := by
  obtain ⟨a, u0, u1, u2, rfl, _, q, h0, h1, h2⟩ := h
  exact ⟨u2, h2, rv_ixt q rfl⟩
theorem open3 {α0 : Type} [DecidableEq α0] {A0 : Ty α0} {α1 : Type} [DecidableEq α1] {A1 : Ty α1} {α2 : Type} [DecidableEq α2] {A2 : Ty α2} {c : Cl} {H : Hp} {v : V} {x : α0 × α1 × α2} (h : (tyT3 A0 A1 A2).r c H v x) : ∃ (a : Addr) (u0 u1 u2 : V), v = .ref a ∧ Rd H a (.tup [u0, u1, u2]) ∧ A0.r c H u0 (x.1) ∧ A1.r c H u1 (x.2.1) ∧ A2.r c H u2 (x.2.2) := by
  obtain ⟨a, u0, u1, u2, e, _, q, h0, h1, h2⟩ := h
  exact ⟨a, u0, u1, u2, e, q, h0, h1, h2⟩
theorem tyx3 {α0 : Type} [DecidableEq α0] {A0 : Ty α0} {α1 : Type} [DecidableEq α1] {A1 : Ty α1} {α2 : Type} [DecidableEq α2] {A2 : Ty α2} {c : Cl} {H : Hp} {v : V} {x : α0 × α1 × α2} {K : PySem.W.Frag} (h : (tyT3 A0 A1 A2).r c H v x) : TyX K H v (.type "tuple") := by
  obtain ⟨a, u0, u1, u2, rfl, _, q, h0, h1, h2⟩ := h
  rcases q with q | ⟨o, q⟩
  · exact .base (.tup q)
  · exact .fTuple q
theorem lenT3 {α0 : Type} [DecidableEq α0] {A0 : Ty α0} {α1 : Type} [DecidableEq α1] {A1 : Ty α1} {α2 : Type} [DecidableEq α2] {A2 : Ty α2} {c : Cl} {H : Hp} {v : V} {x : α0 × α1 × α2} {K : PySem.W.Frag} {σ : L2.St} {t : TE} (h : (tyT3 A0 A1 A2).r c H v x) (hv : Pv t σ H v) : Pv (tCB (fun xs H Q => ∃ p ys, xs = [.ref p] ∧ (SqL K H p ys ∨ SqT K H p ys) ∧ Q (.int ys.length) H) (tCons t tNil)) σ H (.int 3) := by
  obtain ⟨a, u0, u1, u2, rfl, _, q, h0, h1, h2⟩ := h
  exact pv_cb (pa_c hv pa_n) (rc_lent q)
theorem ix4_0 {α0 : Type} [DecidableEq α0] {A0 : Ty α0} {α1 : Type} [DecidableEq α1] {A1 : Ty α1} {α2 : Type} [DecidableEq α2] {A2 : Ty α2} {α3 : Type} [DecidableEq α3] {A3 : Ty α3} {c : Cl} {H : Hp} {v : V} {x : α0 × α1 × α2 × α3} (h : (tyT4 A0 A1 A2 A3).r c H v x) : ∃ u, A0.r c H u (x.1) ∧ ∀ {K : PySem.W.Frag}, Rv (rIxT K) v (.int 0) H u := by
  obtain ⟨a, u0, u1, u2, u3, rfl, _, q, h0, h1, h2, h3⟩ := h
  exact ⟨u0, h0, rv_ixt q rfl⟩
theorem ix4_1 {α0 : Type} [DecidableEq α0] {A0 : Ty α0} {α1 : Type} [DecidableEq α1] {A1 : Ty α1} {α2 : Type} [DecidableEq α2] {A2 : Ty α2} {α3 : Type} [DecidableEq α3] {A3 : Ty α3} {c : Cl} {H : Hp} {v : V} {x : α0 × α1 × α2 × α3} (h : (tyT4 A0 A1 A2 A3).r c H v x) : ∃ u, A1.r c H u (x.2.1) ∧ ∀ {K : PySem.W.Frag}, Rv (rIxT K) v (.int 1) H u := by
  obtain ⟨a, u0, u1, u2, u3, rfl, _, q, h0, h1, h2, h3⟩ := h
  exact ⟨u1, h1, rv_ixt q rfl⟩
theorem ix4_2 {α0 : Type} [DecidableEq α0] {A0 : Ty α0} {α1 : Type} [DecidableEq α1] {A1 : Ty α1} {α2 : Type} [DecidableEq α2] {A2 : Ty α2} {α3 : Type} [DecidableEq α3] {A3 : Ty α3} {c : Cl} {H : Hp} {v : V} {x : α0 × α1 × α2 × α3} (h : (tyT4 A0 A1 A2 A3).r c H v x) : ∃ u, A2.r c H u (x.2.2.1) ∧ ∀ {K : PySem.W.Frag}, Rv (rIxT K) v (.int 2) H u := by
  obtain ⟨a, u0, u1, u2, u3, rfl, _, q, h0, h1, h2, h3⟩ := h
  exact ⟨u2, h2, rv_ixt q rfl⟩
theorem ix4_3 {α0 : Type} [DecidableEq α0] {A0 : Ty α0} {α1 : Type} [DecidableEq α1] {A1 : Ty α1} {α2 : Type} [DecidableEq α2] {A2 : Ty α2} {α3 : Type} [DecidableEq α3] {A3 : Ty α3} {c : Cl} {H : Hp} {v : V} {x : α0 × α1 × α2 × α3} (h : (tyT4 A0 A1 A2 A3).r c H v x) : ∃ u, A3.r c H u (x.2.2.2) ∧ ∀ {K : PySem.W.Frag}, Rv (rIxT K) v (.int 3) H u := by
  obtain ⟨a, u0, u1, u2, u3, rfl, _, q, h0, h1, h2, h3⟩ := h
  exact ⟨u3, h3, rv_ixt q rfl⟩
theorem open4 {α0 : Type} [DecidableEq α0] {A0 : Ty α0} {α1 : Type} [DecidableEq α1] {A1 : Ty α1} {α2 : Type} [DecidableEq α2] {A2 : Ty α2} {α3 : Type} [DecidableEq α3] {A3 : Ty α3} {c : Cl} {H : Hp} {v : V} {x : α0 × α1 × α2 × α3} (h : (tyT4 A0 A1 A2 A3).r c H v x) : ∃ (a : Addr) (u0 u1 u2 u3 : V), v = .ref a ∧ Rd H a (.tup [u0, u1, u2, u3]) ∧ A0.r c H u0 (x.1) ∧ A1.r c H u1 (x.2.1) ∧ A2.r c H u2 (x.2.2.1) ∧ A3.r c H u3 (x.2.2.2) := by
  obtain ⟨a, u0, u1, u2, u3, e, _, q, h0, h1, h2, h3⟩ := h
  exact ⟨a, u0, u1, u2, u3, e, q, h0, h1, h2, h3⟩
theorem tyx4 {α0 : Type} [DecidableEq α0] {A0 : Ty α0} {α1 : Type} [DecidableEq α1] {A1 : Ty α1} {α2 : Type} [DecidableEq α2] {A2 : Ty α2} {α3 : Type} [DecidableEq α3] {A3 : Ty α3} {c : Cl} {H : Hp} {v : V} {x : α0 × α1 × α2 × α3} {K : PySem.W.Frag} (h : (tyT4 A0 A1 A2 A3).r c H v x) : TyX K H v (.type "tuple") := by
  obtain ⟨a, u0, u1, u2, u3, rfl, _, q, h0, h1, h2, h3⟩ := h
  rcases q with q | ⟨o, q⟩
  · exact .base (.tup q)
  · exact .fTuple q
theorem lenT4 {α0 : Type} [DecidableEq α0] {A0 : Ty α0} {α1 : Type} [DecidableEq α1] {A1 : Ty α1} {α2 : Type} [DecidableEq α2] {A2 : Ty α2} {α3 : Type} [DecidableEq α3] {A3 : Ty α3} {c : Cl} {H : Hp} {v : V} {x : α0 × α1 × α2 × α3} {K : PySem.W.Frag} {σ : L2.St} {t : TE} (h : (tyT4 A0 A1 A2 A3).r c H v x) (hv : Pv t σ H v) : Pv (tCB (fun xs H Q => ∃ p ys, xs = [.ref p] ∧ (SqL K H p ys ∨ SqT K H p ys) ∧ Q (.int ys.length) H) (tCons t tNil)) σ H (.int 4) := by
  obtain ⟨a, u0, u1, u2, u3, rfl, _, q, h0, h1, h2, h3⟩ := h
  exact pv_cb (pa_c hv pa_n) (rc_lent q)
theorem ix5_0 {α0 : Type} [DecidableEq α0] {A0 : Ty α0} {α1 : Type} [DecidableEq α1] {A1 : Ty α1} {α2 : Type} [DecidableEq α2] {A2 : Ty α2} {α3 : Type} [DecidableEq α3] {A3 : Ty α3} {α4 : Type} [DecidableEq α4] {A4 : Ty α4} {c : Cl} {H : Hp} {v : V} {x : α0 × α1 × α2 × α3 × α4} (h : (tyT5 A0 A1 A2 A3 A4).r c H v x) : ∃ u, A0.r c H u (x.1) ∧ ∀ {K : PySem.W.Frag}, Rv (rIxT K) v (.int 0) H u := by
  obtain ⟨a, u0, u1, u2, u3, u4, rfl, _, q, h0, h1, h2, h3, h4⟩ := h
  exact ⟨u0, h0, rv_ixt q rfl⟩
theorem ix5_1 {α0 : Type} [DecidableEq α0] {A0 : Ty α0} {α1 : Type} [DecidableEq α1] {A1 : Ty α1} {α2 : Type} [DecidableEq α2] {A2 : Ty α2} {α3 : Type} [DecidableEq α3] {A3 : Ty α3} {α4 : Type} [DecidableEq α4] {A4 : Ty α4} {c : Cl} {H : Hp} {v : V} {x : α0 × α1 × α2 × α3 × α4} (h : (tyT5 A0 A1 A2 A3 A4).r c H v x) : ∃ u, A1.r c H u (x.2.1) ∧ ∀ {K : PySem.W.Frag}, Rv (rIxT K) v (.int 1) H u := by
  obtain ⟨a, u0, u1, u2, u3, u4, rfl, _, q, h0, h1, h2, h3, h4⟩ := h
  exact ⟨u1, h1, rv_ixt q rfl⟩
theorem ix5_2 {α0 : Type} [DecidableEq α0] {A0 : Ty α0} {α1 : Type} [DecidableEq α1] {A1 : Ty α1} {α2 : Type} [DecidableEq α2] {A2 : Ty α2} {α3 : Type} [DecidableEq α3] {A3 : Ty α3} {α4 : Type} [DecidableEq α4] {A4 : Ty α4} {c : Cl} {H : Hp} {v : V} {x : α0 × α1 × α2 × α3 × α4} (h : (tyT5 A0 A1 A2 A3 A4).r c H v x) : ∃ u, A2.r c H u (x.2.2.1) ∧ ∀ {K : PySem.W.Frag}, Rv (rIxT K) v (.int 2) H u := by
  obtain ⟨a, u0, u1, u2, u3, u4, rfl, _, q, h0, h1, h2, h3, h4⟩ := h
  exact ⟨u2, h2, rv_ixt q rfl⟩
theorem ix5_3 {α0 : Type} [DecidableEq α0] {A0 : Ty α0} {α1 : Type} [DecidableEq α1] {A1 : Ty α1} {α2 : Type} [DecidableEq α2] {A2 : Ty α2} {α3 : Type} [DecidableEq α3] {A3 : Ty α3} {α4 : Type} [DecidableEq α4] {A4 : Ty α4} {c : Cl} {H : Hp} {v : V} {x : α0 × α1 × α2 × α3 × α4} (h : (tyT5 A0 A1 A2 A3 A4).r c H v x) : ∃ u, A3.r c H u (x.2.2.2.1) ∧ ∀ {K : PySem.W.Frag}, Rv (rIxT K) v (.int 3) H u := by
  obtain ⟨a, u0, u1, u2, u3, u4, rfl, _, q, h0, h1, h2, h3, h4⟩ := h
  exact ⟨u3, h3, rv_ixt q rfl⟩
theorem ix5_4 {α0 : Type} [DecidableEq α0] {A0 : Ty α0} {α1 : Type} [DecidableEq α1] {A1 : Ty α1} {α2 : Type} [DecidableEq α2] {A2 : Ty α2} {α3 : Type} [DecidableEq α3] {A3 : Ty α3} {α4 : Type} [DecidableEq α4] {A4 : Ty α4} {c : Cl} {H : Hp} {v : V} {x : α0 × α1 × α2 × α3 × α4} (h : (tyT5 A0 A1 A2 A3 A4).r c H v x) : ∃ u, A4.r c H u (x.2.2.2.2) ∧ ∀ {K : PySem.W.Frag}, Rv (rIxT K) v (.int 4) H u := by
  obtain ⟨a, u0, u1, u2, u3, u4, rfl, _, q, h0, h1, h2, h3, h4⟩ := h
  exact ⟨u4, h4, rv_ixt q rfl⟩
theorem open5 {α0 : Type} [DecidableEq α0] {A0 : Ty α0} {α1 : Type} [DecidableEq α1] {A1 : Ty α1} {α2 : Type} [DecidableEq α2] {A2 : Ty α2} {α3 : Type} [DecidableEq α3] {A3 : Ty α3} {α4 : Type} [DecidableEq α4] {A4 : Ty α4} {c : Cl} {H : Hp} {v : V} {x : α0 × α1 × α2 × α3 × α4} (h : (tyT5 A0 A1 A2 A3 A4).r c H v x) : ∃ (a : Addr) (u0 u1 u2 u3 u4 : V), v = .ref a ∧ Rd H a (.tup [u0, u1, u2, u3, u4]) ∧ A0.r c H u0 (x.1) ∧ A1.r c H u1 (x.2.1) ∧ A2.r c H u2 (x.2.2.1) ∧ A3.r c H u3 (x.2.2.2.1) ∧ A4.r c H u4 (x.2.2.2.2) := by
  obtain ⟨a, u0, u1, u2, u3, u4, e, _, q, h0, h1, h2, h3, h4⟩ := h
  exact ⟨a, u0, u1, u2, u3, u4, e, q, h0, h1, h2, h3, h4⟩
theorem tyx5 {α0 : Type} [DecidableEq α0] {A0 : Ty α0} {α1 : Type} [DecidableEq α1] {A1 : Ty α1} {α2 : Type} [DecidableEq α2] {A2 : Ty α2} {α3 : Type} [DecidableEq α3] {A3 : Ty α3} {α4 : Type} [DecidableEq α4] {A4 : Ty α4} {c : Cl} {H : Hp} {v : V} {x : α0 × α1 × α2 × α3 × α4} {K : PySem.W.Frag} (h : (tyT5 A0 A1 A2 A3 A4).r c H v x) : TyX K H v (.type "tuple") := by
  obtain ⟨a, u0, u1, u2, u3, u4, rfl, _, q, h0, h1, h2, h3, h4⟩ := h
  rcases q with q | ⟨o, q⟩
  · exact .base (.tup q)
  · exact .fTuple q
theorem lenT5 {α0 : Type} [DecidableEq α0] {A0 : Ty α0} {α1 : Type} [DecidableEq α1] {A1 : Ty α1} {α2 : Type} [DecidableEq α2] {A2 : Ty α2} {α3 : Type} [DecidableEq α3] {A3 : Ty α3} {α4 : Type} [DecidableEq α4] {A4 : Ty α4} {c : Cl} {H : Hp} {v : V} {x : α0 × α1 × α2 × α3 × α4} {K : PySem.W.Frag} {σ : L2.St} {t : TE} (h : (tyT5 A0 A1 A2 A3 A4).r c H v x) (hv : Pv t σ H v) : Pv (tCB (fun xs H Q => ∃ p ys, xs = [.ref p] ∧ (SqL K H p ys ∨ SqT K H p ys) ∧ Q (.int ys.length) H) (tCons t tNil)) σ H (.int 5) := by
  obtain ⟨a, u0, u1, u2, u3, u4, rfl, _, q, h0, h1, h2, h3, h4⟩ := h
  exact pv_cb (pa_c hv pa_n) (rc_lent q)
theorem ix6_0 {α0 : Type} [DecidableEq α0] {A0 : Ty α0} {α1 : Type} [DecidableEq α1] {A1 : Ty α1} {α2 : Type} [DecidableEq α2] {A2 : Ty α2} {α3 : Type} [DecidableEq α3] {A3 : Ty α3} {α4 : Type} [DecidableEq α4] {A4 : Ty α4} {α5 : Type} [DecidableEq α5] {A5 : Ty α5} {c : Cl} {H : Hp} {v : V} {x : α0 × α1 × α2 × α3 × α4 × α5} (h : (tyT6 A0 A1 A2 A3 A4 A5).r c H v x) : ∃ u, A0.r c H u (x.1) ∧ ∀ {K : PySem.W.Frag}, Rv (rIxT K) v (.int 0) H u := by
  obtain ⟨a, u0, u1, u2, u3, u4, u5, rfl, _, q, h0, h1, h2, h3, h4, h5⟩ := h
  exact ⟨u0, h0, rv_ixt q rfl⟩
theorem ix6_1 {α0 : Type} [DecidableEq α0] {A0 : Ty α0} {α1 : Type} [DecidableEq α1] {A1 : Ty α1} {α2 : Type} [DecidableEq α2] {A2 : Ty α2} {α3 : Type} [DecidableEq α3] {A3 : Ty α3} {α4 : Type} [DecidableEq α4] {A4 : Ty α4} {α5 : Type} [DecidableEq α5] {A5 : Ty α5} {c : Cl} {H : Hp} {v : V} {x : α0 × α1 × α2 × α3 × α4 × α5} (h : (tyT6 A0 A1 A2 A3 A4 A5).r c H v x) : ∃ u, A1.r c H u (x.2.1) ∧ ∀ {K : PySem.W.Frag}, Rv (rIxT K) v (.int 1) H u := by
  obtain ⟨a, u0, u1, u2, u3, u4, u5, rfl, _, q, h0, h1, h2, h3, h4, h5⟩ := h
  exact ⟨u1, h1, rv_ixt q rfl⟩
theorem ix6_2 {α0 : Type} [DecidableEq α0] {A0 : Ty α0} {α1 : Type} [DecidableEq α1] {A1 : Ty α1} {α2 : Type} [DecidableEq α2] {A2 : Ty α2} {α3 : Type} [DecidableEq α3] {A3 : Ty α3} {α4 : Type} [DecidableEq α4] {A4 : Ty α4} {α5 : Type} [DecidableEq α5] {A5 : Ty α5} {c : Cl} {H : Hp} {v : V} {x : α0 × α1 × α2 × α3 × α4 × α5} (h : (tyT6 A0 A1 A2 A3 A4 A5).r c H v x) : ∃ u, A2.r c H u (x.2.2.1) ∧ ∀ {K : PySem.W.Frag}, Rv (rIxT K) v (.int 2) H u := by
  obtain ⟨a, u0, u1, u2, u3, u4, u5, rfl, _, q, h0, h1, h2, h3, h4, h5⟩ := h
  exact ⟨u2, h2, rv_ixt q rfl⟩
theorem ix6_3 {α0 : Type} [DecidableEq α0] {A0 : Ty α0} {α1 : Type} [DecidableEq α1] {A1 : Ty α1} {α2 : Type} [DecidableEq α2] {A2 : Ty α2} {α3 : Type} [DecidableEq α3] {A3 : Ty α3} {α4 : Type} [DecidableEq α4] {A4 : Ty α4} {α5 : Type} [DecidableEq α5] {A5 : Ty α5} {c : Cl} {H : Hp} {v : V} {x : α0 × α1 × α2 × α3 × α4 × α5} (h : (tyT6 A0 A1 A2 A3 A4 A5).r c H v x) : ∃ u, A3.r c H u (x.2.2.2.1) ∧ ∀ {K : PySem.W.Frag}, Rv (rIxT K) v (.int 3) H u := by
  obtain ⟨a, u0, u1, u2, u3, u4, u5, rfl, _, q, h0, h1, h2, h3, h4, h5⟩ := h
  exact ⟨u3, h3, rv_ixt q rfl⟩
theorem ix6_4 {α0 : Type} [DecidableEq α0] {A0 : Ty α0} {α1 : Type} [DecidableEq α1] {A1 : Ty α1} {α2 : Type} [DecidableEq α2] {A2 : Ty α2} {α3 : Type} [DecidableEq α3] {A3 : Ty α3} {α4 : Type} [DecidableEq α4] {A4 : Ty α4} {α5 : Type} [DecidableEq α5] {A5 : Ty α5} {c : Cl} {H : Hp} {v : V} {x : α0 × α1 × α2 × α3 × α4 × α5} (h : (tyT6 A0 A1 A2 A3 A4 A5).r c H v x) : ∃ u, A4.r c H u (x.2.2.2.2.1) ∧ ∀ {K : PySem.W.Frag}, Rv (rIxT K) v (.int 4) H u := by
  obtain ⟨a, u0, u1, u2, u3, u4, u5, rfl, _, q, h0, h1, h2, h3, h4, h5⟩ := h
  exact ⟨u4, h4, rv_ixt q rfl⟩
theorem ix6_5 {α0 : Type} [DecidableEq α0] {A0 : Ty α0} {α1 : Type} [DecidableEq α1] {A1 : Ty α1} {α2 : Type} [DecidableEq α2] {A2 : Ty α2} {α3 : Type} [DecidableEq α3] {A3 : Ty α3} {α4 : Type} [DecidableEq α4] {A4 : Ty α4} {α5 : Type} [DecidableEq α5] {A5 : Ty α5} {c : Cl} {H : Hp} {v : V} {x : α0 × α1 × α2 × α3 × α4 × α5} (h : (tyT6 A0 A1 A2 A3 A4 A5).r c H v x) : ∃ u, A5.r c H u (x.2.2.2.2.2) ∧ ∀ {K : PySem.W.Frag}, Rv (rIxT K) v (.int 5) H u := by
  obtain ⟨a, u0, u1, u2, u3, u4, u5, rfl, _, q, h0, h1, h2, h3, h4, h5⟩ := h
  exact ⟨u5, h5, rv_ixt q rfl⟩
theorem open6 {α0 : Type} [DecidableEq α0] {A0 : Ty α0} {α1 : Type} [DecidableEq α1] {A1 : Ty α1} {α2 : Type} [DecidableEq α2] {A2 : Ty α2} {α3 : Type} [DecidableEq α3] {A3 : Ty α3} {α4 : Type} [DecidableEq α4] {A4 : Ty α4} {α5 : Type} [DecidableEq α5] {A5 : Ty α5} {c : Cl} {H : Hp} {v : V} {x : α0 × α1 × α2 × α3 × α4 × α5} (h : (tyT6 A0 A1 A2 A3 A4 A5).r c H v x) : ∃ (a : Addr) (u0 u1 u2 u3 u4 u5 : V), v = .ref a ∧ Rd H a (.tup [u0, u1, u2, u3, u4, u5]) ∧ A0.r c H u0 (x.1) ∧ A1.r c H u1 (x.2.1) ∧ A2.r c H u2 (x.2.2.1) ∧ A3.r c H u3 (x.2.2.2.1) ∧ A4.r c H u4 (x.2.2.2.2.1) ∧ A5.r c H u5 (x.2.2.2.2.2) := by
  obtain ⟨a, u0, u1, u2, u3, u4, u5, e, _, q, h0, h1, h2, h3, h4, h5⟩ := h
  exact ⟨a, u0, u1, u2, u3, u4, u5, e, q, h0, h1, h2, h3, h4, h5⟩
theorem tyx6 {α0 : Type} [DecidableEq α0] {A0 : Ty α0} {α1 : Type} [DecidableEq α1] {A1 : Ty α1} {α2 : Type} [DecidableEq α2] {A2 : Ty α2} {α3 : Type} [DecidableEq α3] {A3 : Ty α3} {α4 : Type} [DecidableEq α4] {A4 : Ty α4} {α5 : Type} [DecidableEq α5] {A5 : Ty α5} {c : Cl} {H : Hp} {v : V} {x : α0 × α1 × α2 × α3 × α4 × α5} {K : PySem.W.Frag} (h : (tyT6 A0 A1 A2 A3 A4 A5).r c H v x) : TyX K H v (.type "tuple") := by
  obtain ⟨a, u0, u1, u2, u3, u4, u5, rfl, _, q, h0, h1, h2, h3, h4, h5⟩ := h
  rcases q with q | ⟨o, q⟩
  · exact .base (.tup q)
  · exact .fTuple q
theorem lenT6 {α0 : Type} [DecidableEq α0] {A0 : Ty α0} {α1 : Type} [DecidableEq α1] {A1 : Ty α1} {α2 : Type} [DecidableEq α2] {A2 : Ty α2} {α3 : Type} [DecidableEq α3] {A3 : Ty α3} {α4 : Type} [DecidableEq α4] {A4 : Ty α4} {α5 : Type} [DecidableEq α5] {A5 : Ty α5} {c : Cl} {H : Hp} {v : V} {x : α0 × α1 × α2 × α3 × α4 × α5} {K : PySem.W.Frag} {σ : L2.St} {t : TE} (h : (tyT6 A0 A1 A2 A3 A4 A5).r c H v x) (hv : Pv t σ H v) : Pv (tCB (fun xs H Q => ∃ p ys, xs = [.ref p] ∧ (SqL K H p ys ∨ SqT K H p ys) ∧ Q (.int ys.length) H) (tCons t tNil)) σ H (.int 6) := by
  obtain ⟨a, u0, u1, u2, u3, u4, u5, rfl, _, q, h0, h1, h2, h3, h4, h5⟩ := h
  exact pv_cb (pa_c hv pa_n) (rc_lent q)
theorem ix7_0 {α0 : Type} [DecidableEq α0] {A0 : Ty α0} {α1 : Type} [DecidableEq α1] {A1 : Ty α1} {α2 : Type} [DecidableEq α2] {A2 : Ty α2} {α3 : Type} [DecidableEq α3] {A3 : Ty α3} {α4 : Type} [DecidableEq α4] {A4 : Ty α4} {α5 : Type} [DecidableEq α5] {A5 : Ty α5} {α6 : Type} [DecidableEq α6] {A6 : Ty α6} {c : Cl} {H : Hp} {v : V} {x : α0 × α1 × α2 × α3 × α4 × α5 × α6} (h : (tyT7 A0 A1 A2 A3 A4 A5 A6).r c H v x) : ∃ u, A0.r c H u (x.1) ∧ ∀ {K : PySem.W.Frag}, Rv (rIxT K) v (.int 0) H u := by
  obtain ⟨a, u0, u1, u2, u3, u4, u5, u6, rfl, _, q, h0, h1, h2, h3, h4, h5, h6⟩ := h
  exact ⟨u0, h0, rv_ixt q rfl⟩
theorem ix7_1 {α0 : Type} [DecidableEq α0] {A0 : Ty α0} {α1 : Type} [DecidableEq α1] {A1 : Ty α1} {α2 : Type} [DecidableEq α2] {A2 : Ty α2} {α3 : Type} [DecidableEq α3] {A3 : Ty α3} {α4 : Type} [DecidableEq α4] {A4 : Ty α4} {α5 : Type} [DecidableEq α5] {A5 : Ty α5} {α6 : Type} [DecidableEq α6] {A6 : Ty α6} {c : Cl} {H : Hp} {v : V} {x : α0 × α1 × α2 × α3 × α4 × α5 × α6} (h : (tyT7 A0 A1 A2 A3 A4 A5 A6).r c H v x) : ∃ u, A1.r c H u (x.2.1) ∧ ∀ {K : PySem.W.Frag}, Rv (rIxT K) v (.int 1) H u := by
  obtain ⟨a, u0, u1, u2, u3, u4, u5, u6, rfl, _, q, h0, h1, h2, h3, h4, h5, h6⟩ := h
  exact ⟨u1, h1, rv_ixt q rfl⟩
theorem ix7_2 {α0 : Type} [DecidableEq α0] {A0 : Ty α0} {α1 : Type} [DecidableEq α1] {A1 : Ty α1} {α2 : Type} [DecidableEq α2] {A2 : Ty α2} {α3 : Type} [DecidableEq α3] {A3 : Ty α3} {α4 : Type} [DecidableEq α4] {A4 : Ty α4} {α5 : Type} [DecidableEq α5] {A5 : Ty α5} {α6 : Type} [DecidableEq α6] {A6 : Ty α6} {c : Cl} {H : Hp} {v : V} {x : α0 × α1 × α2 × α3 × α4 × α5 × α6} (h : (tyT7 A0 A1 A2 A3 A4 A5 A6).r c H v x) : ∃ u, A2.r c H u (x.2.2.1) ∧ ∀ {K : PySem.W.Frag}, Rv (rIxT K) v (.int 2) H u := by
  obtain ⟨a, u0, u1, u2, u3, u4, u5, u6, rfl, _, q, h0, h1, h2, h3, h4, h5, h6⟩ := h
  exact ⟨u2, h2, rv_ixt q rfl⟩
theorem ix7_3 {α0 : Type} [DecidableEq α0] {A0 : Ty α0} {α1 : Type} [DecidableEq α1] {A1 : Ty α1} {α2 : Type} [DecidableEq α2] {A2 : Ty α2} {α3 : Type} [DecidableEq α3] {A3 : Ty α3} {α4 : Type} [DecidableEq α4] {A4 : Ty α4} {α5 : Type} [DecidableEq α5] {A5 : Ty α5} {α6 : Type} [DecidableEq α6] {A6 : Ty α6} {c : Cl} {H : Hp} {v : V} {x : α0 × α1 × α2 × α3 × α4 × α5 × α6} (h : (tyT7 A0 A1 A2 A3 A4 A5 A6).r c H v x) : ∃ u, A3.r c H u (x.2.2.2.1) ∧ ∀ {K : PySem.W.Frag}, Rv (rIxT K) v (.int 3) H u := by
  obtain ⟨a, u0, u1, u2, u3, u4, u5, u6, rfl, _, q, h0, h1, h2, h3, h4, h5, h6⟩ := h
  exact ⟨u3, h3, rv_ixt q rfl⟩
theorem ix7_4 {α0 : Type} [DecidableEq α0] {A0 : Ty α0} {α1 : Type} [DecidableEq α1] {A1 : Ty α1} {α2 : Type} [DecidableEq α2] {A2 : Ty α2} {α3 : Type} [DecidableEq α3] {A3 : Ty α3} {α4 : Type} [DecidableEq α4] {A4 : Ty α4} {α5 : Type} [DecidableEq α5] {A5 : Ty α5} {α6 : Type} [DecidableEq α6] {A6 : Ty α6} {c : Cl} {H : Hp} {v : V} {x : α0 × α1 × α2 × α3 × α4 × α5 × α6} (h : (tyT7 A0 A1 A2 A3 A4 A5 A6).r c H v x) : ∃ u, A4.r c H u (x.2.2.2.2.1) ∧ ∀ {K : PySem.W.Frag}, Rv (rIxT K) v (.int 4) H u := by
  obtain ⟨a, u0, u1, u2, u3, u4, u5, u6, rfl, _, q, h0, h1, h2, h3, h4, h5, h6⟩ := h
  exact ⟨u4, h4, rv_ixt q rfl⟩
theorem ix7_5 {α0 : Type} [DecidableEq α0] {A0 : Ty α0} {α1 : Type} [DecidableEq α1] {A1 : Ty α1} {α2 : Type} [DecidableEq α2] {A2 : Ty α2} {α3 : Type} [DecidableEq α3] {A3 : Ty α3} {α4 : Type} [DecidableEq α4] {A4 : Ty α4} {α5 : Type} [DecidableEq α5] {A5 : Ty α5} {α6 : Type} [DecidableEq α6] {A6 : Ty α6} {c : Cl} {H : Hp} {v : V} {x : α0 × α1 × α2 × α3 × α4 × α5 × α6} (h : (tyT7 A0 A1 A2 A3 A4 A5 A6).r c H v x) : ∃ u, A5.r c H u (x.2.2.2.2.2.1) ∧ ∀ {K : PySem.W.Frag}, Rv (rIxT K) v (.int 5) H u := by
  obtain ⟨a, u0, u1, u2, u3, u4, u5, u6, rfl, _, q, h0, h1, h2, h3, h4, h5, h6⟩ := h
  exact ⟨u5, h5, rv_ixt q rfl⟩
theorem ix7_6 {α0 : Type} [DecidableEq α0] {A0 : Ty α0} {α1 : Type} [DecidableEq α1] {A1 : Ty α1} {α2 : Type} [DecidableEq α2] {A2 : Ty α2} {α3 : Type} [DecidableEq α3] {A3 : Ty α3} {α4 : Type} [DecidableEq α4] {A4 : Ty α4} {α5 : Type} [DecidableEq α5] {A5 : Ty α5} {α6 : Type} [DecidableEq α6] {A6 : Ty α6} {c : Cl} {H : Hp} {v : V} {x : α0 × α1 × α2 × α3 × α4 × α5 × α6} (h : (tyT7 A0 A1 A2 A3 A4 A5 A6).r c H v x) : ∃ u, A6.r c H u (x.2.2.2.2.2.2) ∧ ∀ {K : PySem.W.Frag}, Rv (rIxT K) v (.int 6) H u := by
  obtain ⟨a, u0, u1, u2, u3, u4, u5, u6, rfl, _, q, h0, h1, h2, h3, h4, h5, h6⟩ := h
  exact ⟨u6, h6, rv_ixt q rfl⟩
theorem open7 {α0 : Type} [DecidableEq α0] {A0 : Ty α0} {α1 : Type} [DecidableEq α1] {A1 : Ty α1} {α2 : Type} [DecidableEq α2] {A2 : Ty α2} {α3 : Type} [DecidableEq α3] {A3 : Ty α3} {α4 : Type} [DecidableEq α4] {A4 : Ty α4} {α5 : Type} [DecidableEq α5] {A5 : Ty α5} {α6 : Type} [DecidableEq α6] {A6 : Ty α6} {c : Cl} {H : Hp} {v : V} {x : α0 × α1 × α2 × α3 × α4 × α5 × α6} (h : (tyT7 A0 A1 A2 A3 A4 A5 A6).r c H v x) : ∃ (a : Addr) (u0 u1 u2 u3 u4 u5 u6 : V), v = .ref a ∧ Rd H a (.tup [u0, u1, u2, u3, u4, u5, u6]) ∧ A0.r c H u0 (x.1) ∧ A1.r c H u1 (x.2.1) ∧ A2.r c H u2 (x.2.2.1) ∧ A3.r c H u3 (x.2.2.2.1) ∧ A4.r c H u4 (x.2.2.2.2.1) ∧ A5.r c H u5 (x.2.2.2.2.2.1) ∧ A6.r c H u6 (x.2.2.2.2.2.2) := by
  obtain ⟨a, u0, u1, u2, u3, u4, u5, u6, e, _, q, h0, h1, h2, h3, h4, h5, h6⟩ := h
  exact ⟨a, u0, u1, u2, u3, u4, u5, u6, e, q, h0, h1, h2, h3, h4, h5, h6⟩
theorem tyx7 {α0 : Type} [DecidableEq α0] {A0 : Ty α0} {α1 : Type} [DecidableEq α1] {A1 : Ty α1} {α2 : Type} [DecidableEq α2] {A2 : Ty α2} {α3 : Type} [DecidableEq α3] {A3 : Ty α3} {α4 : Type} [DecidableEq α4] {A4 : Ty α4} {α5 : Type} [DecidableEq α5] {A5 : Ty α5} {α6 : Type} [DecidableEq α6] {A6 : Ty α6} {c : Cl} {H : Hp} {v : V} {x : α0 × α1 × α2 × α3 × α4 × α5 × α6} {K : PySem.W.Frag} (h : (tyT7 A0 A1 A2 A3 A4 A5 A6).r c H v x) : TyX K H v (.type "tuple") := by
  obtain ⟨a, u0, u1, u2, u3, u4, u5, u6, rfl, _, q, h0, h1, h2, h3, h4, h5, h6⟩ := h
  rcases q with q | ⟨o, q⟩
  · exact .base (.tup q)
  · exact .fTuple q
theorem lenT7 {α0 : Type} [DecidableEq α0] {A0 : Ty α0} {α1 : Type} [DecidableEq α1] {A1 : Ty α1} {α2 : Type} [DecidableEq α2] {A2 : Ty α2} {α3 : Type} [DecidableEq α3] {A3 : Ty α3} {α4 : Type} [DecidableEq α4] {A4 : Ty α4} {α5 : Type} [DecidableEq α5] {A5 : Ty α5} {α6 : Type} [DecidableEq α6] {A6 : Ty α6} {c : Cl} {H : Hp} {v : V} {x : α0 × α1 × α2 × α3 × α4 × α5 × α6} {K : PySem.W.Frag} {σ : L2.St} {t : TE} (h : (tyT7 A0 A1 A2 A3 A4 A5 A6).r c H v x) (hv : Pv t σ H v) : Pv (tCB (fun xs H Q => ∃ p ys, xs = [.ref p] ∧ (SqL K H p ys ∨ SqT K H p ys) ∧ Q (.int ys.length) H) (tCons t tNil)) σ H (.int 7) := by
  obtain ⟨a, u0, u1, u2, u3, u4, u5, u6, rfl, _, q, h0, h1, h2, h3, h4, h5, h6⟩ := h
  exact pv_cb (pa_c hv pa_n) (rc_lent q)

/-! #### sort keys -/
def keySII (x : Str × Int × Int) : SK := [.inr x.1.cps.toList, .inl x.2.1, .inl x.2.2]
def shSII : Nat → Bool := fun i => i == 0
theorem sk_SII : SKey (tyT3 tyS tyI tyI) keySII shSII where
  ok := by
    intro c H v x h
    obtain ⟨a, u0, u1, u2, e, _, q, ⟨h0, _⟩, h1, h2⟩ := h
    have h1' : u1 = V.int x.2.1 := h1
    have h2' : u2 = V.int x.2.2 := h2
    subst h0 h1' h2'
    refine ⟨a, _, e, q, by simp, rfl, fun j v hj => ?_⟩
    match j, hj with
    | 0, hj => cases hj; rfl
    | 1, hj => cases hj; rfl
    | 2, hj => cases hj; rfl
    | j + 3, hj => simp at hj
  inj := by
    rintro ⟨⟨⟨a⟩⟩, b, c⟩ ⟨⟨⟨a'⟩⟩, b', c'⟩ h
    simp only [keySII, List.cons.injEq, Sum.inr.injEq, Sum.inl.injEq, and_true] at h
    obtain ⟨h1, h2, h3⟩ := h
    subst h2 h3
    have h1' : a = a' := h1
    subst h1'
    rfl
end Kb
/-! Kb8: what the top has made -/
namespace Kb
open PySem L2 PySem.W
section
variable {K : PySem.W.Frag} {mg : Str → Option Value} {h : Heap}
theorem df_mk {x : Str} {st : Stmt} {ps : List Str} {f : Addr} {oc : Value} {od an : Option Addr} {sl : Array (Option Value)} {kV dc pm cd ct : Value} (X : K.In h) (G : h.Ns mainGlobals mg) (a : nsIn K mainGlobals x = some (some (.ref f)))
    (l : K.lookup f = some ⟨oc, od, .func (fnOf x x (defArgs st) (defBody st) (defScope st) .none kV dc pm an cd ct), sl⟩) (c : codeIn K cd x = true) (k : keepIn K (.ref f) = true)
    (hb : ∀ (kV doc pm : Value) (an : Option Addr) (cdv ct : Value) (us : List Value), us.length = ps.length → bindArgs (fnOf x x (defArgs st) (defBody st) (defScope st) .none kV doc pm an cdv ct) ⟨us, []⟩ = pure (ps.zip us)) :
    Df K mg x st f (fnOf x x (defArgs st) (defBody st) (defScope st) .none kV dc pm an cd ct) ps :=
  ⟨fun_mk l c k, mg_of X G a, (fun_mk (st := st) l c k).binds hb⟩
theorem err_mk {x : Str} {C : Addr} {tail : List Value} (X : K.In h) (G : h.Ns mainGlobals mg) (a : nsIn K mainGlobals x = some (some (.ref C))) (ex : excIn K C tail "ValueError.__new__" = true) (kp : keepIn K (.ref C) = true) (sb : subIn K (.ref C) (.type "BaseException") = some true) (ty : typeIn K (.ref C) = some (.type "type"))
    (hg : findIn K (.ref C) "__getattribute__" = some (some (.builtin "BaseException.__getattribute__"))) (hk : findIn K (.ref C) "__getattr__" = some none) (hd : hasDictIn K C = true) (ha : findIn K (.ref C) "__class__" = some (some (.builtin "object.__class__"))) (hm : mroIn K C (.type "object") = some true)
    (hn : specialIn K (.builtin "object.__class__") "__get__" = some (some (.builtin "getset_descriptor.__get__"))) (ht : takesIn K (.builtin "object.__class__") = some true) : ErrC K mg x C tail :=
  ⟨mg_of X G a, ex, kp, sb, ty, ⟨hg, hk, sb, hd, ha, hn, ht, hm⟩⟩
theorem kit_own {t : Value} {C : Addr} {b : Bool} (h1 : isClsIn K C = true) (h2 : typeIn K (.ref C) = some (.type "type")) (h3 : subIn K t (.ref C) = some b) (hs : subIn K (.ref C) (.ref C) = some true) : kitOne K t (.ref C) = some b := by
  have e2 : ((clsIn K C).isSome && typeIn K (.ref C) == some (.type "type")) = true := by
    have h1' : (clsIn K C).isSome = true := h1
    rw [h1', h2] <;> rfl
  unfold kitOne
  split
  · rename_i e
    have e' : t = .ref C := by simpa using e
    rw [e', hs] at h3
    exact h3
  · show (if ((clsIn K C).isSome && typeIn K (.ref C) == some (.type "type")) = true then subIn K t (.ref C) else none) = some b
    rw [if_pos e2]
    exact h3
theorem kit_ty1 {D : Addr} {T : String} {b : Bool} (hm : kitMeta T = true) (h3 : subIn K (.ref D) (.type T) = some b) : kitOne K (.ref D) (.type T) = some b := by
  unfold kitOne
  rw [if_neg (by simp)]
  show (if kitMeta T = true then subIn K (.ref D) (.type T) else none) = some b
  rw [if_pos hm]
  exact h3
theorem rs_ints {c : Cl} {H : Hp} : ∀ ns : List Int, Rs tyI c H (ns.map V.int) ns
  | [] => trivial
  | _ :: ns => ⟨rfl, rs_ints ns⟩
/-- the law's end -/
theorem law_end {H : Hp} {a : Addr} {ns : List Int} {m : List Int → Res Bool} (hm : m ns = .ok true) (hS : SqL K H a (ns.map V.int)) :
    ∃ (c : Cl) (v : V) (x : List Int), [V.ref a] = [v] ∧ Wf c H ∧ rB K tyI c H v x ∧ Kont (fun y c' H' => ∀ v, tyB.r c' H' v y → (fun (v : V) (_ : Hp) => v = .bl true) v H') (fun _ _ _ => False) [] c H (m x) := by
  refine ⟨fun _ => none, .ref a, ns, rfl, (fun _ _ _ _ e => by cases e), ⟨a, _, rfl, hS, rs_ints ns⟩, ?_⟩
  rw [hm]
  exact fun c H' st v hv => hv
end
end Kb
/-! Kb9: loops and comprehensions over whatever yields data and leaves the heap alone -/
namespace Kb
open PySem L2
structure PIt {α : Type} [DecidableEq α] (J : It) (A : Ty α) (xs : List α) (c : Cl) (H : Hp) : Prop where
  go : ∀ i, i < xs.length → J.go i H
  stop : J.stop xs.length H
  item : ∀ i x v H', xs[i]? = some x → J.yld i H v H' → H' = H ∧ A.r c H v x
section
variable {α : Type} [DecidableEq α] {A : Ty α} {c : Cl} {H : Hp} {a : Addr} {us : List V} {xs : List α} {K : PySem.W.Frag}
theorem pit_l (h : SqL K H a us) (r : Rs A c H us xs) : PIt (Itl K a) A xs c H where
  go i hi := by
    have hu : i < us.length := by rw [r.len]; exact hi
    exact ⟨us, us[i], h, List.getElem?_eq_getElem hu⟩
  stop := ⟨us, h, by rw [r.len]; exact Nat.le_refl _⟩
  item i x v H' hx hy := by
    obtain ⟨e, q⟩ := hy
    refine ⟨e, ?_⟩
    obtain ⟨u, eu, ru⟩ := r.getX hx
    have z := q us h
    rw [eu] at z
    rw [← Option.some.inj z]
    exact ru
theorem pit_t (h : SqT K H a us) (r : Rs A c H us xs) : PIt (Itt K a) A xs c H where
  go i hi := by
    have hu : i < us.length := by rw [r.len]; exact hi
    exact ⟨us, us[i], h, List.getElem?_eq_getElem hu⟩
  stop := ⟨us, h, by rw [r.len]; exact Nat.le_refl _⟩
  item i x v H' hx hy := by
    obtain ⟨e, q⟩ := hy
    refine ⟨e, ?_⟩
    obtain ⟨u, eu, ru⟩ := r.getX hx
    have z := q us h
    rw [eu] at z
    rw [← Option.some.inj z]
    exact ru
theorem pit_v (h : SqL K H a us) (r : Rs A c H us xs) : PIt (Itv K a us.length) A xs.reverse c H where
  go i hi := by
    rw [List.length_reverse, ← r.len] at hi
    exact ⟨hi, us, us[us.length - 1 - i]'(by omega), h, List.getElem?_eq_getElem (by omega)⟩
  stop := by
    rw [List.length_reverse, ← r.len]
    exact Nat.le_refl _
  item i x v H' hx hy := by
    obtain ⟨e, q⟩ := hy
    refine ⟨e, ?_⟩
    have hi : i < xs.length := by
      have z := (List.getElem?_eq_some_iff.mp hx).1
      rw [List.length_reverse] at z
      exact z
    rw [List.getElem?_reverse hi] at hx
    obtain ⟨u, eu, ru⟩ := r.getX hx
    have z := q us h
    rw [r.len, eu] at z
    rw [← Option.some.inj z]
    exact ru
theorem pit_r {lo : Int} {n : Nat} : PIt (Itr lo n) tyI (rng lo n) c H where
  go i hi := by rw [ints_len] at hi; exact hi
  stop := by rw [ints_len]; exact Nat.le_refl _
  item i x v H' hx hy := by
    obtain ⟨e, e2⟩ := hy
    refine ⟨e, ?_⟩
    have hl : i < n := by
      have z := (List.getElem?_eq_some_iff.mp hx).1
      rw [ints_len] at z
      exact z
    rw [ints_at n lo i hl] at hx
    rw [e2, ← Option.some.inj hx]
    rfl
/-- the signs of a text -/
def signs (s : Str) : List Str := s.cps.toList.map fun n => ⟨#[n]⟩
theorem pit_s {s : Str} (ok : PyData.strOk s = true) : PIt (Its s) tyS (signs s) c H where
  go i hi := by
    unfold signs at hi
    rw [List.length_map, Array.length_toList] at hi
    exact hi
  stop := by
    unfold signs
    rw [List.length_map, Array.length_toList]
    exact Nat.le_refl _
  item i x v H' hx hy := by
    obtain ⟨e, n, hn, e2⟩ := hy
    refine ⟨e, ?_⟩
    unfold signs at hx
    rw [List.getElem?_map, Array.getElem?_toList, hn] at hx
    have ex : (⟨#[n]⟩ : Str) = x := Option.some.inj hx
    rw [e2, ex]
    refine ⟨rfl, ?_⟩
    rw [← ex]
    unfold PyData.strOk at *
    rw [Array.all_eq_true] at ok
    obtain ⟨hi, ei⟩ := Array.getElem?_eq_some_iff.mp hn
    have z := ok i hi
    rw [ei] at z
    simpa using z
end
section
variable {β τ α : Type} [DecidableEq α] {A : Ty α} {P : β → Cl → Hp → Prop} {PE : Err → Cl → Hp → Prop} {S : List Addr} {c0 c : Cl} {H0 H : Hp} {σ : L2.St} {g : TG} {tb : TS} {D : Ends} {xs : List α} {s0 : τ} {J : It}
theorem for_p {f : τ → α → Res τ} {rest : τ → Res β} (k : Kont P PE S c0 H0 ((forN xs s0 f).bind rest)) (I : τ → Cl → Hp → L2.St → Prop) (h0 : I s0 c H σ) (hl : ∀ s c H σ, I s c H σ → PIt J A xs c H)
    (hb : ∀ s x v c H σ (N : L2.St → Hp → Prop), I s c H σ → A.r c H v x → Kont (fun s' c' H' => ∀ σ', I s' c' H' σ' → N σ' H') PE S c0 H0 (f s x) → g v σ H fun σ2 H2 => tb { D with nx := N, ct := N, bk := D.nx } σ2 H2)
    (hd : ∀ s c H σ, I s c H σ → Kont P PE S c0 H0 (rest s) → D.nx σ H) :
    ∃ W : Nat → Nat → L2.St → Hp → Prop, (∃ m, W 0 m σ H) ∧ ∀ i m σ H, W i m σ H →
      (J.stop i H ∧ D.nx σ H) ∨ (J.go i H ∧ ∃ N : L2.St → Hp → Prop, (∀ σ' H', N σ' H' → ∃ m', m' < m ∧ W (i + 1) m' σ' H') ∧ ∀ x H', J.yld i H x H' → g x σ H' fun σ2 H2 => tb { D with nx := N, ct := N, bk := D.nx } σ2 H2) := by
  refine ⟨fun i m σ H => m = xs.length - i ∧ i ≤ xs.length ∧ ∃ s c, I s c H σ ∧ Kont P PE S c0 H0 ((forN (xs.drop i) s f).bind rest), ⟨xs.length, by simp, Nat.zero_le _, s0, c, h0, k⟩, ?_⟩
  rintro i m σ1 H1 ⟨rfl, hi, s, c1, h, k1⟩
  have p := hl s c1 H1 σ1 h
  by_cases hlt : i < xs.length
  · have hx : xs[i]? = some xs[i] := List.getElem?_eq_getElem hlt
    rw [drop_at hx, forN_cons, bind_assoc] at k1
    refine .inr ⟨p.go i hlt, fun σ' H' => ∃ s c, I s c H' σ' ∧ Kont P PE S c0 H0 ((forN (xs.drop (i + 1)) s f).bind rest), fun σ' H' q => ⟨xs.length - (i + 1), by omega, rfl, hlt, q⟩, fun v H' hy => ?_⟩
    obtain ⟨e, r⟩ := p.item i _ v H' hx hy
    subst e
    exact hb s _ v c1 _ σ1 _ h r (k1.turn.imp (fun s' c' H' st q σ' h' => ⟨s', c', h', q⟩) fun _ _ _ _ q => q)
  · have e : i = xs.length := by omega
    subst e
    rw [List.drop_length] at k1
    exact .inl ⟨p.stop, hd s c1 H1 σ1 h k1⟩
theorem for_pr {ρ : Type} {f : τ → α → Res (Ctl τ ρ)} {rest : Ctl τ ρ → Res β} {Rr : Cl → Hp → V → ρ → Prop} (k : Kont P PE S c0 H0 ((forR xs s0 f).bind rest)) (I : τ → Cl → Hp → L2.St → Prop) (h0 : I s0 c H σ) (hl : ∀ s c H σ, I s c H σ → PIt J A xs c H)
    (hb : ∀ s x v c H σ (N : L2.St → Hp → Prop), I s c H σ → A.r c H v x → Kont (fun y c' H' => match y with | .nx s' => ∀ σ', I s' c' H' σ' → N σ' H' | .ret r => ∀ v, Rr c' H' v r → D.rt v H') PE S c0 H0 (f s x) → g v σ H fun σ2 H2 => tb { D with nx := N, ct := N, bk := D.nx } σ2 H2)
    (hr : ∀ r, Kont P PE S c0 H0 (rest (.ret r)) → ∀ c H, Step S c0 H0 c H → ∀ v, Rr c H v r → D.rt v H)
    (hd : ∀ s c H σ, I s c H σ → Kont P PE S c0 H0 (rest (.nx s)) → D.nx σ H) :
    ∃ W : Nat → Nat → L2.St → Hp → Prop, (∃ m, W 0 m σ H) ∧ ∀ i m σ H, W i m σ H →
      (J.stop i H ∧ D.nx σ H) ∨ (J.go i H ∧ ∃ N : L2.St → Hp → Prop, (∀ σ' H', N σ' H' → ∃ m', m' < m ∧ W (i + 1) m' σ' H') ∧ ∀ x H', J.yld i H x H' → g x σ H' fun σ2 H2 => tb { D with nx := N, ct := N, bk := D.nx } σ2 H2) := by
  refine ⟨fun i m σ H => m = xs.length - i ∧ i ≤ xs.length ∧ ∃ s c, I s c H σ ∧ Kont P PE S c0 H0 ((forR (xs.drop i) s f).bind rest), ⟨xs.length, by simp, Nat.zero_le _, s0, c, h0, k⟩, ?_⟩
  rintro i m σ1 H1 ⟨rfl, hi, s, c1, h, k1⟩
  have p := hl s c1 H1 σ1 h
  by_cases hlt : i < xs.length
  · have hx : xs[i]? = some xs[i] := List.getElem?_eq_getElem hlt
    rw [drop_at hx, forR_cons, bind_assoc] at k1
    refine .inr ⟨p.go i hlt, fun σ' H' => ∃ s c, I s c H' σ' ∧ Kont P PE S c0 H0 ((forR (xs.drop (i + 1)) s f).bind rest), fun σ' H' q => ⟨xs.length - (i + 1), by omega, rfl, hlt, q⟩, fun v H' hy => ?_⟩
    obtain ⟨e, r⟩ := p.item i _ v H' hx hy
    subst e
    refine hb s _ v c1 _ σ1 _ h r (k1.turn.imp (fun y c' H' st q => ?_) fun _ _ _ _ q => q)
    cases y with
    | nx s' => exact fun σ' h' => ⟨s', c', h', q⟩
    | ret r' => exact fun v hv => hr r' q c' H' st v hv
  · have e : i = xs.length := by omega
    subst e
    rw [List.drop_length] at k1
    exact .inl ⟨p.stop, hd s c1 H1 σ1 h k1⟩
end
/-! #### comprehensions -/
section
variable {γ β α : Type} [DecidableEq α] [DecidableEq β] {A : Ty α} {B : Ty β} {P : γ → Cl → Hp → Prop} {PE : Err → Cl → Hp → Prop} {S : List Addr} {c0 c : Cl} {H0 H : Hp} {σ : L2.St} {g : TG} {tt : TT} {te : TE} {xs : List α} {J : It}
def LcK (g : TG) (tt : TT) (te : TE) (vs : List Nat) (σ : L2.St) (Q : VK) : It → Hp → Prop := fun J H1 => ∀ D, H1 D = none → ∃ W : Nat → Nat → Hp → Prop, (∃ m, W 0 m (upd H1 D (.lst []))) ∧ ∀ i m H, W i m H →
  (J.stop i H ∧ Q (.ref D) H) ∨ (J.go i H ∧ ∃ Nx : Hp → Prop, (∀ H', Nx H' → ∃ m', m' < m ∧ W (i + 1) m' H') ∧ ∀ x H', J.yld i H x H' → g x (wipe σ vs) H' fun σ2 H2 => wipe σ2 vs = wipe σ vs ∧ tt σ2 H2 fun b H3 =>
    if b = true then te σ2 H3 fun y H4 => ∃ acc, H4 D = some (.lst acc) ∧ acc.length < sizeLine ∧ Nx (upd H4 D (.lst (acc ++ [y]))) else Nx H3)
theorem lc_u {wi : TI} {vs : List Nat} {Q : VK} (h : wi σ H (LcK g tt te vs σ Q)) : tLc wi g tt te vs σ H Q := h
theorem comp_p {f : α → Res β} {rest : List β → Res γ} {vs : List Nat} {Q : VK} (k : Kont P PE S c0 H0 ((compN xs f).bind rest)) (gs : Step S c0 H0 c H) (hl : xs.length ≤ sizeLine)
    (hp : ∀ ci Hi, Step [] c H ci Hi → PIt J A xs ci Hi)
    (hb : ∀ x v ci Hi (Qe : VK) (Qn : Hp → Prop), Step [] c H ci Hi → Step S c0 H0 ci Hi → A.r ci Hi v x → Kont (fun y c' H' => Step [] ci Hi c' H' → ∀ u, B.r c' H' u y → Qe u H') (fun _ _ _ => False) S c0 H0 (f x) → g v (wipe σ vs) Hi fun σ2 H2 => wipe σ2 vs = wipe σ vs ∧ tYes σ2 H2 fun b H3 => if b = true then te σ2 H3 Qe else Qn H3)
    (hd : ∀ ys p us' c' H', H p = none → Step [] c H c' H' → Own B H0 c' H' p us' ys → Kont P PE S c0 H0 (rest ys) → Q (.ref p) H') : LcK g tYes te vs σ Q J H := by
  intro d nd
  have n0 : H0 d = none := gs.fresh nd
  refine ⟨fun i m Hi => m = xs.length - i ∧ i ≤ xs.length ∧ ∃ ci zs ys, Acc B H0 c H ci Hi d zs ys ∧ ys.length = i ∧ Kont P PE S c0 H0 ((compN (xs.drop i) f).bind fun r => rest (ys ++ r)), ⟨xs.length, by simp, Nat.zero_le _, _, [], [], Acc.start gs.wf nd n0, rfl, k⟩, ?_⟩
  rintro i m Hi ⟨rfl, hi, ci, zs, ys, ac, el, k1⟩
  have p := hp ci Hi ac.st
  by_cases hlt : i < xs.length
  · have hx : xs[i]? = some xs[i] := List.getElem?_eq_getElem hlt
    rw [drop_at hx, compN_cons, bind_assoc] at k1
    refine .inr ⟨p.go i hlt, fun Hi => ∃ ci zs ys, Acc B H0 c H ci Hi d zs ys ∧ ys.length = i + 1 ∧ Kont P PE S c0 H0 ((compN (xs.drop (i + 1)) f).bind fun r => rest (ys ++ r)), fun H' q => ⟨xs.length - (i + 1), by omega, rfl, hlt, q⟩, fun v H' hy => ?_⟩
    obtain ⟨e, rx⟩ := p.item i _ v H' hx hy
    subst e
    refine hb _ v ci _ _ _ ac.st (gs.tr0 ac.st) rx (k1.turn.nx.imp (fun y c' H' _ q st u ru => ?_) fun e cc HH _ q => q)
    have ac' := ac.push nd st ru
    refine ⟨zs, (ac.own.step0 st).obj, by rw [ac.own.rs.len]; omega, c', _, _, ac', by rw [List.length_append, el]; rfl, ?_⟩
    rw [bind_assoc] at q
    rw [show (fun r => rest (ys ++ [y] ++ r)) = fun r => rest (ys ++ (y :: r)) from by funext r; rw [List.append_assoc]; rfl]
    exact q
  · have e : i = xs.length := by omega
    subst e
    rw [List.drop_length] at k1
    have k2 : Kont P PE S c0 H0 (rest (ys ++ [])) := k1
    rw [List.append_nil] at k2
    exact .inl ⟨p.stop, hd ys d zs ci Hi nd ac.st ac.own k2⟩
theorem compF_cons {x : α} {xs : List α} {f : α → Res (Option β)} : compF (x :: xs) f = (nx (f x)).bind fun y => (compF xs f).bind fun ys => .ok (match y with | some z => z :: ys | none => ys) := rfl
/-- with a test: the item's value, or none -/
theorem comp_f {f : α → Res (Option β)} {rest : List β → Res γ} {vs : List Nat} {Q : VK} (k : Kont P PE S c0 H0 ((compF xs f).bind rest)) (gs : Step S c0 H0 c H) (hl : xs.length ≤ sizeLine)
    (hp : ∀ ci Hi, Step [] c H ci Hi → PIt J A xs ci Hi)
    (hb : ∀ x v ci Hi (Qe : VK) (Qn : Hp → Prop), Step [] c H ci Hi → Step S c0 H0 ci Hi → A.r ci Hi v x → Kont (fun y c' H' => match y with | some y => Step [] ci Hi c' H' → ∀ u, B.r c' H' u y → Qe u H' | none => Step [] ci Hi c' H' → Qn H') (fun _ _ _ => False) S c0 H0 (f x) → g v (wipe σ vs) Hi fun σ2 H2 => wipe σ2 vs = wipe σ vs ∧ tt σ2 H2 fun b H3 => if b = true then te σ2 H3 Qe else Qn H3)
    (hd : ∀ ys p us' c' H', H p = none → Step [] c H c' H' → Own B H0 c' H' p us' ys → Kont P PE S c0 H0 (rest ys) → Q (.ref p) H') : LcK g tt te vs σ Q J H := by
  intro d nd
  have n0 : H0 d = none := gs.fresh nd
  refine ⟨fun i m Hi => m = xs.length - i ∧ i ≤ xs.length ∧ ∃ ci zs ys, Acc B H0 c H ci Hi d zs ys ∧ ys.length ≤ i ∧ Kont P PE S c0 H0 ((compF (xs.drop i) f).bind fun r => rest (ys ++ r)), ⟨xs.length, by simp, Nat.zero_le _, _, [], [], Acc.start gs.wf nd n0, Nat.le_refl _, k⟩, ?_⟩
  rintro i m Hi ⟨rfl, hi, ci, zs, ys, ac, el, k1⟩
  have p := hp ci Hi ac.st
  by_cases hlt : i < xs.length
  · have hx : xs[i]? = some xs[i] := List.getElem?_eq_getElem hlt
    rw [drop_at hx, compF_cons, bind_assoc] at k1
    refine .inr ⟨p.go i hlt, fun Hi => ∃ ci zs ys, Acc B H0 c H ci Hi d zs ys ∧ ys.length ≤ i + 1 ∧ Kont P PE S c0 H0 ((compF (xs.drop (i + 1)) f).bind fun r => rest (ys ++ r)), fun H' q => ⟨xs.length - (i + 1), by omega, rfl, hlt, q⟩, fun v H' hy => ?_⟩
    obtain ⟨e, rx⟩ := p.item i _ v H' hx hy
    subst e
    refine hb _ v ci _ _ _ ac.st (gs.tr0 ac.st) rx (k1.turn.nx.imp (fun y c' H' _ q => ?_) fun e cc HH _ q => q)
    rw [bind_assoc] at q
    cases y with
    | some y =>
      refine fun st u ru => ?_
      have ac' := ac.push nd st ru
      refine ⟨zs, (ac.own.step0 st).obj, by rw [ac.own.rs.len]; omega, c', _, _, ac', by rw [List.length_append, List.length_singleton]; omega, ?_⟩
      rw [show (fun r => rest (ys ++ [y] ++ r)) = fun r => rest (ys ++ (y :: r)) from by funext r; rw [List.append_assoc]; rfl]
      exact q
    | none =>
      exact fun st => ⟨c', zs, ys, ⟨ac.st.tr0 st, ac.own.step0 st⟩, by omega, q⟩
  · have e : i = xs.length := by omega
    subst e
    rw [List.drop_length] at k1
    have k2 : Kont P PE S c0 H0 (rest (ys ++ [])) := k1
    rw [List.append_nil] at k2
    exact .inl ⟨p.stop, hd ys d zs ci Hi nd ac.st ac.own k2⟩
end
/-! #### what walks -/
section
variable {σ : L2.St} {H : Hp} {a : Addr} {us : List V} {K : PySem.W.Frag} {R : It → Hp → Prop}
def SIt (R : It → Hp → Prop) (v : V) (H1 : Hp) : Prop := ∃ x, v = .str x ∧ R (Its x) H1
theorem istr_u {te : TE} (h : te σ H (SIt R)) : iStr te σ H R := h
theorem istr_e {s : Str} (q : R (Its s) H) : SIt R (.str s) H := ⟨s, rfl, q⟩
def VIt (K : PySem.W.Frag) (R : It → Hp → Prop) (vs : List V) (H1 : Hp) : Prop := ∃ (a : Addr) (xs : List V), vs = [.ref a] ∧ SqL K H1 a xs ∧ R (Itv K a xs.length) H1
theorem irev_u {ta : TA} (h : ta σ H (VIt K R)) : iRev K ta σ H R := h
theorem irev_e (hs : SqL K H a us) (q : R (Itv K a us.length) H) : VIt K R [.ref a] H := ⟨a, us, rfl, hs, q⟩
def TIt (K : PySem.W.Frag) (R : It → Hp → Prop) (x : V) (H1 : Hp) : Prop := ∃ a, x = .ref a ∧ (∃ xs, SqT K H1 a xs) ∧ R (Itt K a) H1
theorem itup_u {tl : TE} (h : tl σ H (TIt K R)) : iTup K tl σ H R := h
theorem itup_e (hr : SqT K H a us) (q : R (Itt K a) H) : TIt K R (V.ref a) H := ⟨a, rfl, ⟨us, hr⟩, q⟩
end
/-! #### sum, slices of texts -/
section
variable {σ : L2.St} {H : Hp} {c : Cl} {K : PySem.W.Frag} {v : V} {ns : List Int}
theorem ints_of : ∀ {us : List V} {ns : List Int}, Rs tyI c H us ns → us = ns.map V.int
  | [], [], _ => rfl
  | u :: us, n :: ns, h => by
    have e : u = V.int n := h.1
    rw [e, ints_of h.2]
    rfl
  | [], _ :: _, h => h.elim
  | _ :: _, [], h => h.elim
theorem sl_s {te : TE} {tl th : TO} {s : Str} {lo hi : Option Int} (h : Pv te σ H (.str s)) (h1 : PvO tl σ H lo) (h2 : PvO th σ H hi) (hs : s.length ≤ sizeLine) : Pv (tSl rSlS te tl th) σ H (.str (cutS s lo hi)) := fun _ q => h _ (h1 _ (h2 _ ⟨s, rfl, hs, q⟩))
theorem ok_cut {s : Str} {lo hi : Option Int} (h : PyData.strOk s = true) : PyData.strOk (cutS s lo hi) = true := by
  unfold PyData.strOk cutS at *
  rw [Array.all_eq_true] at *
  intro i hi
  simp only [List.size_toArray, List.length_take, List.length_drop, Array.length_toList] at hi
  simp only [List.getElem_toArray, List.getElem_take, List.getElem_drop, Array.getElem_toList]
  exact h _ _
end
end Kb
/-! Kb10: list(reversed(xs)) -/
namespace Kb
open PySem L2 PySem.Spec PyProof.Rows RT
section
variable {prog : Program} {w : World} {A : Around} {E : Value → Shared → Prop} {s : Shared}
theorem ext_rev {S it l : Addr} {items : Array Value} {R : Result → Shared → Prop} {c₀ : Nat} {res : Value} (hh : A.handled = none) (hit : s.heap.IsRevIter it l ((items.size : Int) - 1)) (hl : s.heap.IsList l items) (hne : l ≠ it) (hn : items.size ≤ sizeLine) (hSi : S ≠ it) (hSl : S ≠ l)
    (hS : s.heap.get? S = some { cls := .type "list", data := .seq #[] c₀ })
    (hR : ∀ s' acc' c', Moved (S :: [it]) (fun a b => b = a) s s' → s'.heap.get? S = some { cls := .type "list", dict := none, data := .seq acc' c', slots := #[] } → ItemsOf (fun i v => items[items.size - 1 - i]? = some v) acc' items.size → R (.ok (.ret res)) s') :
    wpAny (model prog w) A.in1 (Builtin.List.listExtendWith (.ref S) (.ref it) res)
      (fun fin s' => match fin with | .done f => R (.ok f) s' | .again c' => c'.quiet = true ∧ codeAny (model prog w) A c' R s') (fun e s' => R (.error e) s') s := by
  have W := (Walks.listRev (prog := prog) (w := w) (A := A.in1) hh it l hne items).toS
  have hSf : S ∉ [it, l] := by simp only [List.mem_cons, List.not_mem_nil, or_false, not_or]; exact ⟨hSi, hSl⟩
  have hT : s.TypeIs (.ref it) "list_reverseiterator" := Heap.IsRevIter.typeIs hit
  unfold Builtin.List.listExtendWith
  refine wpAny_bind (wpAny_typeOf hT ?_)
  rw [if_neg (by rw [show Builtin.List.listSameRef (.ref S) (.ref it) = false from by simp [Builtin.List.listSameRef, hSi]]; decide)]
  refine wpAny_bind (wpAny_pyIter_revIter hit ?_)
  refine wpAny_bind (wpAny_holding ?_)
  unfold Builtin.List.listLengthHint
  refine wpAny_bind (wpAny_specialOf hT nolen_lri ?_)
  refine wpAny_bind (wpAny_specialOf hT hint_lri ?_)
  generalize hid : ("list_reverseiterator.__length_hint__" : String) = id0
  wp_delta
  rw [show splitId id0 = some ("list_reverseiterator", "__length_hint__") from by subst hid; decide +kernel]
  subst hid
  refine wpAny_bind (wpAny_isInstance (b := true) hT (by rw [isSubtype_type]; kernel_rfl) ?_)
  refine wpAny_pure ?_
  rw [if_neg (by decide)]
  have e0 : ((items.size : Nat) : Int) - 1 - ((0 : Nat) : Int) = (items.size : Int) - 1 := by omega
  exact wpAny_pure ⟨plainId_quiet F.plain_extend_loop _, codeAny_extend_loopS W hn _ hSf _ items.size 0 _ _ _ rfl (Nat.zero_le _) ⟨Nat.zero_le _, by rw [e0]; exact hit, hl⟩ hS (ItemsOf.nil _) fun s' acc' c' hm hS' hacc => hR s' acc' c' hm hS' hacc⟩
theorem init_rev {S it l : Addr} {items : Array Value} {R : Result → Shared → Prop} (hh : A.handled = none) (hit : s.heap.IsRevIter it l ((items.size : Int) - 1)) (hl : s.heap.IsList l items) (hne : l ≠ it) (hn : items.size ≤ sizeLine) (hSi : S ≠ it) (hSl : S ≠ l)
    (hS : s.heap.get? S = some { cls := .type "list", data := .seq #[] })
    (hR : ∀ (h' : Heap) (tk : Nat) acc' c', (∀ b o, b ≠ S → b ≠ it → s.heap.get? b = some o → h'.get? b = some o) → h'.get? S = some { cls := .type "list", dict := none, data := .seq acc' c', slots := #[] } → ItemsOf (fun i v => items[items.size - 1 - i]? = some v) acc' items.size → R (.ok (.ret .none)) { s with heap := h', toks := tk }) :
    wpAny (model prog w) A.in1 (Builtin.«list.__init__» ⟨[.ref S, .ref it], []⟩)
      (fun fin s' => match fin with | .done f => R (.ok f) s' | .again c' => c'.quiet = true ∧ codeAny (model prog w) A c' R s') (fun e s' => R (.error e) s') s := by
  show wpAny _ A.in1 (Builtin.List.listItems (.ref S) >>= fun old => Builtin.List.listUpdate (.ref S) (fun _ => #[]) >>= fun _ => letGo old.toList.reverse >>= fun _ => Builtin.List.listExtendWith (.ref S) (.ref it) .none) _ _ s
  refine wpAny_bind ?_
  unfold Builtin.List.listItems
  refine wpAny_bind (wpAny_seqItems hS rfl (wpAny_pure ?_))
  show wpAny _ A.in1 (updateSeq S (fun _ => #[]) >>= fun _ => letGo (#[] : Array Value).toList.reverse >>= fun _ => Builtin.List.listExtendWith (.ref S) (.ref it) .none) _ _ s
  refine wpAny_bind (wpAny_updateSeq hS rfl (wpAny_bind (wpAny_letGo ?_)))
  have hS2 := Heap.get?_update_self (Obj.mapSeq (fun _ => (#[] : Array Value))) hS rfl
  have oth : ∀ b o, b ≠ S → s.heap.get? b = some o → (s.heap.update S (Obj.mapSeq (fun _ => (#[] : Array Value)))).get? b = some o := fun b o hb e => (Heap.get?_update_other _ _ (Ne.symm hb)).trans e
  refine ext_rev hh (hit.at fun o e => oth it o (Ne.symm hSi) e) ?_ hne hn hSi hSl hS2 fun s' acc' c' hm hS' hacc => ?_
  · obtain ⟨o, h1, h2⟩ := hl
    exact ⟨o, oth l o (Ne.symm hSl) h1, h2⟩
  · rw [Moved.eq_with hm]
    exact hR s'.heap s'.toks acc' c' (fun b o hb hi e => hm.heap b o (by simp [hb, hi]) (oth b o hb e)) hS' hacc
theorem call_list_rev {it l : Addr} {items : Array Value} {Q : Value → Shared → Prop} (hh : A.handled = none) (hit : s.heap.IsRevIter it l ((items.size : Int) - 1)) (hl : s.heap.IsList l items) (hne : l ≠ it) (hn : items.size ≤ sizeLine)
    (hQ : ∀ (h' : Heap) (tk : Nat) (acc : Array Value) (c' : Nat), (∀ b o, b ≠ it → s.heap.get? b = some o → h'.get? b = some o) → h'.get? s.heap.objs.size = some { cls := .type "list", dict := none, data := .seq acc c', slots := #[] } → ItemsOf (fun i v => items[items.size - 1 - i]? = some v) acc items.size →
      Q (.ref s.heap.objs.size) { s with heap := h', toks := tk }) : wpAny (model prog w) A (call (.type "list") [.ref it]) Q E s := by
  obtain ⟨oi, hoi, _⟩ := id hit
  obtain ⟨ol, hol, _⟩ := id hl
  refine callType_codes (Q₁ := fun obj s1 => obj = .ref s.heap.objs.size ∧ s1 = { s with heap := s.heap.push { cls := .type "list", data := .seq #[] } }) F.called_list (F.typeCall_list_1 _) F.entry_list_init (code_list_new _ ⟨rfl, rfl⟩) fun obj s1 h1 => ?_
  obtain ⟨rfl, rfl⟩ := h1
  have hS : (s.heap.push { cls := .type "list", data := .seq #[] }).get? s.heap.objs.size = some { cls := .type "list", data := .seq #[] } := Heap.get?_push_size _ rfl
  refine ⟨⟨_, hS, rfl⟩, F.args_list_init_2 _ _, init_rev (s := { s with heap := s.heap.push { cls := .type "list", data := .seq #[] } }) hh (hit.at fun o e => Heap.get?_push_of_some _ e) (hl.push _) hne hn (Nat.ne_of_gt (Heap.lt_size hoi)) (Nat.ne_of_gt (Heap.lt_size hol)) hS fun h' tk acc' c' hk hS' hacc => ?_⟩
  exact ⟨rfl, hQ h' tk acc' c' (fun b o hb e => hk b o (Nat.ne_of_lt (Heap.lt_size e)) hb (Heap.get?_push_of_some _ e)) hS' hacc⟩
end
/-- list(reversed(e)) -/
def tListRev (K : PySem.W.Frag) (te : TE) : TE := fun σ H Q => te σ H fun v H1 => ∃ a xs, v = .ref a ∧ SqL K H1 a xs ∧ ∀ p, H1 p = none → Q (.ref p) (upd H1 p (.lst xs.reverse))
theorem vals_rev' {xs : List V} {its : List Value} {acc : Array Value} (r : Vals xs its) (h : ItemsOf (fun i v => its.toArray[its.toArray.size - 1 - i]? = some v) acc its.toArray.size) : Vals xs.reverse acc.toList := RT.vals_rev r h
section
variable {X : Cx}
theorem pe_listRev {e : Expr} {te : TE} {p p2 pos pos2 : Pos} (hc : X.calm = true) (hg : Gl X "list") (hm : X.mg "list" = none) (hg2 : Gl X "reversed") (hm2 : X.mg "reversed" = none) (he : PE X e te)
    (hs : starEach [e] X.env = (false, eval e X.env) :: starEach [] X.env := by rfl)
    (hs2 : starEach [.Call (.Name "reversed" p2) [e] [] pos2] X.env = (false, eval (.Call (.Name "reversed" p2) [e] [] pos2) X.env) :: starEach [] X.env := by rfl) :
    PE X (.Call (.Name "list" p) [.Call (.Name "reversed" p2) [e] [] pos2] [] pos) (tListRev X.K te) := by
  refine ⟨fun pins s σ H Q I h => ?_⟩
  refine Call_ (ld_blt I hg hm boot_list (PyProof.Rows.callWith_type1 (args_cons (Call_ (ld_blt I hg2 hm2 PyProof.Rows.boot_reversed (PyProof.Rows.callWith_type1 (args_cons (thn (he.run pins s σ H _ I h) fun u s1 ⟨v, H1, I1, r1, q1⟩ => args_nil ?_) hs) hs rfl))) hs2) hs2 rfl))
  obtain ⟨a, xs, ev, hq, q⟩ := q1
  subst ev
  obtain rfl : u = Value.ref a := r1
  obtain ⟨its, rv, p', hz⟩ := I1.list hq
  refine call_reversed_list p'.isList (args_nil ?_)
  have hl := p'.isList
  obtain ⟨ol, hol, _⟩ := id hl
  have hne : a ≠ s1.heap.objs.size := Nat.ne_of_lt (Heap.lt_size hol)
  have hn : its.toArray.size ≤ sizeLine := by rw [List.size_toArray, ← rv.length]; exact hz
  refine call_list_rev (s := { s1 with heap := s1.heap.push (revObj a ((its.toArray.size : Int) - 1)) }) (I1.ok.hd hc) ⟨_, Heap.get?_push_size _ rfl, rfl, rfl⟩ (hl.push _) hne hn fun h' tk acc c' hk hS hi => ?_
  have sz : (s1.heap.push (revObj a ((its.toArray.size : Int) - 1))).objs.size = s1.heap.objs.size + 1 := by simp [Heap.push]
  have hT : s1.heap.objs.size ≤ (s1.heap.push (revObj a ((its.toArray.size : Int) - 1))).objs.size := by rw [sz]; exact Nat.le_succ _
  have hnT := I1.hok.fresh hT
  have la : acc.toList.length = xs.length := by
    rw [Array.length_toList, hi.1, List.size_toArray, ← rv.length]
  have rvv := vals_rev' rv hi
  refine ⟨V.ref (s1.heap.push (revObj a ((its.toArray.size : Int) - 1))).objs.size, upd H1 _ (.lst xs.reverse), I1.turnedNew (ch := [s1.heap.objs.size]) (T := (s1.heap.push (revObj a ((its.toArray.size : Int) - 1))).objs.size) (fun b o hb e => hk b o (fun z => hb (by rw [z]; exact List.mem_singleton.mpr rfl)) (Heap.get?_push_of_some _ e)) (fun b hb => by
    rw [List.mem_singleton.mp hb]
    exact I1.fpOk (Nat.le_refl _) (I1.hok.fresh (Nat.le_refl _))) hT ⟨by rw [List.length_reverse]; exact hz, acc.toList, c', rvv, by rw [Array.toArray_toList]; exact hS⟩, rfl, q _ hnT⟩
end
end Kb
/-! Kb11: values of and/or with calls; comprehensions on their own base; while; sums; tuples walked -/
namespace Kb
open PySem L2
section
variable {β : Type} {P : β → Cl → Hp → Prop} {PE : Err → Cl → Hp → Prop} {S : List Addr} {c0 : Cl} {H0 : Hp}
theorem Kont.rebase {m : Res β} {ci : Cl} {Hi : Hp} (k : Kont P PE S c0 H0 m) (g : Step S c0 H0 ci Hi) : Kont P PE [] ci Hi m := by
  cases m with
  | ok y => exact fun c H st => k c H (g.tr0 st)
  | err e => exact fun c H st => k c H (g.tr0 st)
  | stk => exact k.elim
end
section
variable {γ β α : Type} [DecidableEq α] [DecidableEq β] {A : Ty α} {B : Ty β} {P : γ → Cl → Hp → Prop} {PE : Err → Cl → Hp → Prop} {S : List Addr} {c0 c : Cl} {H0 H : Hp} {σ : L2.St} {g : TG} {tt : TT} {te : TE} {xs : List α} {J : It}
theorem comp_pB {f : α → Res β} {rest : List β → Res γ} {vs : List Nat} {Q : VK} (k : Kont P PE S c0 H0 ((compN xs f).bind rest)) (gs : Step S c0 H0 c H) (hl : decide (xs.length ≤ sizeLine) = true)
    (hp : ∀ ci Hi, Step [] c H ci Hi → PIt J A xs ci Hi)
    (hb : ∀ x v ci Hi (Qe : VK) (Qn : Hp → Prop), Step [] c H ci Hi → Step S c0 H0 ci Hi → A.r ci Hi v x → Kont (fun y c' H' => ∀ u, B.r c' H' u y → Qe u H') (fun _ _ _ => False) [] ci Hi (f x) → g v (wipe σ vs) Hi fun σ2 H2 => wipe σ2 vs = wipe σ vs ∧ tYes σ2 H2 fun b H3 => if b = true then te σ2 H3 Qe else Qn H3)
    (hd : ∀ ys p us' c' H', H p = none → Step [] c H c' H' → Own B H0 c' H' p us' ys → Kont P PE S c0 H0 (rest ys) → Q (.ref p) H') : LcK g tYes te vs σ Q J H :=
  comp_p k gs (of_decide_eq_true hl) hp (fun x v ci Hi Qe Qn st gi r k => hb x v ci Hi Qe Qn st gi r ((k.rebase gi).imp (fun y c' H' s q => q s) fun _ _ _ _ q => q)) hd
theorem comp_fB {f : α → Res (Option β)} {rest : List β → Res γ} {vs : List Nat} {Q : VK} (k : Kont P PE S c0 H0 ((compF xs f).bind rest)) (gs : Step S c0 H0 c H) (hl : decide (xs.length ≤ sizeLine) = true)
    (hp : ∀ ci Hi, Step [] c H ci Hi → PIt J A xs ci Hi)
    (hb : ∀ x v ci Hi (Qe : VK) (Qn : Hp → Prop), Step [] c H ci Hi → Step S c0 H0 ci Hi → A.r ci Hi v x → Kont (fun y c' H' => (match y with | some y => ∀ u, B.r c' H' u y → Qe u H' | none => Qn H')) (fun _ _ _ => False) [] ci Hi (f x) → g v (wipe σ vs) Hi fun σ2 H2 => wipe σ2 vs = wipe σ vs ∧ tt σ2 H2 fun b H3 => if b = true then te σ2 H3 Qe else Qn H3)
    (hd : ∀ ys p us' c' H', H p = none → Step [] c H c' H' → Own B H0 c' H' p us' ys → Kont P PE S c0 H0 (rest ys) → Q (.ref p) H') : LcK g tt te vs σ Q J H :=
  comp_f k gs (of_decide_eq_true hl) hp (fun x v ci Hi Qe Qn st gi r k => hb x v ci Hi Qe Qn st gi r ((k.rebase gi).imp (fun y c' H' s q => by
    cases y with
    | some y => exact q s
    | none => exact q s) fun _ _ _ _ q => q)) hd
end
section
variable {β τ : Type} {P : β → Cl → Hp → Prop} {PE : Err → Cl → Hp → Prop} {S : List Addr} {c0 c : Cl} {H0 H : Hp} {σ : L2.St} {tb : TS} {D : Ends} {s0 : τ}
theorem while_m {tc : TT} {fuel : Nat} {t : τ → Res Bool} {f : τ → Res τ} {rest : τ → Res β} (k : Kont P PE S c0 H0 ((whileN fuel s0 t f).bind rest)) (I : τ → Cl → Hp → L2.St → Prop) (h0 : I s0 c H σ)
    (hb : ∀ n s c H σ (M : L2.St → Hp → Prop), I s c H σ → (∀ s' c' H' σ', I s' c' H' σ' → Kont P PE S c0 H0 ((whileN n s' t f).bind rest) → M σ' H') → Kont P PE S c0 H0 ((t s).bind fun b => br b ((f s).bind fun s' => (whileN n s' t f).bind rest) (rest s)) →
      tc σ H fun b H1 => if b = true then ∃ N : L2.St → Hp → Prop, (∀ σ' H', N σ' H' → M σ' H') ∧ tb { D with nx := N, ct := N, bk := D.nx } σ H1 else D.nx σ H1) : tWhile tc tb D σ H := by
  refine ⟨fun m σ H => WhI P PE S c0 H0 I t f rest m σ H, ⟨fuel, s0, c, h0, k⟩, ?_⟩
  rintro m σ1 H1 ⟨s, c1, h, k1⟩
  cases m with
  | zero => exact k1.elim
  | succ n =>
    have k2 : Kont P PE S c0 H0 ((t s).bind fun b => br b ((f s).bind fun s' => (whileN n s' t f).bind rest) (rest s)) := by
      have e : ((whileN (n + 1) s t f).bind rest) = ((t s).bind fun b => br b ((f s).bind fun s' => (whileN n s' t f).bind rest) (rest s)) := by
        show (((t s).bind fun b => br b ((f s).bind fun s' => whileN n s' t f) (.ok s)).bind rest) = _
        rw [bind_assoc]
        congr 1
        funext b
        cases b with
        | true => show (((f s).bind fun s' => whileN n s' t f).bind rest) = ((f s).bind fun s' => (whileN n s' t f).bind rest); rw [bind_assoc]
        | false => rfl
      rw [← e]
      exact k1
    exact hb n s c1 H1 σ1 (fun σ' H' => ∃ m', m' < n + 1 ∧ WhI P PE S c0 H0 I t f rest m' σ' H') h (fun s' c' H' σ' h' k' => ⟨n, Nat.lt_succ_self _, s', c', h', k'⟩) k2
end
section
variable {α : Type} [DecidableEq α] {A : Ty α} {c : Cl} {H H0 : Hp} {v : V} {xs : List α} {σ : L2.St} {K : PySem.W.Frag}
theorem sum_end {ns : List Int} (h : rB K tyI c H v ns) {Q : VK} (q : Q (.int ns.sum) H) : rSum K [v] H Q := by
  obtain ⟨a, us, rfl, r, rs⟩ := h
  rw [ints_of rs] at r
  exact ⟨a, ns, rfl, r, q⟩
theorem vb_cut {β : Type} {P : β → Cl → Hp → Prop} {PE : Err → Cl → Hp → Prop} {S : List Addr} {c0 : Cl} {te : TE} {Q : VK} {m : Res Bool} {rest : Bool → Res β} (k : Kont P PE S c0 H0 (m.bind rest)) (I : Unit → Cl → Hp → L2.St → Prop) (hd : ∀ b c H, I () c H σ → Kont P PE S c0 H0 (rest b) → Q (.bl b) H) (hb : Kont (fun b c H => I () c H σ → Q (.bl b) H) PE S c0 H0 m → te σ H Q) : te σ H Q :=
  hb ((k.turn).imp (fun b c H _ q i => hd b c H i q) (fun _ _ _ _ q => q))
def LRv (K : PySem.W.Frag) (Q : VK) : VK := fun v H1 => ∃ a xs, v = .ref a ∧ SqL K H1 a xs ∧ ∀ p, H1 p = none → Q (.ref p) (upd H1 p (.lst xs.reverse))
theorem lrev_u {te : TE} {Q : VK} (h : te σ H (LRv K Q)) : tListRev K te σ H Q := h
theorem lrev_end (h : rB K A c H v xs) (w : Wf c H) (n0 : ∀ p, H p = none → H0 p = none) {Q : VK} (q : ∀ p us' c' H', H p = none → Step [] c H c' H' → Own A H0 c' H' p us' xs.reverse → Q (.ref p) H') : LRv K Q v H := by
  obtain ⟨a, us, rfl, r, rs⟩ := h
  exact ⟨a, us, rfl, r, new_end w fun p c' H' st cp hp np => q p _ c' H' np st ⟨cp, hp, rs.rev.up st.up, n0 p np⟩⟩
theorem pitT2 {a : Addr} {x0 x1 : α} (h : (tyT2 A A).r c H (.ref a) (x0, x1)) : PIt (Itt K a) A [x0, x1] c H := by
  obtain ⟨b, u0, u1, e, q, h0, h1⟩ := open2 h
  cases e
  exact pit_t ((Or.inl q : SqT K H a _)) ⟨h0, ⟨h1, trivial⟩⟩
theorem sqT2 {a : Addr} {x0 x1 : α} (h : (tyT2 A A).r c H (.ref a) (x0, x1)) : ∃ us, SqT K H a us := by
  obtain ⟨b, u0, u1, e, q, h0, h1⟩ := open2 h
  cases e
  exact ⟨_, (Or.inl q : SqT K H a _)⟩
theorem pitT3 {a : Addr} {x0 x1 x2 : α} (h : (tyT3 A A A).r c H (.ref a) (x0, x1, x2)) : PIt (Itt K a) A [x0, x1, x2] c H := by
  obtain ⟨b, u0, u1, u2, e, q, h0, h1, h2⟩ := open3 h
  cases e
  exact pit_t ((Or.inl q : SqT K H a _)) ⟨h0, ⟨h1, ⟨h2, trivial⟩⟩⟩
theorem sqT3 {a : Addr} {x0 x1 x2 : α} (h : (tyT3 A A A).r c H (.ref a) (x0, x1, x2)) : ∃ us, SqT K H a us := by
  obtain ⟨b, u0, u1, u2, e, q, h0, h1, h2⟩ := open3 h
  cases e
  exact ⟨_, (Or.inl q : SqT K H a _)⟩
theorem pitT4 {a : Addr} {x0 x1 x2 x3 : α} (h : (tyT4 A A A A).r c H (.ref a) (x0, x1, x2, x3)) : PIt (Itt K a) A [x0, x1, x2, x3] c H := by
  obtain ⟨b, u0, u1, u2, u3, e, q, h0, h1, h2, h3⟩ := open4 h
  cases e
  exact pit_t ((Or.inl q : SqT K H a _)) ⟨h0, ⟨h1, ⟨h2, ⟨h3, trivial⟩⟩⟩⟩
theorem sqT4 {a : Addr} {x0 x1 x2 x3 : α} (h : (tyT4 A A A A).r c H (.ref a) (x0, x1, x2, x3)) : ∃ us, SqT K H a us := by
  obtain ⟨b, u0, u1, u2, u3, e, q, h0, h1, h2, h3⟩ := open4 h
  cases e
  exact ⟨_, (Or.inl q : SqT K H a _)⟩
theorem pitT5 {a : Addr} {x0 x1 x2 x3 x4 : α} (h : (tyT5 A A A A A).r c H (.ref a) (x0, x1, x2, x3, x4)) : PIt (Itt K a) A [x0, x1, x2, x3, x4] c H := by
  obtain ⟨b, u0, u1, u2, u3, u4, e, q, h0, h1, h2, h3, h4⟩ := open5 h
  cases e
  exact pit_t ((Or.inl q : SqT K H a _)) ⟨h0, ⟨h1, ⟨h2, ⟨h3, ⟨h4, trivial⟩⟩⟩⟩⟩
theorem sqT5 {a : Addr} {x0 x1 x2 x3 x4 : α} (h : (tyT5 A A A A A).r c H (.ref a) (x0, x1, x2, x3, x4)) : ∃ us, SqT K H a us := by
  obtain ⟨b, u0, u1, u2, u3, u4, e, q, h0, h1, h2, h3, h4⟩ := open5 h
  cases e
  exact ⟨_, (Or.inl q : SqT K H a _)⟩
theorem pitT6 {a : Addr} {x0 x1 x2 x3 x4 x5 : α} (h : (tyT6 A A A A A A).r c H (.ref a) (x0, x1, x2, x3, x4, x5)) : PIt (Itt K a) A [x0, x1, x2, x3, x4, x5] c H := by
  obtain ⟨b, u0, u1, u2, u3, u4, u5, e, q, h0, h1, h2, h3, h4, h5⟩ := open6 h
  cases e
  exact pit_t ((Or.inl q : SqT K H a _)) ⟨h0, ⟨h1, ⟨h2, ⟨h3, ⟨h4, ⟨h5, trivial⟩⟩⟩⟩⟩⟩
theorem sqT6 {a : Addr} {x0 x1 x2 x3 x4 x5 : α} (h : (tyT6 A A A A A A).r c H (.ref a) (x0, x1, x2, x3, x4, x5)) : ∃ us, SqT K H a us := by
  obtain ⟨b, u0, u1, u2, u3, u4, u5, e, q, h0, h1, h2, h3, h4, h5⟩ := open6 h
  cases e
  exact ⟨_, (Or.inl q : SqT K H a _)⟩
theorem itup_e' {R : It → Hp → Prop} {a : Addr} (hr : ∃ us, SqT K H a us) (q : R (Itt K a) H) : TIt K R (V.ref a) H := ⟨a, rfl, hr, q⟩
theorem Own.sqv {K : PySem.W.Frag} {p : Addr} {us : List V} (h : Own A H0 c H p us xs) : SqL K H p us := .inl (.inl h.obj)
end
end Kb
/-! Kb12: rules that tell the fragment's name, for the blocks of comprehensions -/
namespace Kb
open PySem L2
theorem brF_eq {α : Type} {b : Bool} {x y : Res α} (h : b = false) : br b x y = y := by subst h; rfl
theorem brT_eq {α : Type} {b : Bool} {x y : Res α} (h : b = true) : br b x y = x := by subst h; rfl
section
variable {X : Cx} {K : PySem.W.Frag}
theorem ix_tupK (e : X.K = K) : IxR X (rIxT K) := e ▸ ix_tup
theorem ix_listK (e : X.K = K) : IxR X (rIxL K) := e ▸ ix_list
theorem op_eqDK (e : X.K = K) (hu : X.A.units + 64 < cLine) : OpR X (compareOp .Eq) (rEqD K) := e ▸ op_eqD hu
theorem op_neDK (e : X.K = K) (hu : X.A.units + 64 < cLine) : OpR X (compareOp .NotEq) (rNeD K) := e ▸ op_neD hu
theorem call_len_seqK (e : X.K = K) : CallR X (.builtin "len") (fun xs H Q => ∃ p ys, xs = [.ref p] ∧ (SqL K H p ys ∨ SqT K H p ys) ∧ Q (.int ys.length) H) := e ▸ call_len_seq
theorem cr_sumK (e : X.K = K) (hc : X.calm = true) : CallR X (.builtin "sum") (rSum K) := e ▸ cr_sum hc
theorem call_isiK (e : X.K = K) : CallR X (.builtin "isinstance") (rIsi K) := e ▸ call_isi
theorem sl_listK (e : X.K = K) : SlR X (rSlL K) := e ▸ sl_list
theorem pg_tupK {es : List Expr} {k : Nat} {t : TGs} {n : Nat} {pos : Pos} (e : X.K = K) (hc : X.calm = true) (h : PGs X es t)
    (hn : (assignEach es X.env).length = n := by rfl) (hst : (assignEach es X.env).findIdx? (·.1) = none := by rfl) : PG X (.Tuple es k pos) (gTup K n t) := e ▸ pg_tup hc h hn hst
theorem pt_truthK {a : Expr} {ta : TE} (e : X.K = K) (ha : PE X a ta) (he : ∀ whole, isTrue a X.env whole = (do let v ← whole; standAt a.pos; holding [v] (truthy v))) :
    PT X a (fun σ H Q => ta σ H fun x H' => ∃ k, TruV K x H' k ∧ Q k H') := e ▸ pt_truth ha he
theorem cr_sortTK (e : X.K = K) : CallR X (.builtin "sorted") (rSortT K) := e ▸ cr_sortT
theorem cr_listK (e : X.K = K) : CallR X (.type "list") (rListOf K) := e ▸ cr_list
end
end Kb
/-! Kb13: values of any kind -/
namespace Kb
open PySem L2
inductive Dyn | i (n : Int) | b (x : Bool) | o
  deriving DecidableEq
def Dyn.isNum : Dyn → Bool
  | .i _ => true
  | .b _ => true
  | .o => false
def Dyn.isB : Dyn → Bool
  | .b _ => true
  | _ => false
def Dyn.int? : Dyn → Option Int
  | .i n => some n
  | _ => none
theorem Dyn.int_of {x : Dyn} {n : Int} (h : x.int? = some n) : x = .i n := by
  cases x with
  | i m => exact congrArg Dyn.i (Option.some.inj h)
  | b m => cases h
  | o => cases h
def OthO (u : HO) : Prop := (∃ xs, u = .lst xs) ∨ (∃ xs, u = .tup xs) ∨ (∃ kvs, u = .dK kvs) ∨ ∃ o xs, u = .frz o (.tup xs)
def rD (c : Cl) (H : Hp) (v : V) : Dyn → Prop
  | .i n => v = .int n
  | .b x => v = .bl x
  | .o => v = .non ∨ (∃ s, v = .str s) ∨ ∃ a u, v = .ref a ∧ c a = none ∧ H a = some u ∧ OthO u
section
variable {c c' : Cl} {H H' H0 : Hp} {v : V} {x : Dyn} {T : List Addr} {p : Addr} {σ : L2.St} {K : PySem.W.Frag}
theorem upD (g : Up c H c' H') (h : rD c H v x) : rD c' H' v x := by
  cases x with
  | i n => exact h
  | b n => exact h
  | o =>
    rcases h with h | h | ⟨a, u, e, k, q, t⟩
    · exact .inl h
    · exact .inr (.inl h)
    · exact .inr (.inr ⟨a, u, e, g.col a _ q k, g.obj a _ q k, t⟩)
theorem liftD (h : rD c H v x) (st : Step T c H c' H') : rD c' H' v x := upD st.up h
theorem liftDF (h : rD c H v x) : rD (frz c p) H v x := upD frz_up h
theorem rD_non : rD c H .non .o := .inl rfl
theorem rD_str {s : Str} : rD c H (.str s) .o := .inr (.inl ⟨s, rfl⟩)
theorem rD_lst {α : Type} [DecidableEq α] {A : Ty α} {xs : List α} (h : (tyL A).r c H v xs) : rD c H v .o := by
  obtain ⟨a, us, e, k, q, _⟩ := h
  exact .inr (.inr ⟨a, _, e, k, q, .inl ⟨_, rfl⟩⟩)
theorem rD_t2 {α β : Type} [DecidableEq α] [DecidableEq β] {A : Ty α} {B : Ty β} {y : α × β} (h : (tyT2 A B).r c H v y) : rD c H v .o := by
  obtain ⟨a, u0, u1, e, k, q, _⟩ := h
  rcases q with q | ⟨o, q⟩
  · exact .inr (.inr ⟨a, _, e, k, q, .inr (.inl ⟨_, rfl⟩)⟩)
  · exact .inr (.inr ⟨a, _, e, k, q, .inr (.inr (.inr ⟨_, _, rfl⟩))⟩)
def DNK (Q : VK) (H : Hp) : Prop := ∀ d, H d = none → Q (.ref d) (upd H d (.dK []))
theorem dnew_u {Q : VK} (h : DNK Q H) : tDNewK σ H Q := h
def ParK (D : Ends) (σ : L2.St) (i j : Nat) (vs : List V) (H1 : Hp) : Prop := ∃ v w, vs = [v, w] ∧ D.nx ((σ.set i (some v)).set j (some w)) H1
theorem par_u {D : Ends} {i j : Nat} {ta : TA} (h : ta σ H (ParK D σ i j)) : tPar i j ta D σ H := h
theorem par_e {D : Ends} {i j : Nat} {v w : V} (h : D.nx ((σ.set i (some v)).set j (some w)) H) : ParK D σ i j [v, w] H := ⟨v, w, rfl, h⟩
theorem dnew_end (w : Wf c H) {Q : VK} (q : ∀ p c' H', Step [] c H c' H' → rD c' H' (.ref p) .o → H p = none → Q (.ref p) H') : DNK Q H :=
  fun p n => q p (setC c p none) _ (Step.new w n fun r e => by cases e) (.inr (.inr ⟨p, _, rfl, setC_same, upd_same, .inr (.inr (.inl ⟨_, rfl⟩))⟩)) n
theorem oth_ty (h : rD c H v .o) : ∃ t, TyX K H v (.type t) ∧ (t = "NoneType" ∨ t = "str" ∨ t = "list" ∨ t = "tuple" ∨ t = "dict") := by
  rcases h with rfl | ⟨s, rfl⟩ | ⟨a, u, rfl, k, q, t⟩
  · exact ⟨_, .base .non, .inl rfl⟩
  · exact ⟨_, .base (.str s), .inr (.inl rfl)⟩
  · rcases t with ⟨xs, rfl⟩ | ⟨xs, rfl⟩ | ⟨kvs, rfl⟩ | ⟨o, xs, rfl⟩
    · exact ⟨_, .base (.lst q), .inr (.inr (.inl rfl))⟩
    · exact ⟨_, .base (.tup q), .inr (.inr (.inr (.inl rfl)))⟩
    · exact ⟨_, .base (.dK q), .inr (.inr (.inr (.inr rfl)))⟩
    · exact ⟨_, .fTuple q, .inr (.inr (.inr (.inl rfl)))⟩
theorem rc_isD_int (h : rD c H v x) : Rc (rIsi K) [v, V.ty "int"] H (.bl x.isNum) := by
  cases x with
  | i n => have e : v = .int n := h; subst e; exact rc_isi (b := true) (.ty _) tyx_int (kit_ty (by decide +kernel))
  | b n => have e : v = .bl n := h; subst e; exact rc_isi (b := true) (.ty _) tyx_bl (kit_ty (by decide +kernel))
  | o =>
    obtain ⟨t, ht, h5⟩ := oth_ty (K := K) h
    rcases h5 with rfl | rfl | rfl | rfl | rfl <;> exact rc_isi (b := false) (.ty _) ht (kit_ty (by decide +kernel))
theorem rc_isD_bool (h : rD c H v x) : Rc (rIsi K) [v, V.ty "bool"] H (.bl x.isB) := by
  cases x with
  | i n => have e : v = .int n := h; subst e; exact rc_isi (b := false) (.ty _) tyx_int (kit_ty (by decide +kernel))
  | b n => have e : v = .bl n := h; subst e; exact rc_isi (b := true) (.ty _) tyx_bl (kit_ty (by decide +kernel))
  | o =>
    obtain ⟨t, ht, h5⟩ := oth_ty (K := K) h
    rcases h5 with rfl | rfl | rfl | rfl | rfl <;> exact rc_isi (b := false) (.ty _) ht (kit_ty (by decide +kernel))
def RsD (c : Cl) (H : Hp) : List V → List Dyn → Prop
  | [], [] => True
  | v :: vs, x :: xs => rD c H v x ∧ RsD c H vs xs
  | _, _ => False
theorem RsD.up (g : Up c H c' H') : ∀ {vs : List V} {xs : List Dyn}, RsD c H vs xs → RsD c' H' vs xs
  | [], [], _ => trivial
  | v :: vs, x :: xs, h => ⟨upD g h.1, RsD.up g h.2⟩
  | [], _ :: _, h => h.elim
  | _ :: _, [], h => h.elim
theorem RsD.len : ∀ {vs : List V} {xs : List Dyn}, RsD c H vs xs → vs.length = xs.length
  | [], [], _ => rfl
  | v :: vs, x :: xs, h => by rw [List.length_cons, List.length_cons, RsD.len h.2]
  | [], _ :: _, h => h.elim
  | _ :: _, [], h => h.elim
theorem RsD.getX : ∀ {vs : List V} {xs : List Dyn} {i : Nat} {x : Dyn}, RsD c H vs xs → xs[i]? = some x → ∃ u, vs[i]? = some u ∧ rD c H u x
  | [], [], _, _, _, e => by cases e
  | v :: vs, y :: xs, 0, x, h, e => ⟨v, rfl, by rw [← Option.some.inj e]; exact h.1⟩
  | v :: vs, y :: xs, i + 1, x, h, e => RsD.getX (i := i) h.2 (by simpa using e)
  | [], _ :: _, _, _, h, _ => h.elim
  | _ :: _, [], _, _, h, _ => h.elim
/-- a tuple of values of any kind -/
structure DTup (c : Cl) (H : Hp) (a : Addr) (us : List V) (xs : List Dyn) : Prop where
  col : c a = none
  rd : Rd H a (.tup us)
  rs : RsD c H us xs
theorem DTup.lift {a : Addr} {us : List V} {xs : List Dyn} (h : DTup c H a us xs) (st : Step T c H c' H') : DTup c' H' a us xs := ⟨st.up.colR h.col h.rd, st.up.rd h.col h.rd, h.rs.up st.up⟩
theorem DTup.liftF {a : Addr} {us : List V} {xs : List Dyn} (h : DTup c H a us xs) : DTup (frz c p) H a us xs := ⟨frz_none h.col, h.rd, h.rs.up frz_up⟩
structure PIr {α : Type} (J : It) (R : Cl → Hp → V → α → Prop) (xs : List α) (c : Cl) (H : Hp) : Prop where
  go : ∀ i, i < xs.length → J.go i H
  stop : J.stop xs.length H
  item : ∀ i x v H', xs[i]? = some x → J.yld i H v H' → H' = H ∧ R c H v x
theorem DTup.pir {a : Addr} {us : List V} {xs : List Dyn} (h : DTup c H a us xs) : PIr (Itt K a) rD xs c H where
  go i hi := by
    have hu : i < us.length := by rw [h.rs.len]; exact hi
    exact ⟨us, us[i], .inl h.rd, List.getElem?_eq_getElem hu⟩
  stop := ⟨us, .inl h.rd, by rw [h.rs.len]; exact Nat.le_refl _⟩
  item i x v H' hx hy := by
    obtain ⟨e, q⟩ := hy
    refine ⟨e, ?_⟩
    obtain ⟨u, eu, ru⟩ := h.rs.getX hx
    have z := q us (.inl h.rd)
    rw [eu] at z
    rw [← Option.some.inj z]
    exact ru
end
section
variable {β τ α : Type} [DecidableEq α] {A : Cl → Hp → V → α → Prop} {P : β → Cl → Hp → Prop} {PE : Err → Cl → Hp → Prop} {S : List Addr} {c0 c : Cl} {H0 H : Hp} {σ : L2.St} {g : TG} {tb : TS} {D : Ends} {xs : List α} {s0 : τ} {J : It}
theorem for_rD {ρ : Type} {f : τ → α → Res (Ctl τ ρ)} {rest : Ctl τ ρ → Res β} {Rr : Cl → Hp → V → ρ → Prop} (k : Kont P PE S c0 H0 ((forR xs s0 f).bind rest)) (I : τ → Cl → Hp → L2.St → Prop) (h0 : I s0 c H σ) (hl : ∀ s c H σ, I s c H σ → PIr J A xs c H)
    (hb : ∀ s x v c H σ (N : L2.St → Hp → Prop), I s c H σ → A c H v x → Kont (fun y c' H' => match y with | .nx s' => ∀ σ', I s' c' H' σ' → N σ' H' | .ret r => ∀ v, Rr c' H' v r → D.rt v H') PE S c0 H0 (f s x) → g v σ H fun σ2 H2 => tb { D with nx := N, ct := N, bk := D.nx } σ2 H2)
    (hr : ∀ r, Kont P PE S c0 H0 (rest (.ret r)) → ∀ c H, Step S c0 H0 c H → ∀ v, Rr c H v r → D.rt v H)
    (hd : ∀ s c H σ, I s c H σ → Kont P PE S c0 H0 (rest (.nx s)) → D.nx σ H) :
    ∃ W : Nat → Nat → L2.St → Hp → Prop, (∃ m, W 0 m σ H) ∧ ∀ i m σ H, W i m σ H →
      (J.stop i H ∧ D.nx σ H) ∨ (J.go i H ∧ ∃ N : L2.St → Hp → Prop, (∀ σ' H', N σ' H' → ∃ m', m' < m ∧ W (i + 1) m' σ' H') ∧ ∀ x H', J.yld i H x H' → g x σ H' fun σ2 H2 => tb { D with nx := N, ct := N, bk := D.nx } σ2 H2) := by
  refine ⟨fun i m σ H => m = xs.length - i ∧ i ≤ xs.length ∧ ∃ s c, I s c H σ ∧ Kont P PE S c0 H0 ((forR (xs.drop i) s f).bind rest), ⟨xs.length, by simp, Nat.zero_le _, s0, c, h0, k⟩, ?_⟩
  rintro i m σ1 H1 ⟨rfl, hi, s, c1, h, k1⟩
  have p := hl s c1 H1 σ1 h
  by_cases hlt : i < xs.length
  · have hx : xs[i]? = some xs[i] := List.getElem?_eq_getElem hlt
    rw [drop_at hx, forR_cons, bind_assoc] at k1
    refine .inr ⟨p.go i hlt, fun σ' H' => ∃ s c, I s c H' σ' ∧ Kont P PE S c0 H0 ((forR (xs.drop (i + 1)) s f).bind rest), fun σ' H' q => ⟨xs.length - (i + 1), by omega, rfl, hlt, q⟩, fun v H' hy => ?_⟩
    obtain ⟨e, r⟩ := p.item i _ v H' hx hy
    subst e
    refine hb s _ v c1 _ σ1 _ h r (k1.turn.imp (fun y c' H' st q => ?_) fun _ _ _ _ q => q)
    cases y with
    | nx s' => exact fun σ' h' => ⟨s', c', h', q⟩
    | ret r' => exact fun v hv => hr r' q c' H' st v hv
  · have e : i = xs.length := by omega
    subst e
    rw [List.drop_length] at k1
    exact .inl ⟨p.stop, hd s c1 H1 σ1 h k1⟩
end
end Kb
/-! Kb14: a def with one default (an int), called with all its arguments -/
namespace Kb
open PySem L2 PySem.W
structure DfD (K : PySem.W.Frag) (mg : Str → Option Value) (x : Str) (st : Stmt) (f : Addr) (fd : FuncData) (ps : List Str) : Prop where
  F : ∃ i : Int, FunD K x x (defArgs st) (defBody st) (defScope st) [V.int i] [] f fd
  kp : PySem.W.keepIn K (.ref f) = true
  g : mg x = some (.ref f)
  b : Binds K fd ps []
section
variable {K : PySem.W.Frag} {mg : Str → Option Value} {h : Heap}
theorem dfd_mk {x : Str} {st : Stmt} {ps : List Str} {f T : Addr} {oc tc : Value} {od an td : Option Addr} {sl ts : Array (Option Value)} {kV dc pm cd ct : Value} {i : Int} {tk : Tok} {tn : Nat} (X : K.In h) (G : h.Ns mainGlobals mg) (a : nsIn K mainGlobals x = some (some (.ref f)))
    (l : K.lookup f = some ⟨oc, od, .func (fnOf x x (defArgs st) (defBody st) (defScope st) (.ref T) kV dc pm an cd ct), sl⟩) (t : K.lookup T = some ⟨tc, td, .seq #[.int i tk] tn, ts⟩) (c : codeIn K cd x = true) (k : keepIn K (.ref f) = true)
    (hb : ∀ (T : Addr) (kV doc pm : Value) (an : Option Addr) (cdv ct : Value) (us its : List Value), us.length = ps.length → its.length = 1 →
      ∃ k, bindArgs (PySem.W.fnOf x x (defArgs st) (defBody st) (defScope st) (.ref T) kV doc pm an cdv ct) ⟨us, []⟩ = seqItems? (.ref T) >>= k ∧ k (some its.toArray) = pure (ps.zip (us ++ its.drop 1))) :
    DfD K mg x st f (fnOf x x (defArgs st) (defBody st) (defScope st) (.ref T) kV dc pm an cd ct) ps := by
  have F : FunD K x x (defArgs st) (defBody st) (defScope st) [V.int i] [] f (fnOf x x (defArgs st) (defBody st) (defScope st) (.ref T) kV dc pm an cd ct) :=
    ⟨⟨oc, od, .ref T, kV, dc, pm, an, cd, ct, sl, rfl, l, c, .inr ⟨by simp, T, _, [.int i tk], tn, rfl, t, rfl, .cons ⟨tk, rfl⟩ .nil⟩, .inl rfl⟩, k⟩
  obtain ⟨ds, hv, hbs⟩ := F.binds1 (ps := ps) ps.length 1 (by simp) (by simp) hb
  have e : ds = [] := by cases hv; rfl
  rw [e] at hbs
  exact ⟨⟨i, F⟩, k, mg_of X G a, hbs⟩
end
end Kb
/-! Kb15: the order of pairs (text, int) -/
namespace Kb
open PySem L2 PySem.Spec PyProof.Rows
def ltSI (x y : Str × Int) : Bool := if x.1 = y.1 then decide (x.2 < y.2) else decide (x.1.cps.toList < y.1.cps.toList)
def leSI (x y : Str × Int) : Bool := if x.1 = y.1 then decide (x.2 ≤ y.2) else !decide (y.1.cps.toList < x.1.cps.toList)
def rSI (K : PySem.W.Frag) (f : Str × Int → Str × Int → Bool) : R2 := fun x y H Q => ∃ (a b : Addr) (s t : Str) (i j : Int), x = .ref a ∧ y = .ref b ∧ SqT K H a [.str s, .int i] ∧ SqT K H b [.str t, .int j] ∧ Q (.bl (f (s, i) (t, j))) H
theorem two_of {s : Str} {i : Int} {its : List Value} (h : Vals [V.str s, V.int i] its) : ∃ t u, its = [.str s t, .int i u] := by
  cases h with
  | cons h1 h2 =>
    cases h2 with
    | cons h3 h4 =>
      cases h4
      obtain ⟨t, rfl⟩ := h1
      obtain ⟨u, rfl⟩ := h3
      exact ⟨t, u, rfl⟩
theorem beq_dec {α : Type} [DecidableEq α] (a b : α) : (a == b) = decide (a = b) := rfl
section
variable {X : Cx} {K : PySem.W.Frag}
theorem op_ltSI (e : X.K = K) (hu : X.A.units < cLine) : OpR X (compareOp .Lt) (rSI K ltSI) := by
  subst e
  intro pins s σ H x y v u Q I rx ry h
  obtain ⟨a, b, p, q, i, j, rfl, rfl, ha, hb, h⟩ := h
  cases rx
  cases ry
  obtain ⟨its, r1, p1, _⟩ := I.tuple ha
  obtain ⟨its2, r2, p2, _⟩ := I.tuple hb
  obtain ⟨t1, u1, rfl⟩ := two_of r1
  obtain ⟨t2, u2, rfl⟩ := two_of r2
  have R := Ob.RcOp.tuples_lt (A := X.A) (s := s) (e := fun k => match k with | 0 => decide (p = q) | _ => decide (i = j)) (r := fun k => match k with | 0 => decide (p.cps.toList < q.cps.toList) | _ => decide (i < j)) p1 p2 hu (fun k h1 h2 => by
    match k, h1, h2 with
    | 0, _, _ => exact SeqAt.EqAt.str_str _ _ _ _
    | 1, _, _ => exact SeqAt.EqAt.int_int _ _ _ _
    | k + 2, h1, _ => exact absurd (show k + 2 < 2 from h1) (by omega)) (fun k h1 h2 _ => by
    match k, h1, h2 with
    | 0, _, _ => exact fun prog w E Q h => lt_str h
    | 1, _, _ => exact Ob.RcOp.lt_int _ _ _ _
    | k + 2, h1, _ => exact absurd (show k + 2 < 2 from h1) (by omega))
  refine R X.prog X.w X.xe (EP X pins σ Q) ⟨.bl _, H, I, rfl, ?_⟩
  have e : Ob.lexAt (fun k => match k with | 0 => decide (p = q) | _ => decide (i = j)) (fun k => match k with | 0 => decide (p.cps.toList < q.cps.toList) | _ => decide (i < j)) (decide ((2 : Nat) < 2)) 0 2 = ltSI (p, i) (q, j) := by
    show (if decide (p = q) = true then (if decide (i = j) = true then decide ((2 : Nat) < 2) else decide (i < j)) else decide (p.cps.toList < q.cps.toList)) = (if p = q then decide (i < j) else decide (p.cps.toList < q.cps.toList))
    by_cases c : p = q
    · rw [if_pos (decide_eq_true c), if_pos c]
      by_cases d : i = j
      · rw [if_pos (decide_eq_true d), d]
        simp
      · rw [if_neg (by simpa using d)]
    · rw [if_neg (by simpa using c), if_neg c]
  show Q (.bl (Ob.lexAt _ _ (decide ((2 : Nat) < 2)) 0 2)) H
  rw [e]
  exact h
theorem op_leSI (e : X.K = K) (hu : X.A.units < cLine) : OpR X (compareOp .LtE) (rSI K leSI) := by
  subst e
  intro pins s σ H x y v u Q I rx ry h
  obtain ⟨a, b, p, q, i, j, rfl, rfl, ha, hb, h⟩ := h
  cases rx
  cases ry
  obtain ⟨its, r1, p1, _⟩ := I.tuple ha
  obtain ⟨its2, r2, p2, _⟩ := I.tuple hb
  obtain ⟨t1, u1, rfl⟩ := two_of r1
  obtain ⟨t2, u2, rfl⟩ := two_of r2
  have R := Ob.RcOp.tuples_le (A := X.A) (s := s) (e := fun k => match k with | 0 => decide (p = q) | _ => decide (i = j)) (r := fun k => match k with | 0 => !decide (q.cps.toList < p.cps.toList) | _ => decide (i ≤ j)) p1 p2 hu (fun k h1 h2 => by
    match k, h1, h2 with
    | 0, _, _ => exact SeqAt.EqAt.str_str _ _ _ _
    | 1, _, _ => exact SeqAt.EqAt.int_int _ _ _ _
    | k + 2, h1, _ => exact absurd (show k + 2 < 2 from h1) (by omega)) (fun k h1 h2 _ => by
    match k, h1, h2 with
    | 0, _, _ => exact fun prog w E Q h => PySem.P.le_str h
    | 1, _, _ => exact Ob.RcOp.le_int _ _ _ _
    | k + 2, h1, _ => exact absurd (show k + 2 < 2 from h1) (by omega))
  refine R X.prog X.w X.xe (EP X pins σ Q) ⟨.bl _, H, I, rfl, ?_⟩
  have e : Ob.lexAt (fun k => match k with | 0 => decide (p = q) | _ => decide (i = j)) (fun k => match k with | 0 => !decide (q.cps.toList < p.cps.toList) | _ => decide (i ≤ j)) (decide ((2 : Nat) ≤ 2)) 0 2 = leSI (p, i) (q, j) := by
    show (if decide (p = q) = true then (if decide (i = j) = true then decide ((2 : Nat) ≤ 2) else decide (i ≤ j)) else !decide (q.cps.toList < p.cps.toList)) = (if p = q then decide (i ≤ j) else !decide (q.cps.toList < p.cps.toList))
    by_cases c : p = q
    · rw [if_pos (decide_eq_true c), if_pos c]
      by_cases d : i = j
      · rw [if_pos (decide_eq_true d), d]
        simp
      · rw [if_neg (by simpa using d)]
    · rw [if_neg (by simpa using c), if_neg c]
  show Q (.bl (Ob.lexAt _ _ (decide ((2 : Nat) ≤ 2)) 0 2)) H
  rw [e]
  exact h
end
section
variable {c : Cl} {H : Hp} {K : PySem.W.Frag} {v w : V} {x y : Str × Int}
theorem rv_SI {f : Str × Int → Str × Int → Bool} (hx : (tyT2 tyS tyI).r c H v x) (hy : (tyT2 tyS tyI).r c H w y) : Rv (rSI K f) v w H (.bl (f x y)) := fun Q q => by
  obtain ⟨a, u0, u1, rfl, r1, h0, h1⟩ := open2 hx
  obtain ⟨b, w0, w1, rfl, r2, g0, g1⟩ := open2 hy
  obtain ⟨e0, _⟩ := h0
  have e1 : u1 = _ := h1
  obtain ⟨f0, _⟩ := g0
  have f1 : w1 = _ := g1
  subst e0 e1 f0 f1
  exact ⟨a, b, _, _, _, _, rfl, rfl, .inl r1, .inl r2, q⟩
end
end Kb
/-! Kb16: a loop over a tuple of lists of one's own, each changed in its turn -/
namespace Kb
open PySem L2
section
variable {β : Type} {P : β → Cl → Hp → Prop} {PE : Err → Cl → Hp → Prop} {S : List Addr} {c0 : Cl} {H0 : Hp}
theorem Kont.rebase1 {m : Res β} {ci : Cl} {Hi : Hp} {p : Addr} (k : Kont P PE S c0 H0 m) (g : Step S c0 H0 ci Hi) (n : H0 p = none) : Kont P PE [p] ci Hi m := by
  cases m with
  | ok y => exact fun c H st => k c H (g.tr1 st (.inr n))
  | err e => exact fun c H st => k c H (g.tr1 st (.inr n))
  | stk => exact k.elim
end
section
variable {β α : Type} [DecidableEq α] {A : Ty α} {P : β → Cl → Hp → Prop} {PE : Err → Cl → Hp → Prop} {S : List Addr} {c0 c : Cl} {H0 H : Hp} {σ : L2.St} {g : TG} {tb : TS} {D : Ends} {K : PySem.W.Frag} {t : Addr}
/-- lists of one's own, each at its address -/
def OwnL (A : Ty α) (H0 : Hp) (c : Cl) (H : Hp) : List Addr → List (List α) → Prop
  | [], [] => True
  | p :: ps, x :: xs => (∃ us, Own A H0 c H p us x) ∧ OwnL A H0 c H ps xs
  | _, _ => False
theorem OwnL.len : ∀ {ps : List Addr} {xs : List (List α)}, OwnL A H0 c H ps xs → ps.length = xs.length
  | [], [], _ => rfl
  | p :: ps, x :: xs, h => by rw [List.length_cons, List.length_cons, OwnL.len h.2]
  | [], _ :: _, h => h.elim
  | _ :: _, [], h => h.elim
theorem OwnL.step {c' : Cl} {H' : Hp} {p : Addr} (st : Step [p] c H c' H') : ∀ {ps : List Addr} {xs : List (List α)}, p ∉ ps → OwnL A H0 c H ps xs → OwnL A H0 c' H' ps xs
  | [], [], _, _ => trivial
  | q :: ps, x :: xs, n, h => by
    obtain ⟨⟨us, o⟩, h2⟩ := h
    exact ⟨⟨us, o.step1 st fun e => n (e ▸ List.mem_cons_self)⟩, OwnL.step st (fun m => n (List.mem_cons_of_mem _ m)) h2⟩
  | [], _ :: _, _, h => h.elim
  | _ :: _, [], _, h => h.elim
theorem for_own {ps : List Addr} {xs : List (List α)} {f : Unit → List α → Res Unit} {rest : Unit → Res β} (k : Kont P PE S c0 H0 ((forN xs () f).bind rest)) (I : Unit → Cl → Hp → L2.St → Prop) (h0 : I () c H σ) (ho : OwnL A H0 c H ps xs) (nd : ps.Nodup)
    (hl : ∀ c H σ, I () c H σ → Rd H t (.tup (ps.map V.ref)) ∧ Step S c0 H0 c H)
    (hb : ∀ p us x c H σ (N : L2.St → Hp → Prop), I () c H σ → Own A H0 c H p us x → Kont (fun _ c' H' => Step [p] c H c' H' → ∀ σ', I () c' H' σ' → N σ' H') PE [p] c H (f () x) → g (.ref p) σ H fun σ2 H2 => tb { D with nx := N, ct := N, bk := D.nx } σ2 H2)
    (hd : ∀ c H σ, I () c H σ → Kont P PE S c0 H0 (rest ()) → D.nx σ H) :
    ∃ W : Nat → Nat → L2.St → Hp → Prop, (∃ m, W 0 m σ H) ∧ ∀ i m σ H, W i m σ H →
      ((Itt K t).stop i H ∧ D.nx σ H) ∨ ((Itt K t).go i H ∧ ∃ N : L2.St → Hp → Prop, (∀ σ' H', N σ' H' → ∃ m', m' < m ∧ W (i + 1) m' σ' H') ∧ ∀ x H', (Itt K t).yld i H x H' → g x σ H' fun σ2 H2 => tb { D with nx := N, ct := N, bk := D.nx } σ2 H2) := by
  refine ⟨fun i m σ H => m = ps.length - i ∧ i ≤ ps.length ∧ ∃ c, I () c H σ ∧ OwnL A H0 c H (ps.drop i) (xs.drop i) ∧ Kont P PE S c0 H0 ((forN (xs.drop i) () f).bind rest), ⟨ps.length, by simp, Nat.zero_le _, c, h0, ho, k⟩, ?_⟩
  rintro i m σ1 H1 ⟨rfl, hi, c1, h, o1, k1⟩
  obtain ⟨rd, gs⟩ := hl c1 H1 σ1 h
  by_cases hlt : i < ps.length
  · have e1 : ps.drop i = ps[i] :: ps.drop (i + 1) := List.drop_eq_getElem_cons hlt
    rw [e1] at o1
    have nd' : (ps.drop i).Nodup := nd.sublist (List.drop_sublist i ps)
    rw [e1] at nd'
    cases hx : xs.drop i with
    | nil => rw [hx] at o1; exact o1.elim
    | cons x r =>
      have er : xs.drop (i + 1) = r := by
        have z : (xs.drop i).drop 1 = r := by rw [hx]; rfl
        rw [List.drop_drop] at z
        exact z
      rw [hx] at o1 k1
      obtain ⟨⟨us, ow⟩, o2⟩ := o1
      rw [forN_cons, bind_assoc] at k1
      have hu : i < (ps.map V.ref).length := by rw [List.length_map]; exact hlt
      refine .inr ⟨⟨_, (ps.map V.ref)[i], .inl rd, List.getElem?_eq_getElem hu⟩, fun σ' H' => ∃ c, I () c H' σ' ∧ OwnL A H0 c H' (ps.drop (i + 1)) (xs.drop (i + 1)) ∧ Kont P PE S c0 H0 ((forN (xs.drop (i + 1)) () f).bind rest), fun σ' H' q => ⟨ps.length - (i + 1), by omega, rfl, hlt, q⟩, fun v H' hy => ?_⟩
      obtain ⟨e, q⟩ := hy
      subst e
      have z := q _ (.inl rd)
      rw [List.getElem?_eq_getElem hu, List.getElem_map] at z
      have ev : V.ref ps[i] = v := Option.some.inj z
      subst ev
      refine hb _ us x c1 _ σ1 _ h ow ((k1.turn.rebase1 gs ow.new).imp (fun y c' H' st kk s σ' h' => ?_) fun e c' H' st q => q)
      refine ⟨c', h', ?_, ?_⟩
      · rw [er]
        exact o2.step s (List.nodup_cons.mp nd').1
      · rw [er]
        exact kk
  · have e : i = ps.length := by omega
    subst e
    have el : xs.drop ps.length = [] := List.drop_eq_nil_of_le (by have := OwnL.len ho; omega)
    rw [el] at k1
    refine .inl ⟨⟨_, .inl rd, by rw [List.length_map]; exact Nat.le_refl _⟩, hd c1 H1 σ1 h k1⟩
end
end Kb
namespace Kb
open PySem L2
/-- a frozen tuple, opened -/
structure Fzt (c : Cl) (H : Hp) (a : Addr) (us : List V) : Prop where
  col : c a = none
  rd : Rd H a (.tup us)
theorem Fzt.lift {c c' : Cl} {H H' : Hp} {T : List Addr} {a : Addr} {us : List V} (h : Fzt c H a us) (st : Step T c H c' H') : Fzt c' H' a us := ⟨st.up.colR h.col h.rd, st.up.rd h.col h.rd⟩
theorem Fzt.liftF {c : Cl} {H : Hp} {p a : Addr} {us : List V} (h : Fzt c H a us) : Fzt (frz c p) H a us := ⟨frz_none h.col, h.rd⟩
end Kb
namespace Lw
open PySem L2 Kb
@[irreducible] def m_check_row (a0 : (PySem.Str × Int × Int)) : Res Unit := br ((decide (a0.2.1 < (0 : Int))) || (decide (a0.2.2 ≤ a0.2.1))) (.err .ground) (.ok ())
@[irreducible] def m_normal (a0 : List (PySem.Str × Int × Int)) : Res (List (PySem.Str × Int × Int)) := (forN a0 () (fun s5 x7 => (m_check_row x7).bind fun y13 => .ok ())).bind fun s5 => (forN (sortK keySII a0) (([] : List (PySem.Str × Int × Int))) (fun s42 x47 => ((andN (.ok (!s42.isEmpty)) (andN (opt (atI s42 (-(1 : Int))) fun x88 => .ok (decide (x88.1 = x47.1))) (opt (atI s42 (-(1 : Int))) fun x96 => .ok (decide (x47.2.1 ≤ x96.2.2))))).bind fun b101 => br b101 (opt (atI s42 (-(1 : Int))) fun x107 => opt (atI s42 (-(1 : Int))) fun x115 => opt (ixN s42.length (-(1 : Int))) fun j131 => .ok ((s42.set j131 (x47.1, x107.2.1, (if x115.2.2 > x47.2.2 then x115.2.2 else x47.2.2))))) (chk (decide (s42.length < sizeLine)) <| .ok ((s42 ++ [(x47.1, x47.2.1, x47.2.2)])))).bind fun s63 => .ok (s63))).bind fun s42 => .ok s42
@[irreducible] def m_union (a0 : List (PySem.Str × Int × Int)) (a1 : List (PySem.Str × Int × Int)) : Res (List (PySem.Str × Int × Int)) := chk (decide (a0.length + a1.length ≤ sizeLine)) <| (m_normal (a0 ++ a1)).bind fun y9 => .ok y9
@[irreducible] def m_common (a0 : List (PySem.Str × Int × Int)) (a1 : List (PySem.Str × Int × Int)) : Res (List (PySem.Str × Int × Int)) := (whileN ((a0.length + a1.length + 1)) ((([] : List (PySem.Str × Int × Int)), (0 : Int), (0 : Int)) : List (PySem.Str × Int × Int) × Int × Int) (fun s11 => br (decide (s11.2.1 < (a0.length : Int))) (br (decide (s11.2.2 < (a1.length : Int))) (.ok true) (.ok false)) (.ok false)) (fun s11 => (opt (atI a0 s11.2.1) fun x32 => opt (atI a1 s11.2.2) fun x40 => br (decide (x32.1 = x40.1)) (opt (atI a0 s11.2.1) fun x49 => opt (atI a1 s11.2.2) fun x57 => opt (atI a0 s11.2.1) fun x65 => opt (atI a1 s11.2.2) fun x73 => (br (decide ((if x57.2.1 > x49.2.1 then x57.2.1 else x49.2.1) < (if x73.2.2 < x65.2.2 then x73.2.2 else x65.2.2))) (opt (atI a0 s11.2.1) fun x88 => chk (decide (s11.1.length < sizeLine)) <| .ok ((s11.1 ++ [(x88.1, (if x57.2.1 > x49.2.1 then x57.2.1 else x49.2.1), (if x73.2.2 < x65.2.2 then x73.2.2 else x65.2.2))]))) (.ok (s11.1))).bind fun s78 => .ok (s78)) (.ok (s11.1))).bind fun s21 => (opt (atI a0 s11.2.1) fun x115 => opt (atI a0 s11.2.1) fun x123 => opt (atI a1 s11.2.2) fun x141 => opt (atI a1 s11.2.2) fun x149 => br (leSI (x115.1, x123.2.2) (x141.1, x149.2.2)) (.ok ((s11.2.1 + (1 : Int)), s11.2.2)) (.ok (s11.2.1, (s11.2.2 + (1 : Int))))).bind fun s108 => .ok (s21, s108.1, s108.2))).bind fun s11 => .ok s11.1
@[irreducible] def m_without (a0 : List (PySem.Str × Int × Int)) (a1 : List (PySem.Str × Int × Int)) : Res (List (PySem.Str × Int × Int)) := (forN a0 (([] : List (PySem.Str × Int × Int)), (0 : Int)) (fun s15 x22 => (whileN ((a1.length + 1)) ((s15.2) : Int) (fun s38 => br (decide (s38 < (a1.length : Int))) (opt (atI a1 s38) fun x46 => opt (atI a1 s38) fun x54 => br (leSI (x46.1, x54.2.2) (x22.1, x22.2.1)) (.ok true) (.ok false)) (.ok false)) (fun s38 => .ok ((s38 + (1 : Int))))).bind fun s38 => (whileN ((a1.length + 1)) ((s15.1, x22.2.1, s38) : List (PySem.Str × Int × Int) × Int × Int) (fun s214 => br (decide (s214.2.2 < (a1.length : Int))) (opt (atI a1 s214.2.2) fun x224 => opt (atI a1 s214.2.2) fun x232 => br (ltSI (x224.1, x232.2.1) (x22.1, x22.2.2)) (.ok true) (.ok false)) (.ok false)) (fun s214 => (opt (atI a1 s214.2.2) fun x267 => br (decide (s214.2.1 < x267.2.1)) (opt (atI a1 s214.2.2) fun x276 => chk (decide (s214.1.length < sizeLine)) <| .ok ((s214.1 ++ [(x22.1, s214.2.1, x276.2.1)]))) (.ok (s214.1))).bind fun s258 => opt (atI a1 s214.2.2) fun x299 => .ok (s258, (if x299.2.2 > s214.2.1 then x299.2.2 else s214.2.1), (s214.2.2 + (1 : Int))))).bind fun s214 => (br (decide (s214.2.1 < x22.2.2)) (chk (decide (s214.1.length < sizeLine)) <| .ok ((s214.1 ++ [(x22.1, s214.2.1, x22.2.2)]))) (.ok (s214.1))).bind fun s326 => .ok (s326, s38))).bind fun s15 => .ok s15.1
@[irreducible] def m_size (a0 : List (PySem.Str × Int × Int)) : Res Int := chk (decide (a0.length ≤ sizeLine)) <| (compN a0 (fun x6 => .ok (x6.2.2 - x6.2.1))).bind fun y24 => .ok (List.sum y24)
@[irreducible] def m_law_cell (a0 : List Int) (a1 : Int) : Res Int := br (decide (a1 < (a0.length : Int))) (opt (atI a0 a1) fun x5 => .ok x5) (chk (mulOk (7 : Int) a1) <| .ok ((7 : Int) * a1))
@[irreducible] def m_law_pieces (a0 : Int) : Res (List PySem.Str) := br (!decide ((a0 % (3 : Int)) = (1 : Int))) (.ok ([("a" : PySem.Str), ("b" : PySem.Str), ("a1" : PySem.Str), ("main" : PySem.Str)] : List PySem.Str)) (chk (decide (("northroadsab" : PySem.Str).length ≤ sizeLine)) <| chk (decide ((cutS ("northroadsab" : PySem.Str) none (some ((2 : Int) + ((a0 / (3 : Int)) % (11 : Int))))).length ≤ sizeLine)) <| chk (decide (0 < ((cutS ("northroadsab" : PySem.Str) none (some ((2 : Int) + ((a0 / (3 : Int)) % (11 : Int))))).length : Int))) <| chk (decide ((signs ("xyz" : PySem.Str)).length ≤ sizeLine)) <| (compN (signs ("xyz" : PySem.Str)) (fun x26 => chk (decide ((cutS ("northroadsab" : PySem.Str) none (some ((2 : Int) + ((a0 / (3 : Int)) % (11 : Int))))).length ≤ sizeLine)) <| chk (decide ((cutS (cutS ("northroadsab" : PySem.Str) none (some ((2 : Int) + ((a0 / (3 : Int)) % (11 : Int))))) none (some ((a0 / (33 : Int)) % ((cutS ("northroadsab" : PySem.Str) none (some ((2 : Int) + ((a0 / (3 : Int)) % (11 : Int))))).length : Int)))).length + x26.length ≤ sizeLine)) <| chk (decide ((cutS ("northroadsab" : PySem.Str) none (some ((2 : Int) + ((a0 / (3 : Int)) % (11 : Int))))).length ≤ sizeLine)) <| chk (decide (((cutS (cutS ("northroadsab" : PySem.Str) none (some ((2 : Int) + ((a0 / (3 : Int)) % (11 : Int))))) none (some ((a0 / (33 : Int)) % ((cutS ("northroadsab" : PySem.Str) none (some ((2 : Int) + ((a0 / (3 : Int)) % (11 : Int))))).length : Int)))) ++ x26).length + (cutS (cutS ("northroadsab" : PySem.Str) none (some ((2 : Int) + ((a0 / (3 : Int)) % (11 : Int))))) (some (((a0 / (33 : Int)) % ((cutS ("northroadsab" : PySem.Str) none (some ((2 : Int) + ((a0 / (3 : Int)) % (11 : Int))))).length : Int)) + (1 : Int))) none).length ≤ sizeLine)) <| .ok (((cutS (cutS ("northroadsab" : PySem.Str) none (some ((2 : Int) + ((a0 / (3 : Int)) % (11 : Int))))) none (some ((a0 / (33 : Int)) % ((cutS ("northroadsab" : PySem.Str) none (some ((2 : Int) + ((a0 / (3 : Int)) % (11 : Int))))).length : Int)))) ++ x26) ++ (cutS (cutS ("northroadsab" : PySem.Str) none (some ((2 : Int) + ((a0 / (3 : Int)) % (11 : Int))))) (some (((a0 / (33 : Int)) % ((cutS ("northroadsab" : PySem.Str) none (some ((2 : Int) + ((a0 / (3 : Int)) % (11 : Int))))).length : Int)) + (1 : Int))) none)))).bind fun y37 => chk (decide (([(cutS ("northroadsab" : PySem.Str) none (some ((2 : Int) + ((a0 / (3 : Int)) % (11 : Int)))))] : List PySem.Str).length + y37.length ≤ sizeLine)) <| .ok (([(cutS ("northroadsab" : PySem.Str) none (some ((2 : Int) + ((a0 / (3 : Int)) % (11 : Int)))))] : List PySem.Str) ++ y37))
@[irreducible] def m_law_rows (a0 : List Int) (a1 : Int) (a2 : Int) : Res (List (PySem.Str × Int × Int)) := chk (rngOk a2) <| (forN (rng 0 a2.toNat) (([] : List (PySem.Str × Int × Int))) (fun s12 x19 => (m_law_cell a0 (a1 + x19)).bind fun y26 => (m_law_cell a0 (1 : Int)).bind fun y34 => (m_law_pieces y34).bind fun y42 => opt (atI y42 (y26 % (4 : Int))) fun x56 => opt (atI ([(8 : Int), (40 : Int), (1000000 : Int)] : List Int) ((y26 / (400 : Int)) % (3 : Int))) fun x72 => chk (decide (0 < x72)) <| opt (atI ([(4 : Int), (20 : Int), (1000000 : Int)] : List Int) ((y26 / (400 : Int)) % (3 : Int))) fun x89 => chk (decide (0 < x89)) <| chk (decide (s12.length < sizeLine)) <| .ok ((s12 ++ [(x56, ((y26 / (4 : Int)) % x72), (((y26 / (4 : Int)) % x72) + ((1 : Int) + ((y26 / (31 : Int)) % x89))))])))).bind fun s12 => .ok s12
@[irreducible] def m_law_has (a0 : List (PySem.Str × Int × Int)) (a1 : PySem.Str) (a2 : Int) : Res Bool := (forR a0 () (fun s5 x9 => br ((decide (x9.1 = a1)) && ((decide (x9.2.1 ≤ a2)) && (decide (a2 < x9.2.2)))) (.ok (.ret true)) (.ok (.nx ())))).bind fun cc => ctl cc (fun s5 => .ok false) (fun r => .ok r)
@[irreducible] def m_law_samples (a0 : List (PySem.Str × Int × Int)) : Res (List (PySem.Str × Int)) := (forN a0 (([(("a" : PySem.Str), (0 : Int)), (("zz" : PySem.Str), (3 : Int))] : List (PySem.Str × Int))) (fun s33 x39 => (forN ([(x39.2.1 - (1 : Int)), x39.2.1, (x39.2.1 + (1 : Int)), (x39.2.2 - (1 : Int)), x39.2.2] : List Int) (s33) (fun s65 x68 => (br (decide ((0 : Int) ≤ x68)) (chk (decide (s65.length < sizeLine)) <| .ok ((s65 ++ [(x39.1, x68)]))) (.ok (s65))).bind fun s75 => .ok (s75))).bind fun s65 => .ok (s65))).bind fun s33 => .ok s33
@[irreducible] def m_law_is_ground (a0 : List (PySem.Str × Int × Int)) : Res Bool := chk (rngOk (a0.length : Int)) <| (forR (rng 0 (a0.length : Int).toNat) () (fun s3 x8 => (orN (opt (atI a0 x8) fun x27 => .ok (!true)) (opt (atI a0 x8) fun x32 => .ok (!decide ((3 : Int) = (3 : Int))))).bind fun b34 => br b34 (.ok (.ret false)) (opt (atI a0 x8) fun x40 => br (false || (false || ((decide (x40.2.1 < (0 : Int))) || (decide (x40.2.2 ≤ x40.2.1))))) (.ok (.ret false)) ((andN (.ok (decide ((0 : Int) < x8))) (orN (opt (atI a0 (x8 - (1 : Int))) fun x79 => .ok (decide (x40.1.cps.toList < x79.1.cps.toList))) (andN (opt (atI a0 (x8 - (1 : Int))) fun x87 => .ok (decide (x87.1 = x40.1))) (opt (atI a0 (x8 - (1 : Int))) fun x95 => .ok (decide (x40.2.1 ≤ x95.2.2)))))).bind fun b100 => br b100 (.ok (.ret false)) (.ok (.nx ())))))).bind fun cc => ctl cc (fun s3 => .ok true) (fun r => .ok r)
@[irreducible] def m_law (a0 : List Int) : Res Bool := (m_law_cell a0 (0 : Int)).bind fun y1 => (m_law_rows a0 (2 : Int) (y1 % (10 : Int))).bind fun y9 => (m_normal y9).bind fun y19 => (m_law_cell a0 (1 : Int)).bind fun y31 => (m_law_rows a0 (12 : Int) (y31 % (10 : Int))).bind fun y39 => (m_normal y39).bind fun y49 => (m_union y19 y49).bind fun y89 => (m_common y19 y49).bind fun y99 => (m_without y19 y49).bind fun y110 => br (!decide ((y19, y49) = (y19, y49))) (.ok false) ((m_law_is_ground y89).bind fun y135 => br y135 ((m_law_is_ground y99).bind fun y144 => br y144 ((m_law_is_ground y110).bind fun y153 => br y153 (chk (decide (y19.length + y49.length ≤ sizeLine)) <| chk (decide ((y19 ++ y49).length + y89.length ≤ sizeLine)) <| chk (decide (((y19 ++ y49) ++ y89).length + y99.length ≤ sizeLine)) <| chk (decide ((((y19 ++ y49) ++ y89) ++ y99).length + y110.length ≤ sizeLine)) <| (m_law_samples ((((y19 ++ y49) ++ y89) ++ y99) ++ y110)).bind fun y206 => (forR y206 () (fun s219 x224 => (m_law_has y19 x224.1 x224.2).bind fun y237 => (m_law_has y49 x224.1 x224.2).bind fun y245 => (m_law_has y89 x224.1 x224.2).bind fun y253 => br (!decide (y253 = (y237 || y245))) (.ok (.ret false)) ((m_law_has y99 x224.1 x224.2).bind fun y262 => br (!decide (y262 = (y237 && y245))) (.ok (.ret false)) ((m_law_has y110 x224.1 x224.2).bind fun y271 => br (!decide (y271 = (y237 && (!y245)))) (.ok (.ret false)) (.ok (.nx ())))))).bind fun cc => ctl cc (fun s219 => (m_size y89).bind fun y283 => (m_size y99).bind fun y291 => (m_size y19).bind fun y299 => (m_size y49).bind fun y307 => br (!decide ((y283 + y291) = (y299 + y307))) (.ok false) ((m_size y99).bind fun y316 => (m_size y110).bind fun y324 => (m_size y19).bind fun y332 => br (!decide ((y316 + y324) = y332)) (.ok false) ((m_common y49 y19).bind fun y341 => br (!decide (y341 = y99)) (.ok false) ((m_union y49 y19).bind fun y355 => br (!decide (y355 = y89)) (.ok false) ((m_without y19 y19).bind fun y369 => br (!decide (y369 = ([] : List (PySem.Str × Int × Int)))) (.ok false) ((m_union y19 ([] : List (PySem.Str × Int × Int))).bind fun y410 => br (!decide (y410 = y19)) (.ok false) ((m_union y19 ([] : List (PySem.Str × Int × Int))).bind fun y437 => (m_union ([] : List (PySem.Str × Int × Int)) y49).bind fun y464 => (m_union y19 y19).bind fun y478 => (m_common y19 y19).bind fun y493 => (m_without y19 ([] : List (PySem.Str × Int × Int))).bind fun y526 => (forN ([y437, y464, y478, y493, y526, y89, y99, y110] : List (List (PySem.Str × Int × Int))) () (fun _ x572 => chk (decide (x572.length < sizeLine)) <| .ok ())).bind fun _ => .ok (decide ((y19, y49) = (y19, y49)))))))))) (fun r => .ok r)) (.ok false)) (.ok false)) (.ok false))
end Lw
namespace Lw
open PySem L2 Kb
def topS (i : Nat) : Stmt := PySem.Challenge.pw_kerbmark_k16_ground_put_together.main.body.getD i (.Pass ⟨0, 0, 0, 0⟩)
abbrev s_check_row : Stmt := topS 4
abbrev s_normal : Stmt := topS 5
abbrev s_union : Stmt := topS 6
abbrev s_common : Stmt := topS 7
abbrev s_without : Stmt := topS 8
abbrev s_size : Stmt := topS 9
abbrev s_law_cell : Stmt := topS 11
abbrev s_law_pieces : Stmt := topS 12
abbrev s_law_rows : Stmt := topS 13
abbrev s_law_has : Stmt := topS 14
abbrev s_law_samples : Stmt := topS 15
abbrev s_law_is_ground : Stmt := topS 16
abbrev s_law : Stmt := topS 17
structure Ad where
  ea : Err → Addr
  kerb : Addr
  check_row : Addr
  check_row_fd : FuncData
  normal : Addr
  normal_fd : FuncData
  union : Addr
  union_fd : FuncData
  common : Addr
  common_fd : FuncData
  without : Addr
  without_fd : FuncData
  size : Addr
  size_fd : FuncData
  law_cell : Addr
  law_cell_fd : FuncData
  law_pieces : Addr
  law_pieces_fd : FuncData
  law_rows : Addr
  law_rows_fd : FuncData
  law_has : Addr
  law_has_fd : FuncData
  law_samples : Addr
  law_samples_fd : FuncData
  law_is_ground : Addr
  law_is_ground_fd : FuncData
  law : Addr
  law_fd : FuncData
structure Txt (K : PySem.W.Frag) (mg : Str → Option Value) (a : Ad) : Prop where
  check_row : Df K mg "check_row" s_check_row a.check_row a.check_row_fd ["row"]
  normal : Df K mg "normal" s_normal a.normal a.normal_fd ["rows"]
  union : Df K mg "union" s_union a.union a.union_fd ["a", "b"]
  common : Df K mg "common" s_common a.common a.common_fd ["a", "b"]
  without : Df K mg "without" s_without a.without a.without_fd ["a", "b"]
  size : Df K mg "size" s_size a.size a.size_fd ["ground"]
  law_cell : Df K mg "_law_cell" s_law_cell a.law_cell a.law_cell_fd ["_law_script", "_law_k"]
  law_pieces : Df K mg "_law_pieces" s_law_pieces a.law_pieces a.law_pieces_fd ["_law_cell_here"]
  law_rows : Df K mg "_law_rows" s_law_rows a.law_rows a.law_rows_fd ["_law_script", "_law_at", "_law_count"]
  law_has : Df K mg "_law_has" s_law_has a.law_has a.law_has_fd ["_law_rows_here", "_law_piece", "_law_k"]
  law_samples : Df K mg "_law_samples" s_law_samples a.law_samples a.law_samples_fd ["_law_rows_here"]
  law_is_ground : Df K mg "_law_is_ground" s_law_is_ground a.law_is_ground a.law_is_ground_fd ["_law_actual"]
  law : Df K mg "law" s_law a.law a.law_fd ["_law_script"]
  e_ground : ErrC K mg "InvalidGround" (a.ea .ground) [.type "ValueError", .type "Exception", .type "BaseException", .type "object"]
  exm_ground_ground : PySem.W.exmOne K (.ref (a.ea .ground)) (.ref (a.ea .ground)) = some true
  exm_ground_kerb : PySem.W.exmOne K (.ref (a.ea .ground)) (.ref a.kerb) = some true
  kerb_g : mg "KerbError" = some (.ref a.kerb)
  b_bool : mg "bool" = none
  b_int : mg "int" = none
  b_isinstance : mg "isinstance" = none
  b_len : mg "len" = none
  b_list : mg "list" = none
  b_max : mg "max" = none
  b_min : mg "min" = none
  b_range : mg "range" = none
  b_sorted : mg "sorted" = none
  b_sum : mg "sum" = none
  b_tuple : mg "tuple" = none
def sp_check_row (K : PySem.W.Frag) (ea : Err → Addr) : Sp := fun vs H Q E => ∃ (c : Cl) (w0 : V) (a0 : (PySem.Str × Int × Int)), vs = [w0] ∧ Wf c H ∧ (tyT3 tyS tyI tyI).r c H w0 a0 ∧ Kont (fun y c' H' => ∀ v, tyU.r c' H' v y → Q v H') (fun e _ H' => E (.ref (ea e)) none H') [] c H (m_check_row a0)
theorem ok_check_row {P : Program} {w : World} {K : PySem.W.Frag} {mg : Str → Option Value} {base : Heap} {a : Ad} (T : Txt K mg a) : FnOk P w K mg base (L2.CX P w) 1 a.check_row a.check_row_fd ["row"] (sp_check_row K a.ea) := by
  have sc : FnScope ["row", "piece", "begin", "end"] ["row"] (defScope s_check_row) := ⟨rfl, rfl, rfl, by decide +kernel, rfl, by decide +kernel, by decide +kernel⟩
  refine T.check_row.F.okX sc (fun vs H Q E h => ?_) (fun cdv A outer s H0 vs Q E hr h => ?_)
  · obtain ⟨_, _, _, rfl, _⟩ := h
    rfl
  · obtain ⟨c0, w0, a0, rfl, wf0, h0, k⟩ := h
    refine ⟨_, (pss_cons (ps_asg (pv 0) (pg_tup (n := 3) (by rfl) (pgs_cons (pg_name (i := 1) sc.nd rfl (Or.inl rfl)) (pgs_cons (pg_name (i := 2) sc.nd rfl (Or.inl rfl)) (pgs_cons (pg_name (i := 3) sc.nd rfl (Or.inl rfl)) pgs_nil))))) (pss_one (ps_if (PW.pt (pw_or (pt_cmpR op_lt (pv 2) pe_int (nomark _)) (pw_or1 (pt_cmpR op_ge (pv 2) (pv 3) (nomark _))))) (pss_one (ps_raise rfl (takes_of rfl rfl rfl rfl) (SkE.pmk_own1 PySem.F.excBase_ValueError T.e_ground.ex T.e_ground.g T.e_ground.kp T.e_ground.raises (by rfl) (pv 1)))) pss_nil))), ?_⟩
    have g0 : Step [] c0 H0 c0 H0 := Step.refl wf0
    unfold m_check_row at k
    refine seq_u ?_
    refine asg_u ?_
    refine Pv.go (pv_v rfl) ?_
    obtain ⟨ad1, u2, u3, u4, e9, rd8, h5, h6, h7⟩ := open3 h0
    subst e9
    refine gtup_u rd8 rfl ?_
    obtain ⟨h5, h5s⟩ := h5
    subst h5
    refine gcons_u ?_
    refine gname_u ?_
    have h6 : u3 = (V.int a0.2.1) := h6
    subst h6
    refine gcons_u ?_
    refine gname_u ?_
    have h7 : u4 = (V.int a0.2.2) := h7
    subst h7
    refine gcons_u ?_
    refine gname_u ?_
    refine gnil_u ?_
    refine nx_go ?_
    refine PvT.ifS (b := ((decide (a0.2.1 < (0 : Int))) || (decide (a0.2.2 ≤ a0.2.1)))) ?_ (fun b10 => ?_) (fun b10 => ?_)
    · exact (show PvT _ _ _ ((decide (a0.2.1 < (0 : Int))) || (decide (a0.2.2 ≤ a0.2.1))) from (pt_or (pt_t (pv_2 (pv_v rfl) pv_c rv_i)) (fun _ => (pt_t (pv_2 (pv_v rfl) (pv_v rfl) rv_i)))))
    · have k := k.brT b10
      refine (pv_v rfl) _ ?_
      exact k.fail g0
    · rw [brF_eq b10] at k
      refine next_u ?_
      refine nx_go ?_
      exact (k.done g0) _ rfl
def sp_normal (K : PySem.W.Frag) (ea : Err → Addr) : Sp := fun vs H Q E => ∃ (c : Cl) (w0 : V) (a0 : List (PySem.Str × Int × Int)), vs = [w0] ∧ Wf c H ∧ rP (tyT3 tyS tyI tyI) c H w0 a0 ∧ Kont (fun y c' H' => ∀ v, rO (tyT3 tyS tyI tyI) H c' H' v y → Q v H') (fun e _ H' => E (.ref (ea e)) none H') [] c H (m_normal a0)
theorem ok_normal {P : Program} {w : World} {K : PySem.W.Frag} {mg : Str → Option Value} {base : Heap} {a : Ad} (T : Txt K mg a) (G_check_row : FnOk P w K mg base (L2.CX P w) 1 a.check_row a.check_row_fd ["row"] (sp_check_row K a.ea)) : FnOk P w K mg base (L2.CX P w) 2 a.normal a.normal_fd ["rows"] (sp_normal K a.ea) := by
  have sc : FnScope ["rows", "row", "ground", "piece", "begin", "end"] ["rows"] (defScope s_normal) := ⟨rfl, rfl, rfl, by decide +kernel, rfl, by decide +kernel, by decide +kernel⟩
  refine T.normal.F.okX sc (fun vs H Q E h => ?_) (fun cdv A outer s H0 vs Q E hr h => ?_)
  · obtain ⟨_, _, _, rfl, _⟩ := h
    rfl
  · obtain ⟨c0, w0, a0, rfl, wf0, h0, k⟩ := h
    refine ⟨_, (pss_cons (ps_for (passes_of rfl) rfl (pi_list (pv 0)) (pg_name (i := 1) sc.nd rfl (Or.inl rfl)) (pss_one (ps_expr (pe_call G_check_row hr (by rfl) T.check_row.g T.check_row.F.kp T.check_row.b .nil (passes_call (takes_of rfl rfl rfl rfl) (fun _ _ _ _ h => h)) (pa_cons (pv 1) pa_nil))))) (pss_cons (ps_set (i := 2) sc.nd rfl (Or.inl rfl) (pe_lst pa_nil)) (pss_cons (ps_for (passes_of rfl) rfl (pi_list (pe_callB cr_sortT (by rfl) T.b_sorted (by decide +kernel) (pa_cons (pv 0) pa_nil))) (pg_tup (n := 3) (by rfl) (pgs_cons (pg_name (i := 3) sc.nd rfl (Or.inl rfl)) (pgs_cons (pg_name (i := 4) sc.nd rfl (Or.inl rfl)) (pgs_cons (pg_name (i := 5) sc.nd rfl (Or.inl rfl)) pgs_nil)))) (pss_one (ps_if (PW.pt (pw_and (pt_truth (pv 2) (by intro _; rfl)) (pw_and (pt_cmpR op_eq (pe_ix ix_tup (pe_ix ix_list (pv 2) (pe_un un_neg pe_int) (fun _ _ => rfl)) pe_int (fun _ _ => rfl)) (pv 3) (nomark _)) (pw_and1 (pt_cmpR op_le (pv 4) (pe_ix ix_tup (pe_ix ix_list (pv 2) (pe_un un_neg pe_int) (fun _ _ => rfl)) pe_int (fun _ _ => rfl)) (nomark _)))))) (pss_one (ps_asg (pe_tup (pa_cons (pv 3) (pa_cons (pe_ix ix_tup (pe_ix ix_list (pv 2) (pe_un un_neg pe_int) (fun _ _ => rfl)) pe_int (fun _ _ => rfl)) (pa_cons (pe_callB (call_max2 rfl) (by rfl) T.b_max (by decide +kernel) (pa_cons (pv 5) (pa_cons (pe_ix ix_tup (pe_ix ix_list (pv 2) (pe_un un_neg pe_int) (fun _ _ => rfl)) pe_int (fun _ _ => rfl)) pa_nil))) pa_nil)))) (pg_sub (pv 2) (pe_un un_neg pe_int) set_list))) (pss_one (ps_expr (pe_bm PySem.F.plainAttrs_list PySem.F.slot_list_append PySem.F.type_list_append mt_append (pv 2) (pa_cons (pe_tup (pa_cons (pv 3) (pa_cons (pv 4) (pa_cons (pv 5) pa_nil)))) pa_nil))))))) (pss_one (ps_ret (pv 2)))))), ?_⟩
    have g0 : Step [] c0 H0 c0 H0 := Step.refl wf0
    unfold m_normal at k
    refine seq_u ?_
    refine for_u ?_
    refine ilist_u ?_
    refine Pv.go (pv_v rfl) ?_
    obtain ⟨ad1, us2, e4, h3⟩ := rB_open h0.b
    subst e4
    refine ilist_e ((h3.at g0).rd) ?_
    refine for_n (A := (tyT3 tyS tyI tyI)) (a := ad1) (us := us2) (s0 := (() : Unit)) k (fun (s5 : Unit) (c : Cl) (H : Hp) (σ : L2.St) => ∃ (y6 : Option V), σ = [some (V.ref ad1), y6, none, none, none, none] ∧ Step [] c0 H0 c H) ⟨_, rfl, g0⟩ ?_ ?_ ?_
    · exact fun s c H σ ⟨y6, _, g⟩ => ⟨(h3.at g).rd, (h3.at g).rs⟩
    · intro s5 x7 v8 c10 H11 σ N i h9 k
      obtain ⟨y6, rfl, g12⟩ := i
      refine gname_u ?_
      refine drop_u ?_
      refine call_u ?_
      refine PvA.go (pa_c (pv_v rfl) pa_n) ?_
      refine ⟨c10, _, x7, rfl, g12.wf, h9, ?_⟩
      refine Kont.call k g12 (fun _ z => by cases z) (fun y13 e14 k c15 H16 st17 g18 v19 r20 => ?_) (fun e e14 c15 H16 st17 g18 pe => ?_)
      rotate_left
      · exact pe
      have r20 : v19 = V.non := r20
      subst r20
      have h9 := lift h9 st17
      refine nx_go ?_
      exact (k.done g18) _ ⟨_, rfl, g18⟩
    · intro s5 c21 H22 σ i k
      obtain ⟨y6, rfl, g23⟩ := i
      refine nx_go ?_
      refine seq_u ?_
      refine asg_u ?_
      refine lst_u ?_
      refine PvA.go pa_n ?_
      refine lst_end (Nat.le_of_ble_eq_true rfl) g23.wf fun p24 c25 H26 st27 cp28 ob29 np30 => ?_
      have w32 := g23.fresh np30
      have g33 := g23.tr0 st27
      have o31 : Own (tyT3 tyS tyI tyI) H0 c25 H26 p24 [] ([] : List (PySem.Str × Int × Int)) := ⟨cp28, ob29, trivial, w32⟩
      refine gname_u ?_
      refine nx_go ?_
      refine seq_u ?_
      refine for_u ?_
      refine ilist_u ?_
      refine cb_u ?_
      refine PvA.go (pa_c (pv_v rfl) pa_n) ?_
      refine sorted_end (H0 := H0) sk_SII (g33.pl0 h0).b g33.wf (fun _ n => g33.fresh n) fun p34 us35 c36 H37 o39_n st38 o39 => ?_
      have n40 : p24 ≠ p34 := ne_of_none o31.obj o39_n
      have g41 := g33.tr0 st38
      have o31 := o31.step0 st38
      refine ilist_e ((.inl (.inl o39.obj))) ?_
      refine for_n (A := (tyT3 tyS tyI tyI)) (a := p34) (us := us35) (s0 := ((([] : List (PySem.Str × Int × Int))) : List (PySem.Str × Int × Int))) k (fun (s42 : List (PySem.Str × Int × Int)) (c : Cl) (H : Hp) (σ : L2.St) => ∃ (us43 : List V) (y44 : Option V) (y45 : Option V) (y46 : Option V), σ = [some (V.ref ad1), y6, some (V.ref p24), y44, y45, y46] ∧ Step [] c0 H0 c H ∧ Own (tyT3 tyS tyI tyI) H0 c H p24 us43 s42 ∧ Own (tyT3 tyS tyI tyI) H0 c H p34 us35 (sortK keySII a0)) ⟨_, _, _, _, rfl, g41, o31, o39⟩ ?_ ?_ ?_
      · exact fun s c H σ ⟨us43, y44, y45, y46, _, g, _, hit⟩ => ⟨.inl (.inl hit.obj), hit.rs⟩
      · intro s42 x47 v48 c50 H51 σ N i h49 k
        obtain ⟨us43, y44, y45, y46, rfl, g52, o53, o39⟩ := i
        obtain ⟨ad54, u55, u56, u57, e62, rd61, h58, h59, h60⟩ := open3 h49
        subst e62
        refine gtup_u rd61 rfl ?_
        obtain ⟨h58, h58s⟩ := h58
        subst h58
        refine gcons_u ?_
        refine gname_u ?_
        have h59 : u56 = (V.int x47.2.1) := h59
        subst h59
        refine gcons_u ?_
        refine gname_u ?_
        have h60 : u57 = (V.int x47.2.2) := h60
        subst h60
        refine gcons_u ?_
        refine gname_u ?_
        refine gnil_u ?_
        refine if_cut k (fun (s63 : List (PySem.Str × Int × Int)) (c : Cl) (H : Hp) (σ : L2.St) => ∃ (us64 : List V), σ = [some (V.ref ad1), y6, some (V.ref p24), some (V.str x47.1), some (V.int x47.2.1), some (V.int x47.2.2)] ∧ Step [] c0 H0 c H ∧ Own (tyT3 tyS tyI tyI) H0 c H p24 us64 s63 ∧ Own (tyT3 tyS tyI tyI) H0 c H p34 us35 (sortK keySII a0)) ?_ ?_
        rotate_left
        · intro k
          obtain ⟨b101, e102, k⟩ := k.bindP (ne_andN ne_ok (ne_andN (ne_opt fun _ => ne_ok) (ne_opt fun _ => ne_ok)))
          refine PvT.ifS (b := b101) ?_ (fun b103 => ?_) (fun b103 => ?_)
          · exact (show PvT _ _ _ b101 from (pt_andN e102 (fun _ h => (by have h := h; exact PvT.is (pt_list o53.b (pv_v rfl)) (Res.ok.inj h))) (fun _ h => (pt_andN h (fun _ h => (by have h := h; obtain ⟨x88, e89, h⟩ := opt_inv h; obtain ⟨u85, h86, q87⟩ := rv_ixB o53.b e89; obtain ⟨u90, h91, q92⟩ := ix3_0 h86; obtain ⟨h91, h91s⟩ := h91; subst h91; exact PvT.is (pt_t (pv_2 (pv_2 (pv_2 (pv_v rfl) (pv_neg pv_c) (q87)) pv_c (q92)) (pv_v rfl) rv_eqs)) (Res.ok.inj h))) (fun _ h => (by have h := h; obtain ⟨x96, e97, h⟩ := opt_inv h; obtain ⟨u93, h94, q95⟩ := rv_ixB o53.b e97; obtain ⟨u98, h99, q100⟩ := ix3_2 h94; have h99 : u98 = (V.int x96.2.2) := h99; subst h99; exact PvT.is (pt_t (pv_2 (pv_v rfl) (pv_2 (pv_2 (pv_v rfl) (pv_neg pv_c) (q95)) pv_c (q100)) rv_i)) (Res.ok.inj h)))))))
          · have k := k.brT b103
            refine asg_u ?_
            refine tup_u ?_
            obtain ⟨x107, e108, k⟩ := k.opt
            obtain ⟨u104, h105, q106⟩ := rv_ixB o53.b e108
            obtain ⟨u109, h110, q111⟩ := ix3_1 h105
            have h110 : u109 = (V.int x107.2.1) := h110
            subst h110
            obtain ⟨x115, e116, k⟩ := k.opt
            obtain ⟨u112, h113, q114⟩ := rv_ixB o53.b e116
            obtain ⟨u117, h118, q119⟩ := ix3_2 h113
            have h118 : u117 = (V.int x115.2.2) := h118
            subst h118
            refine PvA.go (pa_c (pv_v rfl) (pa_c (pv_2 (pv_2 (pv_v rfl) (pv_neg pv_c) (q106)) pv_c (q111)) (pa_c (pv_cb (pa_c (pv_v rfl) (pa_c (pv_2 (pv_2 (pv_v rfl) (pv_neg pv_c) (q114)) pv_c (q119)) pa_n)) rc_max) pa_n))) ?_
            refine tup_end (Nat.le_of_ble_eq_true rfl) g52.wf fun p120 c121 H122 st123 cp124 rd125 np126 => ?_
            have n128 : p24 ≠ p120 := ne_of_none o53.obj np126
            have n129 : p34 ≠ p120 := ne_of_none o39.obj np126
            have g130 := g52.tr0 st123
            have o53 := o53.step0 st123
            have o39 := o39.step0 st123
            have h127 : (tyT3 tyS tyI tyI).r c121 H122 (V.ref p120) (x47.1, x107.2.1, (if x115.2.2 > x47.2.2 then x115.2.2 else x47.2.2)) := ⟨p120, _, _, _, rfl, cp124, rd125, ⟨rfl, h58s⟩, rfl, rfl⟩
            refine gsub_u ?_
            refine Pv.go (pv_v rfl) ?_
            refine Pv.go (pv_neg pv_c) ?_
            obtain ⟨j131, e132, k⟩ := k.opt
            refine set_end o53 g130.wf h127 e132 fun H133 st134 o135 => ?_
            have g136 := g130.tr1 st134 (.inr o135.new)
            have o39 := o39.step1 st134 (Ne.symm n40)
            exact k.done g136 _ ⟨_, rfl, g136, o135, o39⟩
          · rw [brF_eq b103] at k
            refine drop_u ?_
            refine bm_u ?_
            refine Pv.go (pv_v rfl) ?_
            refine ⟨ty_list (.inl o53.obj), ?_⟩
            refine cons_u ?_
            refine tup_u ?_
            refine PvA.go (pa_c (pv_v rfl) (pa_c (pv_v rfl) (pa_c (pv_v rfl) pa_n))) ?_
            refine tup_end (Nat.le_of_ble_eq_true rfl) g52.wf fun p137 c138 H139 st140 cp141 rd142 np143 => ?_
            have n145 : p24 ≠ p137 := ne_of_none o53.obj np143
            have n146 : p34 ≠ p137 := ne_of_none o39.obj np143
            have g147 := g52.tr0 st140
            have o53 := o53.step0 st140
            have o39 := o39.step0 st140
            have h144 : (tyT3 tyS tyI tyI).r c138 H139 (V.ref p137) (x47.1, x47.2.1, x47.2.2) := ⟨p137, _, _, _, rfl, cp141, rd142, ⟨rfl, h58s⟩, rfl, rfl⟩
            refine nil_u ?_
            obtain ⟨e148, k⟩ := k.chk
            refine append_end o53 g147.wf h144 (of_decide_eq_true e148) fun H149 st150 o151 => ?_
            have g152 := g147.tr1 st150 (.inr o151.new)
            have o39 := o39.step1 st150 (Ne.symm n40)
            exact k.done g152 _ ⟨_, rfl, g152, o151, o39⟩
        · intro s63 c65 H66 σ i k
          obtain ⟨us64, rfl, g67, o68, o39⟩ := i
          refine nx_go ?_
          exact (k.done g67) _ ⟨_, _, _, _, rfl, g67, o68, o39⟩
      · intro s42 c153 H154 σ i k
        obtain ⟨us43, y44, y45, y46, rfl, g155, o156, o39⟩ := i
        refine nx_go ?_
        refine ret_u ?_
        refine Pv.go (pv_v rfl) ?_
        exact (k.done g155) _ ⟨_, _, rfl, o156⟩
def sp_union (K : PySem.W.Frag) (ea : Err → Addr) : Sp := fun vs H Q E => ∃ (c : Cl) (w0 : V) (a0 : List (PySem.Str × Int × Int)) (w1 : V) (a1 : List (PySem.Str × Int × Int)), vs = [w0, w1] ∧ Wf c H ∧ rP (tyT3 tyS tyI tyI) c H w0 a0 ∧ rP (tyT3 tyS tyI tyI) c H w1 a1 ∧ Kont (fun y c' H' => ∀ v, rO (tyT3 tyS tyI tyI) H c' H' v y → Q v H') (fun e _ H' => E (.ref (ea e)) none H') [] c H (m_union a0 a1)
theorem ok_union {P : Program} {w : World} {K : PySem.W.Frag} {mg : Str → Option Value} {base : Heap} {a : Ad} (T : Txt K mg a) (G_normal : FnOk P w K mg base (L2.CX P w) 2 a.normal a.normal_fd ["rows"] (sp_normal K a.ea)) : FnOk P w K mg base (L2.CX P w) 3 a.union a.union_fd ["a", "b"] (sp_union K a.ea) := by
  have sc : FnScope ["a", "b"] ["a", "b"] (defScope s_union) := ⟨rfl, rfl, rfl, by decide +kernel, rfl, by decide +kernel, by decide +kernel⟩
  refine T.union.F.okX sc (fun vs H Q E h => ?_) (fun cdv A outer s H0 vs Q E hr h => ?_)
  · obtain ⟨_, _, _, _, _, rfl, _⟩ := h
    rfl
  · obtain ⟨c0, w0, a0, w1, a1, rfl, wf0, h0, h1, k⟩ := h
    refine ⟨_, (pss_one (ps_ret (pe_call G_normal hr (by rfl) T.normal.g T.normal.F.kp T.normal.b .nil (passes_call (takes_of rfl rfl rfl rfl) (fun _ _ _ _ h => h)) (pa_cons (pe_op op_cat (pv 0) (pv 1)) pa_nil)))), ?_⟩
    have g0 : Step [] c0 H0 c0 H0 := Step.refl wf0
    unfold m_union at k
    refine ret_u ?_
    refine call_u ?_
    refine cons_u ?_
    refine op_u ?_
    refine Pv.go (pv_v rfl) ?_
    refine Pv.go (pv_v rfl) ?_
    obtain ⟨e1, k⟩ := k.chk
    refine cat_B (H0 := H0) (g0.pl0 h0) (g0.pl0 h1) g0.wf (fun _ n => g0.fresh n) (of_decide_eq_true e1) fun p2 us3 c4 H5 o7_n st6 o7 => ?_
    have g8 := g0.tr0 st6
    refine nil_u ?_
    refine ⟨c4, _, (a0 ++ a1), rfl, g8.wf, o7.pl, ?_⟩
    refine Kont.call k g8 (fun _ z => by cases z) (fun y9 e10 k c11 H12 st13 g14 v15 r16 => ?_) (fun e e10 c11 H12 st13 g14 pe => ?_)
    rotate_left
    · exact pe
    obtain ⟨p17, us18, rfl, r16⟩ := r16
    have r16 := r16.base g8
    exact (k.done g14) _ ⟨_, _, rfl, r16⟩
def sp_common (K : PySem.W.Frag) (ea : Err → Addr) : Sp := fun vs H Q E => ∃ (c : Cl) (w0 : V) (a0 : List (PySem.Str × Int × Int)) (w1 : V) (a1 : List (PySem.Str × Int × Int)), vs = [w0, w1] ∧ Wf c H ∧ rP (tyT3 tyS tyI tyI) c H w0 a0 ∧ rP (tyT3 tyS tyI tyI) c H w1 a1 ∧ Kont (fun y c' H' => ∀ v, rO (tyT3 tyS tyI tyI) H c' H' v y → Q v H') (fun _ _ _ => False) [] c H (m_common a0 a1)
theorem ok_common {P : Program} {w : World} {K : PySem.W.Frag} {mg : Str → Option Value} {base : Heap} {a : Ad} (T : Txt K mg a) : FnOk P w K mg base CX0 1 a.common a.common_fd ["a", "b"] (sp_common K a.ea) := by
  have sc : FnScope ["a", "b", "rows", "i", "j", "begin", "end"] ["a", "b"] (defScope s_common) := ⟨rfl, rfl, rfl, by decide +kernel, rfl, by decide +kernel, by decide +kernel⟩
  refine T.common.F.ok sc (fun vs H Q E h => ?_) (fun cdv A outer s H0 vs Q E hr h => ?_)
  · obtain ⟨_, _, _, _, _, rfl, _⟩ := h
    rfl
  · obtain ⟨c0, w0, a0, w1, a1, rfl, wf0, h0, h1, k⟩ := h
    refine ⟨_, (pss_cons (ps_set (i := 2) sc.nd rfl (Or.inl rfl) (pe_lst pa_nil)) (pss_cons (ps_set (i := 3) sc.nd rfl (Or.inl rfl) pe_int) (pss_cons (ps_set (i := 4) sc.nd rfl (Or.inl rfl) pe_int) (pss_cons (ps_while PassesOwn.never (PW.pt (pw_and (pt_cmpR op_lt (pv 3) (pe_callB call_len_seq (by rfl) T.b_len PySem.boot_len (pa_cons (pv 0) pa_nil)) (nomark _)) (pw_and1 (pt_cmpR op_lt (pv 4) (pe_callB call_len_seq (by rfl) T.b_len PySem.boot_len (pa_cons (pv 1) pa_nil)) (nomark _))))) (pss_cons (ps_if (pt_cmpR op_eq (pe_ix ix_tup (pe_ix ix_list (pv 0) (pv 3) (fun _ _ => rfl)) pe_int (fun _ _ => rfl)) (pe_ix ix_tup (pe_ix ix_list (pv 1) (pv 4) (fun _ _ => rfl)) pe_int (fun _ _ => rfl)) (nomark _)) (pss_cons (ps_set (i := 5) sc.nd rfl (Or.inl rfl) (pe_callB (call_max2 rfl) (by rfl) T.b_max (by decide +kernel) (pa_cons (pe_ix ix_tup (pe_ix ix_list (pv 0) (pv 3) (fun _ _ => rfl)) pe_int (fun _ _ => rfl)) (pa_cons (pe_ix ix_tup (pe_ix ix_list (pv 1) (pv 4) (fun _ _ => rfl)) pe_int (fun _ _ => rfl)) pa_nil)))) (pss_cons (ps_set (i := 6) sc.nd rfl (Or.inl rfl) (pe_callB (call_min2 rfl) (by rfl) T.b_min (by decide +kernel) (pa_cons (pe_ix ix_tup (pe_ix ix_list (pv 0) (pv 3) (fun _ _ => rfl)) pe_int (fun _ _ => rfl)) (pa_cons (pe_ix ix_tup (pe_ix ix_list (pv 1) (pv 4) (fun _ _ => rfl)) pe_int (fun _ _ => rfl)) pa_nil)))) (pss_one (ps_if (pt_cmpR op_lt (pv 5) (pv 6) (nomark _)) (pss_one (ps_expr (pe_bm PySem.F.plainAttrs_list PySem.F.slot_list_append PySem.F.type_list_append mt_append (pv 2) (pa_cons (pe_tup (pa_cons (pe_ix ix_tup (pe_ix ix_list (pv 0) (pv 3) (fun _ _ => rfl)) pe_int (fun _ _ => rfl)) (pa_cons (pv 5) (pa_cons (pv 6) pa_nil)))) pa_nil)))) pss_nil)))) pss_nil) (pss_one (ps_if (pt_cmpR (op_leSI (K := K) (by rfl) (Nat.lt_of_le_of_lt (Nat.le_add_right _ _) hr.units)) (pe_tup (pa_cons (pe_ix ix_tup (pe_ix ix_list (pv 0) (pv 3) (fun _ _ => rfl)) pe_int (fun _ _ => rfl)) (pa_cons (pe_ix ix_tup (pe_ix ix_list (pv 0) (pv 3) (fun _ _ => rfl)) pe_int (fun _ _ => rfl)) pa_nil))) (pe_tup (pa_cons (pe_ix ix_tup (pe_ix ix_list (pv 1) (pv 4) (fun _ _ => rfl)) pe_int (fun _ _ => rfl)) (pa_cons (pe_ix ix_tup (pe_ix ix_list (pv 1) (pv 4) (fun _ _ => rfl)) pe_int (fun _ _ => rfl)) pa_nil))) (nomark _)) (pss_one (ps_set (i := 3) sc.nd rfl (Or.inl rfl) (pe_op op_add (pv 3) pe_int))) (pss_one (ps_set (i := 4) sc.nd rfl (Or.inl rfl) (pe_op op_add (pv 4) pe_int))))))) (pss_one (ps_ret (pv 2))))))), ?_⟩
    have g0 : Step [] c0 H0 c0 H0 := Step.refl wf0
    unfold m_common at k
    refine seq_u ?_
    refine asg_u ?_
    refine lst_u ?_
    refine PvA.go pa_n ?_
    refine lst_end (Nat.le_of_ble_eq_true rfl) g0.wf fun p1 c2 H3 st4 cp5 ob6 np7 => ?_
    have w9 := g0.fresh np7
    have g10 := g0.tr0 st4
    have o8 : Own (tyT3 tyS tyI tyI) H0 c2 H3 p1 [] ([] : List (PySem.Str × Int × Int)) := ⟨cp5, ob6, trivial, w9⟩
    refine gname_u ?_
    refine nx_go ?_
    refine seq_u ?_
    refine asg_u ?_
    refine Pv.go pv_c ?_
    refine gname_u ?_
    refine nx_go ?_
    refine seq_u ?_
    refine asg_u ?_
    refine Pv.go pv_c ?_
    refine gname_u ?_
    refine nx_go ?_
    refine seq_u ?_
    refine while_m (s0 := ((([] : List (PySem.Str × Int × Int)), (0 : Int), (0 : Int)) : List (PySem.Str × Int × Int) × Int × Int)) k (fun (s11 : List (PySem.Str × Int × Int) × Int × Int) (c : Cl) (H : Hp) (σ : L2.St) => ∃ (us12 : List V) (y13 : Option V) (y14 : Option V), σ = [some w0, some w1, some (V.ref p1), some (V.int s11.2.1), some (V.int s11.2.2), y13, y14] ∧ Step [] c0 H0 c H ∧ Own (tyT3 tyS tyI tyI) H0 c H p1 us12 s11.1) ⟨_, _, _, rfl, g10, o8⟩ ?_
    intro n s11 c15 H16 σ M i hM k
    obtain ⟨us12, y13, y14, rfl, g17, o18⟩ := i
    have hM18 := hM
    have k := k.turn
    refine and_s ?_
    refine PvT.go (pt_t (pv_2 (pv_v rfl) (len_B (g17.pl0 h0).b (pv_v rfl)) rv_i)) ?_
    refine ite_b (b := (decide (s11.2.1 < (a0.length : Int)))) (fun b19 => ?_) (fun b19 => ?_)
    · have k := k.brT b19
      refine PvT.go (pt_t (pv_2 (pv_v rfl) (len_B (g17.pl0 h1).b (pv_v rfl)) rv_i)) ?_
      refine ite_b (b := (decide (s11.2.2 < (a1.length : Int)))) (fun b20 => ?_) (fun b20 => ?_)
      · have k := k.brT b20
        have k := ((k.done g17).brT rfl).turn
        refine ⟨_, fun _ _ q => q, ?_⟩
        refine seq_u ?_
        refine if_cut k (fun (s21 : List (PySem.Str × Int × Int)) (c : Cl) (H : Hp) (σ : L2.St) => ∃ (us22 : List V) (y23 : Option V) (y24 : Option V), σ = [some w0, some w1, some (V.ref p1), some (V.int s11.2.1), some (V.int s11.2.2), y23, y24] ∧ Step [] c0 H0 c H ∧ Own (tyT3 tyS tyI tyI) H0 c H p1 us22 s21) ?_ ?_
        rotate_left
        · intro k
          obtain ⟨x32, e33, k⟩ := k.opt
          obtain ⟨u29, h30, q31⟩ := rv_ixB (g17.pl0 h0).b e33
          obtain ⟨u34, h35, q36⟩ := ix3_0 h30
          obtain ⟨h35, h35s⟩ := h35
          subst h35
          obtain ⟨x40, e41, k⟩ := k.opt
          obtain ⟨u37, h38, q39⟩ := rv_ixB (g17.pl0 h1).b e41
          obtain ⟨u42, h43, q44⟩ := ix3_0 h38
          obtain ⟨h43, h43s⟩ := h43
          subst h43
          refine PvT.ifS (b := (decide (x32.1 = x40.1))) ?_ (fun b45 => ?_) (fun b45 => ?_)
          · exact (show PvT _ _ _ (decide (x32.1 = x40.1)) from (pt_t (pv_2 (pv_2 (pv_2 (pv_v rfl) (pv_v rfl) (q31)) pv_c (q36)) (pv_2 (pv_2 (pv_v rfl) (pv_v rfl) (q39)) pv_c (q44)) rv_eqs)))
          · have k := k.brT b45
            refine seq_u ?_
            refine asg_u ?_
            obtain ⟨x49, e50, k⟩ := k.opt
            obtain ⟨u46, h47, q48⟩ := rv_ixB (g17.pl0 h0).b e50
            obtain ⟨u51, h52, q53⟩ := ix3_1 h47
            have h52 : u51 = (V.int x49.2.1) := h52
            subst h52
            obtain ⟨x57, e58, k⟩ := k.opt
            obtain ⟨u54, h55, q56⟩ := rv_ixB (g17.pl0 h1).b e58
            obtain ⟨u59, h60, q61⟩ := ix3_1 h55
            have h60 : u59 = (V.int x57.2.1) := h60
            subst h60
            refine Pv.go (pv_cb (pa_c (pv_2 (pv_2 (pv_v rfl) (pv_v rfl) (q48)) pv_c (q53)) (pa_c (pv_2 (pv_2 (pv_v rfl) (pv_v rfl) (q56)) pv_c (q61)) pa_n)) rc_max) ?_
            refine gname_u ?_
            refine nx_go ?_
            refine seq_u ?_
            refine asg_u ?_
            obtain ⟨x65, e66, k⟩ := k.opt
            obtain ⟨u62, h63, q64⟩ := rv_ixB (g17.pl0 h0).b e66
            obtain ⟨u67, h68, q69⟩ := ix3_2 h63
            have h68 : u67 = (V.int x65.2.2) := h68
            subst h68
            obtain ⟨x73, e74, k⟩ := k.opt
            obtain ⟨u70, h71, q72⟩ := rv_ixB (g17.pl0 h1).b e74
            obtain ⟨u75, h76, q77⟩ := ix3_2 h71
            have h76 : u75 = (V.int x73.2.2) := h76
            subst h76
            refine Pv.go (pv_cb (pa_c (pv_2 (pv_2 (pv_v rfl) (pv_v rfl) (q64)) pv_c (q69)) (pa_c (pv_2 (pv_2 (pv_v rfl) (pv_v rfl) (q72)) pv_c (q77)) pa_n)) rc_min) ?_
            refine gname_u ?_
            refine nx_go ?_
            refine if_cut k (fun (s78 : List (PySem.Str × Int × Int)) (c : Cl) (H : Hp) (σ : L2.St) => ∃ (us79 : List V), σ = [some w0, some w1, some (V.ref p1), some (V.int s11.2.1), some (V.int s11.2.2), some (V.int (if x57.2.1 > x49.2.1 then x57.2.1 else x49.2.1)), some (V.int (if x73.2.2 < x65.2.2 then x73.2.2 else x65.2.2))] ∧ Step [] c0 H0 c H ∧ Own (tyT3 tyS tyI tyI) H0 c H p1 us79 s78) ?_ ?_
            rotate_left
            · intro k
              refine PvT.ifS (b := (decide ((if x57.2.1 > x49.2.1 then x57.2.1 else x49.2.1) < (if x73.2.2 < x65.2.2 then x73.2.2 else x65.2.2)))) ?_ (fun b84 => ?_) (fun b84 => ?_)
              · exact (show PvT _ _ _ (decide ((if x57.2.1 > x49.2.1 then x57.2.1 else x49.2.1) < (if x73.2.2 < x65.2.2 then x73.2.2 else x65.2.2))) from (pt_t (pv_2 (pv_v rfl) (pv_v rfl) rv_i)))
              · have k := k.brT b84
                refine drop_u ?_
                refine bm_u ?_
                refine Pv.go (pv_v rfl) ?_
                refine ⟨ty_list (.inl o18.obj), ?_⟩
                refine cons_u ?_
                refine tup_u ?_
                obtain ⟨x88, e89, k⟩ := k.opt
                obtain ⟨u85, h86, q87⟩ := rv_ixB (g17.pl0 h0).b e89
                obtain ⟨u90, h91, q92⟩ := ix3_0 h86
                obtain ⟨h91, h91s⟩ := h91
                subst h91
                refine PvA.go (pa_c (pv_2 (pv_2 (pv_v rfl) (pv_v rfl) (q87)) pv_c (q92)) (pa_c (pv_v rfl) (pa_c (pv_v rfl) pa_n))) ?_
                refine tup_end (Nat.le_of_ble_eq_true rfl) g17.wf fun p93 c94 H95 st96 cp97 rd98 np99 => ?_
                have n101 : p1 ≠ p93 := ne_of_none o18.obj np99
                have g102 := g17.tr0 st96
                have o18 := o18.step0 st96
                have h100 : (tyT3 tyS tyI tyI).r c94 H95 (V.ref p93) (x88.1, (if x57.2.1 > x49.2.1 then x57.2.1 else x49.2.1), (if x73.2.2 < x65.2.2 then x73.2.2 else x65.2.2)) := ⟨p93, _, _, _, rfl, cp97, rd98, ⟨rfl, h91s⟩, rfl, rfl⟩
                refine nil_u ?_
                obtain ⟨e103, k⟩ := k.chk
                refine append_end o18 g102.wf h100 (of_decide_eq_true e103) fun H104 st105 o106 => ?_
                have g107 := g102.tr1 st105 (.inr o106.new)
                exact k.done g107 _ ⟨_, rfl, g107, o106⟩
              · rw [brF_eq b84] at k
                refine next_u ?_
                exact k.done g17 _ ⟨_, rfl, g17, o18⟩
            · intro s78 c80 H81 σ i k
              obtain ⟨us79, rfl, g82, o83⟩ := i
              exact k.done g82 _ ⟨_, _, _, rfl, g82, o83⟩
          · rw [brF_eq b45] at k
            refine next_u ?_
            exact k.done g17 _ ⟨_, _, _, rfl, g17, o18⟩
        · intro s21 c25 H26 σ i k
          obtain ⟨us22, y23, y24, rfl, g27, o28⟩ := i
          refine nx_go ?_
          refine if_cut k (fun (s108 : Int × Int) (c : Cl) (H : Hp) (σ : L2.St) => σ = [some w0, some w1, some (V.ref p1), some (V.int s108.1), some (V.int s108.2), y23, y24] ∧ Step [] c0 H0 c H ∧ Own (tyT3 tyS tyI tyI) H0 c H p1 us22 s21) ?_ ?_
          rotate_left
          · intro k
            refine ifS_u ?_
            refine test_u ?_
            refine op_u ?_
            refine tup_u ?_
            obtain ⟨x115, e116, k⟩ := k.opt
            obtain ⟨u112, h113, q114⟩ := rv_ixB (g27.pl0 h0).b e116
            obtain ⟨u117, h118, q119⟩ := ix3_0 h113
            obtain ⟨h118, h118s⟩ := h118
            subst h118
            obtain ⟨x123, e124, k⟩ := k.opt
            obtain ⟨u120, h121, q122⟩ := rv_ixB (g27.pl0 h0).b e124
            obtain ⟨u125, h126, q127⟩ := ix3_2 h121
            have h126 : u125 = (V.int x123.2.2) := h126
            subst h126
            refine PvA.go (pa_c (pv_2 (pv_2 (pv_v rfl) (pv_v rfl) (q114)) pv_c (q119)) (pa_c (pv_2 (pv_2 (pv_v rfl) (pv_v rfl) (q122)) pv_c (q127)) pa_n)) ?_
            refine tup_end (Nat.le_of_ble_eq_true rfl) g27.wf fun p128 c129 H130 st131 cp132 rd133 np134 => ?_
            have n136 : p1 ≠ p128 := ne_of_none o28.obj np134
            have g137 := g27.tr0 st131
            have o28 := o28.step0 st131
            have h135 : (tyT2 tyS tyI).r c129 H130 (V.ref p128) (x115.1, x123.2.2) := ⟨p128, _, _, rfl, cp132, rd133, ⟨rfl, h118s⟩, rfl⟩
            refine tup_u ?_
            obtain ⟨x141, e142, k⟩ := k.opt
            obtain ⟨u138, h139, q140⟩ := rv_ixB (g137.pl0 h1).b e142
            obtain ⟨u143, h144, q145⟩ := ix3_0 h139
            obtain ⟨h144, h144s⟩ := h144
            subst h144
            obtain ⟨x149, e150, k⟩ := k.opt
            obtain ⟨u146, h147, q148⟩ := rv_ixB (g137.pl0 h1).b e150
            obtain ⟨u151, h152, q153⟩ := ix3_2 h147
            have h152 : u151 = (V.int x149.2.2) := h152
            subst h152
            refine PvA.go (pa_c (pv_2 (pv_2 (pv_v rfl) (pv_v rfl) (q140)) pv_c (q145)) (pa_c (pv_2 (pv_2 (pv_v rfl) (pv_v rfl) (q148)) pv_c (q153)) pa_n)) ?_
            refine tup_end (Nat.le_of_ble_eq_true rfl) g137.wf fun p154 c155 H156 st157 cp158 rd159 np160 => ?_
            have n162 : p1 ≠ p154 := ne_of_none o28.obj np160
            have g163 := g137.tr0 st157
            have o28 := o28.step0 st157
            have h135 := lift h135 st157
            have h161 : (tyT2 tyS tyI).r c155 H156 (V.ref p154) (x141.1, x149.2.2) := ⟨p154, _, _, rfl, cp158, rd159, ⟨rfl, h144s⟩, rfl⟩
            refine (rv_SI h135 h161) _ ?_
            refine ⟨_, rfl, ?_⟩
            refine ite_b (b := (leSI (x115.1, x123.2.2) (x141.1, x149.2.2))) (fun b164 => ?_) (fun b164 => ?_)
            · have k := k.brT b164
              refine asg_u ?_
              refine Pv.go (pv_2 (pv_v rfl) pv_c rv_i) ?_
              refine gname_u ?_
              exact k.done g163 _ ⟨rfl, g163, o28⟩
            · rw [brF_eq b164] at k
              refine asg_u ?_
              refine Pv.go (pv_2 (pv_v rfl) pv_c rv_i) ?_
              refine gname_u ?_
              exact k.done g163 _ ⟨rfl, g163, o28⟩
          · intro s108 c109 H110 σ i k
            obtain ⟨rfl, g111, o28⟩ := i
            refine nx_go ?_
            exact hM18 _ _ _ _ ⟨_, _, _, rfl, g111, o28⟩ (k.done g111)
      · rw [brF_eq b20] at k
        have k := (k.done g17).brF rfl
        refine nx_go ?_
        refine ret_u ?_
        refine Pv.go (pv_v rfl) ?_
        exact (k.done g17) _ ⟨_, _, rfl, o18⟩
    · rw [brF_eq b19] at k
      have k := (k.done g17).brF rfl
      refine nx_go ?_
      refine ret_u ?_
      refine Pv.go (pv_v rfl) ?_
      exact (k.done g17) _ ⟨_, _, rfl, o18⟩
def sp_without (K : PySem.W.Frag) (ea : Err → Addr) : Sp := fun vs H Q E => ∃ (c : Cl) (w0 : V) (a0 : List (PySem.Str × Int × Int)) (w1 : V) (a1 : List (PySem.Str × Int × Int)), vs = [w0, w1] ∧ Wf c H ∧ rP (tyT3 tyS tyI tyI) c H w0 a0 ∧ rP (tyT3 tyS tyI tyI) c H w1 a1 ∧ Kont (fun y c' H' => ∀ v, rO (tyT3 tyS tyI tyI) H c' H' v y → Q v H') (fun _ _ _ => False) [] c H (m_without a0 a1)
theorem ok_without {P : Program} {w : World} {K : PySem.W.Frag} {mg : Str → Option Value} {base : Heap} {a : Ad} (T : Txt K mg a) : FnOk P w K mg base CX0 1 a.without a.without_fd ["a", "b"] (sp_without K a.ea) := by
  have sc : FnScope ["a", "b", "rows", "j", "piece", "begin", "end", "at", "k"] ["a", "b"] (defScope s_without) := ⟨rfl, rfl, rfl, by decide +kernel, rfl, by decide +kernel, by decide +kernel⟩
  refine T.without.F.ok sc (fun vs H Q E h => ?_) (fun cdv A outer s H0 vs Q E hr h => ?_)
  · obtain ⟨_, _, _, _, _, rfl, _⟩ := h
    rfl
  · obtain ⟨c0, w0, a0, w1, a1, rfl, wf0, h0, h1, k⟩ := h
    refine ⟨_, (pss_cons (ps_set (i := 2) sc.nd rfl (Or.inl rfl) (pe_lst pa_nil)) (pss_cons (ps_set (i := 3) sc.nd rfl (Or.inl rfl) pe_int) (pss_cons (ps_for PassesOwn.never rfl (pi_list (pv 0)) (pg_tup (n := 3) (by rfl) (pgs_cons (pg_name (i := 4) sc.nd rfl (Or.inl rfl)) (pgs_cons (pg_name (i := 5) sc.nd rfl (Or.inl rfl)) (pgs_cons (pg_name (i := 6) sc.nd rfl (Or.inl rfl)) pgs_nil)))) (pss_cons (ps_set (i := 7) sc.nd rfl (Or.inl rfl) (pv 5)) (pss_cons (ps_while PassesOwn.never (PW.pt (pw_and (pt_cmpR op_lt (pv 3) (pe_callB call_len_seq (by rfl) T.b_len PySem.boot_len (pa_cons (pv 1) pa_nil)) (nomark _)) (pw_and1 (pt_cmpR (op_leSI (K := K) (by rfl) (Nat.lt_of_le_of_lt (Nat.le_add_right _ _) hr.units)) (pe_tup (pa_cons (pe_ix ix_tup (pe_ix ix_list (pv 1) (pv 3) (fun _ _ => rfl)) pe_int (fun _ _ => rfl)) (pa_cons (pe_ix ix_tup (pe_ix ix_list (pv 1) (pv 3) (fun _ _ => rfl)) pe_int (fun _ _ => rfl)) pa_nil))) (pe_tup (pa_cons (pv 4) (pa_cons (pv 5) pa_nil))) (nomark _))))) (pss_one (ps_set (i := 3) sc.nd rfl (Or.inl rfl) (pe_op op_add (pv 3) pe_int)))) (pss_cons (ps_set (i := 8) sc.nd rfl (Or.inl rfl) (pv 3)) (pss_cons (ps_while PassesOwn.never (PW.pt (pw_and (pt_cmpR op_lt (pv 8) (pe_callB call_len_seq (by rfl) T.b_len PySem.boot_len (pa_cons (pv 1) pa_nil)) (nomark _)) (pw_and1 (pt_cmpR (op_ltSI (K := K) (by rfl) (Nat.lt_of_le_of_lt (Nat.le_add_right _ _) hr.units)) (pe_tup (pa_cons (pe_ix ix_tup (pe_ix ix_list (pv 1) (pv 8) (fun _ _ => rfl)) pe_int (fun _ _ => rfl)) (pa_cons (pe_ix ix_tup (pe_ix ix_list (pv 1) (pv 8) (fun _ _ => rfl)) pe_int (fun _ _ => rfl)) pa_nil))) (pe_tup (pa_cons (pv 4) (pa_cons (pv 6) pa_nil))) (nomark _))))) (pss_cons (ps_if (pt_cmpR op_gt (pe_ix ix_tup (pe_ix ix_list (pv 1) (pv 8) (fun _ _ => rfl)) pe_int (fun _ _ => rfl)) (pv 7) (nomark _)) (pss_one (ps_expr (pe_bm PySem.F.plainAttrs_list PySem.F.slot_list_append PySem.F.type_list_append mt_append (pv 2) (pa_cons (pe_tup (pa_cons (pv 4) (pa_cons (pv 7) (pa_cons (pe_ix ix_tup (pe_ix ix_list (pv 1) (pv 8) (fun _ _ => rfl)) pe_int (fun _ _ => rfl)) pa_nil)))) pa_nil)))) pss_nil) (pss_cons (ps_set (i := 7) sc.nd rfl (Or.inl rfl) (pe_callB (call_max2 rfl) (by rfl) T.b_max (by decide +kernel) (pa_cons (pv 7) (pa_cons (pe_ix ix_tup (pe_ix ix_list (pv 1) (pv 8) (fun _ _ => rfl)) pe_int (fun _ _ => rfl)) pa_nil)))) (pss_one (ps_set (i := 8) sc.nd rfl (Or.inl rfl) (pe_op op_add (pv 8) pe_int)))))) (pss_one (ps_if (pt_cmpR op_lt (pv 7) (pv 6) (nomark _)) (pss_one (ps_expr (pe_bm PySem.F.plainAttrs_list PySem.F.slot_list_append PySem.F.type_list_append mt_append (pv 2) (pa_cons (pe_tup (pa_cons (pv 4) (pa_cons (pv 7) (pa_cons (pv 6) pa_nil)))) pa_nil)))) pss_nil))))))) (pss_one (ps_ret (pv 2)))))), ?_⟩
    have g0 : Step [] c0 H0 c0 H0 := Step.refl wf0
    unfold m_without at k
    refine seq_u ?_
    refine asg_u ?_
    refine lst_u ?_
    refine PvA.go pa_n ?_
    refine lst_end (Nat.le_of_ble_eq_true rfl) g0.wf fun p1 c2 H3 st4 cp5 ob6 np7 => ?_
    have w9 := g0.fresh np7
    have g10 := g0.tr0 st4
    have o8 : Own (tyT3 tyS tyI tyI) H0 c2 H3 p1 [] ([] : List (PySem.Str × Int × Int)) := ⟨cp5, ob6, trivial, w9⟩
    refine gname_u ?_
    refine nx_go ?_
    refine seq_u ?_
    refine asg_u ?_
    refine Pv.go pv_c ?_
    refine gname_u ?_
    refine nx_go ?_
    refine seq_u ?_
    refine for_u ?_
    refine ilist_u ?_
    refine Pv.go (pv_v rfl) ?_
    obtain ⟨ad11, us12, e14, h13⟩ := rB_open h0.b
    subst e14
    refine ilist_e ((h13.at g10).rd) ?_
    refine for_n (A := (tyT3 tyS tyI tyI)) (a := ad11) (us := us12) (s0 := ((([] : List (PySem.Str × Int × Int)), (0 : Int)) : List (PySem.Str × Int × Int) × Int)) k (fun (s15 : List (PySem.Str × Int × Int) × Int) (c : Cl) (H : Hp) (σ : L2.St) => ∃ (us16 : List V) (y17 : Option V) (y18 : Option V) (y19 : Option V) (y20 : Option V) (y21 : Option V), σ = [some (V.ref ad11), some w1, some (V.ref p1), some (V.int s15.2), y17, y18, y19, y20, y21] ∧ Step [] c0 H0 c H ∧ Own (tyT3 tyS tyI tyI) H0 c H p1 us16 s15.1) ⟨_, _, _, _, _, _, rfl, g10, o8⟩ ?_ ?_ ?_
    · exact fun s c H σ ⟨us16, y17, y18, y19, y20, y21, _, g, _⟩ => ⟨(h13.at g).rd, (h13.at g).rs⟩
    · intro s15 x22 v23 c25 H26 σ N i h24 k
      obtain ⟨us16, y17, y18, y19, y20, y21, rfl, g27, o28⟩ := i
      obtain ⟨ad29, u30, u31, u32, e37, rd36, h33, h34, h35⟩ := open3 h24
      subst e37
      refine gtup_u rd36 rfl ?_
      obtain ⟨h33, h33s⟩ := h33
      subst h33
      refine gcons_u ?_
      refine gname_u ?_
      have h34 : u31 = (V.int x22.2.1) := h34
      subst h34
      refine gcons_u ?_
      refine gname_u ?_
      have h35 : u32 = (V.int x22.2.2) := h35
      subst h35
      refine gcons_u ?_
      refine gname_u ?_
      refine gnil_u ?_
      refine seq_u ?_
      refine asg_u ?_
      refine Pv.go (pv_v rfl) ?_
      refine gname_u ?_
      refine nx_go ?_
      refine seq_u ?_
      refine while_m (s0 := ((s15.2) : Int)) k (fun (s38 : Int) (c : Cl) (H : Hp) (σ : L2.St) => σ = [some (V.ref ad11), some w1, some (V.ref p1), some (V.int s38), some (V.str x22.1), some (V.int x22.2.1), some (V.int x22.2.2), some (V.int x22.2.1), y21] ∧ Step [] c0 H0 c H ∧ Own (tyT3 tyS tyI tyI) H0 c H p1 us16 s15.1) ⟨rfl, g27, o28⟩ ?_
      intro n s38 c39 H40 σ M i hM k
      obtain ⟨rfl, g41, o28⟩ := i
      have hM41 := hM
      have k := k.turn
      refine and_s ?_
      refine PvT.go (pt_t (pv_2 (pv_v rfl) (len_B (g41.pl0 h1).b (pv_v rfl)) rv_i)) ?_
      refine ite_b (b := (decide (s38 < (a1.length : Int)))) (fun b42 => ?_) (fun b42 => ?_)
      · have k := k.brT b42
        refine test_u ?_
        refine op_u ?_
        refine tup_u ?_
        obtain ⟨x46, e47, k⟩ := k.opt
        obtain ⟨u43, h44, q45⟩ := rv_ixB (g41.pl0 h1).b e47
        obtain ⟨u48, h49, q50⟩ := ix3_0 h44
        obtain ⟨h49, h49s⟩ := h49
        subst h49
        obtain ⟨x54, e55, k⟩ := k.opt
        obtain ⟨u51, h52, q53⟩ := rv_ixB (g41.pl0 h1).b e55
        obtain ⟨u56, h57, q58⟩ := ix3_2 h52
        have h57 : u56 = (V.int x54.2.2) := h57
        subst h57
        refine PvA.go (pa_c (pv_2 (pv_2 (pv_v rfl) (pv_v rfl) (q45)) pv_c (q50)) (pa_c (pv_2 (pv_2 (pv_v rfl) (pv_v rfl) (q53)) pv_c (q58)) pa_n)) ?_
        refine tup_end (Nat.le_of_ble_eq_true rfl) g41.wf fun p59 c60 H61 st62 cp63 rd64 np65 => ?_
        have n67 : p1 ≠ p59 := ne_of_none o28.obj np65
        have g68 := g41.tr0 st62
        have o28 := o28.step0 st62
        have h66 : (tyT2 tyS tyI).r c60 H61 (V.ref p59) (x46.1, x54.2.2) := ⟨p59, _, _, rfl, cp63, rd64, ⟨rfl, h49s⟩, rfl⟩
        refine tup_u ?_
        refine PvA.go (pa_c (pv_v rfl) (pa_c (pv_v rfl) pa_n)) ?_
        refine tup_end (Nat.le_of_ble_eq_true rfl) g68.wf fun p69 c70 H71 st72 cp73 rd74 np75 => ?_
        have n77 : p1 ≠ p69 := ne_of_none o28.obj np75
        have g78 := g68.tr0 st72
        have o28 := o28.step0 st72
        have h66 := lift h66 st72
        have h76 : (tyT2 tyS tyI).r c70 H71 (V.ref p69) (x22.1, x22.2.1) := ⟨p69, _, _, rfl, cp73, rd74, ⟨rfl, h33s⟩, rfl⟩
        refine (rv_SI h66 h76) _ ?_
        refine ⟨_, rfl, ?_⟩
        refine ite_b (b := (leSI (x46.1, x54.2.2) (x22.1, x22.2.1))) (fun b79 => ?_) (fun b79 => ?_)
        · have k := k.brT b79
          have k := ((k.done g78).brT rfl).turn
          refine ⟨_, fun _ _ q => q, ?_⟩
          refine asg_u ?_
          refine Pv.go (pv_2 (pv_v rfl) pv_c rv_i) ?_
          refine gname_u ?_
          refine nx_go ?_
          exact hM41 _ _ _ _ ⟨rfl, g78, o28⟩ (k.done g78)
        · rw [brF_eq b79] at k
          have k := (k.done g78).brF rfl
          refine nx_go ?_
          refine seq_u ?_
          refine asg_u ?_
          refine Pv.go (pv_v rfl) ?_
          refine gname_u ?_
          refine nx_go ?_
          refine seq_u ?_
          refine while_m (s0 := ((s15.1, x22.2.1, s38) : List (PySem.Str × Int × Int) × Int × Int)) k (fun (s80 : List (PySem.Str × Int × Int) × Int × Int) (c : Cl) (H : Hp) (σ : L2.St) => ∃ (us81 : List V), σ = [some (V.ref ad11), some w1, some (V.ref p1), some (V.int s38), some (V.str x22.1), some (V.int x22.2.1), some (V.int x22.2.2), some (V.int s80.2.1), some (V.int s80.2.2)] ∧ Step [] c0 H0 c H ∧ Own (tyT3 tyS tyI tyI) H0 c H p1 us81 s80.1) ⟨_, rfl, g78, o28⟩ ?_
          intro n s80 c82 H83 σ M i hM k
          obtain ⟨us81, rfl, g84, o85⟩ := i
          have hM85 := hM
          have k := k.turn
          refine and_s ?_
          refine PvT.go (pt_t (pv_2 (pv_v rfl) (len_B (g84.pl0 h1).b (pv_v rfl)) rv_i)) ?_
          refine ite_b (b := (decide (s80.2.2 < (a1.length : Int)))) (fun b86 => ?_) (fun b86 => ?_)
          · have k := k.brT b86
            refine test_u ?_
            refine op_u ?_
            refine tup_u ?_
            obtain ⟨x90, e91, k⟩ := k.opt
            obtain ⟨u87, h88, q89⟩ := rv_ixB (g84.pl0 h1).b e91
            obtain ⟨u92, h93, q94⟩ := ix3_0 h88
            obtain ⟨h93, h93s⟩ := h93
            subst h93
            obtain ⟨x98, e99, k⟩ := k.opt
            obtain ⟨u95, h96, q97⟩ := rv_ixB (g84.pl0 h1).b e99
            obtain ⟨u100, h101, q102⟩ := ix3_1 h96
            have h101 : u100 = (V.int x98.2.1) := h101
            subst h101
            refine PvA.go (pa_c (pv_2 (pv_2 (pv_v rfl) (pv_v rfl) (q89)) pv_c (q94)) (pa_c (pv_2 (pv_2 (pv_v rfl) (pv_v rfl) (q97)) pv_c (q102)) pa_n)) ?_
            refine tup_end (Nat.le_of_ble_eq_true rfl) g84.wf fun p103 c104 H105 st106 cp107 rd108 np109 => ?_
            have n111 : p1 ≠ p103 := ne_of_none o85.obj np109
            have g112 := g84.tr0 st106
            have o85 := o85.step0 st106
            have h110 : (tyT2 tyS tyI).r c104 H105 (V.ref p103) (x90.1, x98.2.1) := ⟨p103, _, _, rfl, cp107, rd108, ⟨rfl, h93s⟩, rfl⟩
            refine tup_u ?_
            refine PvA.go (pa_c (pv_v rfl) (pa_c (pv_v rfl) pa_n)) ?_
            refine tup_end (Nat.le_of_ble_eq_true rfl) g112.wf fun p113 c114 H115 st116 cp117 rd118 np119 => ?_
            have n121 : p1 ≠ p113 := ne_of_none o85.obj np119
            have g122 := g112.tr0 st116
            have o85 := o85.step0 st116
            have h110 := lift h110 st116
            have h120 : (tyT2 tyS tyI).r c114 H115 (V.ref p113) (x22.1, x22.2.2) := ⟨p113, _, _, rfl, cp117, rd118, ⟨rfl, h33s⟩, rfl⟩
            refine (rv_SI h110 h120) _ ?_
            refine ⟨_, rfl, ?_⟩
            refine ite_b (b := (ltSI (x90.1, x98.2.1) (x22.1, x22.2.2))) (fun b123 => ?_) (fun b123 => ?_)
            · have k := k.brT b123
              have k := ((k.done g122).brT rfl).turn
              refine ⟨_, fun _ _ q => q, ?_⟩
              refine seq_u ?_
              refine if_cut k (fun (s124 : List (PySem.Str × Int × Int)) (c : Cl) (H : Hp) (σ : L2.St) => ∃ (us125 : List V), σ = [some (V.ref ad11), some w1, some (V.ref p1), some (V.int s38), some (V.str x22.1), some (V.int x22.2.1), some (V.int x22.2.2), some (V.int s80.2.1), some (V.int s80.2.2)] ∧ Step [] c0 H0 c H ∧ Own (tyT3 tyS tyI tyI) H0 c H p1 us125 s124) ?_ ?_
              rotate_left
              · intro k
                obtain ⟨x133, e134, k⟩ := k.opt
                obtain ⟨u130, h131, q132⟩ := rv_ixB (g122.pl0 h1).b e134
                obtain ⟨u135, h136, q137⟩ := ix3_1 h131
                have h136 : u135 = (V.int x133.2.1) := h136
                subst h136
                refine PvT.ifS (b := (decide (s80.2.1 < x133.2.1))) ?_ (fun b138 => ?_) (fun b138 => ?_)
                · exact (show PvT _ _ _ (decide (s80.2.1 < x133.2.1)) from (pt_t (pv_2 (pv_2 (pv_2 (pv_v rfl) (pv_v rfl) (q132)) pv_c (q137)) (pv_v rfl) rv_i)))
                · have k := k.brT b138
                  refine drop_u ?_
                  refine bm_u ?_
                  refine Pv.go (pv_v rfl) ?_
                  refine ⟨ty_list (.inl o85.obj), ?_⟩
                  refine cons_u ?_
                  refine tup_u ?_
                  obtain ⟨x142, e143, k⟩ := k.opt
                  obtain ⟨u139, h140, q141⟩ := rv_ixB (g122.pl0 h1).b e143
                  obtain ⟨u144, h145, q146⟩ := ix3_1 h140
                  have h145 : u144 = (V.int x142.2.1) := h145
                  subst h145
                  refine PvA.go (pa_c (pv_v rfl) (pa_c (pv_v rfl) (pa_c (pv_2 (pv_2 (pv_v rfl) (pv_v rfl) (q141)) pv_c (q146)) pa_n))) ?_
                  refine tup_end (Nat.le_of_ble_eq_true rfl) g122.wf fun p147 c148 H149 st150 cp151 rd152 np153 => ?_
                  have n155 : p1 ≠ p147 := ne_of_none o85.obj np153
                  have g156 := g122.tr0 st150
                  have o85 := o85.step0 st150
                  have h154 : (tyT3 tyS tyI tyI).r c148 H149 (V.ref p147) (x22.1, s80.2.1, x142.2.1) := ⟨p147, _, _, _, rfl, cp151, rd152, ⟨rfl, h33s⟩, rfl, rfl⟩
                  refine nil_u ?_
                  obtain ⟨e157, k⟩ := k.chk
                  refine append_end o85 g156.wf h154 (of_decide_eq_true e157) fun H158 st159 o160 => ?_
                  have g161 := g156.tr1 st159 (.inr o160.new)
                  exact k.done g161 _ ⟨_, rfl, g161, o160⟩
                · rw [brF_eq b138] at k
                  refine next_u ?_
                  exact k.done g122 _ ⟨_, rfl, g122, o85⟩
              · intro s124 c126 H127 σ i k
                obtain ⟨us125, rfl, g128, o129⟩ := i
                refine nx_go ?_
                refine seq_u ?_
                refine asg_u ?_
                obtain ⟨x165, e166, k⟩ := k.opt
                obtain ⟨u162, h163, q164⟩ := rv_ixB (g128.pl0 h1).b e166
                obtain ⟨u167, h168, q169⟩ := ix3_2 h163
                have h168 : u167 = (V.int x165.2.2) := h168
                subst h168
                refine Pv.go (pv_cb (pa_c (pv_v rfl) (pa_c (pv_2 (pv_2 (pv_v rfl) (pv_v rfl) (q164)) pv_c (q169)) pa_n)) rc_max) ?_
                refine gname_u ?_
                refine nx_go ?_
                refine asg_u ?_
                refine Pv.go (pv_2 (pv_v rfl) pv_c rv_i) ?_
                refine gname_u ?_
                refine nx_go ?_
                exact hM85 _ _ _ _ ⟨_, rfl, g128, o129⟩ (k.done g128)
            · rw [brF_eq b123] at k
              have k := (k.done g122).brF rfl
              refine nx_go ?_
              refine if_cut k (fun (s170 : List (PySem.Str × Int × Int)) (c : Cl) (H : Hp) (σ : L2.St) => ∃ (us171 : List V), σ = [some (V.ref ad11), some w1, some (V.ref p1), some (V.int s38), some (V.str x22.1), some (V.int x22.2.1), some (V.int x22.2.2), some (V.int s80.2.1), some (V.int s80.2.2)] ∧ Step [] c0 H0 c H ∧ Own (tyT3 tyS tyI tyI) H0 c H p1 us171 s170) ?_ ?_
              rotate_left
              · intro k
                refine PvT.ifS (b := (decide (s80.2.1 < x22.2.2))) ?_ (fun b176 => ?_) (fun b176 => ?_)
                · exact (show PvT _ _ _ (decide (s80.2.1 < x22.2.2)) from (pt_t (pv_2 (pv_v rfl) (pv_v rfl) rv_i)))
                · have k := k.brT b176
                  refine drop_u ?_
                  refine bm_u ?_
                  refine Pv.go (pv_v rfl) ?_
                  refine ⟨ty_list (.inl o85.obj), ?_⟩
                  refine cons_u ?_
                  refine tup_u ?_
                  refine PvA.go (pa_c (pv_v rfl) (pa_c (pv_v rfl) (pa_c (pv_v rfl) pa_n))) ?_
                  refine tup_end (Nat.le_of_ble_eq_true rfl) g122.wf fun p177 c178 H179 st180 cp181 rd182 np183 => ?_
                  have n185 : p1 ≠ p177 := ne_of_none o85.obj np183
                  have g186 := g122.tr0 st180
                  have o85 := o85.step0 st180
                  have h184 : (tyT3 tyS tyI tyI).r c178 H179 (V.ref p177) (x22.1, s80.2.1, x22.2.2) := ⟨p177, _, _, _, rfl, cp181, rd182, ⟨rfl, h33s⟩, rfl, rfl⟩
                  refine nil_u ?_
                  obtain ⟨e187, k⟩ := k.chk
                  refine append_end o85 g186.wf h184 (of_decide_eq_true e187) fun H188 st189 o190 => ?_
                  have g191 := g186.tr1 st189 (.inr o190.new)
                  exact k.done g191 _ ⟨_, rfl, g191, o190⟩
                · rw [brF_eq b176] at k
                  refine next_u ?_
                  exact k.done g122 _ ⟨_, rfl, g122, o85⟩
              · intro s170 c172 H173 σ i k
                obtain ⟨us171, rfl, g174, o175⟩ := i
                refine nx_go ?_
                exact (k.done g174) _ ⟨_, _, _, _, _, _, rfl, g174, o175⟩
          · rw [brF_eq b86] at k
            have k := (k.done g84).brF rfl
            refine nx_go ?_
            refine if_cut k (fun (s192 : List (PySem.Str × Int × Int)) (c : Cl) (H : Hp) (σ : L2.St) => ∃ (us193 : List V), σ = [some (V.ref ad11), some w1, some (V.ref p1), some (V.int s38), some (V.str x22.1), some (V.int x22.2.1), some (V.int x22.2.2), some (V.int s80.2.1), some (V.int s80.2.2)] ∧ Step [] c0 H0 c H ∧ Own (tyT3 tyS tyI tyI) H0 c H p1 us193 s192) ?_ ?_
            rotate_left
            · intro k
              refine PvT.ifS (b := (decide (s80.2.1 < x22.2.2))) ?_ (fun b198 => ?_) (fun b198 => ?_)
              · exact (show PvT _ _ _ (decide (s80.2.1 < x22.2.2)) from (pt_t (pv_2 (pv_v rfl) (pv_v rfl) rv_i)))
              · have k := k.brT b198
                refine drop_u ?_
                refine bm_u ?_
                refine Pv.go (pv_v rfl) ?_
                refine ⟨ty_list (.inl o85.obj), ?_⟩
                refine cons_u ?_
                refine tup_u ?_
                refine PvA.go (pa_c (pv_v rfl) (pa_c (pv_v rfl) (pa_c (pv_v rfl) pa_n))) ?_
                refine tup_end (Nat.le_of_ble_eq_true rfl) g84.wf fun p199 c200 H201 st202 cp203 rd204 np205 => ?_
                have n207 : p1 ≠ p199 := ne_of_none o85.obj np205
                have g208 := g84.tr0 st202
                have o85 := o85.step0 st202
                have h206 : (tyT3 tyS tyI tyI).r c200 H201 (V.ref p199) (x22.1, s80.2.1, x22.2.2) := ⟨p199, _, _, _, rfl, cp203, rd204, ⟨rfl, h33s⟩, rfl, rfl⟩
                refine nil_u ?_
                obtain ⟨e209, k⟩ := k.chk
                refine append_end o85 g208.wf h206 (of_decide_eq_true e209) fun H210 st211 o212 => ?_
                have g213 := g208.tr1 st211 (.inr o212.new)
                exact k.done g213 _ ⟨_, rfl, g213, o212⟩
              · rw [brF_eq b198] at k
                refine next_u ?_
                exact k.done g84 _ ⟨_, rfl, g84, o85⟩
            · intro s192 c194 H195 σ i k
              obtain ⟨us193, rfl, g196, o197⟩ := i
              refine nx_go ?_
              exact (k.done g196) _ ⟨_, _, _, _, _, _, rfl, g196, o197⟩
      · rw [brF_eq b42] at k
        have k := (k.done g41).brF rfl
        refine nx_go ?_
        refine seq_u ?_
        refine asg_u ?_
        refine Pv.go (pv_v rfl) ?_
        refine gname_u ?_
        refine nx_go ?_
        refine seq_u ?_
        refine while_m (s0 := ((s15.1, x22.2.1, s38) : List (PySem.Str × Int × Int) × Int × Int)) k (fun (s214 : List (PySem.Str × Int × Int) × Int × Int) (c : Cl) (H : Hp) (σ : L2.St) => ∃ (us215 : List V), σ = [some (V.ref ad11), some w1, some (V.ref p1), some (V.int s38), some (V.str x22.1), some (V.int x22.2.1), some (V.int x22.2.2), some (V.int s214.2.1), some (V.int s214.2.2)] ∧ Step [] c0 H0 c H ∧ Own (tyT3 tyS tyI tyI) H0 c H p1 us215 s214.1) ⟨_, rfl, g41, o28⟩ ?_
        intro n s214 c216 H217 σ M i hM k
        obtain ⟨us215, rfl, g218, o219⟩ := i
        have hM219 := hM
        have k := k.turn
        refine and_s ?_
        refine PvT.go (pt_t (pv_2 (pv_v rfl) (len_B (g218.pl0 h1).b (pv_v rfl)) rv_i)) ?_
        refine ite_b (b := (decide (s214.2.2 < (a1.length : Int)))) (fun b220 => ?_) (fun b220 => ?_)
        · have k := k.brT b220
          refine test_u ?_
          refine op_u ?_
          refine tup_u ?_
          obtain ⟨x224, e225, k⟩ := k.opt
          obtain ⟨u221, h222, q223⟩ := rv_ixB (g218.pl0 h1).b e225
          obtain ⟨u226, h227, q228⟩ := ix3_0 h222
          obtain ⟨h227, h227s⟩ := h227
          subst h227
          obtain ⟨x232, e233, k⟩ := k.opt
          obtain ⟨u229, h230, q231⟩ := rv_ixB (g218.pl0 h1).b e233
          obtain ⟨u234, h235, q236⟩ := ix3_1 h230
          have h235 : u234 = (V.int x232.2.1) := h235
          subst h235
          refine PvA.go (pa_c (pv_2 (pv_2 (pv_v rfl) (pv_v rfl) (q223)) pv_c (q228)) (pa_c (pv_2 (pv_2 (pv_v rfl) (pv_v rfl) (q231)) pv_c (q236)) pa_n)) ?_
          refine tup_end (Nat.le_of_ble_eq_true rfl) g218.wf fun p237 c238 H239 st240 cp241 rd242 np243 => ?_
          have n245 : p1 ≠ p237 := ne_of_none o219.obj np243
          have g246 := g218.tr0 st240
          have o219 := o219.step0 st240
          have h244 : (tyT2 tyS tyI).r c238 H239 (V.ref p237) (x224.1, x232.2.1) := ⟨p237, _, _, rfl, cp241, rd242, ⟨rfl, h227s⟩, rfl⟩
          refine tup_u ?_
          refine PvA.go (pa_c (pv_v rfl) (pa_c (pv_v rfl) pa_n)) ?_
          refine tup_end (Nat.le_of_ble_eq_true rfl) g246.wf fun p247 c248 H249 st250 cp251 rd252 np253 => ?_
          have n255 : p1 ≠ p247 := ne_of_none o219.obj np253
          have g256 := g246.tr0 st250
          have o219 := o219.step0 st250
          have h244 := lift h244 st250
          have h254 : (tyT2 tyS tyI).r c248 H249 (V.ref p247) (x22.1, x22.2.2) := ⟨p247, _, _, rfl, cp251, rd252, ⟨rfl, h33s⟩, rfl⟩
          refine (rv_SI h244 h254) _ ?_
          refine ⟨_, rfl, ?_⟩
          refine ite_b (b := (ltSI (x224.1, x232.2.1) (x22.1, x22.2.2))) (fun b257 => ?_) (fun b257 => ?_)
          · have k := k.brT b257
            have k := ((k.done g256).brT rfl).turn
            refine ⟨_, fun _ _ q => q, ?_⟩
            refine seq_u ?_
            refine if_cut k (fun (s258 : List (PySem.Str × Int × Int)) (c : Cl) (H : Hp) (σ : L2.St) => ∃ (us259 : List V), σ = [some (V.ref ad11), some w1, some (V.ref p1), some (V.int s38), some (V.str x22.1), some (V.int x22.2.1), some (V.int x22.2.2), some (V.int s214.2.1), some (V.int s214.2.2)] ∧ Step [] c0 H0 c H ∧ Own (tyT3 tyS tyI tyI) H0 c H p1 us259 s258) ?_ ?_
            rotate_left
            · intro k
              obtain ⟨x267, e268, k⟩ := k.opt
              obtain ⟨u264, h265, q266⟩ := rv_ixB (g256.pl0 h1).b e268
              obtain ⟨u269, h270, q271⟩ := ix3_1 h265
              have h270 : u269 = (V.int x267.2.1) := h270
              subst h270
              refine PvT.ifS (b := (decide (s214.2.1 < x267.2.1))) ?_ (fun b272 => ?_) (fun b272 => ?_)
              · exact (show PvT _ _ _ (decide (s214.2.1 < x267.2.1)) from (pt_t (pv_2 (pv_2 (pv_2 (pv_v rfl) (pv_v rfl) (q266)) pv_c (q271)) (pv_v rfl) rv_i)))
              · have k := k.brT b272
                refine drop_u ?_
                refine bm_u ?_
                refine Pv.go (pv_v rfl) ?_
                refine ⟨ty_list (.inl o219.obj), ?_⟩
                refine cons_u ?_
                refine tup_u ?_
                obtain ⟨x276, e277, k⟩ := k.opt
                obtain ⟨u273, h274, q275⟩ := rv_ixB (g256.pl0 h1).b e277
                obtain ⟨u278, h279, q280⟩ := ix3_1 h274
                have h279 : u278 = (V.int x276.2.1) := h279
                subst h279
                refine PvA.go (pa_c (pv_v rfl) (pa_c (pv_v rfl) (pa_c (pv_2 (pv_2 (pv_v rfl) (pv_v rfl) (q275)) pv_c (q280)) pa_n))) ?_
                refine tup_end (Nat.le_of_ble_eq_true rfl) g256.wf fun p281 c282 H283 st284 cp285 rd286 np287 => ?_
                have n289 : p1 ≠ p281 := ne_of_none o219.obj np287
                have g290 := g256.tr0 st284
                have o219 := o219.step0 st284
                have h288 : (tyT3 tyS tyI tyI).r c282 H283 (V.ref p281) (x22.1, s214.2.1, x276.2.1) := ⟨p281, _, _, _, rfl, cp285, rd286, ⟨rfl, h33s⟩, rfl, rfl⟩
                refine nil_u ?_
                obtain ⟨e291, k⟩ := k.chk
                refine append_end o219 g290.wf h288 (of_decide_eq_true e291) fun H292 st293 o294 => ?_
                have g295 := g290.tr1 st293 (.inr o294.new)
                exact k.done g295 _ ⟨_, rfl, g295, o294⟩
              · rw [brF_eq b272] at k
                refine next_u ?_
                exact k.done g256 _ ⟨_, rfl, g256, o219⟩
            · intro s258 c260 H261 σ i k
              obtain ⟨us259, rfl, g262, o263⟩ := i
              refine nx_go ?_
              refine seq_u ?_
              refine asg_u ?_
              obtain ⟨x299, e300, k⟩ := k.opt
              obtain ⟨u296, h297, q298⟩ := rv_ixB (g262.pl0 h1).b e300
              obtain ⟨u301, h302, q303⟩ := ix3_2 h297
              have h302 : u301 = (V.int x299.2.2) := h302
              subst h302
              refine Pv.go (pv_cb (pa_c (pv_v rfl) (pa_c (pv_2 (pv_2 (pv_v rfl) (pv_v rfl) (q298)) pv_c (q303)) pa_n)) rc_max) ?_
              refine gname_u ?_
              refine nx_go ?_
              refine asg_u ?_
              refine Pv.go (pv_2 (pv_v rfl) pv_c rv_i) ?_
              refine gname_u ?_
              refine nx_go ?_
              exact hM219 _ _ _ _ ⟨_, rfl, g262, o263⟩ (k.done g262)
          · rw [brF_eq b257] at k
            have k := (k.done g256).brF rfl
            refine nx_go ?_
            refine if_cut k (fun (s304 : List (PySem.Str × Int × Int)) (c : Cl) (H : Hp) (σ : L2.St) => ∃ (us305 : List V), σ = [some (V.ref ad11), some w1, some (V.ref p1), some (V.int s38), some (V.str x22.1), some (V.int x22.2.1), some (V.int x22.2.2), some (V.int s214.2.1), some (V.int s214.2.2)] ∧ Step [] c0 H0 c H ∧ Own (tyT3 tyS tyI tyI) H0 c H p1 us305 s304) ?_ ?_
            rotate_left
            · intro k
              refine PvT.ifS (b := (decide (s214.2.1 < x22.2.2))) ?_ (fun b310 => ?_) (fun b310 => ?_)
              · exact (show PvT _ _ _ (decide (s214.2.1 < x22.2.2)) from (pt_t (pv_2 (pv_v rfl) (pv_v rfl) rv_i)))
              · have k := k.brT b310
                refine drop_u ?_
                refine bm_u ?_
                refine Pv.go (pv_v rfl) ?_
                refine ⟨ty_list (.inl o219.obj), ?_⟩
                refine cons_u ?_
                refine tup_u ?_
                refine PvA.go (pa_c (pv_v rfl) (pa_c (pv_v rfl) (pa_c (pv_v rfl) pa_n))) ?_
                refine tup_end (Nat.le_of_ble_eq_true rfl) g256.wf fun p311 c312 H313 st314 cp315 rd316 np317 => ?_
                have n319 : p1 ≠ p311 := ne_of_none o219.obj np317
                have g320 := g256.tr0 st314
                have o219 := o219.step0 st314
                have h318 : (tyT3 tyS tyI tyI).r c312 H313 (V.ref p311) (x22.1, s214.2.1, x22.2.2) := ⟨p311, _, _, _, rfl, cp315, rd316, ⟨rfl, h33s⟩, rfl, rfl⟩
                refine nil_u ?_
                obtain ⟨e321, k⟩ := k.chk
                refine append_end o219 g320.wf h318 (of_decide_eq_true e321) fun H322 st323 o324 => ?_
                have g325 := g320.tr1 st323 (.inr o324.new)
                exact k.done g325 _ ⟨_, rfl, g325, o324⟩
              · rw [brF_eq b310] at k
                refine next_u ?_
                exact k.done g256 _ ⟨_, rfl, g256, o219⟩
            · intro s304 c306 H307 σ i k
              obtain ⟨us305, rfl, g308, o309⟩ := i
              refine nx_go ?_
              exact (k.done g308) _ ⟨_, _, _, _, _, _, rfl, g308, o309⟩
        · rw [brF_eq b220] at k
          have k := (k.done g218).brF rfl
          refine nx_go ?_
          refine if_cut k (fun (s326 : List (PySem.Str × Int × Int)) (c : Cl) (H : Hp) (σ : L2.St) => ∃ (us327 : List V), σ = [some (V.ref ad11), some w1, some (V.ref p1), some (V.int s38), some (V.str x22.1), some (V.int x22.2.1), some (V.int x22.2.2), some (V.int s214.2.1), some (V.int s214.2.2)] ∧ Step [] c0 H0 c H ∧ Own (tyT3 tyS tyI tyI) H0 c H p1 us327 s326) ?_ ?_
          rotate_left
          · intro k
            refine PvT.ifS (b := (decide (s214.2.1 < x22.2.2))) ?_ (fun b332 => ?_) (fun b332 => ?_)
            · exact (show PvT _ _ _ (decide (s214.2.1 < x22.2.2)) from (pt_t (pv_2 (pv_v rfl) (pv_v rfl) rv_i)))
            · have k := k.brT b332
              refine drop_u ?_
              refine bm_u ?_
              refine Pv.go (pv_v rfl) ?_
              refine ⟨ty_list (.inl o219.obj), ?_⟩
              refine cons_u ?_
              refine tup_u ?_
              refine PvA.go (pa_c (pv_v rfl) (pa_c (pv_v rfl) (pa_c (pv_v rfl) pa_n))) ?_
              refine tup_end (Nat.le_of_ble_eq_true rfl) g218.wf fun p333 c334 H335 st336 cp337 rd338 np339 => ?_
              have n341 : p1 ≠ p333 := ne_of_none o219.obj np339
              have g342 := g218.tr0 st336
              have o219 := o219.step0 st336
              have h340 : (tyT3 tyS tyI tyI).r c334 H335 (V.ref p333) (x22.1, s214.2.1, x22.2.2) := ⟨p333, _, _, _, rfl, cp337, rd338, ⟨rfl, h33s⟩, rfl, rfl⟩
              refine nil_u ?_
              obtain ⟨e343, k⟩ := k.chk
              refine append_end o219 g342.wf h340 (of_decide_eq_true e343) fun H344 st345 o346 => ?_
              have g347 := g342.tr1 st345 (.inr o346.new)
              exact k.done g347 _ ⟨_, rfl, g347, o346⟩
            · rw [brF_eq b332] at k
              refine next_u ?_
              exact k.done g218 _ ⟨_, rfl, g218, o219⟩
          · intro s326 c328 H329 σ i k
            obtain ⟨us327, rfl, g330, o331⟩ := i
            refine nx_go ?_
            exact (k.done g330) _ ⟨_, _, _, _, _, _, rfl, g330, o331⟩
    · intro s15 c348 H349 σ i k
      obtain ⟨us16, y17, y18, y19, y20, y21, rfl, g350, o351⟩ := i
      refine nx_go ?_
      refine ret_u ?_
      refine Pv.go (pv_v rfl) ?_
      exact (k.done g350) _ ⟨_, _, rfl, o351⟩
def sp_size (K : PySem.W.Frag) (ea : Err → Addr) : Sp := fun vs H Q E => ∃ (c : Cl) (w0 : V) (a0 : List (PySem.Str × Int × Int)), vs = [w0] ∧ Wf c H ∧ rP (tyT3 tyS tyI tyI) c H w0 a0 ∧ Kont (fun y c' H' => ∀ v, tyI.r c' H' v y → Q v H') (fun _ _ _ => False) [] c H (m_size a0)
theorem ok_size {P : Program} {w : World} {K : PySem.W.Frag} {mg : Str → Option Value} {base : Heap} {a : Ad} (T : Txt K mg a) : FnOk P w K mg base CX0 1 a.size a.size_fd ["ground"] (sp_size K a.ea) := by
  have sc : FnScope ["ground", "piece", "begin", "end"] ["ground"] (defScope s_size) := ⟨rfl, rfl, rfl, by decide +kernel, rfl, by decide +kernel, by decide +kernel⟩
  refine T.size.F.ok sc (fun vs H Q E h => ?_) (fun cdv A outer s H0 vs Q E hr h => ?_)
  · obtain ⟨_, _, _, rfl, _⟩ := h
    rfl
  · obtain ⟨c0, w0, a0, rfl, wf0, h0, k⟩ := h
    refine ⟨_, (pss_one (ps_ret (pe_callB (cr_sum (by rfl)) (by rfl) T.b_sum (by decide +kernel) (pa_cons (pe_lc (by rfl) sc.nd (pi_list (pv 0)) (blkOk_by (own := [("piece", 1), ("begin", 2), ("end", 3)]) (N := ["ground", "piece", "begin", "end"]) (sc := defScope s_size) (by decide +kernel)) (fun _ _ _ _ _ => (pg_tupK (K := K) (n := 3) (by rfl) (by rfl) (pgs_cons (pg_name (i := 1) sc.nd rfl (Or.inl rfl)) (pgs_cons (pg_name (i := 2) sc.nd rfl (Or.inl rfl)) (pgs_cons (pg_name (i := 3) sc.nd rfl (Or.inl rfl)) pgs_nil))))) (fun _ _ _ _ _ => pts_nil) (fun _ _ _ _ _ => (pe_op op_sub (pv 3) (pv 2)))) pa_nil)))), ?_⟩
    have g0 : Step [] c0 H0 c0 H0 := Step.refl wf0
    unfold m_size at k
    refine ret_u ?_
    refine cb_u ?_
    refine cons_u ?_
    refine lc_u ?_
    refine ilist_u ?_
    refine Pv.go (pv_v rfl) ?_
    obtain ⟨ad1, us2, e4, h3⟩ := rB_open h0.b
    subst e4
    refine ilist_e ((h3.at g0).rd) ?_
    obtain ⟨e5, k⟩ := k.chk
    refine comp_pB (A := (tyT3 tyS tyI tyI)) (B := tyI) (xs := a0) k g0 e5 (fun ci Hi st => pit_l (h3.at (g0.tr0 st)).rd (h3.at (g0.tr0 st)).rs) ?_ ?_
    · intro x6 v7 c9 H10 Qe Qn st11 gi_ h8 k
      have h13 := gi_.pl0 h0
      have h14 := h3.at gi_
      have g12 : Step [] c9 H10 c9 H10 := Step.refl gi_.wf
      obtain ⟨ad15, u16, u17, u18, e23, rd22, h19, h20, h21⟩ := open3 h8
      subst e23
      refine gtup_u rd22 rfl ?_
      obtain ⟨h19, h19s⟩ := h19
      subst h19
      refine gcons_u ?_
      refine gname_u ?_
      have h20 : u17 = (V.int x6.2.1) := h20
      subst h20
      refine gcons_u ?_
      refine gname_u ?_
      have h21 : u18 = (V.int x6.2.2) := h21
      subst h21
      refine gcons_u ?_
      refine gname_u ?_
      refine gnil_u ?_
      refine ⟨rfl, yes_u ?_⟩
      refine Pv.go (pv_2 (pv_v rfl) (pv_v rfl) rv_i) ?_
      exact (k.done g12) _ rfl
    intro y24 p25 us26 c27 H28 o30_n st29 o30 k
    have g31 := g0.tr0 st29
    refine nil_u ?_
    refine sum_end o30.b ?_
    exact (k.done g31) _ rfl
def sp_law_cell (K : PySem.W.Frag) (ea : Err → Addr) : Sp := fun vs H Q E => ∃ (c : Cl) (w0 : V) (a0 : List Int) (w1 : V) (a1 : Int), vs = [w0, w1] ∧ Wf c H ∧ rB K tyI c H w0 a0 ∧ tyI.r c H w1 a1 ∧ Kont (fun y c' H' => ∀ v, tyI.r c' H' v y → Q v H') (fun _ _ _ => False) [] c H (m_law_cell a0 a1)
theorem ok_law_cell {P : Program} {w : World} {K : PySem.W.Frag} {mg : Str → Option Value} {base : Heap} {a : Ad} (T : Txt K mg a) : FnOk P w K mg base CX0 1 a.law_cell a.law_cell_fd ["_law_script", "_law_k"] (sp_law_cell K a.ea) := by
  have sc : FnScope ["_law_script", "_law_k"] ["_law_script", "_law_k"] (defScope s_law_cell) := ⟨rfl, rfl, rfl, by decide +kernel, rfl, by decide +kernel, by decide +kernel⟩
  refine T.law_cell.F.ok sc (fun vs H Q E h => ?_) (fun cdv A outer s H0 vs Q E hr h => ?_)
  · obtain ⟨_, _, _, _, _, rfl, _⟩ := h
    rfl
  · obtain ⟨c0, w0, a0, w1, a1, rfl, wf0, h0, h1, k⟩ := h
    refine ⟨_, (pss_cons (ps_if (pt_cmpR op_lt (pv 1) (pe_callB call_len_seq (by rfl) T.b_len PySem.boot_len (pa_cons (pv 0) pa_nil)) (nomark _)) (pss_one (ps_ret (pe_callTy call_int1 (by rfl) T.b_int (by decide +kernel) (pa_cons (pe_ix ix_list (pv 0) (pv 1) (fun _ _ => rfl)) pa_nil)))) pss_nil) (pss_one (ps_ret (pe_op op_mulW pe_int (pv 1))))), ?_⟩
    have h1 : w1 = (V.int a1) := h1
    subst h1
    have g0 : Step [] c0 H0 c0 H0 := Step.refl wf0
    unfold m_law_cell at k
    refine seq_u ?_
    refine PvT.ifS (b := (decide (a1 < (a0.length : Int)))) ?_ (fun b1 => ?_) (fun b1 => ?_)
    · exact (show PvT _ _ _ (decide (a1 < (a0.length : Int))) from (pt_t (pv_2 (pv_v rfl) (len_B (g0.b0 h0) (pv_v rfl)) rv_i)))
    · have k := k.brT b1
      refine ret_u ?_
      obtain ⟨x5, e6, k⟩ := k.opt
      obtain ⟨u2, h3, q4⟩ := rv_ixB (g0.b0 h0) e6
      have h3 : u2 = (V.int x5) := h3
      subst h3
      refine Pv.go (pv_cb (pa_c (pv_2 (pv_v rfl) (pv_v rfl) (q4)) pa_n) rc_int) ?_
      exact (k.done g0) _ rfl
    · rw [brF_eq b1] at k
      refine next_u ?_
      refine nx_go ?_
      refine ret_u ?_
      obtain ⟨e7, k⟩ := k.chk
      refine Pv.go (pv_2 pv_c (pv_v rfl) (rv_mul e7)) ?_
      exact (k.done g0) _ rfl
def sp_law_pieces (K : PySem.W.Frag) (ea : Err → Addr) : Sp := fun vs H Q E => ∃ (c : Cl) (w0 : V) (a0 : Int), vs = [w0] ∧ Wf c H ∧ tyI.r c H w0 a0 ∧ Kont (fun y c' H' => ∀ v, rO tyS H c' H' v y → Q v H') (fun _ _ _ => False) [] c H (m_law_pieces a0)
theorem ok_law_pieces {P : Program} {w : World} {K : PySem.W.Frag} {mg : Str → Option Value} {base : Heap} {a : Ad} (T : Txt K mg a) : FnOk P w K mg base CX0 1 a.law_pieces a.law_pieces_fd ["_law_cell_here"] (sp_law_pieces K a.ea) := by
  have sc : FnScope ["_law_cell_here", "_law_base", "_law_at", "_law_sign"] ["_law_cell_here"] (defScope s_law_pieces) := ⟨rfl, rfl, rfl, by decide +kernel, rfl, by decide +kernel, by decide +kernel⟩
  refine T.law_pieces.F.ok sc (fun vs H Q E h => ?_) (fun cdv A outer s H0 vs Q E hr h => ?_)
  · obtain ⟨_, _, _, rfl, _⟩ := h
    rfl
  · obtain ⟨c0, w0, a0, rfl, wf0, h0, k⟩ := h
    refine ⟨_, (pss_cons (ps_if (pt_cmpR op_ne (pe_op op_mod (pv 0) pe_int) pe_int (nomark _)) (pss_one (ps_ret (pe_lst (pa_cons pe_str (pa_cons pe_str (pa_cons pe_str (pa_cons pe_str pa_nil))))))) pss_nil) (pss_cons (ps_set (i := 1) sc.nd rfl (Or.inr rfl) (pe_slice sl_str pe_str po_none (po_some (pe_op op_add pe_int (pe_op op_mod (pe_op op_fdiv (pv 0) pe_int) pe_int))))) (pss_cons (ps_set (i := 2) sc.nd rfl (Or.inr rfl) (pe_op op_mod (pe_op op_fdiv (pv 0) pe_int) (pe_callB call_len_str (by rfl) T.b_len PySem.boot_len (pa_cons (pv 1) pa_nil)))) (pss_one (ps_ret (pe_op op_cat (pe_lst (pa_cons (pv 1) pa_nil)) (pe_lc (by rfl) sc.nd (pi_str pe_str) (blkOk_by (own := [("_law_sign", 3)]) (N := ["_law_cell_here", "_law_base", "_law_at", "_law_sign"]) (sc := defScope s_law_pieces) (by decide +kernel)) (fun _ _ _ _ _ => (pg_name (i := 3) sc.nd rfl (Or.inl rfl))) (fun _ _ _ _ _ => pts_nil) (fun _ _ _ _ _ => (pe_op op_add_str (pe_op op_add_str (pe_slice sl_str (pv 1) po_none (po_some (pv 2))) (pv 3)) (pe_slice sl_str (pv 1) (po_some (pe_op op_add (pv 2) pe_int)) po_none)))))))))), ?_⟩
    have h0 : w0 = (V.int a0) := h0
    subst h0
    have g0 : Step [] c0 H0 c0 H0 := Step.refl wf0
    unfold m_law_pieces at k
    refine seq_u ?_
    refine PvT.ifS (b := (!decide ((a0 % (3 : Int)) = (1 : Int)))) ?_ (fun b1 => ?_) (fun b1 => ?_)
    · exact (show PvT _ _ _ (!decide ((a0 % (3 : Int)) = (1 : Int))) from (pt_t (pv_2 (pv_2 (pv_v rfl) pv_c (rv_modL (by decide))) pv_c rv_nei)))
    · have k := k.brT b1
      refine ret_u ?_
      refine lst_u ?_
      refine PvA.go (pa_c pv_c (pa_c pv_c (pa_c pv_c (pa_c pv_c pa_n)))) ?_
      refine lst_end (Nat.le_of_ble_eq_true rfl) g0.wf fun p2 c3 H4 st5 cp6 ob7 np8 => ?_
      have w10 := g0.fresh np8
      have g11 := g0.tr0 st5
      have o9 : Own tyS H0 c3 H4 p2 [(V.str ("a" : PySem.Str)), (V.str ("b" : PySem.Str)), (V.str ("a1" : PySem.Str)), (V.str ("main" : PySem.Str))] ([("a" : PySem.Str), ("b" : PySem.Str), ("a1" : PySem.Str), ("main" : PySem.Str)] : List PySem.Str) := ⟨cp6, ob7, ⟨⟨rfl, (show PyData.strOk ("a" : PySem.Str) = true by decide +kernel)⟩, ⟨⟨rfl, (show PyData.strOk ("b" : PySem.Str) = true by decide +kernel)⟩, ⟨⟨rfl, (show PyData.strOk ("a1" : PySem.Str) = true by decide +kernel)⟩, ⟨⟨rfl, (show PyData.strOk ("main" : PySem.Str) = true by decide +kernel)⟩, trivial⟩⟩⟩⟩, w10⟩
      exact (k.done g11) _ ⟨_, _, rfl, o9⟩
    · rw [brF_eq b1] at k
      refine next_u ?_
      refine nx_go ?_
      refine seq_u ?_
      refine asg_u ?_
      obtain ⟨e12, k⟩ := k.chk
      refine Pv.go (sl_s pv_c po_n (po_s (pv_2 pv_c (pv_2 (pv_2 (pv_v rfl) pv_c (rv_divL ⟨by decide, by decide⟩)) pv_c (rv_modL (by decide))) rv_i)) (of_decide_eq_true e12)) ?_
      refine gname_u ?_
      refine nx_go ?_
      refine seq_u ?_
      refine asg_u ?_
      obtain ⟨e13, k⟩ := k.chk
      obtain ⟨e14, k⟩ := k.chk
      refine Pv.go (pv_2 (pv_2 (pv_v rfl) pv_c (rv_divL ⟨by decide, by decide⟩)) (pv_cb (pa_c (pv_v rfl) pa_n) (rc_lens (of_decide_eq_true e13))) (rv_mod e14)) ?_
      refine gname_u ?_
      refine nx_go ?_
      refine ret_u ?_
      refine op_u ?_
      refine lst_u ?_
      refine PvA.go (pa_c (pv_v rfl) pa_n) ?_
      refine lst_end (Nat.le_of_ble_eq_true rfl) g0.wf fun p15 c16 H17 st18 cp19 ob20 np21 => ?_
      have w23 := g0.fresh np21
      have g24 := g0.tr0 st18
      have o22 : Own tyS H0 c16 H17 p15 [(V.str (cutS ("northroadsab" : PySem.Str) none (some ((2 : Int) + ((a0 / (3 : Int)) % (11 : Int))))))] ([(cutS ("northroadsab" : PySem.Str) none (some ((2 : Int) + ((a0 / (3 : Int)) % (11 : Int)))))] : List PySem.Str) := ⟨cp19, ob20, ⟨⟨rfl, (ok_cut (show PyData.strOk ("northroadsab" : PySem.Str) = true by decide +kernel))⟩, trivial⟩, w23⟩
      refine lc_u ?_
      refine istr_u ?_
      refine Pv.go pv_c ?_
      refine istr_e ?_
      obtain ⟨e25, k⟩ := k.chk
      refine comp_pB (A := tyS) (B := tyS) (xs := (signs ("xyz" : PySem.Str))) k g24 e25 (fun _ _ _ => pit_s (show PyData.strOk ("xyz" : PySem.Str) = true by decide +kernel)) ?_ ?_
      · intro x26 v27 c29 H30 Qe Qn st31 gi_ h28 k
        have o22 := o22.step0 st31
        have g32 : Step [] c29 H30 c29 H30 := Step.refl gi_.wf
        obtain ⟨h28, h28s⟩ := h28
        subst h28
        refine gname_u ?_
        refine ⟨rfl, yes_u ?_⟩
        obtain ⟨e33, k⟩ := k.chk
        obtain ⟨e34, k⟩ := k.chk
        obtain ⟨e35, k⟩ := k.chk
        obtain ⟨e36, k⟩ := k.chk
        refine Pv.go (pv_2 (pv_2 (sl_s (pv_v rfl) po_n (po_s (pv_v rfl)) (of_decide_eq_true e33)) (pv_v rfl) (rv_cats (of_decide_eq_true e34))) (sl_s (pv_v rfl) (po_s (pv_2 (pv_v rfl) pv_c rv_i)) po_n (of_decide_eq_true e35)) (rv_cats (of_decide_eq_true e36))) ?_
        exact (k.done g32) _ ⟨rfl, (ok_cat (ok_cat (ok_cut (ok_cut (show PyData.strOk ("northroadsab" : PySem.Str) = true by decide +kernel))) h28s) (ok_cut (ok_cut (show PyData.strOk ("northroadsab" : PySem.Str) = true by decide +kernel))))⟩
      intro y37 p38 us39 c40 H41 o43_n st42 o43 k
      have n44 : p15 ≠ p38 := ne_of_none o22.obj o43_n
      have g45 := g24.tr0 st42
      have o22 := o22.step0 st42
      obtain ⟨e46, k⟩ := k.chk
      refine cat_B (H0 := H0) o22.pl o43.pl g45.wf (fun _ n => g45.fresh n) (of_decide_eq_true e46) fun p47 us48 c49 H50 o52_n st51 o52 => ?_
      have g53 := g45.tr0 st51
      exact (k.done g53) _ ⟨_, _, rfl, o52⟩
def sp_law_rows (K : PySem.W.Frag) (ea : Err → Addr) : Sp := fun vs H Q E => ∃ (c : Cl) (w0 : V) (a0 : List Int) (w1 : V) (a1 : Int) (w2 : V) (a2 : Int), vs = [w0, w1, w2] ∧ Wf c H ∧ rB K tyI c H w0 a0 ∧ tyI.r c H w1 a1 ∧ tyI.r c H w2 a2 ∧ Kont (fun y c' H' => ∀ v, rO (tyT3 tyS tyI tyI) H c' H' v y → Q v H') (fun _ _ _ => False) [] c H (m_law_rows a0 a1 a2)
theorem ok_law_rows {P : Program} {w : World} {K : PySem.W.Frag} {mg : Str → Option Value} {base : Heap} {a : Ad} (T : Txt K mg a) (G_law_cell : FnOk P w K mg base CX0 1 a.law_cell a.law_cell_fd ["_law_script", "_law_k"] (sp_law_cell K a.ea)) (G_law_pieces : FnOk P w K mg base CX0 1 a.law_pieces a.law_pieces_fd ["_law_cell_here"] (sp_law_pieces K a.ea)) : FnOk P w K mg base CX0 2 a.law_rows a.law_rows_fd ["_law_script", "_law_at", "_law_count"] (sp_law_rows K a.ea) := by
  have sc : FnScope ["_law_script", "_law_at", "_law_count", "_law_rows_here", "_law_k", "_law_cell_here", "_law_piece", "_law_begin", "_law_length"] ["_law_script", "_law_at", "_law_count"] (defScope s_law_rows) := ⟨rfl, rfl, rfl, by decide +kernel, rfl, by decide +kernel, by decide +kernel⟩
  refine T.law_rows.F.ok sc (fun vs H Q E h => ?_) (fun cdv A outer s H0 vs Q E hr h => ?_)
  · obtain ⟨_, _, _, _, _, _, _, rfl, _⟩ := h
    rfl
  · obtain ⟨c0, w0, a0, w1, a1, w2, a2, rfl, wf0, h0, h1, h2, k⟩ := h
    refine ⟨_, (pss_cons (ps_set (i := 3) sc.nd rfl (Or.inl rfl) (pe_lst pa_nil)) (pss_cons (ps_for PassesOwn.never rfl (pi_range1 (by rfl) T.b_range (pa_cons (pv 2) pa_nil)) (pg_name (i := 4) sc.nd rfl (Or.inl rfl)) (pss_cons (ps_set (i := 5) sc.nd rfl (Or.inl rfl) (pe_call G_law_cell hr (by rfl) T.law_cell.g T.law_cell.F.kp T.law_cell.b .nil pass0 (pa_cons (pv 0) (pa_cons (pe_op op_add (pv 1) (pv 4)) pa_nil)))) (pss_cons (ps_set (i := 6) sc.nd rfl (Or.inl rfl) (pe_ix ix_list (pe_call G_law_pieces hr (by rfl) T.law_pieces.g T.law_pieces.F.kp T.law_pieces.b .nil pass0 (pa_cons (pe_call G_law_cell hr (by rfl) T.law_cell.g T.law_cell.F.kp T.law_cell.b .nil pass0 (pa_cons (pv 0) (pa_cons pe_int pa_nil))) pa_nil)) (pe_op op_mod (pv 5) pe_int) (fun _ _ => rfl))) (pss_cons (ps_set (i := 7) sc.nd rfl (Or.inl rfl) (pe_op op_mod (pe_op op_fdiv (pv 5) pe_int) (pe_ix ix_list (pe_lst (pa_cons pe_int (pa_cons pe_int (pa_cons pe_int pa_nil)))) (pe_op op_mod (pe_op op_fdiv (pv 5) pe_int) pe_int) (fun _ _ => rfl)))) (pss_cons (ps_set (i := 8) sc.nd rfl (Or.inl rfl) (pe_op op_add pe_int (pe_op op_mod (pe_op op_fdiv (pv 5) pe_int) (pe_ix ix_list (pe_lst (pa_cons pe_int (pa_cons pe_int (pa_cons pe_int pa_nil)))) (pe_op op_mod (pe_op op_fdiv (pv 5) pe_int) pe_int) (fun _ _ => rfl))))) (pss_one (ps_expr (pe_bm PySem.F.plainAttrs_list PySem.F.slot_list_append PySem.F.type_list_append mt_append (pv 3) (pa_cons (pe_tup (pa_cons (pv 6) (pa_cons (pv 7) (pa_cons (pe_op op_add (pv 7) (pv 8)) pa_nil)))) pa_nil))))))))) (pss_one (ps_ret (pv 3))))), ?_⟩
    have h1 : w1 = (V.int a1) := h1
    subst h1
    have h2 : w2 = (V.int a2) := h2
    subst h2
    have g0 : Step [] c0 H0 c0 H0 := Step.refl wf0
    unfold m_law_rows at k
    refine seq_u ?_
    refine asg_u ?_
    refine lst_u ?_
    refine PvA.go pa_n ?_
    refine lst_end (Nat.le_of_ble_eq_true rfl) g0.wf fun p1 c2 H3 st4 cp5 ob6 np7 => ?_
    have w9 := g0.fresh np7
    have g10 := g0.tr0 st4
    have o8 : Own (tyT3 tyS tyI tyI) H0 c2 H3 p1 [] ([] : List (PySem.Str × Int × Int)) := ⟨cp5, ob6, trivial, w9⟩
    refine gname_u ?_
    refine nx_go ?_
    refine seq_u ?_
    refine for_u ?_
    refine irng1_u ?_
    refine PvA.go (pa_c (pv_v rfl) pa_n) ?_
    obtain ⟨e11, k⟩ := k.chk
    refine irng1_e e11 ?_
    refine for_rgn (s0 := ((([] : List (PySem.Str × Int × Int))) : List (PySem.Str × Int × Int))) k (fun (s12 : List (PySem.Str × Int × Int)) (c : Cl) (H : Hp) (σ : L2.St) => ∃ (us13 : List V) (y14 : Option V) (y15 : Option V) (y16 : Option V) (y17 : Option V) (y18 : Option V), σ = [some w0, some (V.int a1), some (V.int a2), some (V.ref p1), y14, y15, y16, y17, y18] ∧ Step [] c0 H0 c H ∧ Own (tyT3 tyS tyI tyI) H0 c H p1 us13 s12) ⟨_, _, _, _, _, _, rfl, g10, o8⟩ ?_ ?_
    · intro s12 x19 c22 H23 σ N i k
      obtain ⟨us13, y14, y15, y16, y17, y18, rfl, g24, o25⟩ := i
      refine gname_u ?_
      refine seq_u ?_
      refine asg_u ?_
      refine call_u ?_
      refine PvA.go (pa_c (pv_v rfl) (pa_c (pv_2 (pv_v rfl) (pv_v rfl) rv_i) pa_n)) ?_
      refine ⟨c22, _, a0, _, (a1 + x19), rfl, g24.wf, (g24.b0 h0), rfl, ?_⟩
      refine Kont.call k g24 (fun _ z => by cases z) (fun y26 e27 k c28 H29 st30 g31 v32 r33 => ?_) (fun _ _ _ _ _ _ z => z)
      have r33 : v32 = (V.int y26) := r33
      subst r33
      have o25 := o25.step0 st30
      refine gname_u ?_
      refine nx_go ?_
      refine seq_u ?_
      refine asg_u ?_
      refine op_u ?_
      refine call_u ?_
      refine cons_u ?_
      refine call_u ?_
      refine PvA.go (pa_c (pv_v rfl) (pa_c pv_c pa_n)) ?_
      refine ⟨c28, _, a0, _, (1 : Int), rfl, g31.wf, (g31.b0 h0), rfl, ?_⟩
      refine Kont.call k g31 (fun _ z => by cases z) (fun y34 e35 k c36 H37 st38 g39 v40 r41 => ?_) (fun _ _ _ _ _ _ z => z)
      have r41 : v40 = (V.int y34) := r41
      subst r41
      have o25 := o25.step0 st38
      refine nil_u ?_
      refine ⟨c36, _, y34, rfl, g39.wf, rfl, ?_⟩
      refine Kont.call k g39 (fun _ z => by cases z) (fun y42 e43 k c44 H45 st46 g47 v48 r49 => ?_) (fun _ _ _ _ _ _ z => z)
      obtain ⟨p50, us51, rfl, r49⟩ := r49
      have n52 : p1 ≠ p50 := ne_of_none o25.obj r49.new
      have r49 := r49.base g39
      have o25 := o25.step0 st46
      refine Pv.go (pv_2 (pv_v rfl) pv_c (rv_modL (by decide))) ?_
      obtain ⟨x56, e57, k⟩ := k.opt
      obtain ⟨u53, h54, q55⟩ := rv_ixB r49.b e57
      obtain ⟨h54, h54s⟩ := h54
      subst h54
      refine q55 _ ?_
      refine gname_u ?_
      refine nx_go ?_
      refine seq_u ?_
      refine asg_u ?_
      refine op_u ?_
      refine Pv.go (pv_2 (pv_v rfl) pv_c (rv_divL ⟨by decide, by decide⟩)) ?_
      refine op_u ?_
      refine lst_u ?_
      refine PvA.go (pa_c pv_c (pa_c pv_c (pa_c pv_c pa_n))) ?_
      refine lst_end (Nat.le_of_ble_eq_true rfl) g47.wf fun p58 c59 H60 st61 cp62 ob63 np64 => ?_
      have n66 : p1 ≠ p58 := ne_of_none o25.obj np64
      have w67 := g47.fresh np64
      have g68 := g47.tr0 st61
      have o25 := o25.step0 st61
      have o65 : Own tyI H0 c59 H60 p58 [(V.int (8 : Int)), (V.int (40 : Int)), (V.int (1000000 : Int))] ([(8 : Int), (40 : Int), (1000000 : Int)] : List Int) := ⟨cp62, ob63, ⟨rfl, ⟨rfl, ⟨rfl, trivial⟩⟩⟩, w67⟩
      refine Pv.go (pv_2 (pv_2 (pv_v rfl) pv_c (rv_divL ⟨by decide, by decide⟩)) pv_c (rv_modL (by decide))) ?_
      obtain ⟨x72, e73, k⟩ := k.opt
      obtain ⟨u69, h70, q71⟩ := rv_ixB o65.b e73
      have h70 : u69 = (V.int x72) := h70
      subst h70
      refine q71 _ ?_
      obtain ⟨e74, k⟩ := k.chk
      refine (rv_mod e74) _ ?_
      refine gname_u ?_
      refine nx_go ?_
      refine seq_u ?_
      refine asg_u ?_
      refine op_u ?_
      refine Pv.go pv_c ?_
      refine op_u ?_
      refine Pv.go (pv_2 (pv_v rfl) pv_c (rv_divL ⟨by decide, by decide⟩)) ?_
      refine op_u ?_
      refine lst_u ?_
      refine PvA.go (pa_c pv_c (pa_c pv_c (pa_c pv_c pa_n))) ?_
      refine lst_end (Nat.le_of_ble_eq_true rfl) g68.wf fun p75 c76 H77 st78 cp79 ob80 np81 => ?_
      have n83 : p1 ≠ p75 := ne_of_none o25.obj np81
      have w84 := g68.fresh np81
      have g85 := g68.tr0 st78
      have o25 := o25.step0 st78
      have o82 : Own tyI H0 c76 H77 p75 [(V.int (4 : Int)), (V.int (20 : Int)), (V.int (1000000 : Int))] ([(4 : Int), (20 : Int), (1000000 : Int)] : List Int) := ⟨cp79, ob80, ⟨rfl, ⟨rfl, ⟨rfl, trivial⟩⟩⟩, w84⟩
      refine Pv.go (pv_2 (pv_2 (pv_v rfl) pv_c (rv_divL ⟨by decide, by decide⟩)) pv_c (rv_modL (by decide))) ?_
      obtain ⟨x89, e90, k⟩ := k.opt
      obtain ⟨u86, h87, q88⟩ := rv_ixB o82.b e90
      have h87 : u86 = (V.int x89) := h87
      subst h87
      refine q88 _ ?_
      obtain ⟨e91, k⟩ := k.chk
      refine (rv_mod e91) _ ?_
      refine rv_i _ ?_
      refine gname_u ?_
      refine nx_go ?_
      refine drop_u ?_
      refine bm_u ?_
      refine Pv.go (pv_v rfl) ?_
      refine ⟨ty_list (.inl o25.obj), ?_⟩
      refine cons_u ?_
      refine tup_u ?_
      refine PvA.go (pa_c (pv_v rfl) (pa_c (pv_v rfl) (pa_c (pv_2 (pv_v rfl) (pv_v rfl) rv_i) pa_n))) ?_
      refine tup_end (Nat.le_of_ble_eq_true rfl) g85.wf fun p92 c93 H94 st95 cp96 rd97 np98 => ?_
      have n100 : p1 ≠ p92 := ne_of_none o25.obj np98
      have g101 := g85.tr0 st95
      have o25 := o25.step0 st95
      have h99 : (tyT3 tyS tyI tyI).r c93 H94 (V.ref p92) (x56, ((y26 / (4 : Int)) % x72), (((y26 / (4 : Int)) % x72) + ((1 : Int) + ((y26 / (31 : Int)) % x89)))) := ⟨p92, _, _, _, rfl, cp96, rd97, ⟨rfl, h54s⟩, rfl, rfl⟩
      refine nil_u ?_
      obtain ⟨e102, k⟩ := k.chk
      refine append_end o25 g101.wf h99 (of_decide_eq_true e102) fun H103 st104 o105 => ?_
      have g106 := g101.tr1 st104 (.inr o105.new)
      refine nx_go ?_
      exact (k.done g106) _ ⟨_, _, _, _, _, _, rfl, g106, o105⟩
    · intro s12 c107 H108 σ i k
      obtain ⟨us13, y14, y15, y16, y17, y18, rfl, g109, o110⟩ := i
      refine nx_go ?_
      refine ret_u ?_
      refine Pv.go (pv_v rfl) ?_
      exact (k.done g109) _ ⟨_, _, rfl, o110⟩
def sp_law_has (K : PySem.W.Frag) (ea : Err → Addr) : Sp := fun vs H Q E => ∃ (c : Cl) (w0 : V) (a0 : List (PySem.Str × Int × Int)) (w1 : V) (a1 : PySem.Str) (w2 : V) (a2 : Int), vs = [w0, w1, w2] ∧ Wf c H ∧ rP (tyT3 tyS tyI tyI) c H w0 a0 ∧ tyS.r c H w1 a1 ∧ tyI.r c H w2 a2 ∧ Kont (fun y c' H' => ∀ v, tyB.r c' H' v y → Q v H') (fun _ _ _ => False) [] c H (m_law_has a0 a1 a2)
theorem ok_law_has {P : Program} {w : World} {K : PySem.W.Frag} {mg : Str → Option Value} {base : Heap} {a : Ad} (T : Txt K mg a) : FnOk P w K mg base CX0 1 a.law_has a.law_has_fd ["_law_rows_here", "_law_piece", "_law_k"] (sp_law_has K a.ea) := by
  have sc : FnScope ["_law_rows_here", "_law_piece", "_law_k", "_law_other", "_law_begin", "_law_end"] ["_law_rows_here", "_law_piece", "_law_k"] (defScope s_law_has) := ⟨rfl, rfl, rfl, by decide +kernel, rfl, by decide +kernel, by decide +kernel⟩
  refine T.law_has.F.ok sc (fun vs H Q E h => ?_) (fun cdv A outer s H0 vs Q E hr h => ?_)
  · obtain ⟨_, _, _, _, _, _, _, rfl, _⟩ := h
    rfl
  · obtain ⟨c0, w0, a0, w1, a1, w2, a2, rfl, wf0, h0, h1, h2, k⟩ := h
    refine ⟨_, (pss_cons (ps_for PassesOwn.never rfl (pi_list (pv 0)) (pg_tup (n := 3) (by rfl) (pgs_cons (pg_name (i := 3) sc.nd rfl (Or.inl rfl)) (pgs_cons (pg_name (i := 4) sc.nd rfl (Or.inl rfl)) (pgs_cons (pg_name (i := 5) sc.nd rfl (Or.inl rfl)) pgs_nil)))) (pss_one (ps_if (PW.pt (pw_and (pt_cmpR op_eq (pv 3) (pv 1) (nomark _)) (pw_and1 (pt_chain op_le op_lt (pv 4) (pv 2) (pv 5))))) (pss_one (ps_ret pe_bl)) pss_nil))) (pss_one (ps_ret pe_bl))), ?_⟩
    obtain ⟨h1, h1s⟩ := h1
    subst h1
    have h2 : w2 = (V.int a2) := h2
    subst h2
    have g0 : Step [] c0 H0 c0 H0 := Step.refl wf0
    unfold m_law_has at k
    refine seq_u ?_
    refine for_u ?_
    refine ilist_u ?_
    refine Pv.go (pv_v rfl) ?_
    obtain ⟨ad1, us2, e4, h3⟩ := rB_open h0.b
    subst e4
    refine ilist_e ((h3.at g0).rd) ?_
    refine for_r (A := (tyT3 tyS tyI tyI)) (a := ad1) (us := us2) (s0 := (() : Unit)) (Rr := tyB.r) k (fun (s5 : Unit) (c : Cl) (H : Hp) (σ : L2.St) => ∃ (y6 : Option V) (y7 : Option V) (y8 : Option V), σ = [some (V.ref ad1), some (V.str a1), some (V.int a2), y6, y7, y8] ∧ Step [] c0 H0 c H) ⟨_, _, _, rfl, g0⟩ ?_ ?_ (fun r k c H g v hv => (k.done g) v hv) ?_
    · exact fun s c H σ ⟨y6, y7, y8, _, g⟩ => ⟨(h3.at g).rd, (h3.at g).rs⟩
    · intro s5 x9 v10 c12 H13 σ N i h11 k
      obtain ⟨y6, y7, y8, rfl, g14⟩ := i
      obtain ⟨ad15, u16, u17, u18, e23, rd22, h19, h20, h21⟩ := open3 h11
      subst e23
      refine gtup_u rd22 rfl ?_
      obtain ⟨h19, h19s⟩ := h19
      subst h19
      refine gcons_u ?_
      refine gname_u ?_
      have h20 : u17 = (V.int x9.2.1) := h20
      subst h20
      refine gcons_u ?_
      refine gname_u ?_
      have h21 : u18 = (V.int x9.2.2) := h21
      subst h21
      refine gcons_u ?_
      refine gname_u ?_
      refine gnil_u ?_
      refine PvT.ifS (b := ((decide (x9.1 = a1)) && ((decide (x9.2.1 ≤ a2)) && (decide (a2 < x9.2.2))))) ?_ (fun b24 => ?_) (fun b24 => ?_)
      · exact (show PvT _ _ _ ((decide (x9.1 = a1)) && ((decide (x9.2.1 ≤ a2)) && (decide (a2 < x9.2.2)))) from (pt_and (pt_t (pv_2 (pv_v rfl) (pv_v rfl) rv_eqs)) (fun _ => (pt_t (pv_ch (pv_v rfl) (pv_v rfl) rv_i (fun _ => (pv_v rfl)) (fun _ => rv_i))))))
      · have k := k.brT b24
        refine ret_u ?_
        refine Pv.go pv_c ?_
        exact (k.done g14) _ rfl
      · rw [brF_eq b24] at k
        refine next_u ?_
        refine nx_go ?_
        exact (k.done g14) _ ⟨_, _, _, rfl, g14⟩
    · intro s5 c25 H26 σ i k
      obtain ⟨y6, y7, y8, rfl, g27⟩ := i
      refine nx_go ?_
      refine ret_u ?_
      refine Pv.go pv_c ?_
      exact (k.done g27) _ rfl
def sp_law_samples (K : PySem.W.Frag) (ea : Err → Addr) : Sp := fun vs H Q E => ∃ (c : Cl) (w0 : V) (a0 : List (PySem.Str × Int × Int)), vs = [w0] ∧ Wf c H ∧ rP (tyT3 tyS tyI tyI) c H w0 a0 ∧ Kont (fun y c' H' => ∀ v, rO (tyT2 tyS tyI) H c' H' v y → Q v H') (fun _ _ _ => False) [] c H (m_law_samples a0)
theorem ok_law_samples {P : Program} {w : World} {K : PySem.W.Frag} {mg : Str → Option Value} {base : Heap} {a : Ad} (T : Txt K mg a) : FnOk P w K mg base CX0 1 a.law_samples a.law_samples_fd ["_law_rows_here"] (sp_law_samples K a.ea) := by
  have sc : FnScope ["_law_rows_here", "_law_cells", "_law_piece", "_law_begin", "_law_end", "_law_k"] ["_law_rows_here"] (defScope s_law_samples) := ⟨rfl, rfl, rfl, by decide +kernel, rfl, by decide +kernel, by decide +kernel⟩
  refine T.law_samples.F.ok sc (fun vs H Q E h => ?_) (fun cdv A outer s H0 vs Q E hr h => ?_)
  · obtain ⟨_, _, _, rfl, _⟩ := h
    rfl
  · obtain ⟨c0, w0, a0, rfl, wf0, h0, k⟩ := h
    refine ⟨_, (pss_cons (ps_set (i := 1) sc.nd rfl (Or.inl rfl) (pe_lst (pa_cons (pe_tup (pa_cons pe_str (pa_cons pe_int pa_nil))) (pa_cons (pe_tup (pa_cons pe_str (pa_cons pe_int pa_nil))) pa_nil)))) (pss_cons (ps_for PassesOwn.never rfl (pi_list (pv 0)) (pg_tup (n := 3) (by rfl) (pgs_cons (pg_name (i := 2) sc.nd rfl (Or.inl rfl)) (pgs_cons (pg_name (i := 3) sc.nd rfl (Or.inl rfl)) (pgs_cons (pg_name (i := 4) sc.nd rfl (Or.inl rfl)) pgs_nil)))) (pss_one (ps_for PassesOwn.never rfl (pi_tup (pe_tup (pa_cons (pe_op op_sub (pv 3) pe_int) (pa_cons (pv 3) (pa_cons (pe_op op_add (pv 3) pe_int) (pa_cons (pe_op op_sub (pv 4) pe_int) (pa_cons (pv 4) pa_nil))))))) (pg_name (i := 5) sc.nd rfl (Or.inl rfl)) (pss_one (ps_if (pt_cmpR op_ge (pv 5) pe_int (nomark _)) (pss_one (ps_expr (pe_bm PySem.F.plainAttrs_list PySem.F.slot_list_append PySem.F.type_list_append mt_append (pv 1) (pa_cons (pe_tup (pa_cons (pv 2) (pa_cons (pv 5) pa_nil))) pa_nil)))) pss_nil))))) (pss_one (ps_ret (pv 1))))), ?_⟩
    have g0 : Step [] c0 H0 c0 H0 := Step.refl wf0
    unfold m_law_samples at k
    refine seq_u ?_
    refine asg_u ?_
    refine lst_u ?_
    refine cons_u ?_
    refine tup_u ?_
    refine PvA.go (pa_c pv_c (pa_c pv_c pa_n)) ?_
    refine tup_end (Nat.le_of_ble_eq_true rfl) g0.wf fun p1 c2 H3 st4 cp5 rd6 np7 => ?_
    have g9 := g0.tr0 st4
    have h8 : (tyT2 tyS tyI).r c2 H3 (V.ref p1) (("a" : PySem.Str), (0 : Int)) := ⟨p1, _, _, rfl, cp5, rd6, ⟨rfl, (show PyData.strOk ("a" : PySem.Str) = true by decide +kernel)⟩, rfl⟩
    refine cons_u ?_
    refine tup_u ?_
    refine PvA.go (pa_c pv_c (pa_c pv_c pa_n)) ?_
    refine tup_end (Nat.le_of_ble_eq_true rfl) g9.wf fun p10 c11 H12 st13 cp14 rd15 np16 => ?_
    have g18 := g9.tr0 st13
    have h8 := lift h8 st13
    have h17 : (tyT2 tyS tyI).r c11 H12 (V.ref p10) (("zz" : PySem.Str), (3 : Int)) := ⟨p10, _, _, rfl, cp14, rd15, ⟨rfl, (show PyData.strOk ("zz" : PySem.Str) = true by decide +kernel)⟩, rfl⟩
    refine nil_u ?_
    refine lst_end (Nat.le_of_ble_eq_true rfl) g18.wf fun p19 c20 H21 st22 cp23 ob24 np25 => ?_
    have w27 := g18.fresh np25
    have g28 := g18.tr0 st22
    have h8 := lift h8 st22
    have h17 := lift h17 st22
    have o26 : Own (tyT2 tyS tyI) H0 c20 H21 p19 [(V.ref p1), (V.ref p10)] ([(("a" : PySem.Str), (0 : Int)), (("zz" : PySem.Str), (3 : Int))] : List (PySem.Str × Int)) := ⟨cp23, ob24, ⟨h8, ⟨h17, trivial⟩⟩, w27⟩
    refine gname_u ?_
    refine nx_go ?_
    refine seq_u ?_
    refine for_u ?_
    refine ilist_u ?_
    refine Pv.go (pv_v rfl) ?_
    obtain ⟨ad29, us30, e32, h31⟩ := rB_open h0.b
    subst e32
    refine ilist_e ((h31.at g28).rd) ?_
    refine for_n (A := (tyT3 tyS tyI tyI)) (a := ad29) (us := us30) (s0 := ((([(("a" : PySem.Str), (0 : Int)), (("zz" : PySem.Str), (3 : Int))] : List (PySem.Str × Int))) : List (PySem.Str × Int))) k (fun (s33 : List (PySem.Str × Int)) (c : Cl) (H : Hp) (σ : L2.St) => ∃ (us34 : List V) (y35 : Option V) (y36 : Option V) (y37 : Option V) (y38 : Option V), σ = [some (V.ref ad29), some (V.ref p19), y35, y36, y37, y38] ∧ Step [] c0 H0 c H ∧ Own (tyT2 tyS tyI) H0 c H p19 us34 s33) ⟨_, _, _, _, _, rfl, g28, o26⟩ ?_ ?_ ?_
    · exact fun s c H σ ⟨us34, y35, y36, y37, y38, _, g, _⟩ => ⟨(h31.at g).rd, (h31.at g).rs⟩
    · intro s33 x39 v40 c42 H43 σ N i h41 k
      obtain ⟨us34, y35, y36, y37, y38, rfl, g44, o45⟩ := i
      obtain ⟨ad46, u47, u48, u49, e54, rd53, h50, h51, h52⟩ := open3 h41
      subst e54
      refine gtup_u rd53 rfl ?_
      obtain ⟨h50, h50s⟩ := h50
      subst h50
      refine gcons_u ?_
      refine gname_u ?_
      have h51 : u48 = (V.int x39.2.1) := h51
      subst h51
      refine gcons_u ?_
      refine gname_u ?_
      have h52 : u49 = (V.int x39.2.2) := h52
      subst h52
      refine gcons_u ?_
      refine gname_u ?_
      refine gnil_u ?_
      refine for_u ?_
      refine itup_u ?_
      refine tup_u ?_
      refine PvA.go (pa_c (pv_2 (pv_v rfl) pv_c rv_i) (pa_c (pv_v rfl) (pa_c (pv_2 (pv_v rfl) pv_c rv_i) (pa_c (pv_2 (pv_v rfl) pv_c rv_i) (pa_c (pv_v rfl) pa_n))))) ?_
      refine tup_end (Nat.le_of_ble_eq_true rfl) g44.wf fun p55 c56 H57 st58 cp59 rd60 np61 => ?_
      have n63 : p19 ≠ p55 := ne_of_none o45.obj np61
      have g64 := g44.tr0 st58
      have o45 := o45.step0 st58
      have h62 : (tyT5 tyI tyI tyI tyI tyI).r c56 H57 (V.ref p55) ((x39.2.1 - (1 : Int)), x39.2.1, (x39.2.1 + (1 : Int)), (x39.2.2 - (1 : Int)), x39.2.2) := ⟨p55, _, _, _, _, _, rfl, cp59, rd60, rfl, rfl, rfl, rfl, rfl⟩
      refine itup_e' (sqT5 h62) ?_
      refine for_p (A := tyI) (s0 := ((s33) : List (PySem.Str × Int))) k (fun (s65 : List (PySem.Str × Int)) (c : Cl) (H : Hp) (σ : L2.St) => ∃ (us66 : List V) (y67 : Option V), σ = [some (V.ref ad29), some (V.ref p19), some (V.str x39.1), some (V.int x39.2.1), some (V.int x39.2.2), y67] ∧ Step [] c0 H0 c H ∧ Own (tyT2 tyS tyI) H0 c H p19 us66 s65 ∧ (tyT5 tyI tyI tyI tyI tyI).r c H (V.ref p55) ((x39.2.1 - (1 : Int)), x39.2.1, (x39.2.1 + (1 : Int)), (x39.2.2 - (1 : Int)), x39.2.2)) ⟨_, _, rfl, g64, o45, h62⟩ ?_ ?_ ?_
      · exact fun s c H σ ⟨us66, y67, _, g, _, hit⟩ => pitT5 hit
      · intro s65 x68 v69 c71 H72 σ N i h70 k
        obtain ⟨us66, y67, rfl, g73, o74, h62⟩ := i
        have h70 : v69 = (V.int x68) := h70
        subst h70
        refine gname_u ?_
        refine if_cut k (fun (s75 : List (PySem.Str × Int)) (c : Cl) (H : Hp) (σ : L2.St) => ∃ (us76 : List V), σ = [some (V.ref ad29), some (V.ref p19), some (V.str x39.1), some (V.int x39.2.1), some (V.int x39.2.2), some (V.int x68)] ∧ Step [] c0 H0 c H ∧ Own (tyT2 tyS tyI) H0 c H p19 us76 s75 ∧ (tyT5 tyI tyI tyI tyI tyI).r c H (V.ref p55) ((x39.2.1 - (1 : Int)), x39.2.1, (x39.2.1 + (1 : Int)), (x39.2.2 - (1 : Int)), x39.2.2)) ?_ ?_
        rotate_left
        · intro k
          refine PvT.ifS (b := (decide ((0 : Int) ≤ x68))) ?_ (fun b81 => ?_) (fun b81 => ?_)
          · exact (show PvT _ _ _ (decide ((0 : Int) ≤ x68)) from (pt_t (pv_2 (pv_v rfl) pv_c rv_i)))
          · have k := k.brT b81
            refine drop_u ?_
            refine bm_u ?_
            refine Pv.go (pv_v rfl) ?_
            refine ⟨ty_list (.inl o74.obj), ?_⟩
            refine cons_u ?_
            refine tup_u ?_
            refine PvA.go (pa_c (pv_v rfl) (pa_c (pv_v rfl) pa_n)) ?_
            refine tup_end (Nat.le_of_ble_eq_true rfl) g73.wf fun p82 c83 H84 st85 cp86 rd87 np88 => ?_
            have n90 : p19 ≠ p82 := ne_of_none o74.obj np88
            have g91 := g73.tr0 st85
            have o74 := o74.step0 st85
            have h62 := lift h62 st85
            have h89 : (tyT2 tyS tyI).r c83 H84 (V.ref p82) (x39.1, x68) := ⟨p82, _, _, rfl, cp86, rd87, ⟨rfl, h50s⟩, rfl⟩
            refine nil_u ?_
            obtain ⟨e92, k⟩ := k.chk
            refine append_end o74 g91.wf h89 (of_decide_eq_true e92) fun H93 st94 o95 => ?_
            have g96 := g91.tr1 st94 (.inr o95.new)
            have h62 := lift h62 st94
            exact k.done g96 _ ⟨_, rfl, g96, o95, h62⟩
          · rw [brF_eq b81] at k
            refine next_u ?_
            exact k.done g73 _ ⟨_, rfl, g73, o74, h62⟩
        · intro s75 c77 H78 σ i k
          obtain ⟨us76, rfl, g79, o80, h62⟩ := i
          refine nx_go ?_
          exact (k.done g79) _ ⟨_, _, rfl, g79, o80, h62⟩
      · intro s65 c97 H98 σ i k
        obtain ⟨us66, y67, rfl, g99, o100, h62⟩ := i
        refine nx_go ?_
        exact (k.done g99) _ ⟨_, _, _, _, _, rfl, g99, o100⟩
    · intro s33 c101 H102 σ i k
      obtain ⟨us34, y35, y36, y37, y38, rfl, g103, o104⟩ := i
      refine nx_go ?_
      refine ret_u ?_
      refine Pv.go (pv_v rfl) ?_
      exact (k.done g103) _ ⟨_, _, rfl, o104⟩
def sp_law_is_ground (K : PySem.W.Frag) (ea : Err → Addr) : Sp := fun vs H Q E => ∃ (c : Cl) (w0 : V) (a0 : List (PySem.Str × Int × Int)), vs = [w0] ∧ Wf c H ∧ rP (tyT3 tyS tyI tyI) c H w0 a0 ∧ Kont (fun y c' H' => ∀ v, tyB.r c' H' v y → Q v H') (fun _ _ _ => False) [] c H (m_law_is_ground a0)
theorem ok_law_is_ground {P : Program} {w : World} {K : PySem.W.Frag} {mg : Str → Option Value} {base : Heap} {a : Ad} (T : Txt K mg a) : FnOk P w K mg base CX0 1 a.law_is_ground a.law_is_ground_fd ["_law_actual"] (sp_law_is_ground K a.ea) := by
  have sc : FnScope ["_law_actual", "_law_k", "_law_piece", "_law_begin", "_law_end"] ["_law_actual"] (defScope s_law_is_ground) := ⟨rfl, rfl, rfl, by decide +kernel, rfl, by decide +kernel, by decide +kernel⟩
  refine T.law_is_ground.F.ok sc (fun vs H Q E h => ?_) (fun cdv A outer s H0 vs Q E hr h => ?_)
  · obtain ⟨_, _, _, rfl, _⟩ := h
    rfl
  · obtain ⟨c0, w0, a0, rfl, wf0, h0, k⟩ := h
    refine ⟨_, (pss_cons (ps_if (pt_not (pt_val (pe_callB call_isi (by rfl) T.b_isinstance (by decide +kernel) (pa_cons (pv 0) (pa_cons (pe_bltn (v := .ty "list") (by rfl) T.b_list (by decide +kernel) rfl) pa_nil))))) (pss_one (ps_ret pe_bl)) pss_nil) (pss_cons (ps_for PassesOwn.never rfl (pi_range1 (by rfl) T.b_range (pa_cons (pe_callB call_len_seq (by rfl) T.b_len PySem.boot_len (pa_cons (pv 0) pa_nil)) pa_nil)) (pg_name (i := 1) sc.nd rfl (Or.inl rfl)) (pss_cons (ps_if (PW.pt (pw_or (pt_not (pt_val (pe_callB call_isi (by rfl) T.b_isinstance (by decide +kernel) (pa_cons (pe_ix ix_list (pv 0) (pv 1) (fun _ _ => rfl)) (pa_cons (pe_bltn (v := .ty "tuple") (by rfl) T.b_tuple (by decide +kernel) rfl) pa_nil))))) (pw_or1 (pt_cmpR op_ne (pe_callB call_len_seq (by rfl) T.b_len PySem.boot_len (pa_cons (pe_ix ix_list (pv 0) (pv 1) (fun _ _ => rfl)) pa_nil)) pe_int (nomark _))))) (pss_one (ps_ret pe_bl)) pss_nil) (pss_cons (ps_asg (pe_ix ix_list (pv 0) (pv 1) (fun _ _ => rfl)) (pg_tup (n := 3) (by rfl) (pgs_cons (pg_name (i := 2) sc.nd rfl (Or.inl rfl)) (pgs_cons (pg_name (i := 3) sc.nd rfl (Or.inl rfl)) (pgs_cons (pg_name (i := 4) sc.nd rfl (Or.inl rfl)) pgs_nil))))) (pss_cons (ps_if (PW.pt (pw_or (pt_val (pe_callB call_isi (by rfl) T.b_isinstance (by decide +kernel) (pa_cons (pv 3) (pa_cons (pe_bltn (v := .ty "bool") (by rfl) T.b_bool (by decide +kernel) rfl) pa_nil)))) (pw_or (pt_val (pe_callB call_isi (by rfl) T.b_isinstance (by decide +kernel) (pa_cons (pv 4) (pa_cons (pe_bltn (v := .ty "bool") (by rfl) T.b_bool (by decide +kernel) rfl) pa_nil)))) (pw_or (pt_cmpR op_lt (pv 3) pe_int (nomark _)) (pw_or1 (pt_cmpR op_ge (pv 3) (pv 4) (nomark _))))))) (pss_one (ps_ret pe_bl)) pss_nil) (pss_one (ps_if (PW.pt (pw_and (pt_cmpR op_gt (pv 1) pe_int (nomark _)) (pw_and1 (PW.pt (pw_or (pt_cmpR op_gt_str (pe_ix ix_tup (pe_ix ix_list (pv 0) (pe_op op_sub (pv 1) pe_int) (fun _ _ => rfl)) pe_int (fun _ _ => rfl)) (pv 2) (nomark _)) (pw_or1 (PW.pt (pw_and (pt_cmpR op_eq (pe_ix ix_tup (pe_ix ix_list (pv 0) (pe_op op_sub (pv 1) pe_int) (fun _ _ => rfl)) pe_int (fun _ _ => rfl)) (pv 2) (nomark _)) (pw_and1 (pt_cmpR op_ge (pe_ix ix_tup (pe_ix ix_list (pv 0) (pe_op op_sub (pv 1) pe_int) (fun _ _ => rfl)) pe_int (fun _ _ => rfl)) (pv 3) (nomark _))))))))))) (pss_one (ps_ret pe_bl)) pss_nil)))))) (pss_one (ps_ret pe_bl)))), ?_⟩
    have g0 : Step [] c0 H0 c0 H0 := Step.refl wf0
    unfold m_law_is_ground at k
    refine seq_u ?_
    refine PvT.ifS (b := false) ?_ (fun b1 => by cases b1) (fun b1 => ?_)
    · exact (show PvT _ _ _ (!true) from (pt_not (pt_b (pv_cb (pa_c (pv_v rfl) (pa_c pv_c pa_n)) (rc_isi (.ty _) (tyx_lst (g0.pl0 h0)) (kit_ty (by decide +kernel)))))))
    refine next_u ?_
    refine nx_go ?_
    refine seq_u ?_
    refine for_u ?_
    refine irng1_u ?_
    refine PvA.go (pa_c (len_B (g0.pl0 h0).b (pv_v rfl)) pa_n) ?_
    obtain ⟨e2, k⟩ := k.chk
    refine irng1_e e2 ?_
    refine for_rgr (s0 := (() : Unit)) (Rr := tyB.r) k (fun (s3 : Unit) (c : Cl) (H : Hp) (σ : L2.St) => ∃ (y4 : Option V) (y5 : Option V) (y6 : Option V) (y7 : Option V), σ = [some w0, y4, y5, y6, y7] ∧ Step [] c0 H0 c H) ⟨_, _, _, _, rfl, g0⟩ ?_ (fun r k c H g v hv => (k.done g) v hv) ?_
    · intro s3 x8 c11 H12 σ N i k
      obtain ⟨y4, y5, y6, y7, rfl, g13⟩ := i
      refine gname_u ?_
      refine seq_u ?_
      obtain ⟨b34, e35, k⟩ := k.bindP (ne_orN (ne_opt fun _ => ne_ok) (ne_opt fun _ => ne_ok))
      refine PvT.ifS (b := b34) ?_ (fun b36 => ?_) (fun b36 => ?_)
      · exact (show PvT _ _ _ b34 from (pt_orN e35 (fun _ h => (by have h := h; obtain ⟨x27, e28, h⟩ := opt_inv h; obtain ⟨u24, h25, q26⟩ := rv_ixB (g13.pl0 h0).b e28; exact PvT.is (pt_not (pt_b (pv_cb (pa_c (pv_2 (pv_v rfl) (pv_v rfl) (q26)) (pa_c pv_c pa_n)) (rc_isi (.ty _) (tyx3 h25) (kit_ty (by decide +kernel)))))) (Res.ok.inj h))) (fun _ h => (by have h := h; obtain ⟨x32, e33, h⟩ := opt_inv h; obtain ⟨u29, h30, q31⟩ := rv_ixB (g13.pl0 h0).b e33; exact PvT.is (pt_t (pv_2 (lenT3 h30 (pv_2 (pv_v rfl) (pv_v rfl) (q31))) pv_c rv_nei)) (Res.ok.inj h)))))
      · have k := k.brT b36
        refine ret_u ?_
        refine Pv.go pv_c ?_
        exact (k.done g13) _ rfl
      · rw [brF_eq b36] at k
        refine next_u ?_
        refine nx_go ?_
        refine seq_u ?_
        refine asg_u ?_
        obtain ⟨x40, e41, k⟩ := k.opt
        obtain ⟨u37, h38, q39⟩ := rv_ixB (g13.pl0 h0).b e41
        refine Pv.go (pv_2 (pv_v rfl) (pv_v rfl) (q39)) ?_
        obtain ⟨ad42, u43, u44, u45, e50, rd49, h46, h47, h48⟩ := open3 h38
        subst e50
        refine gtup_u rd49 rfl ?_
        obtain ⟨h46, h46s⟩ := h46
        subst h46
        refine gcons_u ?_
        refine gname_u ?_
        have h47 : u44 = (V.int x40.2.1) := h47
        subst h47
        refine gcons_u ?_
        refine gname_u ?_
        have h48 : u45 = (V.int x40.2.2) := h48
        subst h48
        refine gcons_u ?_
        refine gname_u ?_
        refine gnil_u ?_
        refine nx_go ?_
        refine seq_u ?_
        refine PvT.ifS (b := (false || (false || ((decide (x40.2.1 < (0 : Int))) || (decide (x40.2.2 ≤ x40.2.1)))))) ?_ (fun b51 => ?_) (fun b51 => ?_)
        · exact (show PvT _ _ _ (false || (false || ((decide (x40.2.1 < (0 : Int))) || (decide (x40.2.2 ≤ x40.2.1))))) from (pt_or (pt_b (pv_cb (pa_c (pv_v rfl) (pa_c pv_c pa_n)) (rc_isi (.ty _) tyx_int (kit_ty (by decide +kernel))))) (fun _ => (pt_or (pt_b (pv_cb (pa_c (pv_v rfl) (pa_c pv_c pa_n)) (rc_isi (.ty _) tyx_int (kit_ty (by decide +kernel))))) (fun _ => (pt_or (pt_t (pv_2 (pv_v rfl) pv_c rv_i)) (fun _ => (pt_t (pv_2 (pv_v rfl) (pv_v rfl) rv_i)))))))))
        · have k := k.brT b51
          refine ret_u ?_
          refine Pv.go pv_c ?_
          exact (k.done g13) _ rfl
        · rw [brF_eq b51] at k
          refine next_u ?_
          refine nx_go ?_
          obtain ⟨b100, e101, k⟩ := k.bindP (ne_andN ne_ok (ne_orN (ne_opt fun _ => ne_ok) (ne_andN (ne_opt fun _ => ne_ok) (ne_opt fun _ => ne_ok))))
          refine PvT.ifS (b := b100) ?_ (fun b102 => ?_) (fun b102 => ?_)
          · exact (show PvT _ _ _ b100 from (pt_andN e101 (fun _ h => (by have h := h; exact PvT.is (pt_t (pv_2 (pv_v rfl) pv_c rv_i)) (Res.ok.inj h))) (fun _ h => (pt_orN h (fun _ h => (by have h := h; obtain ⟨x79, e80, h⟩ := opt_inv h; obtain ⟨u76, h77, q78⟩ := rv_ixB (g13.pl0 h0).b e80; obtain ⟨u81, h82, q83⟩ := ix3_0 h77; obtain ⟨h82, h82s⟩ := h82; subst h82; exact PvT.is (pt_t (pv_2 (pv_2 (pv_2 (pv_v rfl) (pv_2 (pv_v rfl) pv_c rv_i) (q78)) pv_c (q83)) (pv_v rfl) (fun _ q => ⟨_, _, rfl, rfl, q⟩))) (Res.ok.inj h))) (fun _ h => (pt_andN h (fun _ h => (by have h := h; obtain ⟨x87, e88, h⟩ := opt_inv h; obtain ⟨u84, h85, q86⟩ := rv_ixB (g13.pl0 h0).b e88; obtain ⟨u89, h90, q91⟩ := ix3_0 h85; obtain ⟨h90, h90s⟩ := h90; subst h90; exact PvT.is (pt_t (pv_2 (pv_2 (pv_2 (pv_v rfl) (pv_2 (pv_v rfl) pv_c rv_i) (q86)) pv_c (q91)) (pv_v rfl) rv_eqs)) (Res.ok.inj h))) (fun _ h => (by have h := h; obtain ⟨x95, e96, h⟩ := opt_inv h; obtain ⟨u92, h93, q94⟩ := rv_ixB (g13.pl0 h0).b e96; obtain ⟨u97, h98, q99⟩ := ix3_2 h93; have h98 : u97 = (V.int x95.2.2) := h98; subst h98; exact PvT.is (pt_t (pv_2 (pv_2 (pv_2 (pv_v rfl) (pv_2 (pv_v rfl) pv_c rv_i) (q94)) pv_c (q99)) (pv_v rfl) rv_i)) (Res.ok.inj h)))))))))
          · have k := k.brT b102
            refine ret_u ?_
            refine Pv.go pv_c ?_
            exact (k.done g13) _ rfl
          · rw [brF_eq b102] at k
            refine next_u ?_
            refine nx_go ?_
            exact (k.done g13) _ ⟨_, _, _, _, rfl, g13⟩
    · intro s3 c103 H104 σ i k
      obtain ⟨y4, y5, y6, y7, rfl, g105⟩ := i
      refine nx_go ?_
      refine ret_u ?_
      refine Pv.go pv_c ?_
      exact (k.done g105) _ rfl
def sp_law (K : PySem.W.Frag) (ea : Err → Addr) : Sp := fun vs H Q E => ∃ (c : Cl) (w0 : V) (a0 : List Int), vs = [w0] ∧ Wf c H ∧ rB K tyI c H w0 a0 ∧ Kont (fun y c' H' => ∀ v, tyB.r c' H' v y → Q v H') (fun _ _ _ => False) [] c H (m_law a0)
theorem ok_law {P : Program} {w : World} {K : PySem.W.Frag} {mg : Str → Option Value} {base : Heap} {a : Ad} (T : Txt K mg a) (G_law_cell : FnOk P w K mg base CX0 1 a.law_cell a.law_cell_fd ["_law_script", "_law_k"] (sp_law_cell K a.ea)) (G_law_has : FnOk P w K mg base CX0 1 a.law_has a.law_has_fd ["_law_rows_here", "_law_piece", "_law_k"] (sp_law_has K a.ea)) (G_law_is_ground : FnOk P w K mg base CX0 1 a.law_is_ground a.law_is_ground_fd ["_law_actual"] (sp_law_is_ground K a.ea)) (G_law_rows : FnOk P w K mg base CX0 2 a.law_rows a.law_rows_fd ["_law_script", "_law_at", "_law_count"] (sp_law_rows K a.ea)) (G_law_samples : FnOk P w K mg base CX0 1 a.law_samples a.law_samples_fd ["_law_rows_here"] (sp_law_samples K a.ea)) (G_common : FnOk P w K mg base CX0 1 a.common a.common_fd ["a", "b"] (sp_common K a.ea)) (G_normal : FnOk P w K mg base (L2.CX P w) 2 a.normal a.normal_fd ["rows"] (sp_normal K a.ea)) (G_size : FnOk P w K mg base CX0 1 a.size a.size_fd ["ground"] (sp_size K a.ea)) (G_union : FnOk P w K mg base (L2.CX P w) 3 a.union a.union_fd ["a", "b"] (sp_union K a.ea)) (G_without : FnOk P w K mg base CX0 1 a.without a.without_fd ["a", "b"] (sp_without K a.ea)) : FnOk P w K mg base CX0 4 a.law a.law_fd ["_law_script"] (sp_law K a.ea) := by
  have sc : FnScope ["_law_script", "_law_a", "_law_b", "_law_kept", "_law_both", "_law_shared", "_law_rest", "_law_piece", "_law_k", "_law_first", "_law_second", "_law_rows_here"] ["_law_script"] (defScope s_law) := ⟨rfl, rfl, rfl, by decide +kernel, rfl, by decide +kernel, by decide +kernel⟩
  refine T.law.F.ok sc (fun vs H Q E h => ?_) (fun cdv A outer s H0 vs Q E hr h => ?_)
  · obtain ⟨_, _, _, rfl, _⟩ := h
    rfl
  · obtain ⟨c0, w0, a0, rfl, wf0, h0, k⟩ := h
    refine ⟨_, (pss_cons (ps_set (i := 1) sc.nd rfl (Or.inl rfl) (pe_call G_normal (hr.mono (by decide)) (by rfl) T.normal.g T.normal.F.kp T.normal.b .nil (passes_call (W := fun _ _ _ _ => False) takes0 (fun _ _ _ _ h => h)) (pa_cons (pe_call G_law_rows (hr.mono (by decide)) (by rfl) T.law_rows.g T.law_rows.F.kp T.law_rows.b .nil pass0 (pa_cons (pv 0) (pa_cons pe_int (pa_cons (pe_op op_mod (pe_call G_law_cell (hr.mono (by decide)) (by rfl) T.law_cell.g T.law_cell.F.kp T.law_cell.b .nil pass0 (pa_cons (pv 0) (pa_cons pe_int pa_nil))) pe_int) pa_nil)))) pa_nil))) (pss_cons (ps_set (i := 2) sc.nd rfl (Or.inl rfl) (pe_call G_normal (hr.mono (by decide)) (by rfl) T.normal.g T.normal.F.kp T.normal.b .nil (passes_call (W := fun _ _ _ _ => False) takes0 (fun _ _ _ _ h => h)) (pa_cons (pe_call G_law_rows (hr.mono (by decide)) (by rfl) T.law_rows.g T.law_rows.F.kp T.law_rows.b .nil pass0 (pa_cons (pv 0) (pa_cons pe_int (pa_cons (pe_op op_mod (pe_call G_law_cell (hr.mono (by decide)) (by rfl) T.law_cell.g T.law_cell.F.kp T.law_cell.b .nil pass0 (pa_cons (pv 0) (pa_cons pe_int pa_nil))) pe_int) pa_nil)))) pa_nil))) (pss_cons (ps_set (i := 3) sc.nd rfl (Or.inl rfl) (pe_tup (pa_cons (pe_callTy cr_list (by rfl) T.b_list (by decide +kernel) (pa_cons (pv 1) pa_nil)) (pa_cons (pe_callTy cr_list (by rfl) T.b_list (by decide +kernel) (pa_cons (pv 2) pa_nil)) pa_nil)))) (pss_cons (ps_set (i := 4) sc.nd rfl (Or.inl rfl) (pe_call G_union hr (by rfl) T.union.g T.union.F.kp T.union.b .nil (passes_call (W := fun _ _ _ _ => False) takes0 (fun _ _ _ _ h => h)) (pa_cons (pv 1) (pa_cons (pv 2) pa_nil)))) (pss_cons (ps_set (i := 5) sc.nd rfl (Or.inl rfl) (pe_call G_common (hr.mono (by decide)) (by rfl) T.common.g T.common.F.kp T.common.b .nil pass0 (pa_cons (pv 1) (pa_cons (pv 2) pa_nil)))) (pss_cons (ps_set (i := 6) sc.nd rfl (Or.inl rfl) (pe_call G_without (hr.mono (by decide)) (by rfl) T.without.g T.without.F.kp T.without.b .nil pass0 (pa_cons (pv 1) (pa_cons (pv 2) pa_nil)))) (pss_cons (ps_if (PW.pt (pw_or (pt_cmpR (op_neD hr.units) (pe_tup (pa_cons (pv 1) (pa_cons (pv 2) pa_nil))) (pv 3) (nomark _)) (pw_or (pt_not (pt_val (pe_call G_law_is_ground (hr.mono (by decide)) (by rfl) T.law_is_ground.g T.law_is_ground.F.kp T.law_is_ground.b .nil pass0 (pa_cons (pv 4) pa_nil)))) (pw_or (pt_not (pt_val (pe_call G_law_is_ground (hr.mono (by decide)) (by rfl) T.law_is_ground.g T.law_is_ground.F.kp T.law_is_ground.b .nil pass0 (pa_cons (pv 5) pa_nil)))) (pw_or1 (pt_not (pt_val (pe_call G_law_is_ground (hr.mono (by decide)) (by rfl) T.law_is_ground.g T.law_is_ground.F.kp T.law_is_ground.b .nil pass0 (pa_cons (pv 6) pa_nil))))))))) (pss_one (ps_ret pe_bl)) pss_nil) (pss_cons (ps_for PassesOwn.never rfl (pi_list (pe_call G_law_samples (hr.mono (by decide)) (by rfl) T.law_samples.g T.law_samples.F.kp T.law_samples.b .nil pass0 (pa_cons (pe_op op_cat (pe_op op_cat (pe_op op_cat (pe_op op_cat (pv 1) (pv 2)) (pv 4)) (pv 5)) (pv 6)) pa_nil))) (pg_tup (n := 2) (by rfl) (pgs_cons (pg_name (i := 7) sc.nd rfl (Or.inl rfl)) (pgs_cons (pg_name (i := 8) sc.nd rfl (Or.inl rfl)) pgs_nil))) (pss_cons (ps_set (i := 9) sc.nd rfl (Or.inl rfl) (pe_call G_law_has (hr.mono (by decide)) (by rfl) T.law_has.g T.law_has.F.kp T.law_has.b .nil pass0 (pa_cons (pv 1) (pa_cons (pv 7) (pa_cons (pv 8) pa_nil))))) (pss_cons (ps_set (i := 10) sc.nd rfl (Or.inl rfl) (pe_call G_law_has (hr.mono (by decide)) (by rfl) T.law_has.g T.law_has.F.kp T.law_has.b .nil pass0 (pa_cons (pv 2) (pa_cons (pv 7) (pa_cons (pv 8) pa_nil))))) (pss_cons (ps_if (PW.pt (pw_or (pt_cmpR op_ne (pe_call G_law_has (hr.mono (by decide)) (by rfl) T.law_has.g T.law_has.F.kp T.law_has.b .nil pass0 (pa_cons (pv 4) (pa_cons (pv 7) (pa_cons (pv 8) pa_nil)))) (pe_or (pv 9) (pe_one (pv 10))) (nomark _)) (pw_or1 (pt_cmpR op_ne (pe_call G_law_has (hr.mono (by decide)) (by rfl) T.law_has.g T.law_has.F.kp T.law_has.b .nil pass0 (pa_cons (pv 5) (pa_cons (pv 7) (pa_cons (pv 8) pa_nil)))) (pe_and (pv 9) (pe_one (pv 10))) (nomark _))))) (pss_one (ps_ret pe_bl)) pss_nil) (pss_one (ps_if (pt_cmpR op_ne (pe_call G_law_has (hr.mono (by decide)) (by rfl) T.law_has.g T.law_has.F.kp T.law_has.b .nil pass0 (pa_cons (pv 6) (pa_cons (pv 7) (pa_cons (pv 8) pa_nil)))) (pe_and (pv 9) (pe_one (pe_not (pv 10)))) (nomark _)) (pss_one (ps_ret pe_bl)) pss_nil)))))) (pss_cons (ps_if (PW.pt (pw_or (pt_cmpR op_ne (pe_op op_add (pe_call G_size (hr.mono (by decide)) (by rfl) T.size.g T.size.F.kp T.size.b .nil pass0 (pa_cons (pv 4) pa_nil)) (pe_call G_size (hr.mono (by decide)) (by rfl) T.size.g T.size.F.kp T.size.b .nil pass0 (pa_cons (pv 5) pa_nil))) (pe_op op_add (pe_call G_size (hr.mono (by decide)) (by rfl) T.size.g T.size.F.kp T.size.b .nil pass0 (pa_cons (pv 1) pa_nil)) (pe_call G_size (hr.mono (by decide)) (by rfl) T.size.g T.size.F.kp T.size.b .nil pass0 (pa_cons (pv 2) pa_nil))) (nomark _)) (pw_or1 (pt_cmpR op_ne (pe_op op_add (pe_call G_size (hr.mono (by decide)) (by rfl) T.size.g T.size.F.kp T.size.b .nil pass0 (pa_cons (pv 5) pa_nil)) (pe_call G_size (hr.mono (by decide)) (by rfl) T.size.g T.size.F.kp T.size.b .nil pass0 (pa_cons (pv 6) pa_nil))) (pe_call G_size (hr.mono (by decide)) (by rfl) T.size.g T.size.F.kp T.size.b .nil pass0 (pa_cons (pv 1) pa_nil)) (nomark _))))) (pss_one (ps_ret pe_bl)) pss_nil) (pss_cons (ps_if (PW.pt (pw_or (pt_cmpR (op_neD hr.units) (pe_call G_common (hr.mono (by decide)) (by rfl) T.common.g T.common.F.kp T.common.b .nil pass0 (pa_cons (pv 2) (pa_cons (pv 1) pa_nil))) (pv 5) (nomark _)) (pw_or (pt_cmpR (op_neD hr.units) (pe_call G_union hr (by rfl) T.union.g T.union.F.kp T.union.b .nil (passes_call (W := fun _ _ _ _ => False) takes0 (fun _ _ _ _ h => h)) (pa_cons (pv 2) (pa_cons (pv 1) pa_nil))) (pv 4) (nomark _)) (pw_or (pt_cmpR (op_neD hr.units) (pe_call G_without (hr.mono (by decide)) (by rfl) T.without.g T.without.F.kp T.without.b .nil pass0 (pa_cons (pv 1) (pa_cons (pv 1) pa_nil))) (pe_lst pa_nil) (nomark _)) (pw_or1 (pt_cmpR (op_neD hr.units) (pe_call G_union hr (by rfl) T.union.g T.union.F.kp T.union.b .nil (passes_call (W := fun _ _ _ _ => False) takes0 (fun _ _ _ _ h => h)) (pa_cons (pv 1) (pa_cons (pe_lst pa_nil) pa_nil))) (pv 1) (nomark _))))))) (pss_one (ps_ret pe_bl)) pss_nil) (pss_cons (ps_for PassesOwn.never rfl (pi_tup (pe_tup (pa_cons (pe_call G_union hr (by rfl) T.union.g T.union.F.kp T.union.b .nil (passes_call (W := fun _ _ _ _ => False) takes0 (fun _ _ _ _ h => h)) (pa_cons (pv 1) (pa_cons (pe_lst pa_nil) pa_nil))) (pa_cons (pe_call G_union hr (by rfl) T.union.g T.union.F.kp T.union.b .nil (passes_call (W := fun _ _ _ _ => False) takes0 (fun _ _ _ _ h => h)) (pa_cons (pe_lst pa_nil) (pa_cons (pv 2) pa_nil))) (pa_cons (pe_call G_union hr (by rfl) T.union.g T.union.F.kp T.union.b .nil (passes_call (W := fun _ _ _ _ => False) takes0 (fun _ _ _ _ h => h)) (pa_cons (pv 1) (pa_cons (pv 1) pa_nil))) (pa_cons (pe_call G_common (hr.mono (by decide)) (by rfl) T.common.g T.common.F.kp T.common.b .nil pass0 (pa_cons (pv 1) (pa_cons (pv 1) pa_nil))) (pa_cons (pe_call G_without (hr.mono (by decide)) (by rfl) T.without.g T.without.F.kp T.without.b .nil pass0 (pa_cons (pv 1) (pa_cons (pe_lst pa_nil) pa_nil))) (pa_cons (pv 4) (pa_cons (pv 5) (pa_cons (pv 6) pa_nil)))))))))) (pg_name (i := 11) sc.nd rfl (Or.inl rfl)) (pss_cons (ps_expr (pe_bm PySem.F.plainAttrs_list PySem.F.slot_list_append PySem.F.type_list_append mt_append (pv 11) (pa_cons (pe_tup (pa_cons pe_str (pa_cons pe_int (pa_cons pe_int pa_nil)))) pa_nil))) (pss_one (ps_expr (pe_bm0 PySem.F.plainAttrs_list PySem.F.slot_list_reverse PySem.F.type_list_reverse mt_reverse (pv 11)))))) (pss_one (ps_ret (pe_cmpR (op_eqD hr.units) (pe_tup (pa_cons (pv 1) (pa_cons (pv 2) pa_nil))) (pv 3) (nomark _))))))))))))))), ?_⟩
    have g0 : Step [] c0 H0 c0 H0 := Step.refl wf0
    unfold m_law at k
    refine seq_u ?_
    refine asg_u ?_
    refine call_u ?_
    refine cons_u ?_
    refine call_u ?_
    refine cons_u ?_
    refine Pv.go (pv_v rfl) ?_
    refine cons_u ?_
    refine Pv.go pv_c ?_
    refine cons_u ?_
    refine op_u ?_
    refine call_u ?_
    refine PvA.go (pa_c (pv_v rfl) (pa_c pv_c pa_n)) ?_
    refine ⟨c0, _, a0, _, (0 : Int), rfl, g0.wf, (g0.b0 h0), rfl, ?_⟩
    refine Kont.call k g0 (fun _ z => by cases z) (fun y1 e2 k c3 H4 st5 g6 v7 r8 => ?_) (fun _ _ _ _ _ _ z => z)
    have r8 : v7 = (V.int y1) := r8
    subst r8
    refine Pv.go pv_c ?_
    refine (rv_modL (by decide)) _ ?_
    refine nil_u ?_
    refine ⟨c3, _, a0, _, (2 : Int), _, (y1 % (10 : Int)), rfl, g6.wf, (g6.b0 h0), rfl, rfl, ?_⟩
    refine Kont.call k g6 (fun _ z => by cases z) (fun y9 e10 k c11 H12 st13 g14 v15 r16 => ?_) (fun _ _ _ _ _ _ z => z)
    obtain ⟨p17, us18, rfl, r16⟩ := r16
    have r16 := r16.base g6
    refine nil_u ?_
    refine ⟨c11, _, y9, rfl, g14.wf, r16.pl, ?_⟩
    refine Kont.call k g14 (fun _ z => by cases z) (fun y19 e20 k c21 H22 st23 g24 v25 r26 => ?_) (fun e e20 c21 H22 st23 g24 pe => ?_)
    rotate_left
    · exact pe
    obtain ⟨p27, us28, rfl, r26⟩ := r26
    have r26 := r26.base g14
    have h29 := r26.frz
    have g30 := g24.frz (p := p27) r26.new
    refine gname_u ?_
    refine nx_go ?_
    refine seq_u ?_
    refine asg_u ?_
    refine call_u ?_
    refine cons_u ?_
    refine call_u ?_
    refine cons_u ?_
    refine Pv.go (pv_v rfl) ?_
    refine cons_u ?_
    refine Pv.go pv_c ?_
    refine cons_u ?_
    refine op_u ?_
    refine call_u ?_
    refine PvA.go (pa_c (pv_v rfl) (pa_c pv_c pa_n)) ?_
    refine ⟨(frz c21 p27), _, a0, _, (1 : Int), rfl, g30.wf, (g30.b0 h0), rfl, ?_⟩
    refine Kont.call k g30 (fun _ z => by cases z) (fun y31 e32 k c33 H34 st35 g36 v37 r38 => ?_) (fun _ _ _ _ _ _ z => z)
    have r38 : v37 = (V.int y31) := r38
    subst r38
    have h29 := lift h29 st35
    refine Pv.go pv_c ?_
    refine (rv_modL (by decide)) _ ?_
    refine nil_u ?_
    refine ⟨c33, _, a0, _, (12 : Int), _, (y31 % (10 : Int)), rfl, g36.wf, (g36.b0 h0), rfl, rfl, ?_⟩
    refine Kont.call k g36 (fun _ z => by cases z) (fun y39 e40 k c41 H42 st43 g44 v45 r46 => ?_) (fun _ _ _ _ _ _ z => z)
    obtain ⟨p47, us48, rfl, r46⟩ := r46
    have r46 := r46.base g36
    have h29 := lift h29 st43
    refine nil_u ?_
    refine ⟨c41, _, y39, rfl, g44.wf, r46.pl, ?_⟩
    refine Kont.call k g44 (fun _ z => by cases z) (fun y49 e50 k c51 H52 st53 g54 v55 r56 => ?_) (fun e e50 c51 H52 st53 g54 pe => ?_)
    rotate_left
    · exact pe
    obtain ⟨p57, us58, rfl, r56⟩ := r56
    have r56 := r56.base g44
    have h29 := lift h29 st53
    have h59 := r56.frz
    have g60 := g54.frz (p := p57) r56.new
    have h29 := liftF (p := p57) h29
    refine gname_u ?_
    refine nx_go ?_
    refine seq_u ?_
    refine asg_u ?_
    refine tup_u ?_
    refine cons_u ?_
    refine cb_u ?_
    refine PvA.go (pa_c (pv_v rfl) pa_n) ?_
    refine listof_end (H0 := H0) (tyL_b h29) g60.wf (fun _ n => g60.fresh n) fun p61 us62 c63 H64 o66_n st65 o66 => ?_
    have g67 := g60.tr0 st65
    have h29 := lift h29 st65
    have h59 := lift h59 st65
    refine cons_u ?_
    refine cb_u ?_
    refine PvA.go (pa_c (pv_v rfl) pa_n) ?_
    refine listof_end (H0 := H0) (tyL_b h59) g67.wf (fun _ n => g67.fresh n) fun p68 us69 c70 H71 o73_n st72 o73 => ?_
    have n74 : p61 ≠ p68 := ne_of_none o66.obj o73_n
    have g75 := g67.tr0 st72
    have h29 := lift h29 st72
    have h59 := lift h59 st72
    have o66 := o66.step0 st72
    refine nil_u ?_
    have h76 := o66.frz
    have g77 := g75.frz (p := p61) o66.new
    have h29 := liftF (p := p61) h29
    have h59 := liftF (p := p61) h59
    have o73 := o73.other (Ne.symm n74)
    have h78 := o73.frz
    have g79 := g77.frz (p := p68) o73.new
    have h29 := liftF (p := p68) h29
    have h59 := liftF (p := p68) h59
    have h76 := liftF (p := p68) h76
    refine tup_end (Nat.le_of_ble_eq_true rfl) g79.wf fun p80 c81 H82 st83 cp84 rd85 np86 => ?_
    have g88 := g79.tr0 st83
    have h29 := lift h29 st83
    have h59 := lift h59 st83
    have h76 := lift h76 st83
    have h78 := lift h78 st83
    have h87 : (tyT2 (tyL (tyT3 tyS tyI tyI)) (tyL (tyT3 tyS tyI tyI))).r c81 H82 (V.ref p80) (y19, y49) := ⟨p80, _, _, rfl, cp84, rd85, h76, h78⟩
    refine gname_u ?_
    refine nx_go ?_
    refine seq_u ?_
    refine asg_u ?_
    refine call_u ?_
    refine PvA.go (pa_c (pv_v rfl) (pa_c (pv_v rfl) pa_n)) ?_
    refine ⟨c81, _, y19, _, y49, rfl, g88.wf, (tyL_p h29), (tyL_p h59), ?_⟩
    refine Kont.call k g88 (fun _ z => by cases z) (fun y89 e90 k c91 H92 st93 g94 v95 r96 => ?_) (fun e e90 c91 H92 st93 g94 pe => ?_)
    rotate_left
    · exact pe
    obtain ⟨p97, us98, rfl, r96⟩ := r96
    have r96 := r96.base g88
    have h29 := lift h29 st93
    have h59 := lift h59 st93
    have h87 := lift h87 st93
    refine gname_u ?_
    refine nx_go ?_
    refine seq_u ?_
    refine asg_u ?_
    refine call_u ?_
    refine PvA.go (pa_c (pv_v rfl) (pa_c (pv_v rfl) pa_n)) ?_
    refine ⟨c91, _, y19, _, y49, rfl, g94.wf, (tyL_p h29), (tyL_p h59), ?_⟩
    refine Kont.call k g94 (fun _ z => by cases z) (fun y99 e100 k c101 H102 st103 g104 v105 r106 => ?_) (fun _ _ _ _ _ _ z => z)
    obtain ⟨p107, us108, rfl, r106⟩ := r106
    have n109 : p97 ≠ p107 := ne_of_none r96.obj r106.new
    have r106 := r106.base g94
    have h29 := lift h29 st103
    have h59 := lift h59 st103
    have h87 := lift h87 st103
    have r96 := r96.step0 st103
    refine gname_u ?_
    refine nx_go ?_
    refine seq_u ?_
    refine asg_u ?_
    refine call_u ?_
    refine PvA.go (pa_c (pv_v rfl) (pa_c (pv_v rfl) pa_n)) ?_
    refine ⟨c101, _, y19, _, y49, rfl, g104.wf, (tyL_p h29), (tyL_p h59), ?_⟩
    refine Kont.call k g104 (fun _ z => by cases z) (fun y110 e111 k c112 H113 st114 g115 v116 r117 => ?_) (fun _ _ _ _ _ _ z => z)
    obtain ⟨p118, us119, rfl, r117⟩ := r117
    have n120 : p97 ≠ p118 := ne_of_none r96.obj r117.new
    have n121 : p107 ≠ p118 := ne_of_none r106.obj r117.new
    have r117 := r117.base g104
    have h29 := lift h29 st114
    have h59 := lift h59 st114
    have h87 := lift h87 st114
    have r96 := r96.step0 st114
    have r106 := r106.step0 st114
    refine gname_u ?_
    refine nx_go ?_
    refine seq_u ?_
    refine ifS_u ?_
    refine or_s ?_
    refine test_u ?_
    refine op_u ?_
    refine tup_u ?_
    refine PvA.go (pa_c (pv_v rfl) (pa_c (pv_v rfl) pa_n)) ?_
    refine tup_end (Nat.le_of_ble_eq_true rfl) g115.wf fun p122 c123 H124 st125 cp126 rd127 np128 => ?_
    have n130 : p97 ≠ p122 := ne_of_none r96.obj np128
    have n131 : p107 ≠ p122 := ne_of_none r106.obj np128
    have n132 : p118 ≠ p122 := ne_of_none r117.obj np128
    have g133 := g115.tr0 st125
    have h29 := lift h29 st125
    have h59 := lift h59 st125
    have h87 := lift h87 st125
    have r96 := r96.step0 st125
    have r106 := r106.step0 st125
    have r117 := r117.step0 st125
    have h129 : (tyT2 (tyL (tyT3 tyS tyI tyI)) (tyL (tyT3 tyS tyI tyI))).r c123 H124 (V.ref p122) (y19, y49) := ⟨p122, _, _, rfl, cp126, rd127, h29, h59⟩
    refine Pv.go (pv_v rfl) ?_
    refine (rv_ned h129 h87 (by decide)) _ ?_
    refine ⟨_, rfl, ?_⟩
    refine ite_b (b := (!decide ((y19, y49) = (y19, y49)))) (fun b134 => ?_) (fun b134 => ?_)
    · have k := k.brT b134
      refine ret_u ?_
      refine Pv.go pv_c ?_
      exact (k.done g133) _ rfl
    · rw [brF_eq b134] at k
      refine or_s ?_
      refine not_s ?_
      refine tB_u ?_
      refine call_u ?_
      refine PvA.go (pa_c (pv_v rfl) pa_n) ?_
      refine ⟨c123, _, y89, rfl, g133.wf, r96.pl, ?_⟩
      refine Kont.call k g133 (fun _ z => by cases z) (fun y135 e136 k c137 H138 st139 g140 v141 r142 => ?_) (fun _ _ _ _ _ _ z => z)
      have r142 : v141 = (V.bl y135) := r142
      subst r142
      have h29 := lift h29 st139
      have h59 := lift h59 st139
      have h87 := lift h87 st139
      have r96 := r96.step0 st139
      have r106 := r106.step0 st139
      have r117 := r117.step0 st139
      refine ⟨_, rfl, ?_⟩
      refine ite_b (b := y135) (fun b143 => ?_) (fun b143 => ?_)
      · have k := k.brT b143
        refine or_s ?_
        refine not_s ?_
        refine tB_u ?_
        refine call_u ?_
        refine PvA.go (pa_c (pv_v rfl) pa_n) ?_
        refine ⟨c137, _, y99, rfl, g140.wf, r106.pl, ?_⟩
        refine Kont.call k g140 (fun _ z => by cases z) (fun y144 e145 k c146 H147 st148 g149 v150 r151 => ?_) (fun _ _ _ _ _ _ z => z)
        have r151 : v150 = (V.bl y144) := r151
        subst r151
        have h29 := lift h29 st148
        have h59 := lift h59 st148
        have h87 := lift h87 st148
        have r96 := r96.step0 st148
        have r106 := r106.step0 st148
        have r117 := r117.step0 st148
        refine ⟨_, rfl, ?_⟩
        refine ite_b (b := y144) (fun b152 => ?_) (fun b152 => ?_)
        · have k := k.brT b152
          refine not_s ?_
          refine tB_u ?_
          refine call_u ?_
          refine PvA.go (pa_c (pv_v rfl) pa_n) ?_
          refine ⟨c146, _, y110, rfl, g149.wf, r117.pl, ?_⟩
          refine Kont.call k g149 (fun _ z => by cases z) (fun y153 e154 k c155 H156 st157 g158 v159 r160 => ?_) (fun _ _ _ _ _ _ z => z)
          have r160 : v159 = (V.bl y153) := r160
          subst r160
          have h29 := lift h29 st157
          have h59 := lift h59 st157
          have h87 := lift h87 st157
          have r96 := r96.step0 st157
          have r106 := r106.step0 st157
          have r117 := r117.step0 st157
          refine ⟨_, rfl, ?_⟩
          refine ite_b (b := y153) (fun b161 => ?_) (fun b161 => ?_)
          · have k := k.brT b161
            refine next_u ?_
            refine nx_go ?_
            refine seq_u ?_
            refine for_u ?_
            refine ilist_u ?_
            refine call_u ?_
            refine cons_u ?_
            refine op_u ?_
            refine op_u ?_
            refine op_u ?_
            refine op_u ?_
            refine Pv.go (pv_v rfl) ?_
            refine Pv.go (pv_v rfl) ?_
            obtain ⟨e162, k⟩ := k.chk
            refine cat_B (H0 := H0) (tyL_p h29) (tyL_p h59) g158.wf (fun _ n => g158.fresh n) (of_decide_eq_true e162) fun p163 us164 c165 H166 o168_n st167 o168 => ?_
            have n169 : p97 ≠ p163 := ne_of_none r96.obj o168_n
            have n170 : p107 ≠ p163 := ne_of_none r106.obj o168_n
            have n171 : p118 ≠ p163 := ne_of_none r117.obj o168_n
            have g172 := g158.tr0 st167
            have h29 := lift h29 st167
            have h59 := lift h59 st167
            have h87 := lift h87 st167
            have r96 := r96.step0 st167
            have r106 := r106.step0 st167
            have r117 := r117.step0 st167
            refine Pv.go (pv_v rfl) ?_
            obtain ⟨e173, k⟩ := k.chk
            refine cat_B (H0 := H0) o168.pl r96.pl g172.wf (fun _ n => g172.fresh n) (of_decide_eq_true e173) fun p174 us175 c176 H177 o179_n st178 o179 => ?_
            have n180 : p97 ≠ p174 := ne_of_none r96.obj o179_n
            have n181 : p107 ≠ p174 := ne_of_none r106.obj o179_n
            have n182 : p118 ≠ p174 := ne_of_none r117.obj o179_n
            have g183 := g172.tr0 st178
            have h29 := lift h29 st178
            have h59 := lift h59 st178
            have h87 := lift h87 st178
            have r96 := r96.step0 st178
            have r106 := r106.step0 st178
            have r117 := r117.step0 st178
            refine Pv.go (pv_v rfl) ?_
            obtain ⟨e184, k⟩ := k.chk
            refine cat_B (H0 := H0) o179.pl r106.pl g183.wf (fun _ n => g183.fresh n) (of_decide_eq_true e184) fun p185 us186 c187 H188 o190_n st189 o190 => ?_
            have n191 : p97 ≠ p185 := ne_of_none r96.obj o190_n
            have n192 : p107 ≠ p185 := ne_of_none r106.obj o190_n
            have n193 : p118 ≠ p185 := ne_of_none r117.obj o190_n
            have g194 := g183.tr0 st189
            have h29 := lift h29 st189
            have h59 := lift h59 st189
            have h87 := lift h87 st189
            have r96 := r96.step0 st189
            have r106 := r106.step0 st189
            have r117 := r117.step0 st189
            refine Pv.go (pv_v rfl) ?_
            obtain ⟨e195, k⟩ := k.chk
            refine cat_B (H0 := H0) o190.pl r117.pl g194.wf (fun _ n => g194.fresh n) (of_decide_eq_true e195) fun p196 us197 c198 H199 o201_n st200 o201 => ?_
            have n202 : p97 ≠ p196 := ne_of_none r96.obj o201_n
            have n203 : p107 ≠ p196 := ne_of_none r106.obj o201_n
            have n204 : p118 ≠ p196 := ne_of_none r117.obj o201_n
            have g205 := g194.tr0 st200
            have h29 := lift h29 st200
            have h59 := lift h59 st200
            have h87 := lift h87 st200
            have r96 := r96.step0 st200
            have r106 := r106.step0 st200
            have r117 := r117.step0 st200
            refine nil_u ?_
            refine ⟨c198, _, ((((y19 ++ y49) ++ y89) ++ y99) ++ y110), rfl, g205.wf, o201.pl, ?_⟩
            refine Kont.call k g205 (fun _ z => by cases z) (fun y206 e207 k c208 H209 st210 g211 v212 r213 => ?_) (fun _ _ _ _ _ _ z => z)
            obtain ⟨p214, us215, rfl, r213⟩ := r213
            have n216 : p97 ≠ p214 := ne_of_none r96.obj r213.new
            have n217 : p107 ≠ p214 := ne_of_none r106.obj r213.new
            have n218 : p118 ≠ p214 := ne_of_none r117.obj r213.new
            have r213 := r213.base g205
            have h29 := lift h29 st210
            have h59 := lift h59 st210
            have h87 := lift h87 st210
            have r96 := r96.step0 st210
            have r106 := r106.step0 st210
            have r117 := r117.step0 st210
            refine ilist_e ((.inl (.inl r213.obj))) ?_
            refine for_r (A := (tyT2 tyS tyI)) (a := p214) (us := us215) (s0 := (() : Unit)) (Rr := tyB.r) k (fun (s219 : Unit) (c : Cl) (H : Hp) (σ : L2.St) => ∃ (y220 : Option V) (y221 : Option V) (y222 : Option V) (y223 : Option V), σ = [some w0, some (V.ref p27), some (V.ref p57), some (V.ref p80), some (V.ref p97), some (V.ref p107), some (V.ref p118), y220, y221, y222, y223, none] ∧ Step [] c0 H0 c H ∧ (tyL (tyT3 tyS tyI tyI)).r c H (V.ref p27) y19 ∧ (tyL (tyT3 tyS tyI tyI)).r c H (V.ref p57) y49 ∧ (tyT2 (tyL (tyT3 tyS tyI tyI)) (tyL (tyT3 tyS tyI tyI))).r c H (V.ref p80) (y19, y49) ∧ Own (tyT3 tyS tyI tyI) H0 c H p97 us98 y89 ∧ Own (tyT3 tyS tyI tyI) H0 c H p107 us108 y99 ∧ Own (tyT3 tyS tyI tyI) H0 c H p118 us119 y110 ∧ Own (tyT2 tyS tyI) H0 c H p214 us215 y206) ⟨_, _, _, _, rfl, g211, h29, h59, h87, r96, r106, r117, r213⟩ ?_ ?_ (fun r k c H g v hv => (k.done g) v hv) ?_
            · exact fun s c H σ ⟨y220, y221, y222, y223, _, g, _, _, _, _, _, _, hit⟩ => ⟨.inl (.inl hit.obj), hit.rs⟩
            · intro s219 x224 v225 c227 H228 σ N i h226 k
              obtain ⟨y220, y221, y222, y223, rfl, g229, h29, h59, h87, r96, r106, r117, r213⟩ := i
              obtain ⟨ad230, u231, u232, e236, rd235, h233, h234⟩ := open2 h226
              subst e236
              refine gtup_u rd235 rfl ?_
              obtain ⟨h233, h233s⟩ := h233
              subst h233
              refine gcons_u ?_
              refine gname_u ?_
              have h234 : u232 = (V.int x224.2) := h234
              subst h234
              refine gcons_u ?_
              refine gname_u ?_
              refine gnil_u ?_
              refine seq_u ?_
              refine asg_u ?_
              refine call_u ?_
              refine PvA.go (pa_c (pv_v rfl) (pa_c (pv_v rfl) (pa_c (pv_v rfl) pa_n))) ?_
              refine ⟨c227, _, y19, _, x224.1, _, x224.2, rfl, g229.wf, (tyL_p h29), ⟨rfl, h233s⟩, rfl, ?_⟩
              refine Kont.call k g229 (fun _ z => by cases z) (fun y237 e238 k c239 H240 st241 g242 v243 r244 => ?_) (fun _ _ _ _ _ _ z => z)
              have r244 : v243 = (V.bl y237) := r244
              subst r244
              have h29 := lift h29 st241
              have h59 := lift h59 st241
              have h87 := lift h87 st241
              have r96 := r96.step0 st241
              have r106 := r106.step0 st241
              have r117 := r117.step0 st241
              have r213 := r213.step0 st241
              refine gname_u ?_
              refine nx_go ?_
              refine seq_u ?_
              refine asg_u ?_
              refine call_u ?_
              refine PvA.go (pa_c (pv_v rfl) (pa_c (pv_v rfl) (pa_c (pv_v rfl) pa_n))) ?_
              refine ⟨c239, _, y49, _, x224.1, _, x224.2, rfl, g242.wf, (tyL_p h59), ⟨rfl, h233s⟩, rfl, ?_⟩
              refine Kont.call k g242 (fun _ z => by cases z) (fun y245 e246 k c247 H248 st249 g250 v251 r252 => ?_) (fun _ _ _ _ _ _ z => z)
              have r252 : v251 = (V.bl y245) := r252
              subst r252
              have h29 := lift h29 st249
              have h59 := lift h59 st249
              have h87 := lift h87 st249
              have r96 := r96.step0 st249
              have r106 := r106.step0 st249
              have r117 := r117.step0 st249
              have r213 := r213.step0 st249
              refine gname_u ?_
              refine nx_go ?_
              refine seq_u ?_
              refine ifS_u ?_
              refine or_s ?_
              refine test_u ?_
              refine op_u ?_
              refine call_u ?_
              refine PvA.go (pa_c (pv_v rfl) (pa_c (pv_v rfl) (pa_c (pv_v rfl) pa_n))) ?_
              refine ⟨c247, _, y89, _, x224.1, _, x224.2, rfl, g250.wf, r96.pl, ⟨rfl, h233s⟩, rfl, ?_⟩
              refine Kont.call k g250 (fun _ z => by cases z) (fun y253 e254 k c255 H256 st257 g258 v259 r260 => ?_) (fun _ _ _ _ _ _ z => z)
              have r260 : v259 = (V.bl y253) := r260
              subst r260
              have h29 := lift h29 st257
              have h59 := lift h59 st257
              have h87 := lift h87 st257
              have r96 := r96.step0 st257
              have r106 := r106.step0 st257
              have r117 := r117.step0 st257
              have r213 := r213.step0 st257
              refine Pv.go (pv_orV (pv_v rfl) (fun _ => (pv_v rfl))) ?_
              refine rv_neb _ ?_
              refine ⟨_, rfl, ?_⟩
              refine ite_b (b := (!decide (y253 = (y237 || y245)))) (fun b261 => ?_) (fun b261 => ?_)
              · have k := k.brT b261
                refine ret_u ?_
                refine Pv.go pv_c ?_
                exact (k.done g258) _ rfl
              · rw [brF_eq b261] at k
                refine test_u ?_
                refine op_u ?_
                refine call_u ?_
                refine PvA.go (pa_c (pv_v rfl) (pa_c (pv_v rfl) (pa_c (pv_v rfl) pa_n))) ?_
                refine ⟨c255, _, y99, _, x224.1, _, x224.2, rfl, g258.wf, r106.pl, ⟨rfl, h233s⟩, rfl, ?_⟩
                refine Kont.call k g258 (fun _ z => by cases z) (fun y262 e263 k c264 H265 st266 g267 v268 r269 => ?_) (fun _ _ _ _ _ _ z => z)
                have r269 : v268 = (V.bl y262) := r269
                subst r269
                have h29 := lift h29 st266
                have h59 := lift h59 st266
                have h87 := lift h87 st266
                have r96 := r96.step0 st266
                have r106 := r106.step0 st266
                have r117 := r117.step0 st266
                have r213 := r213.step0 st266
                refine Pv.go (pv_andV (pv_v rfl) (fun _ => (pv_v rfl))) ?_
                refine rv_neb _ ?_
                refine ⟨_, rfl, ?_⟩
                refine ite_b (b := (!decide (y262 = (y237 && y245)))) (fun b270 => ?_) (fun b270 => ?_)
                · have k := k.brT b270
                  refine ret_u ?_
                  refine Pv.go pv_c ?_
                  exact (k.done g267) _ rfl
                · rw [brF_eq b270] at k
                  refine next_u ?_
                  refine nx_go ?_
                  refine ifS_u ?_
                  refine test_u ?_
                  refine op_u ?_
                  refine call_u ?_
                  refine PvA.go (pa_c (pv_v rfl) (pa_c (pv_v rfl) (pa_c (pv_v rfl) pa_n))) ?_
                  refine ⟨c264, _, y110, _, x224.1, _, x224.2, rfl, g267.wf, r117.pl, ⟨rfl, h233s⟩, rfl, ?_⟩
                  refine Kont.call k g267 (fun _ z => by cases z) (fun y271 e272 k c273 H274 st275 g276 v277 r278 => ?_) (fun _ _ _ _ _ _ z => z)
                  have r278 : v277 = (V.bl y271) := r278
                  subst r278
                  have h29 := lift h29 st275
                  have h59 := lift h59 st275
                  have h87 := lift h87 st275
                  have r96 := r96.step0 st275
                  have r106 := r106.step0 st275
                  have r117 := r117.step0 st275
                  have r213 := r213.step0 st275
                  refine Pv.go (pv_andV (pv_v rfl) (fun _ => (pv_notV (pv_v rfl)))) ?_
                  refine rv_neb _ ?_
                  refine ⟨_, rfl, ?_⟩
                  refine ite_b (b := (!decide (y271 = (y237 && (!y245))))) (fun b279 => ?_) (fun b279 => ?_)
                  · have k := k.brT b279
                    refine ret_u ?_
                    refine Pv.go pv_c ?_
                    exact (k.done g276) _ rfl
                  · rw [brF_eq b279] at k
                    refine next_u ?_
                    refine nx_go ?_
                    exact (k.done g276) _ ⟨_, _, _, _, rfl, g276, h29, h59, h87, r96, r106, r117, r213⟩
            · intro s219 c280 H281 σ i k
              obtain ⟨y220, y221, y222, y223, rfl, g282, h29, h59, h87, r96, r106, r117, r213⟩ := i
              refine nx_go ?_
              refine seq_u ?_
              refine ifS_u ?_
              refine or_s ?_
              refine test_u ?_
              refine op_u ?_
              refine op_u ?_
              refine call_u ?_
              refine PvA.go (pa_c (pv_v rfl) pa_n) ?_
              refine ⟨c280, _, y89, rfl, g282.wf, r96.pl, ?_⟩
              refine Kont.call k g282 (fun _ z => by cases z) (fun y283 e284 k c285 H286 st287 g288 v289 r290 => ?_) (fun _ _ _ _ _ _ z => z)
              have r290 : v289 = (V.int y283) := r290
              subst r290
              have h29 := lift h29 st287
              have h59 := lift h59 st287
              have h87 := lift h87 st287
              have r96 := r96.step0 st287
              have r106 := r106.step0 st287
              have r117 := r117.step0 st287
              refine call_u ?_
              refine PvA.go (pa_c (pv_v rfl) pa_n) ?_
              refine ⟨c285, _, y99, rfl, g288.wf, r106.pl, ?_⟩
              refine Kont.call k g288 (fun _ z => by cases z) (fun y291 e292 k c293 H294 st295 g296 v297 r298 => ?_) (fun _ _ _ _ _ _ z => z)
              have r298 : v297 = (V.int y291) := r298
              subst r298
              have h29 := lift h29 st295
              have h59 := lift h59 st295
              have h87 := lift h87 st295
              have r96 := r96.step0 st295
              have r106 := r106.step0 st295
              have r117 := r117.step0 st295
              refine rv_i _ ?_
              refine op_u ?_
              refine call_u ?_
              refine PvA.go (pa_c (pv_v rfl) pa_n) ?_
              refine ⟨c293, _, y19, rfl, g296.wf, (tyL_p h29), ?_⟩
              refine Kont.call k g296 (fun _ z => by cases z) (fun y299 e300 k c301 H302 st303 g304 v305 r306 => ?_) (fun _ _ _ _ _ _ z => z)
              have r306 : v305 = (V.int y299) := r306
              subst r306
              have h29 := lift h29 st303
              have h59 := lift h59 st303
              have h87 := lift h87 st303
              have r96 := r96.step0 st303
              have r106 := r106.step0 st303
              have r117 := r117.step0 st303
              refine call_u ?_
              refine PvA.go (pa_c (pv_v rfl) pa_n) ?_
              refine ⟨c301, _, y49, rfl, g304.wf, (tyL_p h59), ?_⟩
              refine Kont.call k g304 (fun _ z => by cases z) (fun y307 e308 k c309 H310 st311 g312 v313 r314 => ?_) (fun _ _ _ _ _ _ z => z)
              have r314 : v313 = (V.int y307) := r314
              subst r314
              have h29 := lift h29 st311
              have h59 := lift h59 st311
              have h87 := lift h87 st311
              have r96 := r96.step0 st311
              have r106 := r106.step0 st311
              have r117 := r117.step0 st311
              refine rv_i _ ?_
              refine rv_nei _ ?_
              refine ⟨_, rfl, ?_⟩
              refine ite_b (b := (!decide ((y283 + y291) = (y299 + y307)))) (fun b315 => ?_) (fun b315 => ?_)
              · have k := k.brT b315
                refine ret_u ?_
                refine Pv.go pv_c ?_
                exact (k.done g312) _ rfl
              · rw [brF_eq b315] at k
                refine test_u ?_
                refine op_u ?_
                refine op_u ?_
                refine call_u ?_
                refine PvA.go (pa_c (pv_v rfl) pa_n) ?_
                refine ⟨c309, _, y99, rfl, g312.wf, r106.pl, ?_⟩
                refine Kont.call k g312 (fun _ z => by cases z) (fun y316 e317 k c318 H319 st320 g321 v322 r323 => ?_) (fun _ _ _ _ _ _ z => z)
                have r323 : v322 = (V.int y316) := r323
                subst r323
                have h29 := lift h29 st320
                have h59 := lift h59 st320
                have h87 := lift h87 st320
                have r96 := r96.step0 st320
                have r106 := r106.step0 st320
                have r117 := r117.step0 st320
                refine call_u ?_
                refine PvA.go (pa_c (pv_v rfl) pa_n) ?_
                refine ⟨c318, _, y110, rfl, g321.wf, r117.pl, ?_⟩
                refine Kont.call k g321 (fun _ z => by cases z) (fun y324 e325 k c326 H327 st328 g329 v330 r331 => ?_) (fun _ _ _ _ _ _ z => z)
                have r331 : v330 = (V.int y324) := r331
                subst r331
                have h29 := lift h29 st328
                have h59 := lift h59 st328
                have h87 := lift h87 st328
                have r96 := r96.step0 st328
                have r106 := r106.step0 st328
                have r117 := r117.step0 st328
                refine rv_i _ ?_
                refine call_u ?_
                refine PvA.go (pa_c (pv_v rfl) pa_n) ?_
                refine ⟨c326, _, y19, rfl, g329.wf, (tyL_p h29), ?_⟩
                refine Kont.call k g329 (fun _ z => by cases z) (fun y332 e333 k c334 H335 st336 g337 v338 r339 => ?_) (fun _ _ _ _ _ _ z => z)
                have r339 : v338 = (V.int y332) := r339
                subst r339
                have h29 := lift h29 st336
                have h59 := lift h59 st336
                have h87 := lift h87 st336
                have r96 := r96.step0 st336
                have r106 := r106.step0 st336
                have r117 := r117.step0 st336
                refine rv_nei _ ?_
                refine ⟨_, rfl, ?_⟩
                refine ite_b (b := (!decide ((y316 + y324) = y332))) (fun b340 => ?_) (fun b340 => ?_)
                · have k := k.brT b340
                  refine ret_u ?_
                  refine Pv.go pv_c ?_
                  exact (k.done g337) _ rfl
                · rw [brF_eq b340] at k
                  refine next_u ?_
                  refine nx_go ?_
                  refine seq_u ?_
                  refine ifS_u ?_
                  refine or_s ?_
                  refine test_u ?_
                  refine op_u ?_
                  refine call_u ?_
                  refine PvA.go (pa_c (pv_v rfl) (pa_c (pv_v rfl) pa_n)) ?_
                  refine ⟨c334, _, y49, _, y19, rfl, g337.wf, (tyL_p h59), (tyL_p h29), ?_⟩
                  refine Kont.call k g337 (fun _ z => by cases z) (fun y341 e342 k c343 H344 st345 g346 v347 r348 => ?_) (fun _ _ _ _ _ _ z => z)
                  obtain ⟨p349, us350, rfl, r348⟩ := r348
                  have n351 : p97 ≠ p349 := ne_of_none r96.obj r348.new
                  have n352 : p107 ≠ p349 := ne_of_none r106.obj r348.new
                  have n353 : p118 ≠ p349 := ne_of_none r117.obj r348.new
                  have r348 := r348.base g337
                  have h29 := lift h29 st345
                  have h59 := lift h59 st345
                  have h87 := lift h87 st345
                  have r96 := r96.step0 st345
                  have r106 := r106.step0 st345
                  have r117 := r117.step0 st345
                  refine Pv.go (pv_v rfl) ?_
                  refine (rv_nel r348.b r106.b (by decide)) _ ?_
                  refine ⟨_, rfl, ?_⟩
                  refine ite_b (b := (!decide (y341 = y99))) (fun b354 => ?_) (fun b354 => ?_)
                  · have k := k.brT b354
                    refine ret_u ?_
                    refine Pv.go pv_c ?_
                    exact (k.done g346) _ rfl
                  · rw [brF_eq b354] at k
                    refine or_s ?_
                    refine test_u ?_
                    refine op_u ?_
                    refine call_u ?_
                    refine PvA.go (pa_c (pv_v rfl) (pa_c (pv_v rfl) pa_n)) ?_
                    refine ⟨c343, _, y49, _, y19, rfl, g346.wf, (tyL_p h59), (tyL_p h29), ?_⟩
                    refine Kont.call k g346 (fun _ z => by cases z) (fun y355 e356 k c357 H358 st359 g360 v361 r362 => ?_) (fun e e356 c357 H358 st359 g360 pe => ?_)
                    rotate_left
                    · exact pe
                    obtain ⟨p363, us364, rfl, r362⟩ := r362
                    have n365 : p97 ≠ p363 := ne_of_none r96.obj r362.new
                    have n366 : p107 ≠ p363 := ne_of_none r106.obj r362.new
                    have n367 : p118 ≠ p363 := ne_of_none r117.obj r362.new
                    have r362 := r362.base g346
                    have h29 := lift h29 st359
                    have h59 := lift h59 st359
                    have h87 := lift h87 st359
                    have r96 := r96.step0 st359
                    have r106 := r106.step0 st359
                    have r117 := r117.step0 st359
                    refine Pv.go (pv_v rfl) ?_
                    refine (rv_nel r362.b r96.b (by decide)) _ ?_
                    refine ⟨_, rfl, ?_⟩
                    refine ite_b (b := (!decide (y355 = y89))) (fun b368 => ?_) (fun b368 => ?_)
                    · have k := k.brT b368
                      refine ret_u ?_
                      refine Pv.go pv_c ?_
                      exact (k.done g360) _ rfl
                    · rw [brF_eq b368] at k
                      refine or_s ?_
                      refine test_u ?_
                      refine op_u ?_
                      refine call_u ?_
                      refine PvA.go (pa_c (pv_v rfl) (pa_c (pv_v rfl) pa_n)) ?_
                      refine ⟨c357, _, y19, _, y19, rfl, g360.wf, (tyL_p h29), (tyL_p h29), ?_⟩
                      refine Kont.call k g360 (fun _ z => by cases z) (fun y369 e370 k c371 H372 st373 g374 v375 r376 => ?_) (fun _ _ _ _ _ _ z => z)
                      obtain ⟨p377, us378, rfl, r376⟩ := r376
                      have n379 : p97 ≠ p377 := ne_of_none r96.obj r376.new
                      have n380 : p107 ≠ p377 := ne_of_none r106.obj r376.new
                      have n381 : p118 ≠ p377 := ne_of_none r117.obj r376.new
                      have r376 := r376.base g360
                      have h29 := lift h29 st373
                      have h59 := lift h59 st373
                      have h87 := lift h87 st373
                      have r96 := r96.step0 st373
                      have r106 := r106.step0 st373
                      have r117 := r117.step0 st373
                      refine lst_u ?_
                      refine PvA.go pa_n ?_
                      refine lst_end (Nat.le_of_ble_eq_true rfl) g374.wf fun p382 c383 H384 st385 cp386 ob387 np388 => ?_
                      have n390 : p97 ≠ p382 := ne_of_none r96.obj np388
                      have n391 : p107 ≠ p382 := ne_of_none r106.obj np388
                      have n392 : p118 ≠ p382 := ne_of_none r117.obj np388
                      have n393 : p377 ≠ p382 := ne_of_none r376.obj np388
                      have w394 := g374.fresh np388
                      have g395 := g374.tr0 st385
                      have h29 := lift h29 st385
                      have h59 := lift h59 st385
                      have h87 := lift h87 st385
                      have r96 := r96.step0 st385
                      have r106 := r106.step0 st385
                      have r117 := r117.step0 st385
                      have r376 := r376.step0 st385
                      have o389 : Own (tyT3 tyS tyI tyI) H0 c383 H384 p382 [] ([] : List (PySem.Str × Int × Int)) := ⟨cp386, ob387, trivial, w394⟩
                      refine (rv_nel r376.b o389.b (by decide)) _ ?_
                      refine ⟨_, rfl, ?_⟩
                      refine ite_b (b := (!decide (y369 = ([] : List (PySem.Str × Int × Int))))) (fun b396 => ?_) (fun b396 => ?_)
                      · have k := k.brT b396
                        refine ret_u ?_
                        refine Pv.go pv_c ?_
                        exact (k.done g395) _ rfl
                      · rw [brF_eq b396] at k
                        refine test_u ?_
                        refine op_u ?_
                        refine call_u ?_
                        refine cons_u ?_
                        refine Pv.go (pv_v rfl) ?_
                        refine cons_u ?_
                        refine lst_u ?_
                        refine PvA.go pa_n ?_
                        refine lst_end (Nat.le_of_ble_eq_true rfl) g395.wf fun p397 c398 H399 st400 cp401 ob402 np403 => ?_
                        have n405 : p97 ≠ p397 := ne_of_none r96.obj np403
                        have n406 : p107 ≠ p397 := ne_of_none r106.obj np403
                        have n407 : p118 ≠ p397 := ne_of_none r117.obj np403
                        have w408 := g395.fresh np403
                        have g409 := g395.tr0 st400
                        have h29 := lift h29 st400
                        have h59 := lift h59 st400
                        have h87 := lift h87 st400
                        have r96 := r96.step0 st400
                        have r106 := r106.step0 st400
                        have r117 := r117.step0 st400
                        have o404 : Own (tyT3 tyS tyI tyI) H0 c398 H399 p397 [] ([] : List (PySem.Str × Int × Int)) := ⟨cp401, ob402, trivial, w408⟩
                        refine nil_u ?_
                        refine ⟨c398, _, y19, _, ([] : List (PySem.Str × Int × Int)), rfl, g409.wf, (tyL_p h29), o404.pl, ?_⟩
                        refine Kont.call k g409 (fun _ z => by cases z) (fun y410 e411 k c412 H413 st414 g415 v416 r417 => ?_) (fun e e411 c412 H413 st414 g415 pe => ?_)
                        rotate_left
                        · exact pe
                        obtain ⟨p418, us419, rfl, r417⟩ := r417
                        have n420 : p97 ≠ p418 := ne_of_none r96.obj r417.new
                        have n421 : p107 ≠ p418 := ne_of_none r106.obj r417.new
                        have n422 : p118 ≠ p418 := ne_of_none r117.obj r417.new
                        have r417 := r417.base g409
                        have h29 := lift h29 st414
                        have h59 := lift h59 st414
                        have h87 := lift h87 st414
                        have r96 := r96.step0 st414
                        have r106 := r106.step0 st414
                        have r117 := r117.step0 st414
                        refine Pv.go (pv_v rfl) ?_
                        refine (rv_nel r417.b (tyL_b h29) (by decide)) _ ?_
                        refine ⟨_, rfl, ?_⟩
                        refine ite_b (b := (!decide (y410 = y19))) (fun b423 => ?_) (fun b423 => ?_)
                        · have k := k.brT b423
                          refine ret_u ?_
                          refine Pv.go pv_c ?_
                          exact (k.done g415) _ rfl
                        · rw [brF_eq b423] at k
                          refine next_u ?_
                          refine nx_go ?_
                          refine seq_u ?_
                          refine for_u ?_
                          refine itup_u ?_
                          refine tup_u ?_
                          refine cons_u ?_
                          refine call_u ?_
                          refine cons_u ?_
                          refine Pv.go (pv_v rfl) ?_
                          refine cons_u ?_
                          refine lst_u ?_
                          refine PvA.go pa_n ?_
                          refine lst_end (Nat.le_of_ble_eq_true rfl) g415.wf fun p424 c425 H426 st427 cp428 ob429 np430 => ?_
                          have n432 : p97 ≠ p424 := ne_of_none r96.obj np430
                          have n433 : p107 ≠ p424 := ne_of_none r106.obj np430
                          have n434 : p118 ≠ p424 := ne_of_none r117.obj np430
                          have w435 := g415.fresh np430
                          have g436 := g415.tr0 st427
                          have h29 := lift h29 st427
                          have h59 := lift h59 st427
                          have h87 := lift h87 st427
                          have r96 := r96.step0 st427
                          have r106 := r106.step0 st427
                          have r117 := r117.step0 st427
                          have o431 : Own (tyT3 tyS tyI tyI) H0 c425 H426 p424 [] ([] : List (PySem.Str × Int × Int)) := ⟨cp428, ob429, trivial, w435⟩
                          refine nil_u ?_
                          refine ⟨c425, _, y19, _, ([] : List (PySem.Str × Int × Int)), rfl, g436.wf, (tyL_p h29), o431.pl, ?_⟩
                          refine Kont.call k g436 (fun _ z => by cases z) (fun y437 e438 k c439 H440 st441 g442 v443 r444 => ?_) (fun e e438 c439 H440 st441 g442 pe => ?_)
                          rotate_left
                          · exact pe
                          obtain ⟨p445, us446, rfl, r444⟩ := r444
                          have n447 : p97 ≠ p445 := ne_of_none r96.obj r444.new
                          have n448 : p107 ≠ p445 := ne_of_none r106.obj r444.new
                          have n449 : p118 ≠ p445 := ne_of_none r117.obj r444.new
                          have r444 := r444.base g436
                          have h29 := lift h29 st441
                          have h59 := lift h59 st441
                          have h87 := lift h87 st441
                          have r96 := r96.step0 st441
                          have r106 := r106.step0 st441
                          have r117 := r117.step0 st441
                          refine cons_u ?_
                          refine call_u ?_
                          refine cons_u ?_
                          refine lst_u ?_
                          refine PvA.go pa_n ?_
                          refine lst_end (Nat.le_of_ble_eq_true rfl) g442.wf fun p450 c451 H452 st453 cp454 ob455 np456 => ?_
                          have n458 : p97 ≠ p450 := ne_of_none r96.obj np456
                          have n459 : p107 ≠ p450 := ne_of_none r106.obj np456
                          have n460 : p118 ≠ p450 := ne_of_none r117.obj np456
                          have n461 : p445 ≠ p450 := ne_of_none r444.obj np456
                          have w462 := g442.fresh np456
                          have g463 := g442.tr0 st453
                          have h29 := lift h29 st453
                          have h59 := lift h59 st453
                          have h87 := lift h87 st453
                          have r96 := r96.step0 st453
                          have r106 := r106.step0 st453
                          have r117 := r117.step0 st453
                          have r444 := r444.step0 st453
                          have o457 : Own (tyT3 tyS tyI tyI) H0 c451 H452 p450 [] ([] : List (PySem.Str × Int × Int)) := ⟨cp454, ob455, trivial, w462⟩
                          refine cons_u ?_
                          refine Pv.go (pv_v rfl) ?_
                          refine nil_u ?_
                          refine ⟨c451, _, ([] : List (PySem.Str × Int × Int)), _, y49, rfl, g463.wf, o457.pl, (tyL_p h59), ?_⟩
                          refine Kont.call k g463 (fun _ z => by cases z) (fun y464 e465 k c466 H467 st468 g469 v470 r471 => ?_) (fun e e465 c466 H467 st468 g469 pe => ?_)
                          rotate_left
                          · exact pe
                          obtain ⟨p472, us473, rfl, r471⟩ := r471
                          have n474 : p97 ≠ p472 := ne_of_none r96.obj r471.new
                          have n475 : p107 ≠ p472 := ne_of_none r106.obj r471.new
                          have n476 : p118 ≠ p472 := ne_of_none r117.obj r471.new
                          have n477 : p445 ≠ p472 := ne_of_none r444.obj r471.new
                          have r471 := r471.base g463
                          have h29 := lift h29 st468
                          have h59 := lift h59 st468
                          have h87 := lift h87 st468
                          have r96 := r96.step0 st468
                          have r106 := r106.step0 st468
                          have r117 := r117.step0 st468
                          have r444 := r444.step0 st468
                          refine cons_u ?_
                          refine call_u ?_
                          refine PvA.go (pa_c (pv_v rfl) (pa_c (pv_v rfl) pa_n)) ?_
                          refine ⟨c466, _, y19, _, y19, rfl, g469.wf, (tyL_p h29), (tyL_p h29), ?_⟩
                          refine Kont.call k g469 (fun _ z => by cases z) (fun y478 e479 k c480 H481 st482 g483 v484 r485 => ?_) (fun e e479 c480 H481 st482 g483 pe => ?_)
                          rotate_left
                          · exact pe
                          obtain ⟨p486, us487, rfl, r485⟩ := r485
                          have n488 : p97 ≠ p486 := ne_of_none r96.obj r485.new
                          have n489 : p107 ≠ p486 := ne_of_none r106.obj r485.new
                          have n490 : p118 ≠ p486 := ne_of_none r117.obj r485.new
                          have n491 : p445 ≠ p486 := ne_of_none r444.obj r485.new
                          have n492 : p472 ≠ p486 := ne_of_none r471.obj r485.new
                          have r485 := r485.base g469
                          have h29 := lift h29 st482
                          have h59 := lift h59 st482
                          have h87 := lift h87 st482
                          have r96 := r96.step0 st482
                          have r106 := r106.step0 st482
                          have r117 := r117.step0 st482
                          have r444 := r444.step0 st482
                          have r471 := r471.step0 st482
                          refine cons_u ?_
                          refine call_u ?_
                          refine PvA.go (pa_c (pv_v rfl) (pa_c (pv_v rfl) pa_n)) ?_
                          refine ⟨c480, _, y19, _, y19, rfl, g483.wf, (tyL_p h29), (tyL_p h29), ?_⟩
                          refine Kont.call k g483 (fun _ z => by cases z) (fun y493 e494 k c495 H496 st497 g498 v499 r500 => ?_) (fun _ _ _ _ _ _ z => z)
                          obtain ⟨p501, us502, rfl, r500⟩ := r500
                          have n503 : p97 ≠ p501 := ne_of_none r96.obj r500.new
                          have n504 : p107 ≠ p501 := ne_of_none r106.obj r500.new
                          have n505 : p118 ≠ p501 := ne_of_none r117.obj r500.new
                          have n506 : p445 ≠ p501 := ne_of_none r444.obj r500.new
                          have n507 : p472 ≠ p501 := ne_of_none r471.obj r500.new
                          have n508 : p486 ≠ p501 := ne_of_none r485.obj r500.new
                          have r500 := r500.base g483
                          have h29 := lift h29 st497
                          have h59 := lift h59 st497
                          have h87 := lift h87 st497
                          have r96 := r96.step0 st497
                          have r106 := r106.step0 st497
                          have r117 := r117.step0 st497
                          have r444 := r444.step0 st497
                          have r471 := r471.step0 st497
                          have r485 := r485.step0 st497
                          refine cons_u ?_
                          refine call_u ?_
                          refine cons_u ?_
                          refine Pv.go (pv_v rfl) ?_
                          refine cons_u ?_
                          refine lst_u ?_
                          refine PvA.go pa_n ?_
                          refine lst_end (Nat.le_of_ble_eq_true rfl) g498.wf fun p509 c510 H511 st512 cp513 ob514 np515 => ?_
                          have n517 : p97 ≠ p509 := ne_of_none r96.obj np515
                          have n518 : p107 ≠ p509 := ne_of_none r106.obj np515
                          have n519 : p118 ≠ p509 := ne_of_none r117.obj np515
                          have n520 : p445 ≠ p509 := ne_of_none r444.obj np515
                          have n521 : p472 ≠ p509 := ne_of_none r471.obj np515
                          have n522 : p486 ≠ p509 := ne_of_none r485.obj np515
                          have n523 : p501 ≠ p509 := ne_of_none r500.obj np515
                          have w524 := g498.fresh np515
                          have g525 := g498.tr0 st512
                          have h29 := lift h29 st512
                          have h59 := lift h59 st512
                          have h87 := lift h87 st512
                          have r96 := r96.step0 st512
                          have r106 := r106.step0 st512
                          have r117 := r117.step0 st512
                          have r444 := r444.step0 st512
                          have r471 := r471.step0 st512
                          have r485 := r485.step0 st512
                          have r500 := r500.step0 st512
                          have o516 : Own (tyT3 tyS tyI tyI) H0 c510 H511 p509 [] ([] : List (PySem.Str × Int × Int)) := ⟨cp513, ob514, trivial, w524⟩
                          refine nil_u ?_
                          refine ⟨c510, _, y19, _, ([] : List (PySem.Str × Int × Int)), rfl, g525.wf, (tyL_p h29), o516.pl, ?_⟩
                          refine Kont.call k g525 (fun _ z => by cases z) (fun y526 e527 k c528 H529 st530 g531 v532 r533 => ?_) (fun _ _ _ _ _ _ z => z)
                          obtain ⟨p534, us535, rfl, r533⟩ := r533
                          have n536 : p97 ≠ p534 := ne_of_none r96.obj r533.new
                          have n537 : p107 ≠ p534 := ne_of_none r106.obj r533.new
                          have n538 : p118 ≠ p534 := ne_of_none r117.obj r533.new
                          have n539 : p445 ≠ p534 := ne_of_none r444.obj r533.new
                          have n540 : p472 ≠ p534 := ne_of_none r471.obj r533.new
                          have n541 : p486 ≠ p534 := ne_of_none r485.obj r533.new
                          have n542 : p501 ≠ p534 := ne_of_none r500.obj r533.new
                          have r533 := r533.base g525
                          have h29 := lift h29 st530
                          have h59 := lift h59 st530
                          have h87 := lift h87 st530
                          have r96 := r96.step0 st530
                          have r106 := r106.step0 st530
                          have r117 := r117.step0 st530
                          have r444 := r444.step0 st530
                          have r471 := r471.step0 st530
                          have r485 := r485.step0 st530
                          have r500 := r500.step0 st530
                          refine cons_u ?_
                          refine Pv.go (pv_v rfl) ?_
                          refine cons_u ?_
                          refine Pv.go (pv_v rfl) ?_
                          refine cons_u ?_
                          refine Pv.go (pv_v rfl) ?_
                          refine nil_u ?_
                          refine tup_end (Nat.le_of_ble_eq_true rfl) g531.wf fun p543 c544 H545 st546 cp547 rd548 np549 => ?_
                          have n550 : p97 ≠ p543 := ne_of_none r96.obj np549
                          have n551 : p107 ≠ p543 := ne_of_none r106.obj np549
                          have n552 : p118 ≠ p543 := ne_of_none r117.obj np549
                          have n553 : p445 ≠ p543 := ne_of_none r444.obj np549
                          have n554 : p472 ≠ p543 := ne_of_none r471.obj np549
                          have n555 : p486 ≠ p543 := ne_of_none r485.obj np549
                          have n556 : p501 ≠ p543 := ne_of_none r500.obj np549
                          have n557 : p534 ≠ p543 := ne_of_none r533.obj np549
                          have g558 := g531.tr0 st546
                          have h29 := lift h29 st546
                          have h59 := lift h59 st546
                          have h87 := lift h87 st546
                          have r96 := r96.step0 st546
                          have r106 := r106.step0 st546
                          have r117 := r117.step0 st546
                          have r444 := r444.step0 st546
                          have r471 := r471.step0 st546
                          have r485 := r485.step0 st546
                          have r500 := r500.step0 st546
                          have r533 := r533.step0 st546
                          have h559 : Fzt c544 H545 p543 [V.ref p445, V.ref p472, V.ref p486, V.ref p501, V.ref p534, V.ref p97, V.ref p107, V.ref p118] := ⟨cp547, rd548⟩
                          have o560 : OwnL (tyT3 tyS tyI tyI) H0 c544 H545 [p445, p472, p486, p501, p534, p97, p107, p118] [y437, y464, y478, y493, y526, y89, y99, y110] := ⟨⟨_, r444⟩, ⟨⟨_, r471⟩, ⟨⟨_, r485⟩, ⟨⟨_, r500⟩, ⟨⟨_, r533⟩, ⟨⟨_, r96⟩, ⟨⟨_, r106⟩, ⟨⟨_, r117⟩, trivial⟩⟩⟩⟩⟩⟩⟩⟩
                          have nd561 : List.Nodup [p445, p472, p486, p501, p534, p97, p107, p118] := by
                            have := n477
                            have := n491
                            have := n506
                            have := n539
                            have := (Ne.symm n447)
                            have := (Ne.symm n448)
                            have := (Ne.symm n449)
                            have := n492
                            have := n507
                            have := n540
                            have := (Ne.symm n474)
                            have := (Ne.symm n475)
                            have := (Ne.symm n476)
                            have := n508
                            have := n541
                            have := (Ne.symm n488)
                            have := (Ne.symm n489)
                            have := (Ne.symm n490)
                            have := n542
                            have := (Ne.symm n503)
                            have := (Ne.symm n504)
                            have := (Ne.symm n505)
                            have := (Ne.symm n536)
                            have := (Ne.symm n537)
                            have := (Ne.symm n538)
                            have := n109
                            have := n120
                            have := n121
                            simp only [List.nodup_cons, List.mem_cons, List.not_mem_nil, or_false, not_or, not_false_eq_true, List.nodup_nil, and_true]
                            repeat' (first | assumption | constructor)
                          refine itup_e' ⟨_, .inl h559.rd⟩ ?_
                          refine for_own (A := (tyT3 tyS tyI tyI)) (ps := [p445, p472, p486, p501, p534, p97, p107, p118]) (xs := [y437, y464, y478, y493, y526, y89, y99, y110]) k (fun (s562 : Unit) (c : Cl) (H : Hp) (σ : L2.St) => ∃ (y563 : Option V), σ = [some w0, some (V.ref p27), some (V.ref p57), some (V.ref p80), some (V.ref p97), some (V.ref p107), some (V.ref p118), y220, y221, y222, y223, y563] ∧ Step [] c0 H0 c H ∧ (tyL (tyT3 tyS tyI tyI)).r c H (V.ref p27) y19 ∧ (tyL (tyT3 tyS tyI tyI)).r c H (V.ref p57) y49 ∧ (tyT2 (tyL (tyT3 tyS tyI tyI)) (tyL (tyT3 tyS tyI tyI))).r c H (V.ref p80) (y19, y49) ∧ Fzt c H p543 [V.ref p445, V.ref p472, V.ref p486, V.ref p501, V.ref p534, V.ref p97, V.ref p107, V.ref p118]) ⟨_, rfl, g558, h29, h59, h87, h559⟩ o560 nd561 ?_ ?_ ?_
                          · intro c564 H565 σ i
                            obtain ⟨y563, rfl, g566, h29, h59, h87, h559⟩ := i
                            exact ⟨h559.rd, g566⟩
                          · intro p570 us571 x572 c567 H568 σ N i o573 k
                            obtain ⟨y563, rfl, g569, h29, h59, h87, h559⟩ := i
                            have gb : Step [p570] c567 H568 c567 H568 := Step.refl g569.wf
                            refine gname_u ?_
                            refine seq_u ?_
                            refine drop_u ?_
                            refine bm_u ?_
                            refine Pv.go (pv_v rfl) ?_
                            refine ⟨ty_list (.inl o573.obj), ?_⟩
                            refine cons_u ?_
                            refine tup_u ?_
                            refine PvA.go (pa_c pv_c (pa_c pv_c (pa_c pv_c pa_n))) ?_
                            refine tup_end (Nat.le_of_ble_eq_true rfl) gb.wf fun p574 c575 H576 st577 cp578 rd579 np580 => ?_
                            have n582 : p570 ≠ p574 := ne_of_none o573.obj np580
                            have g583 := gb.tr0 st577
                            have h29 := lift h29 st577
                            have h59 := lift h59 st577
                            have h87 := lift h87 st577
                            have h559 := h559.lift st577
                            have o573 := o573.step0 st577
                            have h581 : (tyT3 tyS tyI tyI).r c575 H576 (V.ref p574) (("zz" : PySem.Str), (0 : Int), (1 : Int)) := ⟨p574, _, _, _, rfl, cp578, rd579, ⟨rfl, (show PyData.strOk ("zz" : PySem.Str) = true by decide +kernel)⟩, rfl, rfl⟩
                            refine nil_u ?_
                            obtain ⟨e584, k⟩ := k.chk
                            refine append_end o573 g583.wf h581 (of_decide_eq_true e584) fun H585 st586 o587 => ?_
                            have g588 := g583.tr1 st586 (.inl List.mem_cons_self)
                            have h29 := lift h29 st586
                            have h59 := lift h59 st586
                            have h87 := lift h87 st586
                            have h559 := h559.lift st586
                            refine nx_go ?_
                            refine drop_u ?_
                            refine bm0_u ?_
                            refine Pv.go (pv_v rfl) ?_
                            refine ⟨ty_list (.inl o587.obj), ?_⟩
                            refine reverse_end o587 g588.wf fun H589 st590 o591 => ?_
                            have g592 := g588.tr1 st590 (.inl List.mem_cons_self)
                            have h29 := lift h29 st590
                            have h59 := lift h59 st590
                            have h87 := lift h87 st590
                            have h559 := h559.lift st590
                            refine nx_go ?_
                            have go := g569.tr1 g592 (.inr o591.new)
                            exact k.done g592 g592 _ ⟨_, rfl, go, h29, h59, h87, h559⟩
                          · intro c593 H594 σ i k
                            obtain ⟨y563, rfl, g595, h29, h59, h87, h559⟩ := i
                            refine nx_go ?_
                            refine ret_u ?_
                            refine op_u ?_
                            refine tup_u ?_
                            refine PvA.go (pa_c (pv_v rfl) (pa_c (pv_v rfl) pa_n)) ?_
                            refine tup_end (Nat.le_of_ble_eq_true rfl) g595.wf fun p596 c597 H598 st599 cp600 rd601 np602 => ?_
                            have g604 := g595.tr0 st599
                            have h29 := lift h29 st599
                            have h59 := lift h59 st599
                            have h87 := lift h87 st599
                            have h603 : (tyT2 (tyL (tyT3 tyS tyI tyI)) (tyL (tyT3 tyS tyI tyI))).r c597 H598 (V.ref p596) (y19, y49) := ⟨p596, _, _, rfl, cp600, rd601, h29, h59⟩
                            refine Pv.go (pv_v rfl) ?_
                            refine (rv_eqd h603 h87 (by decide)) _ ?_
                            exact (k.done g604) _ rfl
          · rw [brF_eq b161] at k
            refine ret_u ?_
            refine Pv.go pv_c ?_
            exact (k.done g158) _ rfl
        · rw [brF_eq b152] at k
          refine ret_u ?_
          refine Pv.go pv_c ?_
          exact (k.done g149) _ rfl
      · rw [brF_eq b143] at k
        refine ret_u ?_
        refine Pv.go pv_c ?_
        exact (k.done g140) _ rfl
theorem all_ok {P : Program} {w : World} {K : PySem.W.Frag} {mg : Str → Option Value} {base : Heap} {a : Ad} (T : Txt K mg a) : FnOk P w K mg base CX0 4 a.law a.law_fd ["_law_script"] (sp_law K a.ea) := by
  have G_check_row := ok_check_row (P := P) (w := w) (base := base) T
  have G_normal := ok_normal (P := P) (w := w) (base := base) T G_check_row
  have G_union := ok_union (P := P) (w := w) (base := base) T G_normal
  have G_common := ok_common (P := P) (w := w) (base := base) T
  have G_without := ok_without (P := P) (w := w) (base := base) T
  have G_size := ok_size (P := P) (w := w) (base := base) T
  have G_law_cell := ok_law_cell (P := P) (w := w) (base := base) T
  have G_law_pieces := ok_law_pieces (P := P) (w := w) (base := base) T
  have G_law_rows := ok_law_rows (P := P) (w := w) (base := base) T G_law_cell G_law_pieces
  have G_law_has := ok_law_has (P := P) (w := w) (base := base) T
  have G_law_samples := ok_law_samples (P := P) (w := w) (base := base) T
  have G_law_is_ground := ok_law_is_ground (P := P) (w := w) (base := base) T
  have G_law := ok_law (P := P) (w := w) (base := base) T G_law_cell G_law_has G_law_is_ground G_law_rows G_law_samples G_common G_normal G_size G_union G_without
  exact G_law
theorem all_mk {P : Program} {w : World} {K : PySem.W.Frag} {h : Heap} {mg : Str → Option Value} {fa : Addr} (X : K.In h) (G : h.Ns mainGlobals mg) (hfa : mg "law" = some (.ref fa))
    {f0 : Addr} {od0 an0 : Option Addr} {sl0 : Array (Option Value)} {oc0 kV0 dc0 pm0 cd0 ct0 : Value}
    {f1 : Addr} {od1 an1 : Option Addr} {sl1 : Array (Option Value)} {oc1 kV1 dc1 pm1 cd1 ct1 : Value}
    {f2 : Addr} {od2 an2 : Option Addr} {sl2 : Array (Option Value)} {oc2 kV2 dc2 pm2 cd2 ct2 : Value}
    {f3 : Addr} {od3 an3 : Option Addr} {sl3 : Array (Option Value)} {oc3 kV3 dc3 pm3 cd3 ct3 : Value}
    {f4 : Addr} {od4 an4 : Option Addr} {sl4 : Array (Option Value)} {oc4 kV4 dc4 pm4 cd4 ct4 : Value}
    {f5 : Addr} {od5 an5 : Option Addr} {sl5 : Array (Option Value)} {oc5 kV5 dc5 pm5 cd5 ct5 : Value}
    {f6 : Addr} {od6 an6 : Option Addr} {sl6 : Array (Option Value)} {oc6 kV6 dc6 pm6 cd6 ct6 : Value}
    {f7 : Addr} {od7 an7 : Option Addr} {sl7 : Array (Option Value)} {oc7 kV7 dc7 pm7 cd7 ct7 : Value}
    {f8 : Addr} {od8 an8 : Option Addr} {sl8 : Array (Option Value)} {oc8 kV8 dc8 pm8 cd8 ct8 : Value}
    {f9 : Addr} {od9 an9 : Option Addr} {sl9 : Array (Option Value)} {oc9 kV9 dc9 pm9 cd9 ct9 : Value}
    {f10 : Addr} {od10 an10 : Option Addr} {sl10 : Array (Option Value)} {oc10 kV10 dc10 pm10 cd10 ct10 : Value}
    {f11 : Addr} {od11 an11 : Option Addr} {sl11 : Array (Option Value)} {oc11 kV11 dc11 pm11 cd11 ct11 : Value}
    {f12 : Addr} {od12 an12 : Option Addr} {sl12 : Array (Option Value)} {oc12 kV12 dc12 pm12 cd12 ct12 : Value}
    {Cground Ckerb : Addr}
    (a0 : PySem.W.nsIn K mainGlobals "check_row" = some (some (.ref f0)))
    (l0 : K.lookup f0 = some ⟨oc0, od0, .func (PySem.W.fnOf "check_row" "check_row" (defArgs s_check_row) (defBody s_check_row) (defScope s_check_row) .none kV0 dc0 pm0 an0 cd0 ct0), sl0⟩)
    (c0 : PySem.W.codeIn K cd0 "check_row" = true)
    (k0 : PySem.W.keepIn K (.ref f0) = true)
    (a1 : PySem.W.nsIn K mainGlobals "normal" = some (some (.ref f1)))
    (l1 : K.lookup f1 = some ⟨oc1, od1, .func (PySem.W.fnOf "normal" "normal" (defArgs s_normal) (defBody s_normal) (defScope s_normal) .none kV1 dc1 pm1 an1 cd1 ct1), sl1⟩)
    (c1 : PySem.W.codeIn K cd1 "normal" = true)
    (k1 : PySem.W.keepIn K (.ref f1) = true)
    (a2 : PySem.W.nsIn K mainGlobals "union" = some (some (.ref f2)))
    (l2 : K.lookup f2 = some ⟨oc2, od2, .func (PySem.W.fnOf "union" "union" (defArgs s_union) (defBody s_union) (defScope s_union) .none kV2 dc2 pm2 an2 cd2 ct2), sl2⟩)
    (c2 : PySem.W.codeIn K cd2 "union" = true)
    (k2 : PySem.W.keepIn K (.ref f2) = true)
    (a3 : PySem.W.nsIn K mainGlobals "common" = some (some (.ref f3)))
    (l3 : K.lookup f3 = some ⟨oc3, od3, .func (PySem.W.fnOf "common" "common" (defArgs s_common) (defBody s_common) (defScope s_common) .none kV3 dc3 pm3 an3 cd3 ct3), sl3⟩)
    (c3 : PySem.W.codeIn K cd3 "common" = true)
    (k3 : PySem.W.keepIn K (.ref f3) = true)
    (a4 : PySem.W.nsIn K mainGlobals "without" = some (some (.ref f4)))
    (l4 : K.lookup f4 = some ⟨oc4, od4, .func (PySem.W.fnOf "without" "without" (defArgs s_without) (defBody s_without) (defScope s_without) .none kV4 dc4 pm4 an4 cd4 ct4), sl4⟩)
    (c4 : PySem.W.codeIn K cd4 "without" = true)
    (k4 : PySem.W.keepIn K (.ref f4) = true)
    (a5 : PySem.W.nsIn K mainGlobals "size" = some (some (.ref f5)))
    (l5 : K.lookup f5 = some ⟨oc5, od5, .func (PySem.W.fnOf "size" "size" (defArgs s_size) (defBody s_size) (defScope s_size) .none kV5 dc5 pm5 an5 cd5 ct5), sl5⟩)
    (c5 : PySem.W.codeIn K cd5 "size" = true)
    (k5 : PySem.W.keepIn K (.ref f5) = true)
    (a6 : PySem.W.nsIn K mainGlobals "_law_cell" = some (some (.ref f6)))
    (l6 : K.lookup f6 = some ⟨oc6, od6, .func (PySem.W.fnOf "_law_cell" "_law_cell" (defArgs s_law_cell) (defBody s_law_cell) (defScope s_law_cell) .none kV6 dc6 pm6 an6 cd6 ct6), sl6⟩)
    (c6 : PySem.W.codeIn K cd6 "_law_cell" = true)
    (k6 : PySem.W.keepIn K (.ref f6) = true)
    (a7 : PySem.W.nsIn K mainGlobals "_law_pieces" = some (some (.ref f7)))
    (l7 : K.lookup f7 = some ⟨oc7, od7, .func (PySem.W.fnOf "_law_pieces" "_law_pieces" (defArgs s_law_pieces) (defBody s_law_pieces) (defScope s_law_pieces) .none kV7 dc7 pm7 an7 cd7 ct7), sl7⟩)
    (c7 : PySem.W.codeIn K cd7 "_law_pieces" = true)
    (k7 : PySem.W.keepIn K (.ref f7) = true)
    (a8 : PySem.W.nsIn K mainGlobals "_law_rows" = some (some (.ref f8)))
    (l8 : K.lookup f8 = some ⟨oc8, od8, .func (PySem.W.fnOf "_law_rows" "_law_rows" (defArgs s_law_rows) (defBody s_law_rows) (defScope s_law_rows) .none kV8 dc8 pm8 an8 cd8 ct8), sl8⟩)
    (c8 : PySem.W.codeIn K cd8 "_law_rows" = true)
    (k8 : PySem.W.keepIn K (.ref f8) = true)
    (a9 : PySem.W.nsIn K mainGlobals "_law_has" = some (some (.ref f9)))
    (l9 : K.lookup f9 = some ⟨oc9, od9, .func (PySem.W.fnOf "_law_has" "_law_has" (defArgs s_law_has) (defBody s_law_has) (defScope s_law_has) .none kV9 dc9 pm9 an9 cd9 ct9), sl9⟩)
    (c9 : PySem.W.codeIn K cd9 "_law_has" = true)
    (k9 : PySem.W.keepIn K (.ref f9) = true)
    (a10 : PySem.W.nsIn K mainGlobals "_law_samples" = some (some (.ref f10)))
    (l10 : K.lookup f10 = some ⟨oc10, od10, .func (PySem.W.fnOf "_law_samples" "_law_samples" (defArgs s_law_samples) (defBody s_law_samples) (defScope s_law_samples) .none kV10 dc10 pm10 an10 cd10 ct10), sl10⟩)
    (c10 : PySem.W.codeIn K cd10 "_law_samples" = true)
    (k10 : PySem.W.keepIn K (.ref f10) = true)
    (a11 : PySem.W.nsIn K mainGlobals "_law_is_ground" = some (some (.ref f11)))
    (l11 : K.lookup f11 = some ⟨oc11, od11, .func (PySem.W.fnOf "_law_is_ground" "_law_is_ground" (defArgs s_law_is_ground) (defBody s_law_is_ground) (defScope s_law_is_ground) .none kV11 dc11 pm11 an11 cd11 ct11), sl11⟩)
    (c11 : PySem.W.codeIn K cd11 "_law_is_ground" = true)
    (k11 : PySem.W.keepIn K (.ref f11) = true)
    (a12 : PySem.W.nsIn K mainGlobals "law" = some (some (.ref f12)))
    (l12 : K.lookup f12 = some ⟨oc12, od12, .func (PySem.W.fnOf "law" "law" (defArgs s_law) (defBody s_law) (defScope s_law) .none kV12 dc12 pm12 an12 cd12 ct12), sl12⟩)
    (c12 : PySem.W.codeIn K cd12 "law" = true)
    (k12 : PySem.W.keepIn K (.ref f12) = true)
    (aC_ground : PySem.W.nsIn K mainGlobals "InvalidGround" = some (some (.ref Cground)))
    (ex_ground : PySem.W.excIn K Cground [.type "ValueError", .type "Exception", .type "BaseException", .type "object"] "ValueError.__new__" = true)
    (kp_ground : PySem.W.keepIn K (.ref Cground) = true)
    (hg_ground : PySem.W.findIn K (.ref Cground) "__getattribute__" = some (some (.builtin "BaseException.__getattribute__")))
    (hk_ground : PySem.W.findIn K (.ref Cground) "__getattr__" = some none)
    (hac_ground : PySem.W.findIn K (.ref Cground) "__class__" = some (some (.builtin "object.__class__")))
    (hm_ground : PySem.W.mroIn K Cground (.type "object") = some true)
    (sb_ground : PySem.W.subIn K (.ref Cground) (.type "BaseException") = some true)
    (ty_ground : PySem.W.typeIn K (.ref Cground) = some (.type "type"))
    (hd_ground : PySem.W.hasDictIn K Cground = true)
    (ic_ground : PySem.W.isClsIn K Cground = true)
    (sv_ground : PySem.W.subIn K (.ref Cground) (.type "ValueError") = some true)
    (aC_kerb : PySem.W.nsIn K mainGlobals "KerbError" = some (some (.ref Ckerb)))
    (sb_kerb : PySem.W.subIn K (.ref Ckerb) (.type "BaseException") = some true)
    (ty_kerb : PySem.W.typeIn K (.ref Ckerb) = some (.type "type"))
    (hd_kerb : PySem.W.hasDictIn K Ckerb = true)
    (ic_kerb : PySem.W.isClsIn K Ckerb = true)
    (sv_kerb : PySem.W.subIn K (.ref Ckerb) (.type "ValueError") = some true)
    (hn : PySem.W.specialIn K (.builtin "object.__class__") "__get__" = some (some (.builtin "getset_descriptor.__get__")))
    (htk : PySem.W.takesIn K (.builtin "object.__class__") = some true)
    (su_ground_ground : PySem.W.subIn K (.ref Cground) (.ref Cground) = some true)
    (su_ground_kerb : PySem.W.subIn K (.ref Cground) (.ref Ckerb) = some true)
    (su_kerb_ground : PySem.W.subIn K (.ref Ckerb) (.ref Cground) = some false)
    (su_kerb_kerb : PySem.W.subIn K (.ref Ckerb) (.ref Ckerb) = some true)
    (z_bool : PySem.W.nsIn K mainGlobals "bool" = some none)
    (z_int : PySem.W.nsIn K mainGlobals "int" = some none)
    (z_isinstance : PySem.W.nsIn K mainGlobals "isinstance" = some none)
    (z_len : PySem.W.nsIn K mainGlobals "len" = some none)
    (z_list : PySem.W.nsIn K mainGlobals "list" = some none)
    (z_max : PySem.W.nsIn K mainGlobals "max" = some none)
    (z_min : PySem.W.nsIn K mainGlobals "min" = some none)
    (z_range : PySem.W.nsIn K mainGlobals "range" = some none)
    (z_sorted : PySem.W.nsIn K mainGlobals "sorted" = some none)
    (z_sum : PySem.W.nsIn K mainGlobals "sum" = some none)
    (z_tuple : PySem.W.nsIn K mainGlobals "tuple" = some none) :
    ∃ fd : FuncData, (∀ (s : Shared) (v : Value), BindsTo s fd ⟨[v], []⟩ [("_law_script", v)]) ∧ ∀ base : Heap, K.In base → base.Ns mainGlobals mg → FnOk P w K mg base CX0 4 fa fd ["_law_script"] (sp_law K (fun _ => 0)) := by
  have e := hfa.symm.trans (PySem.W.mg_of X G a12)
  cases e
  have T : Txt K mg ⟨(fun e => match e with | .ground => Cground | _ => 0), Ckerb, f0, (PySem.W.fnOf "check_row" "check_row" (defArgs s_check_row) (defBody s_check_row) (defScope s_check_row) .none kV0 dc0 pm0 an0 cd0 ct0), f1, (PySem.W.fnOf "normal" "normal" (defArgs s_normal) (defBody s_normal) (defScope s_normal) .none kV1 dc1 pm1 an1 cd1 ct1), f2, (PySem.W.fnOf "union" "union" (defArgs s_union) (defBody s_union) (defScope s_union) .none kV2 dc2 pm2 an2 cd2 ct2), f3, (PySem.W.fnOf "common" "common" (defArgs s_common) (defBody s_common) (defScope s_common) .none kV3 dc3 pm3 an3 cd3 ct3), f4, (PySem.W.fnOf "without" "without" (defArgs s_without) (defBody s_without) (defScope s_without) .none kV4 dc4 pm4 an4 cd4 ct4), f5, (PySem.W.fnOf "size" "size" (defArgs s_size) (defBody s_size) (defScope s_size) .none kV5 dc5 pm5 an5 cd5 ct5), f6, (PySem.W.fnOf "_law_cell" "_law_cell" (defArgs s_law_cell) (defBody s_law_cell) (defScope s_law_cell) .none kV6 dc6 pm6 an6 cd6 ct6), f7, (PySem.W.fnOf "_law_pieces" "_law_pieces" (defArgs s_law_pieces) (defBody s_law_pieces) (defScope s_law_pieces) .none kV7 dc7 pm7 an7 cd7 ct7), f8, (PySem.W.fnOf "_law_rows" "_law_rows" (defArgs s_law_rows) (defBody s_law_rows) (defScope s_law_rows) .none kV8 dc8 pm8 an8 cd8 ct8), f9, (PySem.W.fnOf "_law_has" "_law_has" (defArgs s_law_has) (defBody s_law_has) (defScope s_law_has) .none kV9 dc9 pm9 an9 cd9 ct9), f10, (PySem.W.fnOf "_law_samples" "_law_samples" (defArgs s_law_samples) (defBody s_law_samples) (defScope s_law_samples) .none kV10 dc10 pm10 an10 cd10 ct10), f11, (PySem.W.fnOf "_law_is_ground" "_law_is_ground" (defArgs s_law_is_ground) (defBody s_law_is_ground) (defScope s_law_is_ground) .none kV11 dc11 pm11 an11 cd11 ct11), fa, (PySem.W.fnOf "law" "law" (defArgs s_law) (defBody s_law) (defScope s_law) .none kV12 dc12 pm12 an12 cd12 ct12)⟩ :=
    { check_row := df_mk X G a0 l0 c0 k0 (fun _ _ _ _ _ _ us hl => match us, hl with | [_], _ => rfl),
      normal := df_mk X G a1 l1 c1 k1 (fun _ _ _ _ _ _ us hl => match us, hl with | [_], _ => rfl),
      union := df_mk X G a2 l2 c2 k2 (fun _ _ _ _ _ _ us hl => match us, hl with | [_, _], _ => rfl),
      common := df_mk X G a3 l3 c3 k3 (fun _ _ _ _ _ _ us hl => match us, hl with | [_, _], _ => rfl),
      without := df_mk X G a4 l4 c4 k4 (fun _ _ _ _ _ _ us hl => match us, hl with | [_, _], _ => rfl),
      size := df_mk X G a5 l5 c5 k5 (fun _ _ _ _ _ _ us hl => match us, hl with | [_], _ => rfl),
      law_cell := df_mk X G a6 l6 c6 k6 (fun _ _ _ _ _ _ us hl => match us, hl with | [_, _], _ => rfl),
      law_pieces := df_mk X G a7 l7 c7 k7 (fun _ _ _ _ _ _ us hl => match us, hl with | [_], _ => rfl),
      law_rows := df_mk X G a8 l8 c8 k8 (fun _ _ _ _ _ _ us hl => match us, hl with | [_, _, _], _ => rfl),
      law_has := df_mk X G a9 l9 c9 k9 (fun _ _ _ _ _ _ us hl => match us, hl with | [_, _, _], _ => rfl),
      law_samples := df_mk X G a10 l10 c10 k10 (fun _ _ _ _ _ _ us hl => match us, hl with | [_], _ => rfl),
      law_is_ground := df_mk X G a11 l11 c11 k11 (fun _ _ _ _ _ _ us hl => match us, hl with | [_], _ => rfl),
      law := df_mk X G a12 l12 c12 k12 (fun _ _ _ _ _ _ us hl => match us, hl with | [_], _ => rfl),
      e_ground := err_mk X G aC_ground ex_ground kp_ground sb_ground ty_ground hg_ground hk_ground hd_ground hac_ground hm_ground hn htk,
      exm_ground_ground := PySem.W.exm_ref sb_ground hd_ground ty_ground su_ground_ground,
      exm_ground_kerb := PySem.W.exm_ref sb_kerb hd_kerb ty_kerb su_ground_kerb,
      kerb_g := PySem.W.mg_of X G aC_kerb,
      b_bool := PySem.W.mg_none_of X G z_bool,
      b_int := PySem.W.mg_none_of X G z_int,
      b_isinstance := PySem.W.mg_none_of X G z_isinstance,
      b_len := PySem.W.mg_none_of X G z_len,
      b_list := PySem.W.mg_none_of X G z_list,
      b_max := PySem.W.mg_none_of X G z_max,
      b_min := PySem.W.mg_none_of X G z_min,
      b_range := PySem.W.mg_none_of X G z_range,
      b_sorted := PySem.W.mg_none_of X G z_sorted,
      b_sum := PySem.W.mg_none_of X G z_sum,
      b_tuple := PySem.W.mg_none_of X G z_tuple }
  exact ⟨_, fun s v => .of_eq rfl, fun base _ _ => all_ok (P := P) (w := w) (base := base) T⟩
end Lw
/-! Km: mathematics for mirrors -/
namespace Kb
open PySem L2
theorem sizeLine_big : 1000000 ≤ sizeLine := by decide
theorem forN_inv {α σ : Type} {f : σ → α → Res σ} (I : Nat → σ → Prop) : ∀ {xs : List α} {s0 : σ} {k : Nat}, I k s0 → (∀ i s x, xs[i]? = some x → I (k + i) s → ∃ s', f s x = .ok s' ∧ I (k + i + 1) s') → ∃ s, forN xs s0 f = .ok s ∧ I (k + xs.length) s
  | [], s0, k, h0, _ => ⟨s0, rfl, h0⟩
  | x :: xs, s0, k, h0, st => by
    obtain ⟨s1, e1, h1⟩ := st 0 s0 x rfl h0
    obtain ⟨s2, e2, h2⟩ := forN_inv I (xs := xs) (s0 := s1) (k := k + 1) h1 (fun i s y hy hi => by
      have z := st (i + 1) s y (by simpa using hy) (by rw [show k + (i + 1) = k + 1 + i from by omega]; exact hi)
      rw [show k + 1 + i + 1 = k + (i + 1) + 1 from by omega]
      exact z)
    refine ⟨s2, by rw [forN_cons, e1]; exact e2, ?_⟩
    rw [List.length_cons, show k + (xs.length + 1) = k + 1 + xs.length from by omega]
    exact h2
theorem forN_inv0 {α σ : Type} {f : σ → α → Res σ} {xs : List α} {s0 : σ} (I : Nat → σ → Prop) (h0 : I 0 s0) (st : ∀ i s x, xs[i]? = some x → I i s → ∃ s', f s x = .ok s' ∧ I (i + 1) s') : ∃ s, forN xs s0 f = .ok s ∧ I xs.length s := by
  obtain ⟨s, e, h⟩ := forN_inv I (k := 0) h0 (fun i s x hx hi => by
    rw [Nat.zero_add] at hi ⊢
    exact st i s x hx hi)
  exact ⟨s, e, by rw [Nat.zero_add] at h; exact h⟩
/-- a loop whose turns are a plain function -/
theorem forN_fold {α σ : Type} {f : σ → α → Res σ} (g : σ → α → σ) : ∀ {xs : List α} {s0 : σ}, (∀ s x, x ∈ xs → f s x = .ok (g s x)) → forN xs s0 f = .ok (xs.foldl g s0)
  | [], _, _ => rfl
  | x :: xs, s0, h => by
    rw [forN_cons, h s0 x List.mem_cons_self, bind_ok, forN_fold g fun s y hy => h s y (List.mem_cons_of_mem _ hy)]
    rfl
theorem compN_c {α β : Type} {x : α} {xs : List α} {f : α → Res β} : compN (x :: xs) f = (nx (f x)).bind fun y => (compN xs f).bind fun ys => .ok (y :: ys) := rfl
theorem compN_map {α β : Type} {f : α → Res β} (g : α → β) : ∀ {xs : List α}, (∀ x ∈ xs, f x = .ok (g x)) → compN xs f = .ok (xs.map g)
  | [], _ => rfl
  | x :: xs, h => by
    rw [compN_c, h x List.mem_cons_self, nx_ok, bind_ok, compN_map g fun y hy => h y (List.mem_cons_of_mem _ hy)]
    rfl
theorem atI_of {α : Type} {xs : List α} {i : Int} {x : α} (h0 : 0 ≤ i) (h : xs[i.toNat]? = some x) : atI xs i = some x := by
  have z := atI_nat h
  rw [show ((i.toNat : Nat) : Int) = i from by omega] at z
  exact z
theorem atI_in {α : Type} {xs : List α} {i : Int} (h0 : 0 ≤ i) (h : i < xs.length) : ∃ x, atI xs i = some x ∧ x ∈ xs := by
  have hl : i.toNat < xs.length := by omega
  exact ⟨xs[i.toNat], atI_of h0 (List.getElem?_eq_getElem hl), List.getElem_mem hl⟩
theorem atI_getD {α : Type} {xs : List α} {i : Int} (d : α) (h0 : 0 ≤ i) (h : i < xs.length) : atI xs i = some (xs.getD i.toNat d) := by
  have hl : i.toNat < xs.length := by omega
  rw [List.getD_eq_getElem?_getD, List.getElem?_eq_getElem hl]
  exact atI_of h0 (List.getElem?_eq_getElem hl)
theorem atI_neg1 {α : Type} {xs : List α} {x : α} (h : xs.getLast? = some x) : atI xs (-(1 : Int)) = some x := by
  cases xs with
  | nil => cases h
  | cons y ys =>
    have e : (y :: ys) = (y :: ys).dropLast ++ [x] := by
      rw [List.getLast?_eq_getLast (List.cons_ne_nil y ys)] at h
      have h' := Option.some.inj h
      rw [← h']
      exact (List.dropLast_concat_getLast (List.cons_ne_nil y ys)).symm
    rw [e]
    exact atI_last _ _
theorem ixN_neg1 {n : Nat} (h : 0 < n) : ixN n (-(1 : Int)) = some (n - 1) := by
  unfold ixN
  rw [if_neg (by decide), if_pos (by omega)]
  congr 1
  omega
theorem log2_le_self (n : Nat) : n.log2 ≤ n := by
  cases n with
  | zero => decide
  | succ n => exact Nat.le_of_lt ((Nat.log2_lt (by omega)).mpr (Nat.lt_pow_self (by decide)))
theorem mulOk_of {a b : Int} {m n : Nat} (ha : a.natAbs ≤ m) (hb : b.natAbs ≤ n) (h : m + n < 1000000) : mulOk a b = true := by
  unfold mulOk
  have h1 := log2_le_self a.natAbs
  have h2 := log2_le_self b.natAbs
  exact decide_eq_true (by omega)
theorem rngOk_of {i : Int} (h1 : -4611686018427387904 ≤ i) (h2 : i < 4611686018427387904) : rngOk i = true := by
  unfold rngOk
  rw [decide_eq_true (show -(2 ^ 62) ≤ i from h1), decide_eq_true (show i < 2 ^ 62 from h2)]
  rfl
theorem rng_mem {lo : Int} : ∀ {n : Nat} {x : Int}, x ∈ rng lo n ↔ lo ≤ x ∧ x < lo + n := by
  intro n
  induction n generalizing lo with
  | zero =>
    intro x
    show x ∈ ([] : List Int) ↔ _
    constructor
    · intro h; cases h
    · intro h; omega
  | succ n ih =>
    intro x
    show x ∈ lo :: rng (lo + 1) n ↔ _
    rw [List.mem_cons, ih]
    constructor
    · rintro (h | h) <;> omega
    · intro h
      by_cases e : x = lo
      · exact .inl e
      · exact .inr (by omega)
theorem rng_get {lo : Int} {n i : Nat} {x : Int} (h : (rng lo n)[i]? = some x) : x = lo + i ∧ i < n := by
  have hl : i < n := by
    have z := (List.getElem?_eq_some_iff.mp h).1
    rw [ints_len] at z
    exact z
  have e := ints_at n lo i hl
  rw [h] at e
  exact ⟨Option.some.inj e, hl⟩

/-! #### it ends well, and what it gives -/
def Ok {α : Type} (r : Res α) (P : α → Prop) : Prop := ∃ y, r = .ok y ∧ P y
section
variable {α β σ ρ : Type}
theorem Ok.ret {x : α} {P : α → Prop} (h : P x) : Ok (.ok x) P := ⟨x, rfl, h⟩
theorem Ok.of {r : Res α} {x : α} {P : α → Prop} (e : r = .ok x) (h : P x) : Ok r P := ⟨x, e, h⟩
theorem Ok.imp {r : Res α} {P Q : α → Prop} (h : Ok r P) (q : ∀ x, P x → Q x) : Ok r Q := let ⟨x, e, p⟩ := h; ⟨x, e, q x p⟩
theorem Ok.bind {m : Res α} {f : α → Res β} {R : α → Prop} {P : β → Prop} (h : Ok m R) (q : ∀ y, R y → Ok (f y) P) : Ok (m.bind f) P := by
  obtain ⟨y, rfl, hy⟩ := h
  exact q y hy
/-- with the equation kept -/
theorem Ok.bindE {m : Res α} {f : α → Res β} {R : α → Prop} {P : β → Prop} (h : Ok m R) (q : ∀ y, m = .ok y → R y → Ok (f y) P) : Ok (m.bind f) P := by
  obtain ⟨y, e, hy⟩ := h
  rw [e]
  exact q y e hy
theorem Ok.nx {m : Res α} {P : α → Prop} (h : Ok m P) : Ok (Kb.nx m) P := by
  obtain ⟨y, rfl, hy⟩ := h
  exact ⟨y, rfl, hy⟩
theorem Ok.chk {b : Bool} {r : Res α} {P : α → Prop} (hb : b = true) (h : Ok r P) : Ok (Kb.chk b r) P := by subst hb; exact h
theorem Ok.chkD {c : Prop} [Decidable c] {r : Res α} {P : α → Prop} (hc : c) (h : Ok r P) : Ok (Kb.chk (decide c) r) P := Ok.chk (decide_eq_true hc) h
theorem Ok.opt {o : Option α} {f : α → Res β} {x : α} {P : β → Prop} (e : o = some x) (h : Ok (f x) P) : Ok (Kb.opt o f) P := by subst e; exact h
theorem Ok.br {b : Bool} {x y : Res α} {P : α → Prop} (ht : b = true → Ok x P) (hf : b = false → Ok y P) : Ok (Kb.br b x y) P := by
  cases b with
  | true => exact ht rfl
  | false => exact hf rfl
theorem Ok.brT {b : Bool} {x y : Res α} {P : α → Prop} (hb : b = true) (h : Ok x P) : Ok (Kb.br b x y) P := by subst hb; exact h
theorem Ok.brF {b : Bool} {x y : Res α} {P : α → Prop} (hb : b = false) (h : Ok y P) : Ok (Kb.br b x y) P := by subst hb; exact h
theorem Ok.forN {xs : List α} {s0 : σ} {f : σ → α → Res σ} {rest : σ → Res β} {P : β → Prop} (I : Nat → σ → Prop) (h0 : I 0 s0) (st : ∀ i s x, xs[i]? = some x → I i s → Ok (f s x) (I (i + 1))) (q : ∀ s, I xs.length s → Ok (rest s) P) : Ok ((Kb.forN xs s0 f).bind rest) P := by
  obtain ⟨s, e, h⟩ := forN_inv0 (f := f) (xs := xs) (s0 := s0) I h0 fun i s x hx hi => st i s x hx hi
  rw [e]
  exact q s h
/-- a loop with a return: each turn goes on, or returns what is wanted -/
theorem Ok.forR {xs : List α} {s0 : σ} {f : σ → α → Res (Ctl σ ρ)} {rest : Ctl σ ρ → Res β} {P : β → Prop} (I : Nat → σ → Prop) (R : ρ → Prop) (h0 : I 0 s0) (st : ∀ i s x, xs[i]? = some x → I i s → Ok (f s x) (fun c => match c with | .nx s' => I (i + 1) s' | .ret r => R r)) (q : ∀ s, I xs.length s → Ok (rest (.nx s)) P) (qr : ∀ r, R r → Ok (rest (.ret r)) P) : Ok ((Kb.forR xs s0 f).bind rest) P := by
  have key : ∀ (l : List α) (k : Nat) (s : σ), I k s → (∀ i s x, l[i]? = some x → I (k + i) s → Ok (f s x) (fun c => match c with | .nx s' => I (k + i + 1) s' | .ret r => R r)) → Ok (Kb.forR l s f) (fun c => match c with | .nx s' => I (k + l.length) s' | .ret r => R r) := by
    intro l
    induction l with
    | nil => intro k s h _; exact ⟨_, rfl, h⟩
    | cons x l ih =>
      intro k s h st
      rw [forR_cons]
      obtain ⟨c, e, hc⟩ := st 0 s x rfl h
      rw [e, bind_ok]
      cases c with
      | ret r => exact ⟨_, rfl, hc⟩
      | nx s' =>
        have z := ih (k + 1) s' hc fun i s y hy hi => by
          have z := st (i + 1) s y (by simpa using hy) (by rw [show k + (i + 1) = k + 1 + i from by omega]; exact hi)
          rw [show k + 1 + i + 1 = k + (i + 1) + 1 from by omega]
          exact z
        rw [List.length_cons, show k + (l.length + 1) = k + 1 + l.length from by omega]
        exact z
  obtain ⟨c, e, hc⟩ := key xs 0 s0 h0 fun i s x hx hi => by
    rw [Nat.zero_add] at hi ⊢
    exact st i s x hx hi
  rw [e, bind_ok]
  cases c with
  | ret r => exact qr r hc
  | nx s =>
    rw [Nat.zero_add] at hc
    exact q s hc
theorem Ok.compN {xs : List α} {f : α → Res β} {R : α → β → Prop} (h : ∀ x ∈ xs, Ok (f x) (R x)) : Ok (Kb.compN xs f) (fun ys => ys.length = xs.length ∧ ∀ (i : Nat) x y, xs[i]? = some x → ys[i]? = some y → R x y) := by
  induction xs with
  | nil => exact ⟨[], rfl, rfl, fun i x y e _ => by simp at e⟩
  | cons x xs ih =>
    obtain ⟨y, e, hy⟩ := h x List.mem_cons_self
    obtain ⟨ys, es, hl, hs⟩ := ih fun z hz => h z (List.mem_cons_of_mem _ hz)
    refine ⟨y :: ys, by rw [compN_c, e, nx_ok, bind_ok, es]; rfl, by simp [hl], fun i a b ea eb => ?_⟩
    cases i with
    | zero =>
      have e1 : x = a := by simpa using ea
      have e2 : y = b := by simpa using eb
      rw [← e1, ← e2]; exact hy
    | succ i => exact hs i a b (by simpa using ea) (by simpa using eb)
/-- it is the one value -/
theorem Ok.eq {r : Res α} {x : α} (h : Ok r (fun y => y = x)) : r = .ok x := by
  obtain ⟨y, e, rfl⟩ := h
  exact e
end
theorem mod_lt' (a : Int) {m : Int} (h : 0 < m) : 0 ≤ a % m ∧ a % m < m := ⟨Int.emod_nonneg _ (by omega), Int.emod_lt_of_pos _ h⟩
theorem pick {α : Type} {xs : List α} {a m : Int} (h : 0 < m) (hl : m = xs.length) : ∃ x, atI xs (a % m) = some x ∧ x ∈ xs := atI_in (mod_lt' a h).1 (by have := (mod_lt' a h).2; omega)
theorem sliceL_len {α : Type} (xs : List α) (lo hi : Option Int) : (sliceL xs lo hi).length ≤ xs.length := by
  unfold sliceL
  rw [List.length_take, List.length_drop]
  omega
end Kb
/-! Kg: grounds -/
namespace Kb
open PySem L2
abbrev Rw := PySem.Str × Int × Int
def gd (r : Rw) : Prop := 0 ≤ r.2.1 ∧ r.2.1 < r.2.2
abbrev ltS (x y : PySem.Str) : Prop := x.cps.toList < y.cps.toList
theorem ltS_irr (x : PySem.Str) : ¬ ltS x x := by
  have h := PyProof.Rows.strKind.irrefl x.cps.toList
  exact of_decide_eq_false h
theorem ltS_tr {x y z : PySem.Str} (h1 : ltS x y) (h2 : ltS y z) : ltS x z := by
  have h := PyProof.Rows.strKind.trans x.cps.toList y.cps.toList z.cps.toList (decide_eq_true h1) (decide_eq_true h2)
  exact of_decide_eq_true h
theorem ltS_tot {x y : PySem.Str} (h1 : ¬ ltS x y) (h2 : ¬ ltS y x) : x = y := by
  have h := PyProof.Rows.strKind.total x.cps.toList y.cps.toList (decide_eq_false h1) (decide_eq_false h2)
  cases x with | mk a => cases y with | mk b =>
    have e : a.toList = b.toList := h
    rw [Array.toList_inj.mp e]
/-- sorted rows -/
def Le (a b : Rw) : Prop := ¬ ltS b.1 a.1 ∧ (a.1 = b.1 → a.2.1 ≤ b.2.1)
theorem le_of {a b : Rw} (h : leK (keySII a) (keySII b) = true) : Le a b := by
  unfold leK ltK keySII at h
  rw [Bool.not_eq_true'] at h
  obtain ⟨h1, h2⟩ := PyProof.Rows.lex_false.mp h
  refine ⟨of_decide_eq_false h1, fun e => ?_⟩
  have h3 := h2.resolve_left (by
    rw [show PyProof.Rows.itemOrd.blt (Sum.inr a.1.cps.toList) (Sum.inr b.1.cps.toList) = decide (a.1.cps.toList < b.1.cps.toList) from rfl, e]
    intro z
    exact ltS_irr _ (of_decide_eq_true z))
  obtain ⟨h4, _⟩ := PyProof.Rows.lex_false.mp h3
  have z : ¬ (b.2.1 < a.2.1) := of_decide_eq_false h4
  omega
theorem sorted_le (rows : List Rw) : (sortK keySII rows).Pairwise Le := List.Pairwise.imp (S := Le) (fun {a b} h => le_of (a := a) (b := b) h) (sortK_sorted (key := keySII) rows)
/-- a cell of the rows -/
def cov (g : List Rw) (p : PySem.Str) (k : Int) : Prop := ∃ r ∈ g, r.1 = p ∧ r.2.1 ≤ k ∧ k < r.2.2
def covR (r : Rw) (p : PySem.Str) (k : Int) : Prop := r.1 = p ∧ r.2.1 ≤ k ∧ k < r.2.2
theorem cov_nil {p k} : ¬ cov [] p k := fun ⟨r, h, _⟩ => by cases h
theorem cov_cons {r : Rw} {g p k} : cov (r :: g) p k ↔ covR r p k ∨ cov g p k := by
  constructor
  · rintro ⟨q, h, c⟩
    rcases List.mem_cons.mp h with rfl | h
    · exact .inl c
    · exact .inr ⟨q, h, c⟩
  · rintro (c | ⟨q, h, c⟩)
    · exact ⟨r, List.mem_cons_self, c⟩
    · exact ⟨q, List.mem_cons_of_mem _ h, c⟩
theorem cov_app {a b : List Rw} {p k} : cov (a ++ b) p k ↔ cov a p k ∨ cov b p k := by
  constructor
  · rintro ⟨q, h, c⟩
    rcases List.mem_append.mp h with h | h
    · exact .inl ⟨q, h, c⟩
    · exact .inr ⟨q, h, c⟩
  · rintro (⟨q, h, c⟩ | ⟨q, h, c⟩)
    · exact ⟨q, List.mem_append_left _ h, c⟩
    · exact ⟨q, List.mem_append_right _ h, c⟩
theorem cov_one {r : Rw} {p k} : cov [r] p k ↔ covR r p k := by
  rw [cov_cons]
  exact ⟨fun h => h.resolve_right cov_nil, .inl⟩
theorem cov_perm {a b : List Rw} (h : a.Perm b) {p k} : cov a p k ↔ cov b p k :=
  ⟨fun ⟨r, m, c⟩ => ⟨r, h.mem_iff.mp m, c⟩, fun ⟨r, m, c⟩ => ⟨r, h.mem_iff.mpr m, c⟩⟩
instance {g : List Rw} {p : PySem.Str} {k : Int} : Decidable (cov g p k) := inferInstanceAs (Decidable (∃ r ∈ g, r.1 = p ∧ r.2.1 ≤ k ∧ k < r.2.2))
/-- rows of a ground, one behind the other -/
def GR (a b : Rw) : Prop := ltS a.1 b.1 ∨ (a.1 = b.1 ∧ a.2.2 < b.2.1)
theorem GR.tr {a b c : Rw} (g : gd b) (h1 : GR a b) (h2 : GR b c) : GR a c := by
  unfold gd at g
  rcases h1 with h1 | ⟨e1, h1⟩ <;> rcases h2 with h2 | ⟨e2, h2⟩
  · exact .inl (ltS_tr h1 h2)
  · exact .inl (e2 ▸ h1)
  · exact .inl (e1 ▸ h2)
  · exact .inr ⟨e1.trans e2, by omega⟩
def isG (g : List Rw) : Prop := (∀ r ∈ g, gd r) ∧ g.Pairwise GR
theorem isG.nil : isG [] := ⟨fun r h => (by cases h), List.Pairwise.nil⟩
/-- one row more -/
def mst (g : List Rw) (r : Rw) : List Rw := match g.getLast? with
  | none => [r]
  | some l => if l.1 = r.1 ∧ r.2.1 ≤ l.2.2 then g.set (g.length - 1) (r.1, l.2.1, (if l.2.2 > r.2.2 then l.2.2 else r.2.2)) else g ++ [r]
theorem mst_len (g : List Rw) (r : Rw) : (mst g r).length ≤ g.length + 1 := by
  unfold mst
  split
  · simp
  · split
    · simp
    · simp
theorem set_last (g : List Rw) (l x : Rw) : (g ++ [l]).set ((g ++ [l]).length - 1) x = g ++ [x] := by
  rw [List.length_append, List.length_singleton, Nat.add_sub_cancel]
  rw [List.set_append_right _ _ (Nat.le_refl _), Nat.sub_self]
  rfl
theorem mst_nil (r : Rw) : mst [] r = [r] := rfl
theorem mst_app (g : List Rw) (l r : Rw) : mst (g ++ [l]) r = if l.1 = r.1 ∧ r.2.1 ≤ l.2.2 then g ++ [(r.1, l.2.1, (if l.2.2 > r.2.2 then l.2.2 else r.2.2))] else g ++ [l] ++ [r] := by
  unfold mst
  rw [List.getLast?_append]
  show (match some l with | none => [r] | some l => _) = _
  dsimp only
  rw [set_last]
  rfl
def lastLe (g : List Rw) (r : Rw) : Prop := ∀ l, g.getLast? = some l → Le l r
theorem mst_ok {g : List Rw} {r : Rw} (hg : isG g) (hr : gd r) (hl : lastLe g r) : isG (mst g r) ∧ (∀ p k, cov (mst g r) p k ↔ cov g p k ∨ covR r p k) ∧ ∀ q, Le r q → lastLe (mst g r) q := by
  rcases List.eq_nil_or_concat g with rfl | ⟨g0, l, rfl⟩
  · rw [mst_nil]
    refine ⟨⟨fun q h => by rw [List.mem_singleton.mp h]; exact hr, List.pairwise_singleton _ _⟩, fun p k => ?_, fun q hq l e => ?_⟩
    · rw [cov_one]
      exact ⟨.inr, fun h => h.resolve_left cov_nil⟩
    · cases e
      exact hq
  · have e : g0.concat l = g0 ++ [l] := List.concat_eq_append
    rw [e] at hg hl ⊢
    have le : Le l r := hl l (by rw [List.getLast?_append]; rfl)
    have hgl : gd l := hg.1 l (by simp)
    obtain ⟨p1, _, p3⟩ := List.pairwise_append.mp hg.2
    rw [mst_app]
    unfold gd at hr hgl
    by_cases c : l.1 = r.1 ∧ r.2.1 ≤ l.2.2
    · rw [if_pos c]
      have lb := le.2 c.1
      have hmx : l.2.2 ≤ (if l.2.2 > r.2.2 then l.2.2 else r.2.2) ∧ r.2.2 ≤ (if l.2.2 > r.2.2 then l.2.2 else r.2.2) ∧ ((if l.2.2 > r.2.2 then l.2.2 else r.2.2) = l.2.2 ∨ (if l.2.2 > r.2.2 then l.2.2 else r.2.2) = r.2.2) := by
        split <;> omega
      generalize (if l.2.2 > r.2.2 then l.2.2 else r.2.2) = m at hmx
      refine ⟨⟨fun q h => ?_, List.pairwise_append.mpr ⟨p1, List.pairwise_singleton _ _, fun a ha b hb => ?_⟩⟩, fun p k => ?_, fun q hq x hx => ?_⟩
      · rcases List.mem_append.mp h with h | h
        · exact hg.1 q (List.mem_append_left _ h)
        · rw [List.mem_singleton.mp h]
          exact ⟨hgl.1, by show l.2.1 < m; omega⟩
      · rw [List.mem_singleton.mp hb]
        rcases p3 a ha l List.mem_cons_self with z | ⟨z1, z2⟩
        · exact .inl (by show ltS a.1 r.1; rw [← c.1]; exact z)
        · exact .inr ⟨by show a.1 = r.1; rw [← c.1]; exact z1, z2⟩
      · rw [cov_app, cov_app, cov_one, cov_one]
        unfold covR
        dsimp only
        rw [← c.1]
        constructor
        · rintro (h | ⟨h1, h2, h3⟩)
          · exact .inl (.inl h)
          · by_cases z : k < l.2.2
            · exact .inl (.inr ⟨h1, h2, z⟩)
            · exact .inr ⟨h1, by omega, by omega⟩
        · rintro ((h | ⟨h1, h2, h3⟩) | ⟨h1, h2, h3⟩)
          · exact .inl h
          · exact .inr ⟨h1, h2, by omega⟩
          · exact .inr ⟨h1, by omega, by omega⟩
      · rw [List.getLast?_append] at hx
        have hx' : (r.1, l.2.1, m) = x := Option.some.inj hx
        subst hx'
        exact ⟨hq.1, fun z => by have := hq.2 z; show l.2.1 ≤ q.2.1; omega⟩
    · rw [if_neg c]
      have gr : GR l r := by
        by_cases z : l.1 = r.1
        · exact .inr ⟨z, by
            by_cases y : r.2.1 ≤ l.2.2
            · exact absurd ⟨z, y⟩ c
            · omega⟩
        · refine .inl ?_
          by_cases y : ltS l.1 r.1
          · exact y
          · exact absurd (ltS_tot y le.1) z
      refine ⟨⟨fun q h => ?_, List.pairwise_append.mpr ⟨hg.2, List.pairwise_singleton _ _, fun a ha b hb => ?_⟩⟩, fun p k => ?_, fun q hq x hx => ?_⟩
      · rcases List.mem_append.mp h with h | h
        · exact hg.1 q h
        · rw [List.mem_singleton.mp h]
          exact hr
      · rw [List.mem_singleton.mp hb]
        rcases List.mem_append.mp ha with ha | ha
        · exact GR.tr hgl (p3 a ha l List.mem_cons_self) gr
        · rw [List.mem_singleton.mp ha]
          exact gr
      · rw [cov_app (a := g0 ++ [l]), cov_one]
      · rw [List.getLast?_append] at hx
        have hx' : r = x := Option.some.inj hx
        subst hx'
        exact hq
theorem fold_ok : ∀ {rs : List Rw} {g : List Rw}, isG g → (∀ r ∈ rs, gd r) → rs.Pairwise Le → (∀ r ∈ rs, lastLe g r) → isG (rs.foldl mst g) ∧ ∀ p k, cov (rs.foldl mst g) p k ↔ cov g p k ∨ cov rs p k
  | [], g, hg, _, _, _ => ⟨hg, fun p k => ⟨.inl, fun h => h.resolve_right cov_nil⟩⟩
  | r :: rs, g, hg, hr, hp, hl => by
    obtain ⟨p1, p2⟩ := List.pairwise_cons.mp hp
    obtain ⟨a1, a2, a3⟩ := mst_ok hg (hr r List.mem_cons_self) (hl r List.mem_cons_self)
    obtain ⟨b1, b2⟩ := fold_ok (rs := rs) a1 (fun q h => hr q (List.mem_cons_of_mem _ h)) p2 fun q h => a3 q (p1 q h)
    refine ⟨b1, fun p k => ?_⟩
    rw [show (r :: rs).foldl mst g = rs.foldl mst (mst g r) from rfl, b2, a2, cov_cons, or_assoc]
def nrm (rows : List Rw) : List Rw := (sortK keySII rows).foldl mst []
theorem nrm_ok {rows : List Rw} (h : ∀ r ∈ rows, gd r) : isG (nrm rows) ∧ ∀ p k, cov (nrm rows) p k ↔ cov rows p k := by
  obtain ⟨a, b⟩ := fold_ok (rs := sortK keySII rows) isG.nil (fun r m => h r ((sortK_perm rows).mem_iff.mp m)) (sorted_le rows) fun r _ l e => by cases e
  refine ⟨a, fun p k => ?_⟩
  rw [show nrm rows = (sortK keySII rows).foldl mst [] from rfl, b, cov_perm (sortK_perm rows)]
  exact ⟨fun h => h.resolve_left cov_nil, .inr⟩
theorem foldl_len : ∀ (rs g : List Rw), (rs.foldl mst g).length ≤ g.length + rs.length
  | [], _ => Nat.le_refl _
  | r :: rs, g => by
    have h1 := foldl_len rs (mst g r)
    have h2 := mst_len g r
    show (rs.foldl mst (mst g r)).length ≤ _
    rw [List.length_cons]
    omega
theorem nrm_len (rows : List Rw) : (nrm rows).length ≤ rows.length := by
  have h := foldl_len (sortK keySII rows) []
  rw [(sortK_perm rows).length_eq] at h
  simpa [nrm] using h
/-- behind the last cell of a row, and ahead of its first, there is none -/
theorem isG.ends {g : List Rw} (h : isG g) {r : Rw} (m : r ∈ g) : cov g r.1 r.2.1 ∧ cov g r.1 (r.2.2 - 1) ∧ ¬ cov g r.1 (r.2.1 - 1) ∧ ¬ cov g r.1 r.2.2 := by
  have hr := h.1 r m
  unfold gd at hr
  refine ⟨⟨r, m, rfl, by omega, by omega⟩, ⟨r, m, rfl, by omega, by omega⟩, ?_, ?_⟩
  all_goals
    rintro ⟨q, mq, e, h1, h2⟩
    obtain ⟨i, hi, ei⟩ := List.getElem_of_mem m
    obtain ⟨j, hj, ej⟩ := List.getElem_of_mem mq
    have pw := List.pairwise_iff_getElem.mp h.2
    have hq := h.1 q mq
    unfold gd at hq
    rcases Nat.lt_trichotomy i j with c | c | c
    · have z := pw i j hi hj c
      rw [ei, ej] at z
      rcases z with z | ⟨_, z⟩
      · rw [e] at z; exact ltS_irr _ z
      · omega
    · subst c
      rw [ei] at ej
      subst ej
      omega
    · have z := pw j i hj hi c
      rw [ei, ej] at z
      rcases z with z | ⟨_, z⟩
      · rw [e] at z; exact ltS_irr _ z
      · omega
theorem head_le {a : Rw} {g : List Rw} (h : isG (a :: g)) {p k} (c : cov (a :: g) p k) : ltS a.1 p ∨ (a.1 = p ∧ a.2.1 ≤ k) := by
  obtain ⟨q, mq, e, h1, h2⟩ := c
  rcases List.mem_cons.mp mq with rfl | mq
  · exact .inr ⟨e, h1⟩
  · have z := (List.pairwise_cons.mp h.2).1 q mq
    have ha := h.1 a List.mem_cons_self
    unfold gd at ha
    rcases z with z | ⟨z1, z2⟩
    · exact .inl (e ▸ z)
    · exact .inr ⟨z1.trans e, by omega⟩
theorem head_eq {a b : Rw} {g h : List Rw} (hg : isG (a :: g)) (hh : isG (b :: h)) (e : ∀ p k, cov (a :: g) p k ↔ cov (b :: h) p k) : a.1 = b.1 ∧ a.2.1 = b.2.1 := by
  have ca := (hg.ends List.mem_cons_self).1
  have cb := (hh.ends List.mem_cons_self).1
  have h1 := head_le hh ((e _ _).mp ca)
  have h2 := head_le hg ((e _ _).mpr cb)
  rcases h1 with h1 | ⟨h1, h1'⟩ <;> rcases h2 with h2 | ⟨h2, h2'⟩
  · exact absurd (ltS_tr h1 h2) (ltS_irr _)
  · rw [h2] at h1; exact absurd h1 (ltS_irr _)
  · rw [h1] at h2; exact absurd h2 (ltS_irr _)
  · exact ⟨h2, by omega⟩
theorem end_le {a b : Rw} {g h : List Rw} (hg : isG (a :: g)) (hh : isG (b :: h)) (e : ∀ p k, cov (a :: g) p k ↔ cov (b :: h) p k) (e1 : a.1 = b.1) (e2 : a.2.1 = b.2.1) : b.2.2 ≤ a.2.2 := by
  have ca := (hg.ends List.mem_cons_self).2.2.2
  have ga := hg.1 a List.mem_cons_self
  unfold gd at ga
  by_cases c : b.2.2 ≤ a.2.2
  · exact c
  · exact absurd ((e a.1 a.2.2).mpr ⟨b, List.mem_cons_self, e1.symm, by omega, by omega⟩) ca
theorem ground_uniq : ∀ {g h : List Rw}, isG g → isG h → (∀ p k, cov g p k ↔ cov h p k) → g = h
  | [], [], _, _, _ => rfl
  | [], b :: h, _, hh, e => absurd ((e _ _).mpr (hh.ends List.mem_cons_self).1) cov_nil
  | a :: g, [], hg, _, e => absurd ((e _ _).mp (hg.ends List.mem_cons_self).1) cov_nil
  | a :: g, b :: h, hg, hh, e => by
    obtain ⟨e1, e2⟩ := head_eq hg hh e
    have h1 := end_le hg hh e e1 e2
    have h2 := end_le hh hg (fun p k => (e p k).symm) e1.symm e2.symm
    have ab : a = b := Prod.ext e1 (Prod.ext e2 (Int.le_antisymm h2 h1))
    subst ab
    have tg : isG g := ⟨fun r m => hg.1 r (List.mem_cons_of_mem _ m), (List.pairwise_cons.mp hg.2).2⟩
    have th : isG h := ⟨fun r m => hh.1 r (List.mem_cons_of_mem _ m), (List.pairwise_cons.mp hh.2).2⟩
    have dis : ∀ {g : List Rw}, isG (a :: g) → ∀ p k, cov g p k → ¬ covR a p k := by
      rintro g hg p k ⟨q, mq, e, z1, z2⟩ ⟨e', y1, y2⟩
      rcases (List.pairwise_cons.mp hg.2).1 q mq with z | ⟨_, z⟩
      · rw [e, e'] at z; exact ltS_irr _ z
      · omega
    have key : ∀ p k, cov g p k ↔ cov h p k := fun p k => by
      have z := e p k
      rw [cov_cons, cov_cons] at z
      constructor
      · intro c
        exact (z.mp (.inr c)).resolve_left (dis hg p k c)
      · intro c
        exact (z.mpr (.inr c)).resolve_left (dis hh p k c)
    rw [ground_uniq tg th key]
theorem normal_loop {rows : List Rw} (h : rows.length ≤ 1000000) :
    forN rows ([] : List Rw) (fun s42 x47 => ((andN (.ok (!s42.isEmpty)) (andN (opt (atI s42 (-(1 : Int))) fun x88 => .ok (decide (x88.1 = x47.1))) (opt (atI s42 (-(1 : Int))) fun x96 => .ok (decide (x47.2.1 ≤ x96.2.2))))).bind fun b101 => br b101 (opt (atI s42 (-(1 : Int))) fun x107 => opt (atI s42 (-(1 : Int))) fun x115 => opt (ixN s42.length (-(1 : Int))) fun j131 => .ok ((s42.set j131 (x47.1, x107.2.1, (if x115.2.2 > x47.2.2 then x115.2.2 else x47.2.2))))) (chk (decide (s42.length < sizeLine)) <| .ok ((s42 ++ [(x47.1, x47.2.1, x47.2.2)])))).bind fun s63 => .ok (s63))
      = .ok (rows.foldl mst []) := by
  have key : ∀ (rs : List Rw) (g : List Rw), g.length + rs.length ≤ 1000000 → forN rs g (fun s42 x47 => ((andN (.ok (!s42.isEmpty)) (andN (opt (atI s42 (-(1 : Int))) fun x88 => .ok (decide (x88.1 = x47.1))) (opt (atI s42 (-(1 : Int))) fun x96 => .ok (decide (x47.2.1 ≤ x96.2.2))))).bind fun b101 => br b101 (opt (atI s42 (-(1 : Int))) fun x107 => opt (atI s42 (-(1 : Int))) fun x115 => opt (ixN s42.length (-(1 : Int))) fun j131 => .ok ((s42.set j131 (x47.1, x107.2.1, (if x115.2.2 > x47.2.2 then x115.2.2 else x47.2.2))))) (chk (decide (s42.length < sizeLine)) <| .ok ((s42 ++ [(x47.1, x47.2.1, x47.2.2)])))).bind fun s63 => .ok (s63))
      = .ok (rs.foldl mst g) := by
    intro rs
    induction rs with
    | nil => intro g _; rfl
    | cons r rs ih =>
      intro g hl
      rw [List.length_cons] at hl
      have hz := sizeLine_big
      have hlt : decide (g.length < sizeLine) = true := decide_eq_true (by omega)
      rw [forN_cons]
      have turn : ((andN (.ok (!g.isEmpty)) (andN (opt (atI g (-(1 : Int))) fun x88 => .ok (decide (x88.1 = r.1))) (opt (atI g (-(1 : Int))) fun x96 => .ok (decide (r.2.1 ≤ x96.2.2))))).bind fun b101 => br b101 (opt (atI g (-(1 : Int))) fun x107 => opt (atI g (-(1 : Int))) fun x115 => opt (ixN g.length (-(1 : Int))) fun j131 => .ok ((g.set j131 (r.1, x107.2.1, (if x115.2.2 > r.2.2 then x115.2.2 else r.2.2))))) (chk (decide (g.length < sizeLine)) <| .ok ((g ++ [(r.1, r.2.1, r.2.2)])))) = .ok (mst g r) := by
        unfold mst
        cases hg : g.getLast? with
        | none =>
          have e : g = [] := List.getLast?_eq_none_iff.mp hg
          subst e
          rw [hlt]
          rfl
        | some l =>
          have hne : g ≠ [] := fun z => by rw [z] at hg; cases hg
          have hat := atI_neg1 hg
          have hpos : 0 < g.length := List.length_pos_iff.mpr hne
          have hie : (!g.isEmpty) = true := by cases g with | nil => exact absurd rfl hne | cons _ _ => rfl
          rw [hie, hat, ixN_neg1 hpos, hlt]
          dsimp only
          by_cases h1 : l.1 = r.1
          · by_cases h2 : r.2.1 ≤ l.2.2
            · rw [if_pos ⟨h1, h2⟩]
              simp [andN, h1, h2]
            · rw [if_neg (fun z => h2 z.2)]
              simp [andN, h1, h2]
          · rw [if_neg (fun z => h1 z.1)]
            simp [andN, h1]
      rw [turn, bind_ok]
      exact ih (mst g r) (by have := mst_len g r; omega)
  exact key rows [] (by simpa using h)
theorem any_loop {α : Type} (q : α → Bool) : ∀ xs : List α, forR xs () (fun (_ : Unit) x => br (q x) (.ok (Ctl.ret true)) (.ok (.nx ()))) = .ok (if xs.any q = true then .ret true else .nx ())
  | [] => rfl
  | x :: xs => by
    rw [forR_cons, List.any_cons]
    cases h : q x with
    | true => rfl
    | false =>
      rw [br_false, bind_ok, Bool.false_or]
      exact any_loop q xs
theorem cov_any {g : List Rw} {p : PySem.Str} {k : Int} : (g.any fun x9 => (decide (x9.1 = p)) && ((decide (x9.2.1 ≤ k)) && (decide (k < x9.2.2)))) = decide (cov g p k) := by
  rw [Bool.eq_iff_iff, List.any_eq_true, decide_eq_true_iff]
  unfold cov
  simp only [Bool.and_eq_true, decide_eq_true_iff]
theorem has_loop (g : List Rw) (p : PySem.Str) (k : Int) : (forR g () (fun (_ : Unit) x9 => br ((decide (x9.1 = p)) && ((decide (x9.2.1 ≤ k)) && (decide (k < x9.2.2)))) (.ok (.ret true)) (.ok (.nx ())))).bind (fun cc => ctl cc (fun _ => .ok false) (fun r => .ok r)) = (.ok (decide (cov g p k)) : Res Bool) := by
  rw [any_loop, bind_ok, cov_any]
  by_cases c : cov g p k
  · rw [decide_eq_true c]; rfl
  · rw [decide_eq_false c]; rfl
theorem cutS_len (s : PySem.Str) (lo hi : Option Int) : (cutS s lo hi).length ≤ s.length := by
  unfold cutS PySem.Str.length
  rw [List.size_toArray, List.length_take, List.length_drop, Array.length_toList]
  omega
theorem cat_len (s t : PySem.Str) : (s ++ t).length = s.length + t.length := by
  show (s.cps ++ t.cps).size = _
  rw [Array.size_append]
  rfl
/-- a row in two -/
def cutF (c : Int) (r : Rw) : List Rw := if r.2.1 < r.2.1 + c % (r.2.2 - r.2.1) then [(r.1, r.2.1, r.2.1 + c % (r.2.2 - r.2.1)), (r.1, r.2.1 + c % (r.2.2 - r.2.1), r.2.2)] else [(r.1, r.2.1 + c % (r.2.2 - r.2.1), r.2.2)]
theorem cutF_ok {c : Int} {r : Rw} (h : gd r) : (cutF c r).length ≤ 2 ∧ (∀ q ∈ cutF c r, gd q) ∧ ∀ p k, cov (cutF c r) p k ↔ covR r p k := by
  unfold gd at h
  have m := mod_lt' c (m := r.2.2 - r.2.1) (by omega)
  unfold cutF
  generalize c % (r.2.2 - r.2.1) = d at m
  split
  · refine ⟨Nat.le_refl _, fun q hq => ?_, fun p k => ?_⟩
    · rcases List.mem_cons.mp hq with rfl | hq
      · exact ⟨h.1, by assumption⟩
      · rw [List.mem_singleton.mp hq]
        exact ⟨by show 0 ≤ r.2.1 + d; omega, by show r.2.1 + d < r.2.2; omega⟩
    · rw [cov_cons, cov_one]
      unfold covR
      dsimp only
      constructor
      · rintro (⟨a, b, c⟩ | ⟨a, b, c⟩)
        · exact ⟨a, b, by omega⟩
        · exact ⟨a, by omega, c⟩
      · rintro ⟨a, b, c⟩
        by_cases z : k < r.2.1 + d
        · exact .inl ⟨a, b, z⟩
        · exact .inr ⟨a, by omega, c⟩
  · refine ⟨by simp, fun q hq => ?_, fun p k => ?_⟩
    · rw [List.mem_singleton.mp hq]
      exact ⟨by show 0 ≤ r.2.1 + d; omega, by show r.2.1 + d < r.2.2; omega⟩
    · rw [cov_one]
      unfold covR
      dsimp only
      constructor
      · rintro ⟨a, b, c⟩
        exact ⟨a, by omega, c⟩
      · rintro ⟨a, b, c⟩
        exact ⟨a, by omega, c⟩
theorem isG.pick {g : List Rw} (h : isG g) {i : Nat} {a b : Rw} (ha : g[i]? = some a) (hb : g[i + 1]? = some b) : GR a b := by
  obtain ⟨h1, e1⟩ := List.getElem?_eq_some_iff.mp ha
  obtain ⟨h2, e2⟩ := List.getElem?_eq_some_iff.mp hb
  have z := List.pairwise_iff_getElem.mp h.2 i (i + 1) h1 h2 (Nat.lt_succ_self _)
  rw [e1, e2] at z
  exact z
end Kb
/-! Kh: grounds put together -/
namespace Kb
open PySem L2
theorem isG.tail {a : Rw} {g : List Rw} (h : isG (a :: g)) : isG g := ⟨fun r m => h.1 r (List.mem_cons_of_mem _ m), (List.pairwise_cons.mp h.2).2⟩
theorem isG.snoc {g : List Rw} {r : Rw} (h : isG g) (hr : gd r) (hb : ∀ q ∈ g, GR q r) : isG (g ++ [r]) := by
  refine ⟨fun q m => ?_, List.pairwise_append.mpr ⟨h.2, List.pairwise_singleton _ _, fun a ha b hb' => ?_⟩⟩
  · rcases List.mem_append.mp m with m | m
    · exact h.1 q m
    · rw [List.mem_singleton.mp m]; exact hr
  · rw [List.mem_singleton.mp hb']; exact hb a ha
/-- what is behind a row has none of its cells -/
theorem GR.dis {a x : Rw} (h : GR a x) {p k} (c : covR x p k) : ¬ covR a p k := by
  rintro ⟨e, h1, h2⟩
  obtain ⟨e', g1, g2⟩ := c
  rcases h with h | ⟨_, h⟩
  · rw [e, e'] at h; exact ltS_irr _ h
  · omega
theorem GR.disG {a : Rw} {g : List Rw} (h : ∀ x ∈ g, GR a x) {p k} (c : cov g p k) : ¬ covR a p k := by
  obtain ⟨x, m, c⟩ := c
  exact (h x m).dis c
/-- the common part of two rows of one piece -/
def meet (a b : Rw) : Rw := (a.1, (if b.2.1 > a.2.1 then b.2.1 else a.2.1), (if b.2.2 < a.2.2 then b.2.2 else a.2.2))
theorem meet_cov {a b : Rw} (e : a.1 = b.1) {p k} : covR (meet a b) p k ↔ covR a p k ∧ covR b p k := by
  unfold covR meet
  dsimp only
  constructor
  · rintro ⟨h, h1, h2⟩
    refine ⟨⟨h, ?_, ?_⟩, ⟨e ▸ h, ?_, ?_⟩⟩ <;> (split at h1 <;> split at h2 <;> omega)
  · rintro ⟨⟨h, h1, h2⟩, ⟨_, h3, h4⟩⟩
    refine ⟨h, ?_, ?_⟩ <;> split <;> omega
structure CI (A B : List Rw) (rows A' B' : List Rw) : Prop where
  g : isG rows
  a : isG A'
  b : isG B'
  bef : ∀ r ∈ rows, (∀ x ∈ A', GR r x) ∨ (∀ x ∈ B', GR r x)
  cv : ∀ p k, (cov A p k ∧ cov B p k) ↔ cov rows p k ∨ (cov A' p k ∧ cov B' p k)
theorem GR.right {r a n : Rw} (h : GR r a) (e : n.1 = a.1) (hb : a.2.1 ≤ n.2.1) : GR r n := by
  rcases h with h | ⟨h1, h2⟩
  · exact .inl (e ▸ h)
  · exact .inr ⟨h1.trans e.symm, by omega⟩
theorem GR.left {a n x : Rw} (h : GR a x) (e : n.1 = a.1) (hb : n.2.2 ≤ a.2.2) : GR n x := by
  rcases h with h | ⟨h1, h2⟩
  · exact .inl (by rw [e]; exact h)
  · exact .inr ⟨e.trans h1, by omega⟩
/-- the rows with the common part of the heads -/
def addM (rows : List Rw) (a b : Rw) : List Rw := if a.1 = b.1 then (if (meet a b).2.1 < (meet a b).2.2 then rows ++ [meet a b] else rows) else rows
theorem meet_b (a b : Rw) : a.2.1 ≤ (meet a b).2.1 ∧ b.2.1 ≤ (meet a b).2.1 ∧ (meet a b).2.2 ≤ a.2.2 ∧ (meet a b).2.2 ≤ b.2.2 := by
  unfold meet
  dsimp only
  refine ⟨?_, ?_, ?_, ?_⟩ <;> split <;> omega
theorem addM_cov {rows : List Rw} {a b : Rw} {p k} : cov (addM rows a b) p k ↔ cov rows p k ∨ (covR a p k ∧ covR b p k) := by
  unfold addM
  by_cases e : a.1 = b.1
  · rw [if_pos e]
    by_cases l : (meet a b).2.1 < (meet a b).2.2
    · rw [if_pos l, cov_app, cov_one, meet_cov e]
    · rw [if_neg l]
      refine ⟨.inl, fun h => h.resolve_right fun c => ?_⟩
      obtain ⟨_, h1, h2⟩ := (meet_cov e).mpr c
      omega
  · rw [if_neg e]
    refine ⟨.inl, fun h => h.resolve_right fun ⟨⟨c1, _⟩, ⟨c2, _⟩⟩ => e (c1.trans c2.symm)⟩
theorem addM_isG {A B rows A' B' : List Rw} {a b : Rw} (h : CI A B rows (a :: A') (b :: B')) : isG (addM rows a b) := by
  unfold addM
  by_cases e : a.1 = b.1
  · rw [if_pos e]
    by_cases l : (meet a b).2.1 < (meet a b).2.2
    · rw [if_pos l]
      have ga := h.a.1 a List.mem_cons_self
      unfold gd at ga
      obtain ⟨m1, m2, _, _⟩ := meet_b a b
      refine h.g.snoc ⟨by omega, l⟩ fun q m => ?_
      rcases h.bef q m with z | z
      · exact (z a List.mem_cons_self).right rfl m1
      · exact (z b List.mem_cons_self).right e m2
    · rw [if_neg l]; exact h.g
  · rw [if_neg e]; exact h.g
theorem CI.stepA {A B rows A' B' : List Rw} {a b : Rw} (h : CI A B rows (a :: A') (b :: B')) (le : leSI (a.1, a.2.2) (b.1, b.2.2) = true) : CI A B (addM rows a b) A' (b :: B') := by
  have pa := (List.pairwise_cons.mp h.a.2).1
  have pb := (List.pairwise_cons.mp h.b.2).1
  have far : ∀ p k, covR a p k → cov (b :: B') p k → covR b p k := by
    intro p k ca cb
    rw [cov_cons] at cb
    rcases cb with cb | ⟨x, mx, cx⟩
    · exact cb
    · have z := pb x mx
      unfold leSI at le
      obtain ⟨e1, h1, h2⟩ := ca
      obtain ⟨e2, h3, h4⟩ := cx
      exfalso
      by_cases e : a.1 = b.1
      · rw [if_pos e] at le
        have le' : a.2.2 ≤ b.2.2 := of_decide_eq_true le
        rcases z with z | ⟨_, z⟩
        · rw [← e, e1, e2] at z; exact ltS_irr _ z
        · omega
      · rw [if_neg e] at le
        have nl : ¬ ltS b.1 a.1 := by
          rw [Bool.not_eq_true'] at le
          exact of_decide_eq_false le
        have lt : ltS a.1 b.1 := by
          by_cases y : ltS a.1 b.1
          · exact y
          · exact absurd (ltS_tot y nl) e
        rcases z with z | ⟨z, _⟩
        · have := ltS_tr lt z
          rw [e1, e2] at this; exact ltS_irr _ this
        · rw [z, e2, e1] at lt; exact ltS_irr _ lt
  refine ⟨addM_isG h, h.a.tail, h.b, fun r m => ?_, fun p k => ?_⟩
  · have old : r ∈ rows → (∀ x ∈ A', GR r x) ∨ (∀ x ∈ b :: B', GR r x) := fun m => by
      rcases h.bef r m with z | z
      · exact .inl fun x mx => z x (List.mem_cons_of_mem _ mx)
      · exact .inr z
    unfold addM at m
    split at m
    · split at m
      · rcases List.mem_append.mp m with m | m
        · exact old m
        · rw [List.mem_singleton.mp m]
          exact .inl fun x mx => (pa x mx).left rfl (meet_b a b).2.2.1
      · exact old m
    · exact old m
  · rw [h.cv, addM_cov, cov_cons (r := a)]
    constructor
    · rintro (c | ⟨c | c, c'⟩)
      · exact .inl (.inl c)
      · exact .inl (.inr ⟨c, far p k c c'⟩)
      · exact .inr ⟨c, c'⟩
    · rintro ((c | ⟨c, c'⟩) | ⟨c, c'⟩)
      · exact .inl c
      · exact .inr ⟨.inl c, cov_cons.mpr (.inl c')⟩
      · exact .inr ⟨.inr c, c'⟩
theorem CI.stepB {A B rows A' B' : List Rw} {a b : Rw} (h : CI A B rows (a :: A') (b :: B')) (le : leSI (a.1, a.2.2) (b.1, b.2.2) = false) : CI A B (addM rows a b) (a :: A') B' := by
  have pa := (List.pairwise_cons.mp h.a.2).1
  have pb := (List.pairwise_cons.mp h.b.2).1
  have ord : (a.1 = b.1 ∧ b.2.2 < a.2.2) ∨ ltS b.1 a.1 := by
    unfold leSI at le
    by_cases e : a.1 = b.1
    · rw [if_pos e] at le
      have z : ¬ a.2.2 ≤ b.2.2 := of_decide_eq_false le
      exact .inl ⟨e, by omega⟩
    · rw [if_neg e] at le
      exact .inr (by
        have z : decide (b.1.cps.toList < a.1.cps.toList) = true := by simpa using le
        exact of_decide_eq_true z)
  have far : ∀ p k, covR b p k → cov (a :: A') p k → covR a p k := by
    intro p k cb ca
    rw [cov_cons] at ca
    rcases ca with ca | ⟨x, mx, cx⟩
    · exact ca
    · have z := pa x mx
      obtain ⟨e1, h1, h2⟩ := cb
      obtain ⟨e2, h3, h4⟩ := cx
      exfalso
      rcases ord with ⟨e, l⟩ | l
      · rcases z with z | ⟨_, z⟩
        · rw [e, e1, e2] at z; exact ltS_irr _ z
        · omega
      · rcases z with z | ⟨z, _⟩
        · have := ltS_tr l z
          rw [e1, e2] at this; exact ltS_irr _ this
        · rw [z, e1, e2] at l; exact ltS_irr _ l
  refine ⟨addM_isG h, h.a, h.b.tail, fun r m => ?_, fun p k => ?_⟩
  · have old : r ∈ rows → (∀ x ∈ a :: A', GR r x) ∨ (∀ x ∈ B', GR r x) := fun m => by
      rcases h.bef r m with z | z
      · exact .inl z
      · exact .inr fun x mx => z x (List.mem_cons_of_mem _ mx)
    unfold addM at m
    split at m
    · rename_i e
      split at m
      · rcases List.mem_append.mp m with m | m
        · exact old m
        · rw [List.mem_singleton.mp m]
          exact .inr fun x mx => (pb x mx).left e (meet_b a b).2.2.2
      · exact old m
    · exact old m
  · rw [h.cv, addM_cov, cov_cons (r := b)]
    constructor
    · rintro (c | ⟨c, c' | c'⟩)
      · exact .inl (.inl c)
      · exact .inl (.inr ⟨far p k c' c, c'⟩)
      · exact .inr ⟨c, c'⟩
    · rintro ((c | ⟨c, c'⟩) | ⟨c, c'⟩)
      · exact .inl c
      · exact .inr ⟨cov_cons.mpr (.inl c), .inl c'⟩
      · exact .inr ⟨c, .inr c'⟩
theorem addM_len (rows : List Rw) (a b : Rw) : (addM rows a b).length ≤ rows.length + 1 := by
  unfold addM
  split
  · split
    · simp
    · simp
  · simp
theorem whileN_s' {σ : Type} {n : Nat} {s : σ} {t : σ → Res Bool} {f : σ → Res σ} : whileN (n + 1) s t f = (t s).bind fun b => br b ((f s).bind fun s' => whileN n s' t f) (.ok s) := rfl
theorem common_while {A B : List Rw} {t : List Rw × Int × Int → Res Bool} {f : List Rw × Int × Int → Res (List Rw × Int × Int)}
    (ht : ∀ rows (i j : Nat), t (rows, (i : Int), (j : Int)) = .ok (decide (i < A.length) && decide (j < B.length)))
    (hf : ∀ rows (i j : Nat) a b, A[i]? = some a → B[j]? = some b → rows.length ≤ 1000 → f (rows, (i : Int), (j : Int)) = .ok (if leSI (a.1, a.2.2) (b.1, b.2.2) = true then (addM rows a b, ((i + 1 : Nat) : Int), (j : Int)) else (addM rows a b, (i : Int), ((j + 1 : Nat) : Int)))) :
    ∀ (n : Nat) (rows : List Rw) (i j : Nat), (A.length - i) + (B.length - j) < n → rows.length + ((A.length - i) + (B.length - j)) ≤ 1000 → CI A B rows (A.drop i) (B.drop j) → Ok (whileN n ((rows, (i : Int), (j : Int)) : List Rw × Int × Int) t f) (fun s => isG s.1 ∧ s.1.length ≤ 1000 ∧ ∀ p k, cov s.1 p k ↔ cov A p k ∧ cov B p k) := by
  intro n
  induction n with
  | zero => intro rows i j h; exact absurd h (Nat.not_lt_zero _)
  | succ n ih =>
    intro rows i j h hl ci
    rw [whileN_s', ht, bind_ok]
    by_cases hi : i < A.length
    · by_cases hj : j < B.length
      · rw [decide_eq_true hi, decide_eq_true hj]
        have ea : A.drop i = A[i] :: A.drop (i + 1) := List.drop_eq_getElem_cons hi
        have eb : B.drop j = B[j] :: B.drop (j + 1) := List.drop_eq_getElem_cons hj
        have al := addM_len rows A[i] B[j]
        rw [ea, eb] at ci
        show Ok ((f (rows, (i : Int), (j : Int))).bind _) _
        rw [hf rows i j _ _ (List.getElem?_eq_getElem hi) (List.getElem?_eq_getElem hj) (by omega), bind_ok]
        cases le : leSI (A[i].1, A[i].2.2) (B[j].1, B[j].2.2) with
        | true =>
          rw [if_pos rfl]
          refine ih _ (i + 1) j (by omega) (by omega) ?_
          rw [eb]
          exact ci.stepA le
        | false =>
          rw [if_neg (by decide)]
          refine ih _ i (j + 1) (by omega) (by omega) ?_
          rw [ea]
          exact ci.stepB le
      · rw [decide_eq_false hj, Bool.and_false, br_false]
        have e : B.drop j = [] := List.drop_eq_nil_of_le (by omega)
        rw [e] at ci
        refine Ok.ret ⟨ci.g, by show rows.length ≤ 1000; omega, fun p k => ?_⟩
        rw [ci.cv]
        exact ⟨.inl, fun h => h.resolve_right fun c => cov_nil c.2⟩
    · rw [decide_eq_false hi, Bool.false_and, br_false]
      have e : A.drop i = [] := List.drop_eq_nil_of_le (by omega)
      rw [e] at ci
      refine Ok.ret ⟨ci.g, by show rows.length ≤ 1000; omega, fun p k => ?_⟩
      rw [ci.cv]
      exact ⟨.inl, fun h => h.resolve_right fun c => cov_nil c.1⟩
end Kb
/-! Ki: a ground without another -/
namespace Kb
open PySem L2
/-- b ends ahead of a's begin -/
def Bf (b a : Rw) : Prop := ltS b.1 a.1 ∨ (b.1 = a.1 ∧ b.2.2 ≤ a.2.1)
theorem Bf.nc {b a : Rw} (h : Bf b a) {p x} (c : covR a p x) : ¬ covR b p x := by
  rintro ⟨e, h1, h2⟩
  obtain ⟨e', g1, g2⟩ := c
  rcases h with h | ⟨_, h⟩
  · rw [e, e'] at h; exact ltS_irr _ h
  · omega
theorem Bf.on {b a a' : Rw} (h : Bf b a) (ga : gd a) (g : GR a a') : Bf b a' := by
  unfold gd at ga
  rcases h with h | ⟨e, h⟩ <;> rcases g with g | ⟨e', g⟩
  · exact .inl (ltS_tr h g)
  · exact .inl (e' ▸ h)
  · exact .inl (by rw [e]; exact g)
  · exact .inr ⟨e.trans e', by omega⟩
theorem le_bf {b a : Rw} (h : leSI (b.1, b.2.2) (a.1, a.2.1) = true) : Bf b a := by
  unfold leSI at h
  by_cases e : b.1 = a.1
  · rw [if_pos e] at h
    exact .inr ⟨e, of_decide_eq_true h⟩
  · rw [if_neg e, Bool.not_eq_true'] at h
    have nl : ¬ ltS a.1 b.1 := of_decide_eq_false h
    refine .inl ?_
    by_cases y : ltS b.1 a.1
    · exact y
    · exact absurd (ltS_tot y nl) e
/-- b does not end ahead of a's begin -/
def Nb (b a : Rw) : Prop := ltS a.1 b.1 ∨ (b.1 = a.1 ∧ a.2.1 < b.2.2)
theorem nle_nb {b a : Rw} (h : leSI (b.1, b.2.2) (a.1, a.2.1) = false) : Nb b a := by
  unfold leSI at h
  by_cases e : b.1 = a.1
  · rw [if_pos e] at h
    have z : ¬ b.2.2 ≤ a.2.1 := of_decide_eq_false h
    exact .inr ⟨e, by omega⟩
  · rw [if_neg e] at h
    have z : decide (a.1.cps.toList < b.1.cps.toList) = true := by simpa using h
    exact .inl (of_decide_eq_true z)
theorem Nb.on {b b' a : Rw} (h : Nb b a) (gb : gd b) (gb' : gd b') (g : GR b b') : Nb b' a := by
  unfold gd at gb gb'
  rcases h with h | ⟨e, h⟩ <;> rcases g with g | ⟨e', g⟩
  · exact .inl (ltS_tr h g)
  · exact .inl (e' ▸ h)
  · exact .inl (by rw [← e]; exact g)
  · exact .inr ⟨e'.symm.trans e, by omega⟩
theorem lt_hit {b a : Rw} (n : Nb b a) (h : ltSI (b.1, b.2.1) (a.1, a.2.2) = true) : b.1 = a.1 ∧ b.2.1 < a.2.2 := by
  unfold ltSI at h
  by_cases e : b.1 = a.1
  · rw [if_pos e] at h
    exact ⟨e, of_decide_eq_true h⟩
  · rw [if_neg e] at h
    have z : ltS b.1 a.1 := of_decide_eq_true h
    rcases n with n | ⟨n, _⟩
    · exact absurd (ltS_tr z n) (ltS_irr _)
    · exact absurd n e
theorem nlt_far {b a : Rw} (h : ltSI (b.1, b.2.1) (a.1, a.2.2) = false) {p x} (c : covR a p x) : ¬ covR b p x := by
  unfold ltSI at h
  rintro ⟨e1, h1, h2⟩
  obtain ⟨e2, g1, g2⟩ := c
  have e : b.1 = a.1 := e1.trans e2.symm
  rw [if_pos e] at h
  have z : ¬ b.2.1 < a.2.2 := of_decide_eq_false h
  omega
theorem nlt_far' {b b' a : Rw} (n : Nb b a) (gb : gd b) (h : ltSI (b.1, b.2.1) (a.1, a.2.2) = false) (g : GR b b') {p x} (c : covR a p x) : ¬ covR b' p x := by
  unfold ltSI at h
  unfold gd at gb
  rintro ⟨e1, h1, h2⟩
  obtain ⟨e2, g1, g2⟩ := c
  have e : b'.1 = a.1 := e1.trans e2.symm
  by_cases q : b.1 = a.1
  · rw [if_pos q] at h
    have z : ¬ b.2.1 < a.2.2 := of_decide_eq_false h
    rcases g with g | ⟨_, g⟩
    · rw [q, e] at g; exact ltS_irr _ g
    · omega
  · have lt : ltS a.1 b.1 := n.resolve_right fun z => q z.1
    rcases g with g | ⟨g, _⟩
    · rw [e] at g; exact ltS_irr _ (ltS_tr lt g)
    · rw [g, e] at lt; exact ltS_irr _ lt
/-- the inner loop's invariant: rows0 what stood, rows what stands, at the first cell of a not yet told, B1 ++ B2 = B -/
structure WI (B rows0 A2 : List Rw) (a : Rw) (rows : List Rw) (at_ : Int) (B1 B2 : List Rw) : Prop where
  g : isG rows
  lo : a.2.1 ≤ at_
  bef : ∀ q ∈ rows, ltS q.1 a.1 ∨ (q.1 = a.1 ∧ q.2.2 < at_)
  fut : ∀ q ∈ rows, ∀ a' ∈ A2, GR q a'
  cv : ∀ p x, cov rows p x ↔ cov rows0 p x ∨ (covR a p x ∧ x < at_ ∧ ¬ cov B p x)
  past : ∀ p x, covR a p x → at_ ≤ x → ¬ cov B1 p x
  nb : ∀ b ∈ B2, Nb b a
  gb : isG B2
  eB : ∀ p x, cov B p x ↔ cov B1 p x ∨ cov B2 p x
theorem WI.row {B rows0 A2 rows B1 B2 : List Rw} {a : Rw} {at_ e : Int} (w : WI B rows0 A2 a rows at_ B1 B2) (ga : gd a) (h : at_ < e) : isG (rows ++ [(a.1, at_, e)]) := by
  unfold gd at ga
  have lo := w.lo
  refine w.g.snoc ⟨by show 0 ≤ at_; omega, h⟩ fun q m => ?_
  rcases w.bef q m with z | z
  · exact .inl z
  · exact .inr z
theorem WI.turn {B rows0 A2 rows B1 B2 : List Rw} {a b : Rw} {at_ : Int} (w : WI B rows0 A2 a rows at_ B1 (b :: B2)) (ga : gd a) (ha2 : ∀ a' ∈ A2, GR a a') (hit : ltSI (b.1, b.2.1) (a.1, a.2.2) = true) :
    WI B rows0 A2 a (if at_ < b.2.1 then rows ++ [(a.1, at_, b.2.1)] else rows) (if b.2.2 > at_ then b.2.2 else at_) (B1 ++ [b]) B2 := by
  obtain ⟨eb, hb⟩ := lt_hit (w.nb b List.mem_cons_self) hit
  have gb := w.gb.1 b List.mem_cons_self
  have pb := (List.pairwise_cons.mp w.gb.2).1
  have lo := w.lo
  have hm : at_ ≤ (if b.2.2 > at_ then b.2.2 else at_) ∧ b.2.2 ≤ (if b.2.2 > at_ then b.2.2 else at_) ∧ ((if b.2.2 > at_ then b.2.2 else at_) = at_ ∨ (if b.2.2 > at_ then b.2.2 else at_) = b.2.2) := by
    split <;> omega
  generalize (if b.2.2 > at_ then b.2.2 else at_) = m at hm
  unfold gd at gb
  -- the gap ahead of b is free
  have free : ∀ p x, covR a p x → at_ ≤ x → x < b.2.1 → ¬ cov B p x := by
    intro p x c h1 h2 cb
    rcases (w.eB p x).mp cb with cb | cb
    · exact w.past p x c h1 cb
    · rw [cov_cons] at cb
      rcases cb with ⟨_, z, _⟩ | ⟨y, my, e, z1, z2⟩
      · omega
      · rcases pb y my with z | ⟨_, z⟩
        · rw [eb, e, c.1] at z; exact ltS_irr _ z
        · omega
  have cvn : ∀ p x, (cov rows0 p x ∨ (covR a p x ∧ x < m ∧ ¬ cov B p x)) ↔ (cov rows p x ∨ (covR a p x ∧ at_ ≤ x ∧ x < b.2.1)) := by
    intro p x
    rw [w.cv]
    constructor
    · rintro (c | ⟨c, h1, h2⟩)
      · exact .inl (.inl c)
      · by_cases y : x < at_
        · exact .inl (.inr ⟨c, y, h2⟩)
        · refine .inr ⟨c, by omega, ?_⟩
          by_cases z : x < b.2.1
          · exact z
          · exact absurd ((w.eB p x).mpr (.inr (cov_cons.mpr (.inl ⟨eb.trans c.1, by omega, by omega⟩)))) h2
    · rintro ((c | ⟨c, h1, h2⟩) | ⟨c, h1, h2⟩)
      · exact .inl c
      · exact .inr ⟨c, by omega, h2⟩
      · exact .inr ⟨c, by omega, free p x c h1 h2⟩
  refine ⟨?_, by omega, ?_, ?_, fun p x => ?_, fun p x c h1 => ?_, fun y my => w.nb y (List.mem_cons_of_mem _ my), w.gb.tail, fun p x => ?_⟩
  · split
    · rename_i h; exact w.row ga h
    · exact w.g
  · intro q hq
    have old : q ∈ rows → ltS q.1 a.1 ∨ (q.1 = a.1 ∧ q.2.2 < m) := fun mq => (w.bef q mq).imp id fun z => ⟨z.1, by omega⟩
    split at hq
    · rcases List.mem_append.mp hq with hq | hq
      · exact old hq
      · rw [List.mem_singleton.mp hq]
        exact .inr ⟨rfl, by show b.2.1 < m; omega⟩
    · exact old hq
  · intro q hq a' ma
    split at hq
    · rcases List.mem_append.mp hq with hq | hq
      · exact w.fut q hq a' ma
      · rw [List.mem_singleton.mp hq]
        exact (ha2 a' ma).left rfl (by show b.2.1 ≤ a.2.2; omega)
    · exact w.fut q hq a' ma
  · rw [cvn]
    split
    · rw [cov_app, cov_one]
      constructor
      · rintro (c | ⟨c1, c2, c3⟩)
        · exact .inl c
        · exact .inr ⟨⟨c1, by have : at_ ≤ x := c2; omega, by have : x < b.2.1 := c3; omega⟩, c2, c3⟩
      · rintro (c | ⟨c, h1, h2⟩)
        · exact .inl c
        · exact .inr ⟨c.1, h1, h2⟩
    · rename_i h
      exact ⟨.inl, fun z => z.resolve_right fun ⟨_, h1, h2⟩ => h (by omega)⟩
  · rw [cov_app, cov_one]
    rintro (z | ⟨_, z1, z2⟩)
    · exact w.past p x c (by omega) z
    · omega
  · rw [w.eB, cov_cons, cov_app, cov_one, or_assoc]
theorem WI.stop {B rows0 A2 rows B1 B2 : List Rw} {a : Rw} {at_ : Int} (w : WI B rows0 A2 a rows at_ B1 B2) (ga : gd a) (ha2 : ∀ a' ∈ A2, GR a a') (far : ∀ p x, covR a p x → ¬ cov B2 p x) :
    isG (if at_ < a.2.2 then rows ++ [(a.1, at_, a.2.2)] else rows) ∧ (∀ q ∈ (if at_ < a.2.2 then rows ++ [(a.1, at_, a.2.2)] else rows), ∀ a' ∈ A2, GR q a') ∧ ∀ p x, cov (if at_ < a.2.2 then rows ++ [(a.1, at_, a.2.2)] else rows) p x ↔ cov rows0 p x ∨ (covR a p x ∧ ¬ cov B p x) := by
  have lo := w.lo
  have nc : ∀ p x, covR a p x → at_ ≤ x → ¬ cov B p x := fun p x c h cb => by
    rcases (w.eB p x).mp cb with cb | cb
    · exact w.past p x c h cb
    · exact far p x c cb
  refine ⟨?_, fun q hq a' ma => ?_, fun p x => ?_⟩
  · split
    · rename_i h; exact w.row ga h
    · exact w.g
  · split at hq
    · rcases List.mem_append.mp hq with hq | hq
      · exact w.fut q hq a' ma
      · rw [List.mem_singleton.mp hq]
        exact (ha2 a' ma).left rfl (Int.le_refl _)
    · exact w.fut q hq a' ma
  · have tail : (cov rows p x ∨ (covR a p x ∧ at_ ≤ x)) ↔ cov rows0 p x ∨ (covR a p x ∧ ¬ cov B p x) := by
      rw [w.cv]
      constructor
      · rintro ((c | ⟨c, h1, h2⟩) | ⟨c, h⟩)
        · exact .inl c
        · exact .inr ⟨c, h2⟩
        · exact .inr ⟨c, nc p x c h⟩
      · rintro (c | ⟨c, h⟩)
        · exact .inl (.inl c)
        · by_cases y : x < at_
          · exact .inl (.inr ⟨c, y, h⟩)
          · exact .inr ⟨c, by omega⟩
    rw [← tail]
    split
    · rw [cov_app, cov_one]
      constructor
      · rintro (c | ⟨c1, c2, c3⟩)
        · exact .inl c
        · exact .inr ⟨⟨c1, by have : at_ ≤ x := c2; omega, c3⟩, c2⟩
      · rintro (c | ⟨c, h1⟩)
        · exact .inl c
        · exact .inr ⟨c.1, h1, c.2.2⟩
    · rename_i h
      exact ⟨.inl, fun z => z.resolve_right fun ⟨c, h1⟩ => by have := c.2.2; omega⟩
end Kb
/-! Kj: the loops of `without`; sizes -/
namespace Kb
open PySem L2
theorem isG.drop {g : List Rw} (h : isG g) (i : Nat) : isG (g.drop i) := ⟨fun r m => h.1 r (List.mem_of_mem_drop m), h.2.sublist (List.drop_sublist i g)⟩
theorem skip_while {B : List Rw} {a : Rw} {t : Int → Res Bool} {f : Int → Res Int} (ht : ∀ (j : Nat) b, B[j]? = some b → t (j : Int) = .ok (leSI (b.1, b.2.2) (a.1, a.2.1))) (ht0 : ∀ j : Nat, B.length ≤ j → t (j : Int) = .ok false) (hf : ∀ j : Nat, f (j : Int) = .ok ((j + 1 : Nat) : Int)) :
    ∀ (n j : Nat), B.length - j < n → j ≤ B.length → (∀ b ∈ B.take j, Bf b a) → Ok (whileN n (j : Int) t f) (fun s => ∃ j' : Nat, s = (j' : Int) ∧ j' ≤ B.length ∧ (∀ b ∈ B.take j', Bf b a) ∧ ∀ b, B[j']? = some b → Nb b a) := by
  intro n
  induction n with
  | zero => intro j h; exact absurd h (Nat.not_lt_zero _)
  | succ n ih =>
    intro j h hj hb
    rw [whileN_s']
    by_cases hlt : j < B.length
    · have e := List.getElem?_eq_getElem hlt
      rw [ht j _ e, bind_ok]
      cases le : leSI (B[j].1, B[j].2.2) (a.1, a.2.1) with
      | true =>
        rw [br_true, hf, bind_ok]
        refine ih (j + 1) (by omega) hlt fun b m => ?_
        rw [List.take_add_one, e] at m
        rcases List.mem_append.mp m with m | m
        · exact hb b m
        · rw [List.mem_singleton.mp (show b ∈ [B[j]] from m)]
          exact le_bf le
      | false =>
        rw [br_false]
        exact Ok.ret ⟨j, rfl, hj, hb, fun b eb => by rw [e] at eb; rw [← Option.some.inj eb]; exact nle_nb le⟩
    · rw [ht0 j (by omega), bind_ok, br_false]
      exact Ok.ret ⟨j, rfl, hj, hb, fun b eb => by rw [List.getElem?_eq_none (by omega)] at eb; cases eb⟩
theorem hit_while {B rows0 A2 : List Rw} {a : Rw} (ga : gd a) (ha2 : ∀ a' ∈ A2, GR a a') {t : List Rw × Int × Int → Res Bool} {f : List Rw × Int × Int → Res (List Rw × Int × Int)}
    (ht : ∀ rows at_ (k : Nat) b, B[k]? = some b → t (rows, at_, (k : Int)) = .ok (ltSI (b.1, b.2.1) (a.1, a.2.2))) (ht0 : ∀ rows at_ (k : Nat), B.length ≤ k → t (rows, at_, (k : Int)) = .ok false)
    (hf : ∀ rows at_ (k : Nat) b, B[k]? = some b → rows.length ≤ 100000 → f (rows, at_, (k : Int)) = .ok ((if at_ < b.2.1 then rows ++ [(a.1, at_, b.2.1)] else rows), (if b.2.2 > at_ then b.2.2 else at_), ((k + 1 : Nat) : Int))) :
    ∀ (n : Nat) (rows : List Rw) (at_ : Int) (k : Nat), B.length - k < n → rows.length + (B.length - k) ≤ 100000 → WI B rows0 A2 a rows at_ (B.take k) (B.drop k) →
      Ok (whileN n ((rows, at_, (k : Int)) : List Rw × Int × Int) t f) (fun s => s.1.length ≤ rows.length + (B.length - k) ∧ ∃ B1 B2, WI B rows0 A2 a s.1 s.2.1 B1 B2 ∧ ∀ p x, covR a p x → ¬ cov B2 p x) := by
  intro n
  induction n with
  | zero => intro rows at_ k h; exact absurd h (Nat.not_lt_zero _)
  | succ n ih =>
    intro rows at_ k h hl w
    rw [whileN_s']
    by_cases hlt : k < B.length
    · have e := List.getElem?_eq_getElem hlt
      have ed : B.drop k = B[k] :: B.drop (k + 1) := List.drop_eq_getElem_cons hlt
      rw [ed] at w
      rw [ht _ _ k _ e, bind_ok]
      cases le : ltSI (B[k].1, B[k].2.1) (a.1, a.2.2) with
      | true =>
        have w' := w.turn ga ha2 le
        have et : B.take (k + 1) = B.take k ++ [B[k]] := by rw [List.take_add_one, e]; rfl
        rw [← et] at w'
        rw [br_true, hf _ _ k _ e (by omega), bind_ok]
        have len : (if at_ < B[k].2.1 then rows ++ [(a.1, at_, B[k].2.1)] else rows).length ≤ rows.length + 1 := by split <;> simp
        refine (ih _ _ (k + 1) (by omega) (by omega) w').imp fun s hs => ⟨by have := hs.1; omega, hs.2⟩
      | false =>
        rw [br_false]
        refine Ok.ret ⟨by show rows.length ≤ _; omega, _, _, w, fun p x c z => ?_⟩
        rw [cov_cons] at z
        rcases z with z | ⟨y, my, z⟩
        · exact nlt_far le c z
        · exact nlt_far' (w.nb _ List.mem_cons_self) (w.gb.1 _ List.mem_cons_self) le ((List.pairwise_cons.mp w.gb.2).1 y my) c z
    · rw [ht0 _ _ k (by omega), bind_ok, br_false]
      have e : B.drop k = [] := List.drop_eq_nil_of_le (by omega)
      rw [e] at w
      exact Ok.ret ⟨by show rows.length ≤ _; omega, _, _, w, fun p x _ => cov_nil⟩
theorem WI.start {B rows A2 : List Rw} {a : Rw} {j : Nat} (hB : isG B) (hg : isG rows) (ga : gd a) (h1 : ∀ q ∈ rows, GR q a) (h2 : ∀ q ∈ rows, ∀ a' ∈ A2, GR q a') (hb : ∀ b ∈ B.take j, Bf b a) (hn : ∀ b, B[j]? = some b → Nb b a) : WI B rows A2 a rows a.2.1 (B.take j) (B.drop j) where
  g := hg
  lo := Int.le_refl _
  bef q m := h1 q m
  fut := h2
  cv p x := ⟨.inl, fun h => h.resolve_right fun ⟨c, z, _⟩ => by have := c.2.1; omega⟩
  past p x c _ := fun ⟨b, m, cb⟩ => (hb b m).nc c cb
  nb := by
    intro b m
    by_cases hj : j < B.length
    · have ed : B.drop j = B[j] :: B.drop (j + 1) := List.drop_eq_getElem_cons hj
      have hG := hB.drop j
      rw [ed] at m hG
      have h0 := hn _ (List.getElem?_eq_getElem hj)
      rcases List.mem_cons.mp m with rfl | m
      · exact h0
      · exact h0.on (hG.1 _ List.mem_cons_self) (hG.1 b (List.mem_cons_of_mem _ m)) ((List.pairwise_cons.mp hG.2).1 b m)
    · rw [List.drop_eq_nil_of_le (by omega)] at m; cases m
  gb := hB.drop j
  eB p x := by rw [← cov_app, List.take_append_drop]
/-! #### sizes -/
def sz (g : List Rw) : Int := List.sum (g.map fun r => r.2.2 - r.2.1)
/-- how many of the cells are covered -/
def ind (c : Prop) [Decidable c] : Int := if c then 1 else 0
theorem ind_iff {c d : Prop} [Decidable c] [Decidable d] (h : c ↔ d) : ind c = ind d := by
  unfold ind
  by_cases y : d
  · rw [if_pos (h.mpr y), if_pos y]
  · rw [if_neg (fun z => y (h.mp z)), if_neg y]
instance {r : Rw} {p : PySem.Str} {x : Int} : Decidable (covR r p x) := inferInstanceAs (Decidable (r.1 = p ∧ r.2.1 ≤ x ∧ x < r.2.2))
def cnt (U : List (PySem.Str × Int)) (q : PySem.Str × Int → Int) : Int := List.sum (U.map q)
theorem cnt_add {U : List (PySem.Str × Int)} {q r : PySem.Str × Int → Int} : cnt U (fun u => q u + r u) = cnt U q + cnt U r := by
  unfold cnt
  induction U with
  | nil => rfl
  | cons u U ih => simp only [List.map_cons, List.sum_cons]; omega
theorem cnt_eq {U : List (PySem.Str × Int)} {q r : PySem.Str × Int → Int} (h : ∀ u ∈ U, q u = r u) : cnt U q = cnt U r := by
  unfold cnt
  rw [List.map_congr_left h]
theorem cnt_app {U V : List (PySem.Str × Int)} {q : PySem.Str × Int → Int} : cnt (U ++ V) q = cnt U q + cnt V q := by
  unfold cnt
  rw [List.map_append, List.sum_append]
theorem cnt_zero {U : List (PySem.Str × Int)} {q : PySem.Str × Int → Int} (h : ∀ u ∈ U, q u = 0) : cnt U q = 0 := by
  unfold cnt
  induction U with
  | nil => rfl
  | cons u U ih =>
    rw [List.map_cons, List.sum_cons, h u List.mem_cons_self, ih fun v m => h v (List.mem_cons_of_mem _ m)]
    rfl
/-- the cells of the pieces up to M -/
def univ (ps : List PySem.Str) (M : Nat) : List (PySem.Str × Int) := ps.flatMap fun p => (List.range M).map fun k : Nat => (p, (k : Int))
theorem cnt_line {p : PySem.Str} {b e : Int} (h0 : 0 ≤ b) (h1 : b < e) : ∀ M : Nat, cnt ((List.range M).map fun k : Nat => (p, (k : Int))) (fun u => ind (b ≤ u.2 ∧ u.2 < e)) = (if (M : Int) ≤ b then 0 else if (M : Int) ≤ e then M - b else e - b)
  | 0 => by
    rw [if_pos (by omega)]
    rfl
  | M + 1 => by
    rw [List.range_succ, List.map_append, cnt_app, cnt_line h0 h1 M]
    have e1 : cnt ([M].map fun k => (p, ((k : Nat) : Int))) (fun u => ind (b ≤ u.2 ∧ u.2 < e)) = ind (b ≤ (M : Int) ∧ (M : Int) < e) := by
      unfold cnt
      simp
    rw [e1]
    unfold ind
    split <;> split <;> (try split) <;> (try split) <;> (try split) <;> omega
theorem cnt_row {r : Rw} {ps : List PySem.Str} {M : Nat} (hr : gd r) (hM : r.2.2 ≤ M) (hp : r.1 ∈ ps) (nd : ps.Nodup) : cnt (univ ps M) (fun u => ind (covR r u.1 u.2)) = r.2.2 - r.2.1 := by
  unfold gd at hr
  induction ps with
  | nil => cases hp
  | cons p ps ih =>
    obtain ⟨n1, n2⟩ := List.nodup_cons.mp nd
    have split' : univ (p :: ps) M = ((List.range M).map fun k : Nat => (p, (k : Int))) ++ univ ps M := rfl
    rw [split', cnt_app]
    by_cases e : r.1 = p
    · have z : cnt (univ ps M) (fun u => ind (covR r u.1 u.2)) = 0 := cnt_zero fun u mu => by
        obtain ⟨q, mq, mu⟩ := List.mem_flatMap.mp mu
        obtain ⟨k, _, rfl⟩ := List.mem_map.mp mu
        unfold ind
        rw [if_neg]
        rintro ⟨c, _⟩
        rw [e] at c
        exact n1 (c ▸ mq)
      rw [z]
      have l := cnt_line (p := p) (b := r.2.1) (e := r.2.2) hr.1 hr.2 M
      rw [cnt_eq (r := fun u => ind (r.2.1 ≤ u.2 ∧ u.2 < r.2.2)) fun u mu => by
        obtain ⟨k, _, rfl⟩ := List.mem_map.mp mu
        exact ind_iff ⟨fun y => y.2, fun y => ⟨e, y⟩⟩, l]
      rw [if_neg (by omega)]
      split <;> omega
    · have z : cnt ((List.range M).map fun k : Nat => (p, (k : Int))) (fun u => ind (covR r u.1 u.2)) = 0 := cnt_zero fun u mu => by
        obtain ⟨k, _, rfl⟩ := List.mem_map.mp mu
        unfold ind
        rw [if_neg]
        rintro ⟨c, _⟩
        exact e c
      rw [z, ih ((List.mem_cons.mp hp).resolve_left e) n2]
      omega
theorem cnt_ground {ps : List PySem.Str} {M : Nat} (nd : ps.Nodup) : ∀ {g : List Rw}, isG g → (∀ r ∈ g, r.2.2 ≤ M ∧ r.1 ∈ ps) → cnt (univ ps M) (fun u => ind (cov g u.1 u.2)) = sz g
  | [], _, _ => cnt_zero fun u _ => by unfold ind; rw [if_neg cov_nil]
  | r :: g, hg, hb => by
    have ih := cnt_ground nd (g := g) hg.tail fun q m => hb q (List.mem_cons_of_mem _ m)
    have hr := cnt_row (hg.1 r List.mem_cons_self) (hb r List.mem_cons_self).1 (hb r List.mem_cons_self).2 nd
    have e : sz (r :: g) = (r.2.2 - r.2.1) + sz g := by unfold sz; rw [List.map_cons, List.sum_cons]
    rw [e, ← hr, ← ih, ← cnt_add]
    refine cnt_eq fun u _ => ?_
    unfold ind
    by_cases c : covR r u.1 u.2
    · have n : ¬ cov g u.1 u.2 := fun z => GR.disG (List.pairwise_cons.mp hg.2).1 z c
      rw [if_pos (cov_cons.mpr (.inl c)), if_pos c, if_neg n]
      rfl
    · by_cases d : cov g u.1 u.2
      · rw [if_pos (cov_cons.mpr (.inr d)), if_neg c, if_pos d]
        rfl
      · rw [if_neg (fun z => (cov_cons.mp z).elim c d), if_neg c, if_neg d]
        rfl
/-- a bound for the cells of many rows -/
theorem bounds (g : List Rw) : ∃ (M : Nat) (ps : List PySem.Str), ps.Nodup ∧ ∀ r ∈ g, r.2.2 ≤ M ∧ r.1 ∈ ps := by
  induction g with
  | nil => exact ⟨0, [], .nil, fun r m => (by cases m)⟩
  | cons r g ih =>
    obtain ⟨M, ps, nd, h⟩ := ih
    by_cases m : r.1 ∈ ps
    · refine ⟨max M r.2.2.toNat, ps, nd, fun q mq => ?_⟩
      rcases List.mem_cons.mp mq with rfl | mq
      · exact ⟨by omega, m⟩
      · exact ⟨by have := (h q mq).1; omega, (h q mq).2⟩
    · refine ⟨max M r.2.2.toNat, r.1 :: ps, List.nodup_cons.mpr ⟨m, nd⟩, fun q mq => ?_⟩
      rcases List.mem_cons.mp mq with rfl | mq
      · exact ⟨by omega, List.mem_cons_self⟩
      · exact ⟨by have := (h q mq).1; omega, List.mem_cons_of_mem _ (h q mq).2⟩
/-- sizes add up where the cells do -/
theorem sz_add {a b c d : List Rw} (ha : isG a) (hb : isG b) (hc : isG c) (hd : isG d) (h : ∀ p x, ind (cov a p x) + ind (cov b p x) = ind (cov c p x) + ind (cov d p x)) : sz a + sz b = sz c + sz d := by
  obtain ⟨M, ps, nd, hm⟩ := bounds (a ++ b ++ c ++ d)
  have mm : ∀ {g : List Rw}, (∀ r ∈ g, r ∈ a ++ b ++ c ++ d) → ∀ r ∈ g, r.2.2 ≤ M ∧ r.1 ∈ ps := fun hs r m => hm r (hs r m)
  rw [← cnt_ground nd ha (mm fun r m => by simp [m]), ← cnt_ground nd hb (mm fun r m => by simp [m]), ← cnt_ground nd hc (mm fun r m => by simp [m]), ← cnt_ground nd hd (mm fun r m => by simp [m]), ← cnt_add, ← cnt_add]
  exact cnt_eq fun u _ => h u.1 u.2
end Kb
namespace Lw
open PySem L2 Kb
theorem check_ok {r : Rw} (h : gd r) : m_check_row r = .ok () := by
  unfold m_check_row
  obtain ⟨h1, h2⟩ := h
  rw [decide_eq_false (show ¬ r.2.1 < 0 by omega), decide_eq_false (show ¬ r.2.2 ≤ r.2.1 by omega)]
  rfl
theorem checks_ok : ∀ {rows : List Rw}, (∀ r ∈ rows, gd r) → forN rows () (fun _ x => (m_check_row x).bind fun _ => .ok ()) = .ok ()
  | [], _ => rfl
  | r :: rows, h => by
    rw [forN_cons, check_ok (h r List.mem_cons_self)]
    exact checks_ok fun q hq => h q (List.mem_cons_of_mem _ hq)
theorem normal_ok {rows : List Rw} (h : ∀ r ∈ rows, gd r) (hl : rows.length ≤ 1000000) : m_normal rows = .ok (nrm rows) := by
  unfold m_normal
  rw [checks_ok h, bind_ok, normal_loop (by rw [(sortK_perm rows).length_eq]; exact hl)]
  rfl
theorem lhas_ok (g : List Rw) (p : PySem.Str) (k : Int) : m_law_has g p k = .ok (decide (cov g p k)) := by
  unfold m_law_has
  exact has_loop g p k
theorem size_ok {g : List Rw} (h : g.length ≤ 1000000) : m_size g = .ok (List.sum (g.map fun r => r.2.2 - r.2.1)) := by
  unfold m_size
  have hz := sizeLine_big
  rw [decide_eq_true (show g.length ≤ sizeLine by omega), chk_true, compN_map (fun r : Rw => r.2.2 - r.2.1) fun x _ => rfl]
  rfl
theorem isg_ok {g : List Rw} (h : isG g) (hl : g.length ≤ 1000000) : m_law_is_ground g = .ok true := by
  refine Ok.eq ?_
  unfold m_law_is_ground
  refine Ok.chk (rngOk_of (by omega) (by omega)) (Ok.forR (fun _ _ => True) (fun _ => False) trivial ?_ ?_ ?_)
  · rintro i s x hx _
    obtain ⟨ex, hi⟩ := rng_get hx
    rw [Int.zero_add] at ex
    subst ex
    have hi' : i < g.length := by omega
    have ea : atI g (i : Int) = some g[i] := atI_of (by omega) (by rw [Int.toNat_natCast]; exact List.getElem?_eq_getElem hi')
    have ga := h.1 g[i] (List.getElem_mem hi')
    have hgi : g[i]? = some g[i] := List.getElem?_eq_getElem hi'
    generalize g[i] = r at ea ga hgi
    unfold gd at ga
    rw [ea]
    have e0 : ((orN (opt (some r) fun x27 => .ok (!true)) (opt (some r) fun x32 => .ok (!decide ((3 : Int) = (3 : Int))))) : Res Bool) = .ok false := rfl
    rw [e0, bind_ok, br_false, opt_some, decide_eq_false (show ¬ r.2.1 < 0 by omega), decide_eq_false (show ¬ r.2.2 ≤ r.2.1 by omega)]
    refine Ok.brF rfl ?_
    cases i with
    | zero => exact Ok.ret trivial
    | succ j =>
      have hj : j < g.length := by omega
      have eb : atI g (((j + 1 : Nat) : Int) - 1) = some g[j] := by
        rw [show (((j + 1 : Nat) : Int) - 1) = (j : Int) from by omega]
        exact atI_of (by omega) (by rw [Int.toNat_natCast]; exact List.getElem?_eq_getElem hj)
      have z := h.pick (List.getElem?_eq_getElem hj) hgi
      generalize g[j] = q at eb z
      rw [eb]
      have n1 : ¬ (r.1.cps.toList < q.1.cps.toList) := fun c => by
        rcases z with z | ⟨z, _⟩
        · exact ltS_irr _ (ltS_tr (x := q.1) (y := r.1) (z := q.1) z c)
        · rw [z] at c; exact ltS_irr _ c
      simp only [opt_some]
      rw [decide_eq_false n1, decide_eq_true (show (0 : Int) < ((j + 1 : Nat) : Int) by omega)]
      by_cases e1 : q.1 = r.1
      · have n2 : ¬ r.2.1 ≤ q.2.2 := fun c => by
          rcases z with z | ⟨_, z⟩
          · rw [e1] at z; exact ltS_irr _ z
          · omega
        rw [decide_eq_true e1, decide_eq_false n2]
        exact Ok.ret trivial
      · rw [decide_eq_false e1]
        exact Ok.ret trivial
  · exact fun s _ => Ok.ret rfl
  · exact fun r h => h.elim
theorem samples_ok {g : List Rw} (hl : g.length ≤ 100000) : Ok (m_law_samples g) (fun _ => True) := by
  unfold m_law_samples
  have hz := sizeLine_big
  refine Ok.forN (fun i (s : List (PySem.Str × Int)) => s.length ≤ 2 + 5 * i) (by simp) ?_ fun s _ => Ok.ret trivial
  rintro i s x hx h
  have hi := (List.getElem?_eq_some_iff.mp hx).1
  refine Ok.forN (fun j (t : List (PySem.Str × Int)) => t.length ≤ 2 + 5 * i + j) (by simpa using h) ?_ fun t ht => Ok.ret (by simp at ht; omega)
  rintro j t y hy ht
  have hj := (List.getElem?_eq_some_iff.mp hy).1
  simp at hj
  refine Ok.bind (R := fun u : List (PySem.Str × Int) => u.length ≤ 2 + 5 * i + (j + 1)) (Ok.br (fun _ => Ok.chkD (by omega) (Ok.ret (by simp; omega))) (fun _ => Ok.ret (by omega))) fun u hu => Ok.ret hu
/-! the law's own numbers -/
theorem cell_ok (ns : List Int) {k : Int} (h0 : 0 ≤ k) (h1 : k ≤ 1000) : ∃ v, m_law_cell ns k = .ok v := by
  unfold m_law_cell
  by_cases h : k < (ns.length : Int)
  · rw [decide_eq_true h]
    obtain ⟨x, e, _⟩ := atI_in h0 h
    exact ⟨x, by rw [br_true, e]; rfl⟩
  · rw [decide_eq_false h, mulOk_of (m := 7) (n := 1000) (by decide) (by omega) (by decide)]
    exact ⟨_, rfl⟩
theorem base_pos {m : Int} (h0 : 0 ≤ m) (h1 : m < 11) : 0 < ((cutS ("northroadsab" : PySem.Str) none (some ((2 : Int) + m))).length : Int) := by
  have h : m = 0 ∨ m = 1 ∨ m = 2 ∨ m = 3 ∨ m = 4 ∨ m = 5 ∨ m = 6 ∨ m = 7 ∨ m = 8 ∨ m = 9 ∨ m = 10 := by omega
  rcases h with rfl | rfl | rfl | rfl | rfl | rfl | rfl | rfl | rfl | rfl | rfl <;> decide +kernel
theorem pieces_ok (c : Int) : Ok (m_law_pieces c) (fun ps => ps.length = 4) := by
  unfold m_law_pieces
  have hz := sizeLine_big
  refine Ok.br (fun _ => Ok.ret rfl) fun _ => ?_
  have m11 := mod_lt' (c / 3) (m := 11) (by decide)
  have bp := base_pos m11.1 m11.2
  have hb : ("northroadsab" : PySem.Str).length = 12 := by decide +kernel
  have bl : (cutS ("northroadsab" : PySem.Str) none (some ((2 : Int) + c / 3 % 11))).length ≤ 12 := hb ▸ cutS_len _ _ _
  have sg : (signs ("xyz" : PySem.Str)).length = 3 := by decide +kernel
  have s1 : ∀ x ∈ signs ("xyz" : PySem.Str), x.length = 1 := by
    intro x hx
    unfold signs at hx
    obtain ⟨n, _, rfl⟩ := List.mem_map.mp hx
    rfl
  generalize cutS ("northroadsab" : PySem.Str) none (some ((2 : Int) + c / 3 % 11)) = b at bp bl
  refine Ok.chkD (by omega) (Ok.chkD (by omega) (Ok.chkD bp (Ok.chkD (by omega) ?_)))
  refine Ok.bind (Ok.compN (R := fun _ _ => True) fun x hx => ?_) fun ys hy => Ok.chkD (by rw [hy.1, sg]; simp; omega) (Ok.ret (by rw [List.length_append, hy.1, sg]; rfl))
  have l1 := cutS_len b none (some (c / 33 % (b.length : Int)))
  have l2 := cutS_len b (some (c / 33 % (b.length : Int) + 1)) none
  have x1 := s1 x hx
  exact Ok.chkD (by omega) (Ok.chkD (by omega) (Ok.chkD (by omega) (Ok.chkD (by rw [cat_len]; omega) (Ok.ret trivial))))
theorem rows_ok (ns : List Int) {at_ n : Int} (h0 : 0 ≤ at_) (h1 : at_ + n ≤ 900) (hn : 0 ≤ n) : Ok (m_law_rows ns at_ n) (fun rows => rows.length = n.toNat ∧ ∀ r ∈ rows, gd r) := by
  unfold m_law_rows
  have hz := sizeLine_big
  refine Ok.chk (rngOk_of (by omega) (by omega)) (Ok.forN (fun i (s : List Rw) => s.length = i ∧ ∀ r ∈ s, gd r) ⟨rfl, fun r hr => (by cases hr)⟩ ?_ ?_)
  · rintro i s x hx ⟨hl, hg⟩
    obtain ⟨ex, hi⟩ := rng_get hx
    obtain ⟨v, ev⟩ := cell_ok ns (k := at_ + x) (by omega) (by omega)
    obtain ⟨w, ew⟩ := cell_ok ns (k := 1) (by omega) (by omega)
    obtain ⟨ps, eps, lps⟩ := pieces_ok w
    obtain ⟨p, ep, _⟩ := pick (xs := ps) (a := v) (m := 4) (by decide) (by rw [lps]; rfl)
    obtain ⟨q, eq, mq⟩ := pick (xs := [(8 : Int), 40, 1000000]) (a := v / 400) (m := 3) (by decide) rfl
    obtain ⟨t, et, mt⟩ := pick (xs := [(4 : Int), 20, 1000000]) (a := v / 400) (m := 3) (by decide) rfl
    have hq : 0 < q := by simp at mq; omega
    have ht : 0 < t := by simp at mt; omega
    rw [ev, bind_ok, ew, bind_ok, eps, bind_ok]
    refine Ok.opt ep (Ok.opt eq (Ok.chkD hq (Ok.opt et (Ok.chkD ht (Ok.chkD (by omega) (Ok.ret ⟨by simp [hl], ?_⟩))))))
    intro r hr
    rcases List.mem_append.mp hr with hr | hr
    · exact hg r hr
    · have e := List.mem_singleton.mp hr
      subst e
      have a1 := mod_lt' (v / 4) hq
      have a2 := mod_lt' (v / 31) ht
      exact ⟨a1.1, by show v / 4 % q < v / 4 % q + (1 + v / 31 % t); omega⟩
  · rintro s ⟨hl, hg⟩
    rw [ints_len] at hl
    exact Ok.ret ⟨hl, hg⟩
theorem neg_decide_eq {a b : Bool} (h : a = b) : (!decide (a = b)) = false := by rw [decide_eq_true h]; rfl
theorem common_ok {A B : List Rw} (hA : isG A) (hB : isG B) (la : A.length ≤ 100) (lb : B.length ≤ 100) : Ok (m_common A B) (fun g => isG g ∧ g.length ≤ 1000 ∧ ∀ p k, cov g p k ↔ cov A p k ∧ cov B p k) := by
  unfold m_common
  have hz := sizeLine_big
  refine Ok.bind (common_while (A := A) (B := B) ?_ ?_ _ [] 0 0 (by omega) (by simp; omega) ⟨isG.nil, hA, hB, fun r m => (by cases m), fun p k => ⟨.inr, fun h => h.resolve_left cov_nil⟩⟩) fun s hs => Ok.ret hs
  · intro rows i j
    have e1 : decide (((rows, (i : Int), (j : Int)) : List Rw × Int × Int).2.1 < (A.length : Int)) = decide (i < A.length) := decide_eq_decide.mpr (by show (i : Int) < _ ↔ _; omega)
    have e2 : decide (((rows, (i : Int), (j : Int)) : List Rw × Int × Int).2.2 < (B.length : Int)) = decide (j < B.length) := decide_eq_decide.mpr (by show (j : Int) < _ ↔ _; omega)
    rw [e1, e2]
    cases decide (i < A.length) <;> cases decide (j < B.length) <;> rfl
  · intro rows i j a b ha hb hl
    have ea : atI A (i : Int) = some a := atI_of (by omega) (by rw [Int.toNat_natCast]; exact ha)
    have eb : atI B (j : Int) = some b := atI_of (by omega) (by rw [Int.toNat_natCast]; exact hb)
    have hlt : decide (rows.length < sizeLine) = true := decide_eq_true (by omega)
    dsimp only
    simp only [ea, eb, opt_some, hlt, chk_true]
    by_cases e : a.1 = b.1
    · rw [decide_eq_true e, br_true]
      by_cases l : (meet a b).2.1 < (meet a b).2.2
      · have l' : decide ((if b.2.1 > a.2.1 then b.2.1 else a.2.1) < (if b.2.2 < a.2.2 then b.2.2 else a.2.2)) = true := decide_eq_true l
        have em : addM rows a b = rows ++ [meet a b] := by unfold addM; rw [if_pos e, if_pos l]
        rw [l', br_true, bind_ok, bind_ok, em]
        cases leSI (a.1, a.2.2) (b.1, b.2.2) <;> rfl
      · have l' : decide ((if b.2.1 > a.2.1 then b.2.1 else a.2.1) < (if b.2.2 < a.2.2 then b.2.2 else a.2.2)) = false := decide_eq_false l
        have em : addM rows a b = rows := by unfold addM; rw [if_pos e, if_neg l]
        rw [l', br_false, bind_ok, bind_ok, em]
        cases leSI (a.1, a.2.2) (b.1, b.2.2) <;> rfl
    · have em : addM rows a b = rows := by unfold addM; rw [if_neg e]
      rw [decide_eq_false e, br_false, bind_ok, em]
      cases leSI (a.1, a.2.2) (b.1, b.2.2) <;> rfl
theorem without_ok {A B : List Rw} (hA : isG A) (hB : isG B) (la : A.length ≤ 100) (lb : B.length ≤ 100) : Ok (m_without A B) (fun g => isG g ∧ g.length ≤ 20000 ∧ ∀ p k, cov g p k ↔ cov A p k ∧ ¬ cov B p k) := by
  unfold m_without
  have hz := sizeLine_big
  refine Ok.forN (fun i (s : List Rw × Int) => ∃ j : Nat, s.2 = (j : Int) ∧ j ≤ B.length ∧ isG s.1 ∧ s.1.length ≤ 101 * i ∧ (∀ q ∈ s.1, ∀ a ∈ A.drop i, GR q a) ∧ (∀ b ∈ B.take j, ∀ a ∈ A.drop i, Bf b a) ∧ ∀ p x, cov s.1 p x ↔ cov (A.take i) p x ∧ ¬ cov B p x)
    ⟨0, rfl, Nat.zero_le _, isG.nil, Nat.le_refl _, fun q m => (by cases m), fun q m => (by simp at m), fun p x => ⟨fun c => absurd c cov_nil, fun c => absurd c.1 cov_nil⟩⟩ ?_ ?_
  · rintro i ⟨rows, js⟩ a hx ⟨j, ej, hj, hg, hl, hf, hb, hc⟩
    have ej' : js = (j : Int) := ej
    subst ej'
    obtain ⟨hi, ei⟩ := List.getElem?_eq_some_iff.mp hx
    have ed : A.drop i = a :: A.drop (i + 1) := by rw [List.drop_eq_getElem_cons hi, ei]
    have hAd := hA.drop i
    rw [ed] at hAd hf hb
    have ga := hAd.1 a List.mem_cons_self
    have ha2 := (List.pairwise_cons.mp hAd.2).1
    have hl' : rows.length ≤ 101 * i := hl
    refine Ok.bind (skip_while (B := B) (a := a) ?_ ?_ ?_ _ j (by omega) hj (fun b m => hb b m a List.mem_cons_self)) ?_
    · intro j b eb
      have hjl := (List.getElem?_eq_some_iff.mp eb).1
      have ea : atI B (j : Int) = some b := atI_of (by omega) (by rw [Int.toNat_natCast]; exact eb)
      try dsimp only
      rw [decide_eq_true (show (j : Int) < (B.length : Int) by omega), br_true]
      simp only [ea, opt_some]
      cases leSI (b.1, b.2.2) (a.1, a.2.1) <;> rfl
    · intro j hj
      try dsimp only
      rw [decide_eq_false (show ¬ (j : Int) < (B.length : Int) by omega), br_false]
    · intro j
      show Res.ok ((j : Int) + 1) = _
      congr 1
    rintro s ⟨j', rfl, hj', hb', hn'⟩
    have w0 := WI.start (A2 := A.drop (i + 1)) hB hg ga (fun q m => hf q m a List.mem_cons_self) (fun q m a' ma => hf q m a' (List.mem_cons_of_mem _ ma)) hb' hn'
    refine Ok.bind (hit_while ga ha2 ?_ ?_ ?_ _ rows a.2.1 j' (by omega) (by omega) w0) ?_
    · intro rows at_ k b eb
      have hjl := (List.getElem?_eq_some_iff.mp eb).1
      have ea : atI B (k : Int) = some b := atI_of (by omega) (by rw [Int.toNat_natCast]; exact eb)
      try dsimp only
      rw [decide_eq_true (show (k : Int) < (B.length : Int) by omega), br_true]
      simp only [ea, opt_some]
      cases ltSI (b.1, b.2.1) (a.1, a.2.2) <;> rfl
    · intro rows at_ k hk
      try dsimp only
      rw [decide_eq_false (show ¬ (k : Int) < (B.length : Int) by omega), br_false]
    · intro rows at_ k b eb hr
      have ea : atI B (k : Int) = some b := atI_of (by omega) (by rw [Int.toNat_natCast]; exact eb)
      have hlt : decide (rows.length < sizeLine) = true := decide_eq_true (by omega)
      try dsimp only
      simp only [ea, opt_some, hlt, chk_true]
      by_cases l : at_ < b.2.1
      · rw [decide_eq_true l, br_true, bind_ok, if_pos l]
        rfl
      · rw [decide_eq_false l, br_false, bind_ok, if_neg l]
        rfl
    rintro ⟨rows', at_, k'⟩ ⟨hl2, B1, B2, w, far⟩
    have hl2' : rows'.length ≤ rows.length + (B.length - j') := hl2
    have st := w.stop ga ha2 far
    have key : ((br (decide (at_ < a.2.2)) (chk (decide (rows'.length < sizeLine)) <| .ok ((rows' ++ [(a.1, at_, a.2.2)]))) (.ok (rows'))).bind fun s326 => .ok (s326, (j' : Int)) : Res (List Rw × Int)) = .ok ((if at_ < a.2.2 then rows' ++ [(a.1, at_, a.2.2)] else rows'), (j' : Int)) := by
      rw [decide_eq_true (show rows'.length < sizeLine by omega), chk_true]
      by_cases l : at_ < a.2.2
      · rw [decide_eq_true l, br_true, bind_ok, if_pos l]
      · rw [decide_eq_false l, br_false, bind_ok, if_neg l]
    refine Ok.of key ⟨j', rfl, hj', st.1, ?_, st.2.1, fun b m a' ma => (hb' b m).on ga (ha2 a' ma), fun p x => ?_⟩
    · show (if at_ < a.2.2 then rows' ++ [(a.1, at_, a.2.2)] else rows').length ≤ 101 * (i + 1)
      split
      · rw [List.length_append, List.length_singleton]; omega
      · omega
    · have et : A.take (i + 1) = A.take i ++ [a] := by rw [List.take_add_one, hx]; rfl
      rw [et, cov_app, cov_one]
      have z := st.2.2 p x
      rw [hc] at z
      refine z.trans ⟨?_, ?_⟩
      · rintro (⟨c, n⟩ | ⟨c, n⟩)
        · exact ⟨.inl c, n⟩
        · exact ⟨.inr c, n⟩
      · rintro ⟨c | c, n⟩
        · exact .inl ⟨c, n⟩
        · exact .inr ⟨c, n⟩
  · rintro ⟨rows, js⟩ ⟨j, ej, hj, hg, hl, hf, hb, hc⟩
    rw [List.take_length] at hc
    have hl' : rows.length ≤ 101 * A.length := hl
    exact Ok.ret ⟨hg, by show rows.length ≤ 20000; omega, hc⟩
theorem union_ok {A B : List Rw} (hA : isG A) (hB : isG B) (la : A.length ≤ 1000) (lb : B.length ≤ 1000) : m_union A B = .ok (nrm (A ++ B)) := by
  unfold m_union
  have hz := sizeLine_big
  rw [decide_eq_true (show A.length + B.length ≤ sizeLine by omega), chk_true, normal_ok (fun r m => (List.mem_append.mp m).elim (hA.1 r) (hB.1 r)) (by rw [List.length_append]; omega)]
  rfl
theorem union_g {A B : List Rw} (hA : isG A) (hB : isG B) : isG (nrm (A ++ B)) ∧ ∀ p k, cov (nrm (A ++ B)) p k ↔ cov A p k ∨ cov B p k := by
  obtain ⟨a, b⟩ := nrm_ok (rows := A ++ B) fun r m => (List.mem_append.mp m).elim (hA.1 r) (hB.1 r)
  exact ⟨a, fun p k => by rw [b, cov_app]⟩
theorem size_ok' {g : List Rw} (h : g.length ≤ 1000000) : m_size g = .ok (sz g) := size_ok h
theorem ok_neq {α : Type} [DecidableEq α] {a b : α} (h : a = b) : (!decide (a = b)) = false := by rw [decide_eq_true h]; rfl
theorem law_ok (ns : List Int) (h : ns.length ≤ 63) : m_law ns = .ok true := by
  refine Ok.eq ?_
  unfold m_law
  have hz := sizeLine_big
  obtain ⟨c0, e0⟩ := cell_ok ns (k := 0) (by decide) (by decide)
  obtain ⟨c1, e1⟩ := cell_ok ns (k := 1) (by decide) (by decide)
  have m0 := mod_lt' c0 (m := 10) (by decide)
  have m1 := mod_lt' c1 (m := 10) (by decide)
  obtain ⟨ra, ea, la, ga⟩ := rows_ok ns (at_ := 2) (n := c0 % 10) (by decide) (by omega) m0.1
  obtain ⟨rb, eb, lb, gb⟩ := rows_ok ns (at_ := 12) (n := c1 % 10) (by decide) (by omega) m1.1
  obtain ⟨aG, _⟩ := nrm_ok ga
  obtain ⟨bG, _⟩ := nrm_ok gb
  have al := nrm_len ra
  have bl := nrm_len rb
  rw [e0, bind_ok, ea, bind_ok, normal_ok ga (by omega), bind_ok, e1, bind_ok, eb, bind_ok, normal_ok gb (by omega), bind_ok]
  have al' : (nrm ra).length ≤ 10 := by omega
  have bl' : (nrm rb).length ≤ 10 := by omega
  generalize nrm ra = A at aG al'
  generalize nrm rb = B at bG bl'
  obtain ⟨uG, uC⟩ := union_g aG bG
  have ul := nrm_len (A ++ B)
  rw [List.length_append] at ul
  have ul' : (nrm (A ++ B)).length ≤ 20 := by omega
  rw [union_ok aG bG (by omega) (by omega), bind_ok]
  have un : nrm (B ++ A) = nrm (A ++ B) := ground_uniq (union_g bG aG).1 uG fun p k => by rw [(union_g bG aG).2, uC, or_comm]
  have uA : nrm (A ++ []) = A := ground_uniq (union_g aG isG.nil).1 aG fun p k => by rw [(union_g aG isG.nil).2]; exact ⟨fun z => z.resolve_right cov_nil, .inl⟩
  have lAA := nrm_len (A ++ A)
  have lNB := nrm_len ([] ++ B)
  rw [List.length_append] at lAA
  rw [List.nil_append] at lNB
  have uAA := union_ok aG aG (by omega) (by omega)
  have uNB := union_ok isG.nil bG (by decide) (by omega)
  have uAN := union_ok aG isG.nil (by omega) (by decide)
  have uBA := union_ok bG aG (by omega) (by omega)
  rw [un] at uBA
  rw [uA] at uAN
  rw [List.nil_append] at uNB
  generalize nrm (A ++ B) = U at uG uC ul' uBA
  generalize nrm (A ++ A) = AA at uAA lAA
  generalize nrm B = NB at uNB lNB
  obtain ⟨C, eC, cG, cl, cC⟩ := common_ok aG bG (by omega) (by omega)
  obtain ⟨W, eW, wG, wl, wC⟩ := without_ok aG bG (by omega) (by omega)
  rw [eC, bind_ok, eW, bind_ok]
  refine Ok.brF (ok_neq rfl) ?_
  rw [isg_ok uG (by omega), bind_ok, br_true, isg_ok cG (by omega), bind_ok, br_true, isg_ok wG (by omega), bind_ok, br_true]
  refine Ok.chkD (by omega) (Ok.chkD (by rw [List.length_append]; omega) (Ok.chkD (by rw [List.length_append, List.length_append]; omega) (Ok.chkD (by rw [List.length_append, List.length_append, List.length_append]; omega) ?_)))
  obtain ⟨ss, es, _⟩ := samples_ok (g := A ++ B ++ U ++ C ++ W) (by rw [List.length_append, List.length_append, List.length_append, List.length_append]; omega)
  rw [es, bind_ok]
  have hU : ∀ p k, decide (cov U p k) = (decide (cov A p k) || decide (cov B p k)) := fun p k => by rw [Bool.eq_iff_iff, Bool.or_eq_true, decide_eq_true_iff, decide_eq_true_iff, decide_eq_true_iff, uC]
  have hC : ∀ p k, decide (cov C p k) = (decide (cov A p k) && decide (cov B p k)) := fun p k => by rw [Bool.eq_iff_iff, Bool.and_eq_true, decide_eq_true_iff, decide_eq_true_iff, decide_eq_true_iff, cC]
  have hW : ∀ p k, decide (cov W p k) = (decide (cov A p k) && !decide (cov B p k)) := fun p k => by rw [Bool.eq_iff_iff, Bool.and_eq_true, Bool.not_eq_true', decide_eq_true_iff, decide_eq_true_iff, decide_eq_false_iff_not, wC]
  refine Ok.forR (fun _ _ => True) (fun _ => False) trivial ?_ ?_ (fun _ h => h.elim)
  · rintro i s x hx _
    simp only [lhas_ok, bind_ok]
    exact Ok.brF (ok_neq (hU _ _)) (Ok.brF (ok_neq (hC _ _)) (Ok.brF (ok_neq (hW _ _)) (Ok.ret trivial)))
  rintro s _
  have s1 : sz U + sz C = sz A + sz B := sz_add uG cG aG bG fun p x => by
    unfold ind
    by_cases ca : cov A p x <;> by_cases cb : cov B p x
    · rw [if_pos ((uC p x).mpr (.inl ca)), if_pos ((cC p x).mpr ⟨ca, cb⟩), if_pos ca, if_pos cb]
    · rw [if_pos ((uC p x).mpr (.inl ca)), if_neg (fun z => cb ((cC p x).mp z).2), if_pos ca, if_neg cb]
    · rw [if_pos ((uC p x).mpr (.inr cb)), if_neg (fun z => ca ((cC p x).mp z).1), if_neg ca, if_pos cb]; rfl
    · rw [if_neg (fun z => ((uC p x).mp z).elim ca cb), if_neg (fun z => ca ((cC p x).mp z).1), if_neg ca, if_neg cb]
  have s2 : sz C + sz W = sz A + sz [] := sz_add cG wG aG isG.nil fun p x => by
    unfold ind
    rw [if_neg (cov_nil (p := p) (k := x))]
    by_cases ca : cov A p x <;> by_cases cb : cov B p x
    · rw [if_pos ((cC p x).mpr ⟨ca, cb⟩), if_neg (fun z => ((wC p x).mp z).2 cb), if_pos ca]
    · rw [if_neg (fun z => cb ((cC p x).mp z).2), if_pos ((wC p x).mpr ⟨ca, cb⟩), if_pos ca]; rfl
    · rw [if_neg (fun z => ca ((cC p x).mp z).1), if_neg (fun z => ca ((wC p x).mp z).1), if_neg ca]
    · rw [if_neg (fun z => ca ((cC p x).mp z).1), if_neg (fun z => ca ((wC p x).mp z).1), if_neg ca]
  have s3 : sz C + sz W = sz A := by rw [s2]; show sz A + 0 = sz A; omega
  rw [size_ok' (g := U) (by omega), bind_ok, size_ok' (g := C) (by omega), bind_ok, size_ok' (g := A) (by omega), bind_ok, size_ok' (g := B) (by omega), bind_ok]
  refine Ok.brF (ok_neq s1) ?_
  rw [bind_ok, size_ok' (g := W) (by omega), bind_ok, bind_ok]
  refine Ok.brF (ok_neq s3) ?_
  obtain ⟨C', eC', cG', cl', cC'⟩ := common_ok bG aG (by omega) (by omega)
  rw [eC', bind_ok]
  refine Ok.brF (ok_neq (ground_uniq cG' cG fun p k => by rw [cC', cC, and_comm])) ?_
  rw [uBA, bind_ok]
  refine Ok.brF (ok_neq rfl) ?_
  obtain ⟨W', eW', wG', wl', wC'⟩ := without_ok aG aG (by omega) (by omega)
  rw [eW', bind_ok]
  refine Ok.brF (ok_neq (ground_uniq wG' isG.nil fun p k => by rw [wC']; exact ⟨fun z => absurd z.1 z.2, fun z => absurd z cov_nil⟩)) ?_
  rw [uAN, bind_ok]
  refine Ok.brF (ok_neq rfl) ?_
  rw [bind_ok, uNB, bind_ok, uAA, bind_ok]
  obtain ⟨C2, eC2, _, cl2, _⟩ := common_ok aG aG (by omega) (by omega)
  obtain ⟨W2, eW2, _, wl2, _⟩ := without_ok aG isG.nil (by omega) (by decide)
  rw [eC2, bind_ok, eW2, bind_ok]
  refine Ok.forN (fun _ _ => True) trivial ?_ (fun _ _ => Ok.ret (decide_eq_true rfl))
  rintro i s x hx _
  have mx := List.mem_of_getElem? hx
  simp only [List.mem_cons, List.not_mem_nil, or_false] at mx
  refine Ok.chkD ?_ (Ok.ret trivial)
  rcases mx with rfl | rfl | rfl | rfl | rfl | rfl | rfl | rfl <;> omega
end Lw
open PySem PySem.W PyProof.Rows
set_option maxRecDepth 100000 in
set_option maxHeartbeats 0 in
theorem PySem.Challenge.cw_kerbmark_k16_ground_put_together_holds : PySem.Challenge.rw_kerbmark_k16_ground_put_together.Holds := by
  w_on; o_law; k_head; (case hw => w_witness2)
  k_fill
  refine L2.walk_ofK (l := PySem.Challenge.rw_kerbmark_k16_ground_put_together) (n := 63) (k := 4) (x := "_law_script") (CX := L2.CX0) (sp := fun K => Lw.sp_law K (fun _ => 0)) rfl (by decide) rfl ⟨rfl, by decide, by decide⟩ (fun w h Y => PySem.W.kIn_of Y) ?F (fun _ _ a ns hl _ hS => Kb.law_end (Lw.law_ok ns hl) hS) (fun _ _ _ _ h => h)
  case F =>
    intro w mg fa h KX G hmg
    refine' Lw.all_mk KX G hmg ?a0 ?l0 ?c0 ?k0 ?a1 ?l1 ?c1 ?k1 ?a2 ?l2 ?c2 ?k2 ?a3 ?l3 ?c3 ?k3 ?a4 ?l4 ?c4 ?k4 ?a5 ?l5 ?c5 ?k5 ?a6 ?l6 ?c6 ?k6 ?a7 ?l7 ?c7 ?k7 ?a8 ?l8 ?c8 ?k8 ?a9 ?l9 ?c9 ?k9 ?a10 ?l10 ?c10 ?k10 ?a11 ?l11 ?c11 ?k11 ?a12 ?l12 ?c12 ?k12 ?aC_ground ?ex_ground ?kp_ground ?hg_ground ?hk_ground ?hac_ground ?hm_ground ?sb_ground ?ty_ground ?hd_ground ?ic_ground ?sv_ground ?aC_kerb ?sb_kerb ?ty_kerb ?hd_kerb ?ic_kerb ?sv_kerb ?hn ?htk ?su_ground_ground ?su_ground_kerb ?su_kerb_ground ?su_kerb_kerb ?z_bool ?z_int ?z_isinstance ?z_len ?z_list ?z_max ?z_min ?z_range ?z_sorted ?z_sum ?z_tuple
    (case a0 => k_is)
    (case l0 => k_is)
    (case c0 => k_is)
    (case k0 => k_is)
    (case a1 => k_is)
    (case l1 => k_is)
    (case c1 => k_is)
    (case k1 => k_is)
    (case a2 => k_is)
    (case l2 => k_is)
    (case c2 => k_is)
    (case k2 => k_is)
    (case a3 => k_is)
    (case l3 => k_is)
    (case c3 => k_is)
    (case k3 => k_is)
    (case a4 => k_is)
    (case l4 => k_is)
    (case c4 => k_is)
    (case k4 => k_is)
    (case a5 => k_is)
    (case l5 => k_is)
    (case c5 => k_is)
    (case k5 => k_is)
    (case a6 => k_is)
    (case l6 => k_is)
    (case c6 => k_is)
    (case k6 => k_is)
    (case a7 => k_is)
    (case l7 => k_is)
    (case c7 => k_is)
    (case k7 => k_is)
    (case a8 => k_is)
    (case l8 => k_is)
    (case c8 => k_is)
    (case k8 => k_is)
    (case a9 => k_is)
    (case l9 => k_is)
    (case c9 => k_is)
    (case k9 => k_is)
    (case a10 => k_is)
    (case l10 => k_is)
    (case c10 => k_is)
    (case k10 => k_is)
    (case a11 => k_is)
    (case l11 => k_is)
    (case c11 => k_is)
    (case k11 => k_is)
    (case a12 => k_is)
    (case l12 => k_is)
    (case c12 => k_is)
    (case k12 => k_is)
    (case aC_ground => k_is)
    (case ex_ground => k_exc)
    (case kp_ground => k_is)
    (case hg_ground => k_is)
    (case hk_ground => k_is)
    (case hac_ground => k_is)
    (case hm_ground => k_is)
    (case sb_ground => k_is)
    (case ty_ground => k_is)
    (case hd_ground => k_is)
    (case ic_ground => k_is)
    (case sv_ground => k_is)
    (case aC_kerb => k_is)
    (case sb_kerb => k_is)
    (case ty_kerb => k_is)
    (case hd_kerb => k_is)
    (case ic_kerb => k_is)
    (case sv_kerb => k_is)
    (case hn => k_is)
    (case htk => k_is)
    (case su_ground_ground => first | rfl | k_is)
    (case su_ground_kerb => first | rfl | k_is)
    (case su_kerb_ground => first | rfl | k_is)
    (case su_kerb_kerb => first | rfl | k_is)
    (case z_bool => k_is)
    (case z_int => k_is)
    (case z_isinstance => k_is)
    (case z_len => k_is)
    (case z_list => k_is)
    (case z_max => k_is)
    (case z_min => k_is)
    (case z_range => k_is)
    (case z_sorted => k_is)
    (case z_sum => k_is)
    (case z_tuple => k_is)
