import PyProof.Rows.All
import Wide.All
import OpenK.AllK
import Wide.FinOn
import HandS.ForMost
import HandS.Exc
import HandS.TryOnly
import HandS.ExcOwn
import HandS.WordsExc
import HandS.ExcSuper
import HandS.ExcIs
import KE.KExcSuper
import HandS.ExcValue
import PyProof.ReprRoads
import KE.KExcIs
import HandS.EndBits
import HandS.IsInst
import OpenK.KMeth
import HandS.Style
import HandS.SortInts
import HandS.Star
import HandS.ClsMeth
import KE.KCallOwn
import PyProof.InstNe
import KE.GoesMore
import HandS.Conv
import HandS.Strs
import HandS.SetFor
import HandS.Zip
import PyProof.LongRange
import HandS.FStr
import HandS.Text
import PyProof.ReprLen
import KE.OsRunLaw
import PySem.Challenge.RW_headskip_k02_tolds_made
set_option Elab.async false
set_option linter.all false
set_option maxRecDepth 100000
set_option maxHeartbeats 4000000
/-! Things told by their contents (D); what an expression gives (U): such a thing, or a cell that changes; and what a piece of the text does, told by a plain function. -/
namespace Dv
open PySem L2
inductive D where
  | non | bl (b : Bool) | int (i : Int) | str (x : Str)
  | tup (xs : List D) | lst (xs : List D) | scr (xs : List D) | dic (kvs : List (Key × D))
  | obj (c : Nat) (fs : List (Str × D)) | err (c : Nat) (fs : List (Str × D))
  | thing (a : Addr) | ty (n : String) | cls (n : Nat)
inductive U where
  | d (x : D) | cell (n : Nat)
inductive Cel where
  | lst (xs : List D) | obj (c : Nat) (fs : List (Str × U))
abbrev Mem := List (Option Cel)
abbrev Env := List (Option U)
inductive R (α : Type) where
  | val (a : α) (μ : Mem) | exc (c : Nat) (fs : List (Str × D)) (μ : Mem) | stuck
inductive RS where
  | next (ρ : Env) (μ : Mem) | brk (ρ : Env) (μ : Mem) | cont (ρ : Env) (μ : Mem) | ret (v : U) (μ : Mem) | exc (c : Nat) (fs : List (Str × D)) (ρ : Env) (μ : Mem) | stuck
abbrev MD := Env → Mem → R U
abbrev MT := Env → Mem → R Bool
abbrev ML := Env → Mem → R (List U)
abbrev MS := Env → Mem → RS
/-- an exception's object, tracked -/
def ErrO (a : Addr) (cls : Value) (d : Option Addr) : HO := .ext fun h => ∃ (oe : Obj) (vs : Array Value), h.get? a = some oe ∧ Zc cls d oe ∧ oe.data = .fields vs
/-- the addresses of the cells (none: no more one); the lists that are being made -/
structure Ms where
  cs : List (Option Addr)
  hid : List Addr
def Ms.In (ms : Ms) (a : Addr) : Prop := some a ∈ ms.cs ∨ a ∈ ms.hid
section
variable (K : PySem.W.Frag) (ca : Nat → Addr)
/-- a tuple (a list) that is read and never changes: tracked and no cell, or an object of the written part -/
def StT (ms : Ms) (H : Hp) (a : Addr) (vs : List V) : Prop := (Rd H a (.tup vs) ∧ ¬ ms.In a) ∨ ∃ (o : Obj) (its : Array Value) (n : Nat), K.lookup a = some o ∧ o.cls = .type "tuple" ∧ o.data = .seq its n ∧ its.size ≤ sizeLine ∧ Vals vs its.toList
def StL (ms : Ms) (H : Hp) (a : Addr) (vs : List V) : Prop := (Rd H a (.lst vs) ∧ ¬ ms.In a) ∨ ∃ (o : Obj) (its : Array Value) (n : Nat), K.lookup a = some o ∧ o.cls = .type "list" ∧ o.dict = none ∧ o.data = .seq its n ∧ its.size ≤ sizeLine ∧ Vals vs its.toList
/-- the thing d stands at v -/
inductive Rep (ms : Ms) (H : Hp) : D → V → Prop where
  | non : Rep ms H .non .non
  | bl (b : Bool) : Rep ms H (.bl b) (.bl b)
  | int (i : Int) : Rep ms H (.int i) (.int i)
  | str (x : Str) : Rep ms H (.str x) (.str x)
  | thing (a : Addr) : Rep ms H (.thing a) (.ref a)
  | ty (n : String) : Rep ms H (.ty n) (.ty n)
  | cls (n : Nat) : Rep ms H (.cls n) (.ref (ca n))
  | tup {xs : List D} {vs : List V} {a : Addr} : StT K ms H a vs → xs.length = vs.length → (∀ (i : Nat) x v, xs[i]? = some x → vs[i]? = some v → Rep ms H x v) → Rep ms H (.tup xs) (.ref a)
  | lst {xs : List D} {vs : List V} {a : Addr} : H a = some (.lst vs) → ¬ ms.In a → xs.length = vs.length → (∀ (i : Nat) x v, xs[i]? = some x → vs[i]? = some v → Rep ms H x v) → Rep ms H (.lst xs) (.ref a)
  | scr {xs : List D} {vs : List V} {a : Addr} : StL K ms H a vs → xs.length = vs.length → (∀ (i : Nat) x v, xs[i]? = some x → vs[i]? = some v → Rep ms H x v) → Rep ms H (.scr xs) (.ref a)
  | dic {kvs : List (Key × D)} {ws : List (Key × V)} {a : Addr} : Rd H a (.dK ws) → ¬ ms.In a → kvs.map (·.1) = ws.map (·.1) → (∀ (i : Nat) x v, kvs[i]? = some x → ws[i]? = some v → Rep ms H x.2 v.2) → Rep ms H (.dic kvs) (.ref a)
  | obj {c : Nat} {fs : List (Str × D)} {gs : List (Str × V)} {a dx : Addr} : H a = some (.ins (ca c) dx gs) → ¬ ms.In a → fs.map (·.1) = gs.map (·.1) → (∀ (i : Nat) x v, fs[i]? = some x → gs[i]? = some v → Rep ms H x.2 v.2) → Rep ms H (.obj c fs) (.ref a)
  | err {c : Nat} {fs : List (Str × D)} {gs : List (Str × V)} {a d : Addr} : H a = some (ErrO a (.ref (ca c)) (some d)) → H d = some (.xd gs) → ¬ ms.In a → ¬ ms.In d → fs.map (·.1) = gs.map (·.1) → (∀ (i : Nat) x v, fs[i]? = some x → gs[i]? = some v → Rep ms H x.2 v.2) → Rep ms H (.err c fs) (.ref a)
  | err0 {c : Nat} {a : Addr} : H a = some (ErrO a (.ref (ca c)) none) → ¬ ms.In a → Rep ms H (.err c []) (.ref a)
def RepU (ms : Ms) (H : Hp) : U → V → Prop
  | .d x, v => Rep K ca ms H x v
  | .cell n, v => ∃ a, v = .ref a ∧ (ms.cs[n]? = some (some a) ∨ ms.cs[n]? = some none)
def RepL (ms : Ms) (H : Hp) (xs : List D) (vs : List V) : Prop := xs.length = vs.length ∧ ∀ (i : Nat) x v, xs[i]? = some x → vs[i]? = some v → Rep K ca ms H x v
def RepUL (ms : Ms) (H : Hp) (xs : List U) (vs : List V) : Prop := xs.length = vs.length ∧ ∀ (i : Nat) x v, xs[i]? = some x → vs[i]? = some v → RepU K ca ms H x v
def RepC (ms : Ms) (H : Hp) (a : Addr) : Cel → Prop
  | .lst xs => ∃ vs, H a = some (.lst vs) ∧ RepL K ca ms H xs vs
  | .obj c fs => ∃ dx gs, H a = some (.ins (ca c) dx gs) ∧ fs.map (·.1) = gs.map (·.1) ∧ ∀ (i : Nat) x v, fs[i]? = some x → gs[i]? = some v → RepU K ca ms H x.2 v.2
/-- nothing of the written part is tracked -/
def KF (H : Hp) : Prop := K = K ∧ H = H
structure RelM (μ : Mem) (ms : Ms) (H : Hp) : Prop where
  len : μ.length = ms.cs.length
  live : ∀ (n : Nat) c, μ[n]? = some (some c) → ∃ a, ms.cs[n]? = some (some a) ∧ RepC K ca ms H a c
  dead : ∀ (n : Nat) a, ms.cs[n]? = some (some a) → ∃ c, μ[n]? = some (some c)
  apart : ∀ (n m : Nat) a, ms.cs[n]? = some (some a) → ms.cs[m]? = some (some a) → n = m
  hidden : ∀ a, a ∈ ms.hid → ∃ o, H a = some o
  sep : ∀ (n : Nat) a, ms.cs[n]? = some (some a) → a ∉ ms.hid
  kf : KF K H
def RelE (ρ : Env) (ms : Ms) (σ : St) (H : Hp) : Prop := ρ.length = σ.length ∧ ∀ (i : Nat) u, ρ[i]? = some (some u) → ∃ v, σ[i]? = some (some v) ∧ RepU K ca ms H u v
end
/-- what is no cell changes not -/
structure Old (ms : Ms) (H : Hp) (ms' : Ms) (H' : Hp) : Prop where
  old : ∀ a o, H a = some o → ¬ ms.In a → H' a = some o
  new : ∀ a, ms'.In a → ms.In a ∨ H a = none
theorem Old.refl {ms : Ms} {H : Hp} : Old ms H ms H := ⟨fun _ _ h _ => h, fun _ h => .inl h⟩
theorem Old.trans {ms ms' ms'' : Ms} {H H' H'' : Hp} (a : Old ms H ms' H') (b : Old ms' H' ms'' H'') : Old ms H ms'' H'' := by
  refine ⟨fun x o h n => b.old x o (a.old x o h n) fun z => ?_, fun x z => ?_⟩
  · rcases a.new x z with q | q
    · exact n q
    · rw [q] at h
      cases h
  · rcases b.new x z with q | q
    · exact a.new x q
    · cases h : H x with
      | none => exact .inr rfl
      | some o =>
        refine .inl (Classical.byContradiction fun n => ?_)
        rw [a.old x o h n] at q
        cases q
theorem Old.put {ms ms' : Ms} {H H' : Hp} {p : Addr} {o : HO} (a : Old ms H ms' H') (h : H p = none) : Old ms H ms' (upd H' p o) := ⟨fun x u e n => by rw [upd_ne (fun z => by rw [z, h] at e; cases e)]; exact a.old x u e n, a.new⟩
section
variable (K : PySem.W.Frag) (ca : Nat → Addr)
/-- what stood stands -/
structure Keep (ms : Ms) (H : Hp) (ms' : Ms) (H' : Hp) : Prop where
  all : ∀ u v, RepU K ca ms H u v → RepU K ca ms' H' u v
  hid : ms'.hid = ms.hid
  same : ∀ a, a ∈ ms.hid → H' a = H a
  ol : Old ms H ms' H'
end
section
variable {K : PySem.W.Frag} {ca : Nat → Addr} {ms ms' ms'' : Ms} {H H' H'' : Hp} {μ : Mem}
theorem Keep.refl : Keep K ca ms H ms H := ⟨fun _ _ h => h, rfl, fun _ _ => rfl, Old.refl⟩
theorem Keep.trans (a : Keep K ca ms H ms' H') (b : Keep K ca ms' H' ms'' H'') : Keep K ca ms H ms'' H'' := ⟨fun u v h => b.all u v (a.all u v h), b.hid.trans a.hid, fun x h => (b.same x (a.hid ▸ h)).trans (a.same x h), a.ol.trans b.ol⟩
theorem RelE.keep {ρ : Env} {σ : St} (e : RelE K ca ρ ms σ H) (k : Keep K ca ms H ms' H') : RelE K ca ρ ms' σ H' := ⟨e.1, fun i u h => by
  obtain ⟨v, a, b⟩ := e.2 i u h
  exact ⟨v, a, k.all _ _ b⟩⟩
theorem Keep.rep (k : Keep K ca ms H ms' H') {x : D} {v : V} (h : Rep K ca ms H x v) : Rep K ca ms' H' x v := k.all (.d x) v h
theorem Keep.list (k : Keep K ca ms H ms' H') {xs : List D} {vs : List V} (h : RepL K ca ms H xs vs) : RepL K ca ms' H' xs vs := ⟨h.1, fun i x v a b => k.rep (h.2 i x v a b)⟩
theorem Keep.ulist (k : Keep K ca ms H ms' H') {xs : List U} {vs : List V} (h : RepUL K ca ms H xs vs) : RepUL K ca ms' H' xs vs := ⟨h.1, fun i x v a b => k.all _ _ (h.2 i x v a b)⟩
theorem StT.sq {a : Addr} {vs : List V} (h : StT K ms H a vs) : SqT K H a vs := by
  rcases h with ⟨h, _⟩ | h
  · exact .inl h
  · exact .inr h
theorem StL.sq {a : Addr} {vs : List V} (h : StL K ms H a vs) : SqL K H a vs := by
  rcases h with ⟨h, _⟩ | h
  · exact .inl h
  · exact .inr h
/-- every object but the cells is kept, the cells' list goes on -/
theorem Rep.mono {x : D} {v : V} (h : Rep K ca ms H x v) (k : ∀ a o, H a = some o → ¬ ms.In a → H' a = some o) (mx : ∀ a, ms'.In a → ms.In a ∨ H a = none) : Rep K ca ms' H' x v := by
  have out : ∀ a o, ¬ ms.In a → H a = some o → ¬ ms'.In a := fun a o n e z => by
    rcases mx a z with q | q
    · exact n q
    · rw [q] at e; cases e
  have rds : ∀ a u, Rd H a u → ∃ o, H a = some o := fun a u r => by
    rcases r with r | ⟨o, r⟩
    · exact ⟨_, r⟩
    · exact ⟨_, r⟩
  have rd : ∀ a u, ¬ ms.In a → Rd H a u → Rd H' a u ∧ ¬ ms'.In a := fun a u n r => by
    obtain ⟨o', q⟩ := rds a u r
    refine ⟨?_, out a o' n q⟩
    rcases r with r | ⟨o, r⟩
    · exact .inl (k a _ r n)
    · exact .inr ⟨o, k a _ r n⟩
  induction h with
  | non => exact .non
  | bl b => exact .bl b
  | int i => exact .int i
  | str x => exact .str x
  | thing a => exact .thing a
  | ty n => exact .ty n
  | cls n => exact .cls n
  | tup s l _ ih =>
    refine .tup ?_ l ih
    rcases s with ⟨s, n⟩ | s
    · exact .inl (rd _ _ n s)
    · exact .inr s
  | lst s n l _ ih => exact .lst (k _ _ s n) (out _ _ n s) l ih
  | scr s l _ ih =>
    refine .scr ?_ l ih
    rcases s with ⟨s, n⟩ | s
    · exact .inl (rd _ _ n s)
    · exact .inr s
  | dic s n l _ ih => exact .dic (rd _ _ n s).1 (rd _ _ n s).2 l ih
  | obj s n l _ ih => exact .obj (k _ _ s n) (out _ _ n s) l ih
  | err s1 s2 n1 n2 l _ ih => exact .err (k _ _ s1 n1) (k _ _ s2 n2) (out _ _ n1 s1) (out _ _ n2 s2) l ih
  | err0 s n => exact .err0 (k _ _ s n) (out _ _ n s)
/-- an extension -/
theorem Rep.ext {x : D} {v : V} (h : Rep K ca ms H x v) (e : Same H H') : Rep K ca ms H' x v := h.mono (fun a o q _ => e a o q) fun a z => .inl z
theorem keep_of (k : ∀ a o, H a = some o → ¬ ms.In a → H' a = some o) (mx : ∀ a, ms'.In a → ms.In a ∨ H a = none) (mk : ∀ (n : Nat) a, ms.cs[n]? = some a → ms'.cs[n]? = some a) (hh : ms'.hid = ms.hid) (hs : ∀ a, a ∈ ms.hid → H' a = H a) : Keep K ca ms H ms' H' :=
  ⟨fun u v h => by
    cases u with
    | d x => exact Rep.mono h k mx
    | cell n =>
      obtain ⟨a, e, q⟩ := h
      exact ⟨a, e, q.imp (mk n _) (mk n _)⟩, hh, hs, ⟨k, mx⟩⟩
/-- a cell that lives -/
theorem RelM.lives {n : Nat} {v : V} {c : Cel} (r : RelM K ca μ ms H) (p : RepU K ca ms H (.cell n) v) (h : μ[n]? = some (some c)) : ∃ a, v = .ref a ∧ ms.cs[n]? = some (some a) := by
  obtain ⟨a, e, q⟩ := p
  obtain ⟨b, z, _⟩ := r.live n c h
  rcases q with q | q
  · exact ⟨a, e, q⟩
  · rw [q] at z
    cases z
theorem RelM.at {n : Nat} {a : Addr} (r : RelM K ca μ ms H) (h : ms.cs[n]? = some (some a)) : ∃ o, H a = some o := by
  obtain ⟨c, e⟩ := r.dead n a h
  obtain ⟨b, e1, q⟩ := r.live n c e
  rw [h] at e1
  cases e1
  cases c with
  | lst xs => obtain ⟨vs, q, _⟩ := q; exact ⟨_, q⟩
  | obj c fs => obtain ⟨dx, gs, q, _⟩ := q; exact ⟨_, q⟩
theorem RelM.out {a : Addr} (r : RelM K ca μ ms H) (h : H a = none) : ¬ ms.In a := fun z => by
  rcases z with z | z
  · obtain ⟨n, q⟩ := List.getElem?_of_mem z
    obtain ⟨o, e⟩ := r.at q
    rw [h] at e; cases e
  · obtain ⟨o, e⟩ := r.hidden a z
    rw [h] at e; cases e
theorem RelM.keep_ext (r : RelM K ca μ ms H) (e : Same H H') : Keep K ca ms H ms H' := keep_of (fun a o q _ => e a o q) (fun a z => .inl z) (fun _ _ q => q) rfl fun a h => by
  obtain ⟨o, q⟩ := r.hidden a h
  rw [q, e a o q]
theorem RepC.keep {a : Addr} {c : Cel} (h : RepC K ca ms H a c) (k : Keep K ca ms H ms' H') (e : ∀ o, H a = some o → H' a = some o) : RepC K ca ms' H' a c := by
  cases c with
  | lst xs => obtain ⟨vs, q, l⟩ := h; exact ⟨vs, e _ q, k.list l⟩
  | obj c fs => obtain ⟨dx, gs, q, l, z⟩ := h; exact ⟨dx, gs, e _ q, l, fun i x v a b => k.all _ _ (z i x v a b)⟩
theorem RelM.ext (r : RelM K ca μ ms H) (e : Same H H') (kf : KF K H') : RelM K ca μ ms H' :=
  ⟨r.len, fun n c h => by
    obtain ⟨a, q, z⟩ := r.live n c h
    exact ⟨a, q, z.keep (r.keep_ext e) fun o q => e _ _ q⟩, r.dead, r.apart, fun a h => let ⟨o, q⟩ := r.hidden a h; ⟨o, e a o q⟩, r.sep, kf⟩
end
end Dv
namespace Dv
open PySem L2
def R.bind {α β : Type} : R α → (α → Mem → R β) → R β
  | .val a μ, f => f a μ
  | .exc c fs μ, _ => .exc c fs μ
  | .stuck, _ => .stuck
@[simp] theorem bind_val {α β : Type} (a : α) (μ : Mem) (f : α → Mem → R β) : (R.val a μ).bind f = f a μ := rfl
@[simp] theorem bind_exc {α β : Type} (c : Nat) (fs : List (Str × D)) (μ : Mem) (f : α → Mem → R β) : (R.exc c fs μ).bind f = R.exc c fs μ := rfl
@[simp] theorem bind_stuck {α β : Type} (f : α → Mem → R β) : (R.stuck).bind f = R.stuck := rfl
def ofO {α : Type} (μ : Mem) : Option α → R α
  | some a => .val a μ
  | none => .stuck
@[simp] theorem ofO_some {α : Type} (μ : Mem) (a : α) : ofO μ (some a) = .val a μ := rfl
@[simp] theorem ofO_none {α : Type} (μ : Mem) : ofO μ (none : Option α) = .stuck := rfl
section
variable (K : PySem.W.Frag) (ca : Nat → Addr)
/-- the fields of an error that is on its way -/
def ErrAt (ms : Ms) (H : Hp) (fs : List (Str × D)) (d : Option Addr) : Prop :=
  (fs = [] ∧ d = none) ∨ ∃ dd gs, d = some dd ∧ H dd = some (.xd gs) ∧ ¬ ms.In dd ∧ fs.map (·.1) = gs.map (·.1) ∧ ∀ (i : Nat) x v, fs[i]? = some x → gs[i]? = some v → Rep K ca ms H x.2 v.2
/-- what is wanted behind a result -/
def Af {α γ : Type} (rp : Ms → Hp → α → γ → Prop) (W : WX) (σ : St) (ms : Ms) (H : Hp) (r : R α) (Q : γ → Hp → Prop) : Prop := match r with
  | .val a μ' => ∀ v H' ms', Keep K ca ms H ms' H' → RelM K ca μ' ms' H' → rp ms' H' a v → Q v H'
  | .exc c fs μ' => ∀ d H' ms', Keep K ca ms H ms' H' → RelM K ca μ' ms' H' → ErrAt K ca ms' H' fs d → W (.ref (ca c)) d σ H'
  | .stuck => False
def rd {α γ : Type} (rp : Ms → Hp → α → γ → Prop) (W : WX) (m : Env → Mem → R α) : St → Hp → (γ → Hp → Prop) → Prop := fun σ H Q =>
  ∃ ms ρ μ, RelE K ca ρ ms σ H ∧ RelM K ca μ ms H ∧ Af K ca rp W σ ms H (m ρ μ) Q
def rpB (_ : Ms) (_ : Hp) (a b : Bool) : Prop := b = a
abbrev rdE (W : WX) (m : MD) : TE := rd K ca (RepU K ca) W m
abbrev rdT (W : WX) (m : MT) : TT := rd K ca rpB W m
abbrev rdA (W : WX) (m : ML) : TA := rd K ca (RepUL K ca) W m
end
section
variable {K : PySem.W.Frag} {ca : Nat → Addr} {W : WX} {σ : St} {ms ms1 : Ms} {H H1 : Hp} {ρ : Env} {μ : Mem}
theorem Af.shift {α γ : Type} {rp : Ms → Hp → α → γ → Prop} {r : R α} {Q : γ → Hp → Prop} (h : Af K ca rp W σ ms H r Q) (k : Keep K ca ms H ms1 H1) : Af K ca rp W σ ms1 H1 r Q := by
  cases r with
  | val a μ' => exact fun v H' ms' k' => h v H' ms' (k.trans k')
  | exc c fs μ' => exact fun v H' ms' k' => h v H' ms' (k.trans k')
  | stuck => exact h
theorem af_bind {α β γ δ : Type} {rp : Ms → Hp → α → γ → Prop} {rq : Ms → Hp → β → δ → Prop} {m : Env → Mem → R α} {f : α → Mem → R β} {Q : δ → Hp → Prop} {Q1 : γ → Hp → Prop} (e : RelE K ca ρ ms σ H) (r : RelM K ca μ ms H) (h : Af K ca rq W σ ms H ((m ρ μ).bind f) Q)
    (k : ∀ a μ1 v H1 ms1, Keep K ca ms H ms1 H1 → RelM K ca μ1 ms1 H1 → rp ms1 H1 a v → Af K ca rq W σ ms1 H1 (f a μ1) Q → Q1 v H1) : rd K ca rp W m σ H Q1 := by
  refine ⟨ms, ρ, μ, e, r, ?_⟩
  cases hm : m ρ μ with
  | val a μ1 =>
    rw [hm] at h
    exact fun v H1 ms1 k1 r1 p1 => k a μ1 v H1 ms1 k1 r1 p1 (Af.shift h k1)
  | exc c fs μ1 =>
    rw [hm] at h
    exact h
  | stuck =>
    rw [hm] at h
    exact (show False from h).elim
/-- the end: the value is at hand -/
theorem Af.at {α γ : Type} {rp : Ms → Hp → α → γ → Prop} {a : α} {v : γ} {Q : γ → Hp → Prop} (h : Af K ca rp W σ ms H (.val a μ) Q) (r : RelM K ca μ ms H) (p : rp ms H a v) : Q v H := h v H ms Keep.refl r p
theorem Af.new {α γ : Type} {rp : Ms → Hp → α → γ → Prop} {a : α} {v : γ} {Q : γ → Hp → Prop} (h : Af K ca rp W σ ms H (.val a μ) Q) (r : RelM K ca μ ms H) (e : Same H H1) (kf : KF K H1) (p : rp ms H1 a v) : Q v H1 := h v H1 ms (r.keep_ext e) (r.ext e kf) p
end
/-- nothing of the written part is tracked, wherever the text runs -/
theorem kf_of {X : Cx} {pins : List (Addr × Obj)} {σ : St} {H : Hp} {s : Shared} (I : Inv X pins σ H s) : KF X.K H := ⟨rfl, rfl⟩
section
variable {X : Cx} {e : Expr}
theorem pe_imp {t t' : TE} (h : PE X e t) (k : ∀ σ H Q, KF X.K H → t' σ H Q → t σ H fun v H' => KF X.K H' → Q v H') : PE X e t' :=
  ⟨fun pins s σ H Q I q => thn (h.run pins s σ H _ I (k σ H Q (kf_of I) q)) fun u s1 ⟨v, H1, I1, r1, q1⟩ => ⟨v, H1, I1, r1, q1 (kf_of I1)⟩⟩
theorem pt_imp {t t' : TT} (h : PT X e t) (k : ∀ σ H Q, KF X.K H → t' σ H Q → t σ H fun v H' => KF X.K H' → Q v H') : PT X e t' :=
  ⟨fun pins s σ H Q I q => thn (h.run pins s σ H _ I (k σ H Q (kf_of I) q)) fun u s1 ⟨H1, I1, q1⟩ => ⟨H1, I1, q1 (kf_of I1)⟩⟩
theorem pw_imp {t t' : TT} (h : PW X e t) (k : ∀ σ H Q, KF X.K H → t' σ H Q → t σ H fun v H' => KF X.K H' → Q v H') : PW X e t' :=
  ⟨fun wh pins s σ H Q I q => thn (h.run wh pins s σ H _ I (k σ H Q (kf_of I) q)) fun u s1 ⟨H1, I1, q1⟩ => ⟨H1, I1, q1 (kf_of I1)⟩⟩
theorem pa_imp {es : List Expr} {t t' : TA} (h : PA X es t) (k : ∀ σ H Q, KF X.K H → t' σ H Q → t σ H fun v H' => KF X.K H' → Q v H') : PA X es t' :=
  ⟨fun pos pins s σ H Q I q => thn (h.run pos pins s σ H _ I (k σ H Q (kf_of I) q)) fun u s1 ⟨v, H1, I1, r1, q1⟩ => ⟨v, H1, I1, r1, q1 (kf_of I1)⟩⟩
end
/-! ### names, constants -/
def mVar (i : Nat) : MD := fun ρ μ => match ρ[i]? with
  | some (some u) => .val u μ
  | _ => .stuck
def mC (x : D) : MD := fun _ μ => .val (.d x) μ
section
variable {X : Cx} {ca : Nat → Addr} {W : WX} {pos : Pos}
theorem re_var (i : Nat) {x : Str} (hN : X.N[i]? = some x := by rfl) (hv : Vis X.env.scope x := by first | exact Or.inl rfl | exact Or.inr (Or.inl rfl) | exact Or.inr (Or.inr rfl)) (hd : (x == ("__debug__" : Str)) = false := by decide)
    (hcd : (x == ("__classdict__" : Str)) = false := by decide) : PE X (.Name x pos) (rdE X.K ca W (mVar i)) := by
  refine pe_imp (pe_var hN hv hd hcd) fun σ H Q _ ⟨ms, ρ, μ, e, r, h⟩ => ?_
  unfold mVar at h
  split at h
  · rename_i u hu
    obtain ⟨v, hs, p⟩ := e.2 i u hu
    exact ⟨v, hs, fun _ => Af.at h r p⟩
  · exact h.elim
theorem re_c {e : Expr} {x : D} {v : V} (h : PE X e (tC v)) (p : ∀ ms H, Rep X.K ca ms H x v) : PE X e (rdE X.K ca W (mC x)) :=
  pe_imp h fun σ H Q _ ⟨ms, ρ, μ, e, r, h⟩ _ => Af.at (a := U.d x) h r (p ms H)
theorem re_int {i : Int} {j : Nat} : PE X (.Constant (.int i) j pos) (rdE X.K ca W (mC (.int i))) := re_c pe_int fun _ _ => .int i
theorem re_bl {b : Bool} {j : Nat} : PE X (.Constant (.bool b) j pos) (rdE X.K ca W (mC (.bl b))) := re_c pe_bl fun _ _ => .bl b
theorem re_non {j : Nat} : PE X (.Constant .none j pos) (rdE X.K ca W (mC .non)) := re_c pe_non fun _ _ => .non
theorem re_str {x : Str} {j : Nat} : PE X (.Constant (.str x) j pos) (rdE X.K ca W (mC (.str x))) := re_c pe_str fun _ _ => .str x
end
/-! ### operations by values -/
section
variable (K : PySem.W.Frag) (ca : Nat → Addr)
def rD2 (f : Mem → U → U → Option D) : R2 := fun x y H Q => ∃ ms μ a b d, RelM K ca μ ms H ∧ RepU K ca ms H a x ∧ RepU K ca ms H b y ∧ f μ a b = some d ∧ ∀ v H', Same H H' → (KF K H' → Rep K ca ms H' d v) → Q v H'
def rD1 (f : Mem → U → Option D) : V → Hp → VK → Prop := fun x H Q => ∃ ms μ a d, RelM K ca μ ms H ∧ RepU K ca ms H a x ∧ f μ a = some d ∧ ∀ v H', Same H H' → (KF K H' → Rep K ca ms H' d v) → Q v H'
def rDn (f : Mem → List U → Option D) : List V → Hp → VK → Prop := fun xs H Q => ∃ ms μ as d, RelM K ca μ ms H ∧ RepUL K ca ms H as xs ∧ f μ as = some d ∧ ∀ v H', Same H H' → (KF K H' → Rep K ca ms H' d v) → Q v H'
end
def mBin (f : Mem → U → U → Option D) (ma mb : MD) : MD := fun ρ μ => (ma ρ μ).bind fun x μ1 => (mb ρ μ1).bind fun y μ2 => (ofO μ2 (f μ2 x y)).bind fun d μ3 => .val (.d d) μ3
def mUn (f : Mem → U → Option D) (ma : MD) : MD := fun ρ μ => (ma ρ μ).bind fun x μ1 => (ofO μ1 (f μ1 x)).bind fun d μ3 => .val (.d d) μ3
def mCall (f : Mem → List U → Option D) (ma : ML) : MD := fun ρ μ => (ma ρ μ).bind fun x μ1 => (ofO μ1 (f μ1 x)).bind fun d μ3 => .val (.d d) μ3
def mNil : ML := fun _ μ => .val [] μ
def mCons (ma : MD) (mr : ML) : ML := fun ρ μ => (ma ρ μ).bind fun x μ1 => (mr ρ μ1).bind fun xs μ2 => .val (x :: xs) μ2
section
variable {X : Cx} {ca : Nat → Addr} {W : WX} {pos : Pos} {a b : Expr} {ma mb : MD}
theorem fin_of {K : PySem.W.Frag} {σ : St} {ms : Ms} {μ : Mem} {H : Hp} {o : Option D} {Q : VK} (h : Af K ca (RepU K ca) W σ ms H ((ofO μ o).bind fun d μ3 => .val (.d d) μ3) Q) (r : RelM K ca μ ms H) :
    ∃ d, o = some d ∧ ∀ v H', Same H H' → (KF K H' → Rep K ca ms H' d v) → KF K H' → Q v H' := by
  cases o with
  | none => exact (show False from h).elim
  | some d => exact ⟨d, rfl, fun v H' e p kf => h v H' ms (r.keep_ext e) (r.ext e kf) (p kf)⟩
theorem to_bin {f : Mem → U → U → Option D} {σ : St} {H : Hp} {Q : VK} (h : rdE X.K ca W (mBin f ma mb) σ H Q) : tOp (rD2 X.K ca f) (rdE X.K ca W ma) (rdE X.K ca W mb) σ H fun v H' => KF X.K H' → Q v H' := by
  obtain ⟨ms, ρ, μ, e, r, h⟩ := h
  refine af_bind e r h fun x μ1 v H1 ms1 k1 r1 p1 h1 => af_bind (e.keep k1) r1 h1 fun y μ2 u H2 ms2 k2 r2 p2 h2 => ?_
  obtain ⟨d, hd, q⟩ := fin_of h2 r2
  exact ⟨ms2, μ2, x, y, d, r2, k2.all _ _ p1, p2, hd, q⟩
theorem re_bin {op : Operator} {f : Mem → U → U → Option D} (ho : OpR X (binaryOp op) (rD2 X.K ca f)) (ha : PE X a (rdE X.K ca W ma)) (hb : PE X b (rdE X.K ca W mb)) : PE X (.BinOp a op b pos) (rdE X.K ca W (mBin f ma mb)) :=
  pe_imp (pe_op ho ha hb) fun _ _ _ _ h => to_bin h
theorem re_un {op : UnaryOp} {f : Mem → U → Option D} (ho : UnR X (unaryOp op) (rD1 X.K ca f)) (ha : PE X a (rdE X.K ca W ma)) : PE X (.UnaryOp op a pos) (rdE X.K ca W (mUn f ma)) := by
  refine pe_imp (pe_un ho ha) fun σ H Q _ ⟨ms, ρ, μ, e, r, h⟩ => ?_
  refine af_bind e r h fun x μ1 v H1 ms1 k1 r1 p1 h1 => ?_
  obtain ⟨d, hd, q⟩ := fin_of h1 r1
  exact ⟨ms1, μ1, x, d, r1, p1, hd, q⟩
theorem ra_nil : PA X [] (rdA X.K ca W mNil) := pa_imp pa_nil fun σ H Q _ ⟨ms, ρ, μ, e, r, h⟩ _ => Af.at (a := ([] : List U)) h r ⟨rfl, fun i x v h1 => by simp at h1⟩
theorem ra_cons {es : List Expr} {mr : ML} (ha : PE X a (rdE X.K ca W ma)) (hr : PA X es (rdA X.K ca W mr)) (hs : starEach (a :: es) X.env = (false, eval a X.env) :: starEach es X.env := by rfl) : PA X (a :: es) (rdA X.K ca W (mCons ma mr)) := by
  refine pa_imp (pa_cons ha hr hs) fun σ H Q _ ⟨ms, ρ, μ, e, r, h⟩ => ?_
  refine af_bind e r h fun x μ1 v H1 ms1 k1 r1 p1 h1 => af_bind (e.keep k1) r1 h1 fun xs μ2 vs H2 ms2 k2 r2 p2 h2 => ?_
  refine fun _ => Af.at h2 r2 ⟨by simp only [List.length_cons]; rw [p2.1], fun i y w h3 h4 => ?_⟩
  cases i with
  | zero =>
    simp only [List.getElem?_cons_zero, Option.some.injEq] at h3 h4
    subst h3; subst h4
    exact k2.all _ _ p1
  | succ i =>
    simp only [List.getElem?_cons_succ] at h3 h4
    exact p2.2 i y w h3 h4
theorem to_call {es : List Expr} {ml : ML} {f : Mem → List U → Option D} {σ : St} {H : Hp} {Q : VK} (h : rdE X.K ca W (mCall f ml) σ H Q) : tCB (rDn X.K ca f) (rdA X.K ca W ml) σ H fun v H' => KF X.K H' → Q v H' := by
  obtain ⟨ms, ρ, μ, e, r, h⟩ := h
  refine af_bind e r h fun x μ1 v H1 ms1 k1 r1 p1 h1 => ?_
  obtain ⟨d, hd, q⟩ := fin_of h1 r1
  exact ⟨ms1, μ1, x, d, r1, p1, hd, q⟩
end
end Dv
namespace Dv
open PySem L2
/-! ### tests -/
def mTest (m : MD) : MT := fun ρ μ => (m ρ μ).bind fun u μ1 => match u with
  | .d (.bl b) => .val b μ1
  | _ => .stuck
def mAndT (a b : MT) : MT := fun ρ μ => (a ρ μ).bind fun c μ1 => if c = true then b ρ μ1 else .val false μ1
def mOrT (a b : MT) : MT := fun ρ μ => (a ρ μ).bind fun c μ1 => if c = true then .val true μ1 else b ρ μ1
def mNotT (a : MT) : MT := fun ρ μ => (a ρ μ).bind fun c μ1 => .val (!c) μ1
def mAndV (a b : MD) : MD := fun ρ μ => (mTest a ρ μ).bind fun c μ1 => if c = true then b ρ μ1 else .val (.d (.bl false)) μ1
def mOrV (a b : MD) : MD := fun ρ μ => (mTest a ρ μ).bind fun c μ1 => if c = true then .val (.d (.bl true)) μ1 else b ρ μ1
def mNotV (a : MD) : MD := fun ρ μ => (mTest a ρ μ).bind fun c μ1 => .val (.d (.bl (!c))) μ1
def mIfE (t : MT) (a b : MD) : MD := fun ρ μ => (t ρ μ).bind fun c μ1 => if c = true then a ρ μ1 else b ρ μ1
/-- a comparison by values: its answer, the heap but grown -/
def rDB (K : PySem.W.Frag) (ca : Nat → Addr) (f : Mem → U → U → Option Bool) : R2 := fun x y H Q => ∃ ms μ a b c, RelM K ca μ ms H ∧ RepU K ca ms H a x ∧ RepU K ca ms H b y ∧ f μ a b = some c ∧ ∀ H', Same H H' → Q (.bl c) H'
def mCmpB (f : Mem → U → U → Option Bool) (ma mb : MD) : MT := fun ρ μ => (ma ρ μ).bind fun x μ1 => (mb ρ μ1).bind fun y μ2 => ofO μ2 (f μ2 x y)
def mVal (m : MT) : MD := fun ρ μ => (m ρ μ).bind fun c μ1 => .val (.d (.bl c)) μ1
section
variable {X : Cx} {ca : Nat → Addr} {W : WX} {pos : Pos} {a b c : Expr} {ma mb : MD} {ta tb : MT} {rest : List Expr}
/-- a bool's value -/
theorem to_test {σ : St} {ms : Ms} {H : Hp} {Q1 : Bool → Hp → Prop} {β δ : Type} {rq : Ms → Hp → β → δ → Prop} {ρ : Env} {μ : Mem} {f : Bool → Mem → R β} {Q : δ → Hp → Prop} (e : RelE X.K ca ρ ms σ H) (r : RelM X.K ca μ ms H)
    (h : Af X.K ca rq W σ ms H ((mTest ma ρ μ).bind f) Q) (k : ∀ c μ1 H1 ms1, Keep X.K ca ms H ms1 H1 → RelM X.K ca μ1 ms1 H1 → Af X.K ca rq W σ ms1 H1 (f c μ1) Q → Q1 c H1) :
    rdE X.K ca W ma σ H fun x H1 => ∃ c, x = .bl c ∧ Q1 c H1 := by
  have h' : Af X.K ca rq W σ ms H ((ma ρ μ).bind fun u μ1 => ((match u with | .d (.bl b) => .val b μ1 | _ => .stuck : R Bool)).bind f) Q := by
    unfold mTest at h
    cases hm : ma ρ μ with
    | val u μ1 => rw [hm] at h; exact h
    | exc c fs μ1 => rw [hm] at h; exact h
    | stuck => rw [hm] at h; exact h
  refine af_bind e r h' fun u μ1 v H1 ms1 k1 r1 p1 h1 => ?_
  split at h1
  · rename_i b
    cases p1
    exact ⟨b, rfl, k b μ1 H1 ms1 k1 r1 h1⟩
  · exact (show False from h1).elim
theorem Af.id {K : PySem.W.Frag} {α γ : Type} {rp : Ms → Hp → α → γ → Prop} {σ : St} {ms : Ms} {H : Hp} {r : R α} {Q : γ → Hp → Prop} (h : Af K ca rp W σ ms H r Q) : Af K ca rp W σ ms H (r.bind fun a μ => .val a μ) Q := by
  cases r <;> exact h
theorem rt_test {t : TE} (hp : PT X a (tTest (rdE X.K ca W ma))) : PT X a (rdT X.K ca W (mTest ma)) :=
  pt_imp hp fun σ H Q _ ⟨ms, ρ, μ, e, r, h⟩ => to_test e r (Af.id h) fun c μ1 H1 ms1 k1 r1 h1 _ => Af.at (a := c) h1 r1 rfl
/-- one comparison -/
theorem to_cmp {f : Mem → U → U → Option Bool} {σ : St} {ms : Ms} {H : Hp} {ρ : Env} {μ : Mem} {β δ : Type} {rq : Ms → Hp → β → δ → Prop} {g : Bool → Mem → R β} {Q : δ → Hp → Prop} {Q1 : V → Hp → Prop} (e : RelE X.K ca ρ ms σ H) (r : RelM X.K ca μ ms H)
    (h : Af X.K ca rq W σ ms H ((mCmpB f ma mb ρ μ).bind g) Q) (k : ∀ c μ1 H1 ms1, RelM X.K ca μ1 ms1 H1 → Af X.K ca rq W σ ms1 H1 (g c μ1) Q → ∀ H2, Same H1 H2 → Q1 (.bl c) H2) :
    tOp (rDB X.K ca f) (rdE X.K ca W ma) (rdE X.K ca W mb) σ H Q1 := by
  have h' : Af X.K ca rq W σ ms H ((ma ρ μ).bind fun x μ1 => (mb ρ μ1).bind fun y μ2 => (ofO μ2 (f μ2 x y)).bind g) Q := by
    unfold mCmpB at h
    cases hm : ma ρ μ with
    | val u μ1 =>
      rw [hm] at h
      simp only [bind_val] at h ⊢
      cases hn : mb ρ μ1 with
      | val w μ2 => rw [hn] at h; exact h
      | exc c fs μ1 => rw [hn] at h; exact h
      | stuck => rw [hn] at h; exact h
    | exc c fs μ1 => rw [hm] at h; exact h
    | stuck => rw [hm] at h; exact h
  refine af_bind e r h' fun x μ1 v H1 ms1 k1 r1 p1 h1 => af_bind (e.keep k1) r1 h1 fun y μ2 u H2 ms2 k2 r2 p2 h2 => ?_
  cases hf : f μ2 x y with
  | none => rw [hf] at h2; exact (show False from h2).elim
  | some c =>
    rw [hf] at h2
    exact ⟨ms2, μ2, x, y, c, r2, k2.all _ _ p1, p2, hf, fun H' e' => k c μ2 H2 ms2 r2 h2 H' e'⟩
theorem rt_cmp {op : CmpOp} {f : Mem → U → U → Option Bool} (ho : OpR X (compareOp op) (rDB X.K ca f)) (ha : PE X a (rdE X.K ca W ma)) (hb : PE X b (rdE X.K ca W mb)) (hm : behindInMarks op b = false := by rfl) : PT X (.Compare a [op] [b] pos) (rdT X.K ca W (mCmpB f ma mb)) :=
  pt_imp (pt_cmpR ho ha hb hm) fun σ H Q kf ⟨ms, ρ, μ, e, r, h⟩ => to_cmp e r (Af.id h) fun c μ1 H1 ms1 r1 h1 H2 e2 => ⟨c, rfl, fun kf => Af.new (a := c) h1 r1 e2 kf rfl⟩
theorem re_cmp {op : CmpOp} {f : Mem → U → U → Option Bool} (ho : OpR X (compareOp op) (rDB X.K ca f)) (ha : PE X a (rdE X.K ca W ma)) (hb : PE X b (rdE X.K ca W mb)) (hm : behindInMarks op b = false := by rfl) : PE X (.Compare a [op] [b] pos) (rdE X.K ca W (mVal (mCmpB f ma mb))) :=
  pe_imp (pe_cmpR ho ha hb hm) fun σ H Q kf ⟨ms, ρ, μ, e, r, h⟩ => to_cmp e r h fun c μ1 H1 ms1 r1 h1 H2 e2 kf => Af.new (a := U.d (.bl c)) h1 r1 e2 kf (Rep.bl c)
/-- and, or, not -/
theorem rw_and1 (ha : PT X a (rdT X.K ca W ta)) : PW X (.BoolOp .And [a] pos) (rdT X.K ca W ta) := pw_and1 ha
theorem rw_or1 (ha : PT X a (rdT X.K ca W ta)) : PW X (.BoolOp .Or [a] pos) (rdT X.K ca W ta) := pw_or1 ha
theorem rw_and (ha : PT X a (rdT X.K ca W ta)) (hb : PW X (.BoolOp .And (b :: rest) pos) (rdT X.K ca W tb)) : PW X (.BoolOp .And (a :: b :: rest) pos) (rdT X.K ca W (mAndT ta tb)) :=
  pw_imp (pw_and ha hb) fun σ H Q kf ⟨ms, ρ, μ, e, r, h⟩ => af_bind e r h fun c μ1 v H1 ms1 k1 r1 p1 h1 => by
    obtain rfl : v = c := p1
    cases v with
    | true => exact ⟨ms1, ρ, μ1, e.keep k1, r1, by cases hb : tb ρ μ1 <;> (rw [if_pos rfl, hb] at h1; first | exact fun v H' ms' a b c _ => h1 v H' ms' a b c | exact h1)⟩
    | false => exact fun _ => Af.at (a := false) h1 r1 rfl
theorem rw_or (ha : PT X a (rdT X.K ca W ta)) (hb : PW X (.BoolOp .Or (b :: rest) pos) (rdT X.K ca W tb)) : PW X (.BoolOp .Or (a :: b :: rest) pos) (rdT X.K ca W (mOrT ta tb)) :=
  pw_imp (pw_or ha hb) fun σ H Q kf ⟨ms, ρ, μ, e, r, h⟩ => af_bind e r h fun c μ1 v H1 ms1 k1 r1 p1 h1 => by
    obtain rfl : v = c := p1
    cases v with
    | false => exact ⟨ms1, ρ, μ1, e.keep k1, r1, by cases hb : tb ρ μ1 <;> (rw [if_neg Bool.false_ne_true, hb] at h1; first | exact fun v H' ms' a b c _ => h1 v H' ms' a b c | exact h1)⟩
    | true => exact fun _ => Af.at (a := true) h1 r1 rfl
theorem rt_not (ha : PT X a (rdT X.K ca W ta)) : PT X (.UnaryOp .Not a pos) (rdT X.K ca W (mNotT ta)) :=
  pt_imp (pt_not ha) fun σ H Q kf ⟨ms, ρ, μ, e, r, h⟩ => af_bind e r h fun c μ1 v H1 ms1 k1 r1 p1 h1 => by
    obtain rfl : v = c := p1
    exact fun _ => Af.at (a := !v) h1 r1 rfl
/-- a value that is a bool, as a test (its test is its value's truth) -/
theorem rt_val (ha : PE X a (rdE X.K ca W ma)) (he : ∀ whole, isTrue a X.env whole = (do let v ← whole; standAt a.pos; holding [v] (truthy v)) := by intro _; rfl) : PT X a (rdT X.K ca W (mTest ma)) := rt_test (t := rdE X.K ca W ma) (pt_val ha he)
theorem af_kf {K : PySem.W.Frag} {α γ : Type} {rp : Ms → Hp → α → γ → Prop} {σ : St} {ms : Ms} {H : Hp} {r : R α} {Q : γ → Hp → Prop} (h : Af K ca rp W σ ms H r Q) : Af K ca rp W σ ms H r fun v H' => KF K H' → Q v H' := by
  cases r with
  | val a μ => exact fun v H' ms' k r p _ => h v H' ms' k r p
  | exc c fs μ => exact h
  | stuck => exact h
theorem re_not (ha : PE X a (rdE X.K ca W ma)) : PE X (.UnaryOp .Not a pos) (rdE X.K ca W (mNotV ma)) :=
  pe_imp (pe_not ha) fun σ H Q kf ⟨ms, ρ, μ, e, r, h⟩ => to_test e r h fun c μ1 H1 ms1 k1 r1 h1 _ => Af.at (a := U.d (.bl (!c))) h1 r1 (Rep.bl _)
theorem re_and (ha : PE X a (rdE X.K ca W ma)) (hb : PE X (.BoolOp .And (b :: rest) pos) (rdE X.K ca W mb)) : PE X (.BoolOp .And (a :: b :: rest) pos) (rdE X.K ca W (mAndV ma mb)) :=
  pe_imp (pe_and ha hb) fun σ H Q kf ⟨ms, ρ, μ, e, r, h⟩ => to_test e r h fun c μ1 H1 ms1 k1 r1 h1 => by
    cases c with
    | true => exact ⟨ms1, ρ, μ1, e.keep k1, r1, af_kf h1⟩
    | false => exact fun _ => Af.at (a := U.d (.bl false)) h1 r1 (Rep.bl _)
theorem re_or (ha : PE X a (rdE X.K ca W ma)) (hb : PE X (.BoolOp .Or (b :: rest) pos) (rdE X.K ca W mb)) : PE X (.BoolOp .Or (a :: b :: rest) pos) (rdE X.K ca W (mOrV ma mb)) :=
  pe_imp (pe_or ha hb) fun σ H Q kf ⟨ms, ρ, μ, e, r, h⟩ => to_test e r h fun c μ1 H1 ms1 k1 r1 h1 => by
    cases c with
    | false => exact ⟨ms1, ρ, μ1, e.keep k1, r1, af_kf h1⟩
    | true => exact fun _ => Af.at (a := U.d (.bl true)) h1 r1 (Rep.bl _)
theorem re_one {op : BoolOp} (ha : PE X a (rdE X.K ca W ma)) : PE X (.BoolOp op [a] pos) (rdE X.K ca W ma) := pe_one ha
theorem re_if (hc : PT X c (rdT X.K ca W ta)) (ha : PE X a (rdE X.K ca W ma)) (hb : PE X b (rdE X.K ca W mb)) : PE X (.IfExp c a b pos) (rdE X.K ca W (mIfE ta ma mb)) :=
  pe_imp (pe_ifExp hc ha hb) fun σ H Q kf ⟨ms, ρ, μ, e, r, h⟩ => af_bind e r h fun c μ1 v H1 ms1 k1 r1 p1 h1 => by
    obtain rfl : v = c := p1
    cases v with
    | true => exact ⟨ms1, ρ, μ1, e.keep k1, r1, af_kf h1⟩
    | false => exact ⟨ms1, ρ, μ1, e.keep k1, r1, af_kf h1⟩
end
end Dv
namespace Dv
open PySem L2
/-! ### displays, calls by name -/
def toD : U → Option D
  | .d x => some x
  | .cell _ => none
def toDs : List U → Option (List D)
  | [] => some []
  | .d x :: r => (toDs r).bind fun xs => some (x :: xs)
  | .cell _ :: _ => none
theorem toDs_len : ∀ {us : List U} {xs : List D}, toDs us = some xs → us.length = xs.length ∧ ∀ (i : Nat) x, xs[i]? = some x → us[i]? = some (.d x)
  | [], xs, h => by cases h; exact ⟨rfl, fun i x e => by simp at e⟩
  | .d y :: r, xs, h => by
    unfold toDs at h
    cases q : toDs r with
    | none => rw [q] at h; cases h
    | some ys =>
      rw [q] at h
      cases h
      obtain ⟨l, z⟩ := toDs_len q
      refine ⟨by simp [l], fun i x e => ?_⟩
      cases i with
      | zero => simpa using e
      | succ i => simp only [List.getElem?_cons_succ] at e ⊢; exact z i x e
  | .cell _ :: _, _, h => by cases h
theorem repL_of {K : PySem.W.Frag} {ca : Nat → Addr} {ms : Ms} {H : Hp} {us : List U} {xs : List D} {vs : List V} (h : RepUL K ca ms H us vs) (e : toDs us = some xs) : RepL K ca ms H xs vs := by
  obtain ⟨l, z⟩ := toDs_len e
  refine ⟨by rw [← l]; exact h.1, fun i x v a b => ?_⟩
  exact h.2 i (.d x) v (z i x a) b
def szD (n : Nat) : Bool := decide (n ≤ 100000)
def mkTup (us : List U) : Option D := if szD us.length then (toDs us).bind fun xs => some (.tup xs) else none
def mkLst (us : List U) : Option D := if szD us.length then (toDs us).bind fun xs => some (.lst xs) else none
def mTup (ml : ML) : MD := mCall (fun _ us => mkTup us) ml
def mLst (ml : ML) : MD := mCall (fun _ us => mkLst us) ml
/-- a display into a cell -/
def mLstC (ml : ML) : MD := fun ρ μ => (ml ρ μ).bind fun us μ1 => if szD us.length then (ofO μ1 (toDs us)).bind fun xs μ2 => .val (.cell μ2.length) (μ2 ++ [some (.lst xs)]) else .stuck
theorem same_new {H : Hp} {p : Addr} {o : HO} (h : H p = none) : Same H (upd H p o) := fun b u e => by rw [upd_ne (ne_of_none e h)]; exact e
theorem sz_ok {n : Nat} (h : szD n = true) : n ≤ sizeLine := Nat.le_trans (of_decide_eq_true h) (by decide)
section
variable {K : PySem.W.Frag} {ca : Nat → Addr} {ms : Ms} {H H' : Hp} {μ : Mem}
/-- one more cell -/
def Ms.more (ms : Ms) (p : Addr) : Ms := { ms with cs := ms.cs ++ [some p] }
/-- a new list cell -/
theorem RelM.newLst {p : Addr} {xs : List D} {vs : List V} (r : RelM K ca μ ms H) (hp : H p = none) (kf : KF K (upd H p (.lst vs))) (l : RepL K ca ms H xs vs) :
    Keep K ca ms H (ms.more p) (upd H p (.lst vs)) ∧ RelM K ca (μ ++ [some (.lst xs)]) (ms.more p) (upd H p (.lst vs)) := by
  have out := r.out hp
  have k : Keep K ca ms H (ms.more p) (upd H p (.lst vs)) := keep_of (fun a o q _ => same_new hp a o q) (fun a z => by
    rcases z with z | z
    · rcases List.mem_append.mp z with z | z
      · exact .inl (.inl z)
      · simp only [List.mem_singleton, Option.some.injEq] at z
        subst z
        exact .inr hp
    · exact .inl (.inr z)) (fun n a q => by show (ms.cs ++ [some p])[n]? = _; rw [List.getElem?_append_left (List.getElem?_eq_some_iff.mp q).1]; exact q) rfl fun a h => by
      obtain ⟨o, q⟩ := r.hidden a h
      rw [q, same_new hp a o q]
  refine ⟨k, ⟨by simp [Ms.more, r.len], fun n c h => ?_, fun n a h => ?_, fun n m a h1 h2 => ?_, fun a h => let ⟨o, q⟩ := r.hidden a h; ⟨o, same_new hp a o q⟩, fun n a h z => ?_, kf⟩⟩
  · by_cases hn : n < μ.length
    · rw [List.getElem?_append_left hn] at h
      obtain ⟨a, q, z⟩ := r.live n c h
      refine ⟨a, by show (ms.cs ++ [some p])[n]? = _; rw [List.getElem?_append_left (by rw [← r.len]; exact hn)]; exact q, z.keep k fun o e => same_new hp _ _ e⟩
    · have hn' : n = μ.length := by
        have := (List.getElem?_eq_some_iff.mp h).1
        simp at this
        omega
      subst hn'
      simp only [List.getElem?_concat_length, Option.some.injEq] at h
      subst h
      exact ⟨p, by show (ms.cs ++ [some p])[μ.length]? = _; rw [r.len]; simp, vs, upd_same, k.list l⟩
  · have h : (ms.cs ++ [some p])[n]? = some (some a) := h
    by_cases hn : n < ms.cs.length
    · rw [List.getElem?_append_left hn] at h
      obtain ⟨c, q⟩ := r.dead n a h
      exact ⟨c, by rw [List.getElem?_append_left (by rw [r.len]; exact hn)]; exact q⟩
    · have hn' : n = ms.cs.length := by
        have := (List.getElem?_eq_some_iff.mp h).1
        simp at this
        omega
      subst hn'
      exact ⟨_, by rw [← r.len]; simp; rfl⟩
  · have at_ : ∀ (n : Nat), (ms.cs ++ [some p])[n]? = some (some a) → (ms.cs[n]? = some (some a) ∧ a ≠ p) ∨ (n = ms.cs.length ∧ a = p) := fun n h => by
      by_cases hn : n < ms.cs.length
      · rw [List.getElem?_append_left hn] at h
        refine .inl ⟨h, fun z => ?_⟩
        subst z
        exact out (.inl (List.mem_of_getElem? h))
      · have hn' : n = ms.cs.length := by
          have := (List.getElem?_eq_some_iff.mp h).1
          simp at this
          omega
        subst hn'
        simp only [List.getElem?_concat_length, Option.some.injEq] at h
        exact .inr ⟨rfl, h.symm⟩
    rcases at_ n h1 with ⟨a1, a2⟩ | ⟨a1, a2⟩ <;> rcases at_ m h2 with ⟨b1, b2⟩ | ⟨b1, b2⟩
    · exact r.apart n m a a1 b1
    · exact absurd b2 a2
    · exact absurd a2 b2
    · omega
  · have h : (ms.cs ++ [some p])[n]? = some (some a) := h
    by_cases hn : n < ms.cs.length
    · rw [List.getElem?_append_left hn] at h
      exact r.sep n a h z
    · have hn' : n = ms.cs.length := by
        have := (List.getElem?_eq_some_iff.mp h).1
        simp at this
        omega
      subst hn'
      simp only [List.getElem?_concat_length, Option.some.injEq] at h
      subst h
      obtain ⟨o, q⟩ := r.hidden _ z
      rw [hp] at q; cases q
/-- a list cell changes -/
theorem RelM.setLst {n : Nat} {p : Addr} {xs : List D} {vs : List V} (r : RelM K ca μ ms H) (hp : ms.cs[n]? = some (some p)) (kf : KF K (upd H p (.lst vs))) (l : RepL K ca ms H xs vs) :
    Keep K ca ms H ms (upd H p (.lst vs)) ∧ RelM K ca (μ.set n (some (.lst xs))) ms (upd H p (.lst vs)) := by
  have pin : ms.In p := .inl (List.mem_of_getElem? hp)
  have k : Keep K ca ms H ms (upd H p (.lst vs)) := keep_of (fun a o q z => by
    rw [upd_ne]
    · exact q
    · intro e; subst e; exact z pin) (fun a z => .inl z) (fun _ _ q => q) rfl fun a h => by
      rw [upd_ne]
      intro e; subst e
      exact r.sep n _ hp h
  have hn : n < μ.length := by rw [r.len]; exact (List.getElem?_eq_some_iff.mp hp).1
  refine ⟨k, ⟨by simp [r.len], fun m c h => ?_, fun m a h => ?_, r.apart, fun a h => ?_, r.sep, kf⟩⟩
  · by_cases hm : m = n
    · subst hm
      rw [List.getElem?_set_self hn] at h
      simp only [Option.some.injEq] at h
      subst h
      exact ⟨p, hp, vs, upd_same, k.list l⟩
    · rw [List.getElem?_set_ne (by omega)] at h
      obtain ⟨a, q, z⟩ := r.live m c h
      refine ⟨a, q, z.keep k fun o e => ?_⟩
      rw [upd_ne]
      · exact e
      · intro e'; subst e'; exact hm (r.apart m n _ q hp)
  · by_cases hm : m = n
    · subst hm
      exact ⟨_, List.getElem?_set_self hn⟩
    · obtain ⟨c, q⟩ := r.dead m a h
      exact ⟨c, by rw [List.getElem?_set_ne (by omega)]; exact q⟩
  · by_cases ha : a = p
    · subst ha
      exact ⟨_, upd_same⟩
    · obtain ⟨o, q⟩ := r.hidden a h
      exact ⟨o, by rw [upd_ne ha]; exact q⟩
end
section
variable {X : Cx} {ca : Nat → Addr} {W : WX} {pos : Pos} {a b : Expr} {es : List Expr} {ma mb : MD} {ml : ML}
theorem re_tup {x1} (h : PA X es (rdA X.K ca W ml)) : PE X (.Tuple es x1 pos) (rdE X.K ca W (mTup ml)) := by
  refine pe_imp (pe_tup h) fun σ H Q kf ⟨ms, ρ, μ, e, r, h⟩ => af_bind e r h fun us μ1 vs H1 ms1 k1 r1 p1 h1 => ?_
  obtain ⟨d, hd, q⟩ := fin_of h1 r1
  dsimp only at hd; unfold mkTup at hd
  split at hd
  · rename_i hz
    cases hx : toDs us with
    | none => rw [hx] at hd; cases hd
    | some xs =>
      rw [hx] at hd
      cases hd
      have l := repL_of p1 hx
      refine ⟨by rw [← p1.1]; exact sz_ok hz, fun p hp => q _ _ (same_new hp) fun _ => ?_⟩
      exact .tup (.inl ⟨.inl upd_same, r1.out hp⟩) l.1 fun i x v a b => (l.2 i x v a b).ext (same_new hp)
  · cases hd
theorem re_lst (h : PA X es (rdA X.K ca W ml)) : PE X (.List es pos) (rdE X.K ca W (mLst ml)) := by
  refine pe_imp (pe_lst h) fun σ H Q kf ⟨ms, ρ, μ, e, r, h⟩ => af_bind e r h fun us μ1 vs H1 ms1 k1 r1 p1 h1 => ?_
  obtain ⟨d, hd, q⟩ := fin_of h1 r1
  dsimp only at hd; unfold mkLst at hd
  split at hd
  · rename_i hz
    cases hx : toDs us with
    | none => rw [hx] at hd; cases hd
    | some xs =>
      rw [hx] at hd
      cases hd
      have l := repL_of p1 hx
      refine ⟨by rw [← p1.1]; exact sz_ok hz, fun p hp => q _ _ (same_new hp) fun _ => ?_⟩
      exact .lst upd_same (r1.out hp) l.1 fun i x v a b => (l.2 i x v a b).ext (same_new hp)
  · cases hd
theorem re_lstC (h : PA X es (rdA X.K ca W ml)) : PE X (.List es pos) (rdE X.K ca W (mLstC ml)) := by
  refine pe_imp (pe_lst h) fun σ H Q kf ⟨ms, ρ, μ, e, r, h⟩ => af_bind e r h fun us μ1 vs H1 ms1 k1 r1 p1 h1 => ?_
  split at h1
  · rename_i hz
    cases hx : toDs us with
    | none => rw [hx] at h1; exact (show False from h1).elim
    | some xs =>
      rw [hx] at h1
      have l := repL_of p1 hx
      refine ⟨by rw [← p1.1]; exact sz_ok hz, fun p hp kf' => ?_⟩
      obtain ⟨k2, r2⟩ := r1.newLst hp kf' l
      exact h1 (.ref p) _ (ms1.more p) k2 r2 ⟨p, rfl, .inl (by show (ms1.cs ++ [some p])[_]? = _; rw [r1.len]; simp)⟩
  · exact (show False from h1).elim
theorem re_callB {id : String} {x : Str} {p : Pos} {f : Mem → List U → Option D} (hc : CallR X (.builtin id) (rDn X.K ca f)) (hg : Gl X x) (hm : X.mg x = none) (hv : bootBuiltins x = some (.builtin id)) (ha : PA X (a :: es) (rdA X.K ca W ml)) (hn : x ≠ "__name__" := by decide) (hdb : (x == ("__debug__" : Str)) = false := by decide)
    (he : starEach (a :: es) X.env = (false, eval a X.env) :: starEach es X.env := by rfl) (hpl : (backTo pos (starEach es X.env)).any (·.1) = false := by rfl) : PE X (.Call (.Name x p) (a :: es) [] pos) (rdE X.K ca W (mCall f ml)) :=
  pe_imp (pe_callB hc hg hm hv ha hn hdb he hpl) fun _ _ _ _ h => to_call (es := es) h
theorem re_callTy {T : String} {x : Str} {p : Pos} {f : Mem → List U → Option D} (hc : CallR X (.type T) (rDn X.K ca f)) (hg : Gl X x) (hm : X.mg x = none) (hv : bootBuiltins x = some (.type T)) (ha : PA X (a :: es) (rdA X.K ca W ml)) (hn : x ≠ "__name__" := by decide) (hdb : (x == ("__debug__" : Str)) = false := by decide)
    (he : starEach (a :: es) X.env = (false, eval a X.env) :: starEach es X.env := by rfl) (hpl : (backTo pos (starEach es X.env)).any (·.1) = false := by rfl) : PE X (.Call (.Name x p) (a :: es) [] pos) (rdE X.K ca W (mCall f ml)) :=
  pe_imp (pe_callTy hc hg hm hv ha hn hdb he hpl) fun _ _ _ _ h => to_call (es := es) h
end
end Dv
namespace Dv
open PySem L2
open PyProof.Rows (envOfC)
/-! ### statements -/
section
variable (K : PySem.W.Frag) (ca : Nat → Addr)
def AfS (W : WX) (ms : Ms) (H : Hp) (r : RS) (D : Ends) : Prop := match r with
  | .next ρ' μ' => ∀ σ' H' ms', Keep K ca ms H ms' H' → RelE K ca ρ' ms' σ' H' → RelM K ca μ' ms' H' → D.nx σ' H'
  | .brk ρ' μ' => ∀ σ' H' ms', Keep K ca ms H ms' H' → RelE K ca ρ' ms' σ' H' → RelM K ca μ' ms' H' → D.bk σ' H'
  | .cont ρ' μ' => ∀ σ' H' ms', Keep K ca ms H ms' H' → RelE K ca ρ' ms' σ' H' → RelM K ca μ' ms' H' → D.ct σ' H'
  | .ret u μ' => ∀ v H' ms', Keep K ca ms H ms' H' → RelM K ca μ' ms' H' → RepU K ca ms' H' u v → D.rt v H'
  | .exc c fs ρ' μ' => ∀ d σ' H' ms', Keep K ca ms H ms' H' → RelE K ca ρ' ms' σ' H' → RelM K ca μ' ms' H' → ErrAt K ca ms' H' fs d → W (.ref (ca c)) d σ' H'
  | .stuck => False
def rdS (W : WX) (m : MS) : TS := fun D σ H => ∃ ms ρ μ, RelE K ca ρ ms σ H ∧ RelM K ca μ ms H ∧ AfS K ca W ms H (m ρ μ) D
end
def kfD (K : PySem.W.Frag) (D : Ends) : Ends := { nx := fun σ H => KF K H → D.nx σ H, rt := fun v H => KF K H → D.rt v H, bk := fun σ H => KF K H → D.bk σ H, ct := fun σ H => KF K H → D.ct σ H }
def RS.of {α : Type} (ρ : Env) : R α → (α → Mem → RS) → RS
  | .val a μ, f => f a μ
  | .exc c fs μ, _ => .exc c fs ρ μ
  | .stuck, _ => .stuck
@[simp] theorem of_val {α : Type} (ρ : Env) (a : α) (μ : Mem) (f : α → Mem → RS) : RS.of ρ (.val a μ) f = f a μ := rfl
@[simp] theorem of_exc {α : Type} (ρ : Env) (c : Nat) (fs : List (Str × D)) (μ : Mem) (f : α → Mem → RS) : RS.of ρ (.exc c fs μ) f = .exc c fs ρ μ := rfl
@[simp] theorem of_stuck {α : Type} (ρ : Env) (f : α → Mem → RS) : RS.of ρ (.stuck) f = .stuck := rfl
def RS.then_ : RS → MS → RS
  | .next ρ μ, n => n ρ μ
  | r, _ => r
@[simp] theorem then_next (ρ : Env) (μ : Mem) (n : MS) : (RS.next ρ μ).then_ n = n ρ μ := rfl
@[simp] theorem then_ret (v : U) (μ : Mem) (n : MS) : (RS.ret v μ).then_ n = .ret v μ := rfl
@[simp] theorem then_exc (c : Nat) (fs : List (Str × D)) (ρ : Env) (μ : Mem) (n : MS) : (RS.exc c fs ρ μ).then_ n = .exc c fs ρ μ := rfl
@[simp] theorem then_stuck (n : MS) : (RS.stuck).then_ n = .stuck := rfl
@[simp] theorem then_brk (ρ : Env) (μ : Mem) (n : MS) : (RS.brk ρ μ).then_ n = .brk ρ μ := rfl
@[simp] theorem then_cont (ρ : Env) (μ : Mem) (n : MS) : (RS.cont ρ μ).then_ n = .cont ρ μ := rfl
section
variable {K : PySem.W.Frag} {ca : Nat → Addr} {W : WX} {σ : St} {ms ms1 : Ms} {H H1 : Hp} {ρ : Env} {μ : Mem} {D D' : Ends}
theorem AfS.shift {r : RS} (h : AfS K ca W ms H r D) (k : Keep K ca ms H ms1 H1) : AfS K ca W ms1 H1 r D := by
  cases r with
  | next => exact fun a b c k' => h a b c (k.trans k')
  | brk => exact fun a b c k' => h a b c (k.trans k')
  | cont => exact fun a b c k' => h a b c (k.trans k')
  | ret => exact fun a b c k' => h a b c (k.trans k')
  | exc => exact fun a b c d k' => h a b c d (k.trans k')
  | stuck => exact h
theorem AfS.kf {r : RS} (h : AfS K ca W ms H r D) : AfS K ca W ms H r (kfD K D) := by
  cases r with
  | next => exact fun a b c k' e r _ => h a b c k' e r
  | brk => exact fun a b c k' e r _ => h a b c k' e r
  | cont => exact fun a b c k' e r _ => h a b c k' e r
  | ret => exact fun a b c k' r p _ => h a b c k' r p
  | exc => exact h
  | stuck => exact h
theorem af_of {α γ : Type} {rp : Ms → Hp → α → γ → Prop} {m : Env → Mem → R α} {f : α → Mem → RS} {Q1 : γ → Hp → Prop} (e : RelE K ca ρ ms σ H) (r : RelM K ca μ ms H) (h : AfS K ca W ms H (RS.of ρ (m ρ μ) f) D)
    (k : ∀ a μ1 v H1 ms1, Keep K ca ms H ms1 H1 → RelM K ca μ1 ms1 H1 → rp ms1 H1 a v → AfS K ca W ms1 H1 (f a μ1) D → Q1 v H1) : rd K ca rp W m σ H Q1 := by
  refine ⟨ms, ρ, μ, e, r, ?_⟩
  cases hm : m ρ μ with
  | val a μ1 =>
    rw [hm] at h
    exact fun v H1 ms1 k1 r1 p1 => k a μ1 v H1 ms1 k1 r1 p1 (AfS.shift h k1)
  | exc c fs μ1 =>
    rw [hm] at h
    exact fun d H' ms' k' r' x' => h d σ H' ms' k' (e.keep k') r' x'
  | stuck =>
    rw [hm] at h
    exact (show False from h).elim
theorem AfS.nx {r : RelM K ca μ ms H} (h : AfS K ca W ms H (.next ρ μ) D) (e : RelE K ca ρ ms σ H) : D.nx σ H := h σ H ms Keep.refl e r
theorem RelE.set {i : Nat} {u : U} {v : V} (e : RelE K ca ρ ms σ H) (hi : i < ρ.length) (p : RepU K ca ms H u v) : RelE K ca (ρ.set i (some u)) ms (σ.set i (some v)) H := by
  refine ⟨by simp [e.1], fun j w h => ?_⟩
  by_cases hj : j = i
  · subst hj
    rw [List.getElem?_set_self hi] at h
    cases h
    exact ⟨v, List.getElem?_set_self (by rw [← e.1]; exact hi), p⟩
  · rw [List.getElem?_set_ne (by omega)] at h
    obtain ⟨z, a, b⟩ := e.2 j w h
    exact ⟨z, by rw [List.getElem?_set_ne (by omega)]; exact a, b⟩
end
def putE (i : Nat) (u : U) (ρ : Env) : Option Env := if i < ρ.length then some (ρ.set i (some u)) else none
def mSeq (m n : MS) : MS := fun ρ μ => (m ρ μ).then_ n
def mNop : MS := fun ρ μ => .next ρ μ
def mSet (i : Nat) (m : MD) : MS := fun ρ μ => RS.of ρ (m ρ μ) fun u μ1 => match putE i u ρ with
  | some ρ1 => .next ρ1 μ1
  | none => .stuck
def mRet (m : MD) : MS := fun ρ μ => RS.of ρ (m ρ μ) fun u μ1 => .ret u μ1
def mExp (m : MD) : MS := fun ρ μ => RS.of ρ (m ρ μ) fun _ μ1 => .next ρ μ1
def mIf (t : MT) (m n : MS) : MS := fun ρ μ => RS.of ρ (t ρ μ) fun c μ1 => if c = true then m ρ μ1 else n ρ μ1
section
variable {X : Cx} {ca : Nat → Addr} {W : WX} {pos : Pos} {st : Stmt} {rest ss zs : List Stmt} {e c : Expr} {m n : MS} {me : MD} {mt : MT}
theorem ps_imp {t t' : TS} (h : PS X st t) (k : ∀ D σ H, KF X.K H → t' D σ H → t (kfD X.K D) σ H) : PS X st t' :=
  ⟨fun pins s σ H D I q => thn (h.run pins s σ H _ I (k D σ H (kf_of I) q)) fun f s1 z => by
    cases f with
    | next => obtain ⟨σ', H', I', q'⟩ := z; exact ⟨σ', H', I', q' (kf_of I')⟩
    | brk => obtain ⟨σ', H', I', q'⟩ := z; exact ⟨σ', H', I', q' (kf_of I')⟩
    | cont => obtain ⟨σ', H', I', q'⟩ := z; exact ⟨σ', H', I', q' (kf_of I')⟩
    | ret u => obtain ⟨v, σ', H', I', r', q'⟩ := z; exact ⟨v, σ', H', I', r', q' (kf_of I')⟩⟩
theorem pss_imp {t t' : TS} (h : PSs X ss t) (k : ∀ D σ H, KF X.K H → t' D σ H → t (kfD X.K D) σ H) : PSs X ss t' :=
  ⟨fun pins s σ H D I q => thn (h.run pins s σ H _ I (k D σ H (kf_of I) q)) fun f s1 z => by
    cases f with
    | next => obtain ⟨σ', H', I', q'⟩ := z; exact ⟨σ', H', I', q' (kf_of I')⟩
    | brk => obtain ⟨σ', H', I', q'⟩ := z; exact ⟨σ', H', I', q' (kf_of I')⟩
    | cont => obtain ⟨σ', H', I', q'⟩ := z; exact ⟨σ', H', I', q' (kf_of I')⟩
    | ret u => obtain ⟨v, σ', H', I', r', q'⟩ := z; exact ⟨v, σ', H', I', r', q' (kf_of I')⟩⟩
theorem rss_nil : PSs X [] (rdS X.K ca W mNop) := pss_imp pss_nil fun D σ H kf ⟨ms, ρ, μ, e, r, h⟩ _ => AfS.nx (r := r) h e
theorem rss_one (h : PS X st (rdS X.K ca W m)) : PSs X [st] (rdS X.K ca W m) := pss_one h
theorem rss_cons (h1 : PS X st (rdS X.K ca W m)) (h2 : PSs X rest (rdS X.K ca W n)) : PSs X (st :: rest) (rdS X.K ca W (mSeq m n)) :=
  pss_imp (pss_cons h1 h2) fun D σ H kf ⟨ms, ρ, μ, e, r, h⟩ => by
    refine ⟨ms, ρ, μ, e, r, ?_⟩
    unfold mSeq at h
    cases hm : m ρ μ with
    | next ρ1 μ1 =>
      rw [hm] at h
      exact fun σ1 H1 ms1 k1 e1 r1 => ⟨ms1, ρ1, μ1, e1, r1, (AfS.shift h k1).kf⟩
    | brk ρ1 μ1 => rw [hm] at h; exact fun a b c k' e r _ => h a b c k' e r
    | cont ρ1 μ1 => rw [hm] at h; exact fun a b c k' e r _ => h a b c k' e r
    | ret v μ1 => rw [hm] at h; exact fun a b c k' r p _ => h a b c k' r p
    | exc c fs ρ1 μ1 => rw [hm] at h; exact h
    | stuck => rw [hm] at h; exact h
theorem rs_set (i : Nat) {x : Str} {p : Pos} (nd : X.N.Nodup) (he : PE X e (rdE X.K ca W me)) (hi : X.N[i]? = some x := by rfl) (hx : Loc X.env.scope x := by first | exact Or.inl rfl | exact Or.inr rfl) (hf : X.fn x = true ∨ X.env.scope.names.lookup x = some .local := by first | exact .inl rfl | exact .inr rfl | assumption)
    (hs : swapsWithSole [.Name x p] e pos.line X.env = pure false := by rfl) (hw : swappedStores [.Name x p] e X.env = pure none := by rfl) (h1 : (assignEach [.Name x p] X.env).map (·.2) = [assign (.Name x p) X.env] := by rfl) :
    PS X (.Assign [.Name x p] e pos) (rdS X.K ca W (mSet i me)) :=
  ps_imp (ps_asg he (pg_name nd hi hx hf) hs hw h1) fun D σ H kf ⟨ms, ρ, μ, e, r, h⟩ => af_of e r h fun u μ1 v H1 ms1 k1 r1 p1 h1 => by
    unfold putE at h1
    by_cases hi : i < ρ.length
    · rw [if_pos hi] at h1
      exact fun _ => AfS.nx (r := r1) h1 ((e.keep k1).set hi p1)
    · rw [if_neg hi] at h1
      exact (show False from h1).elim
theorem rs_ret (he : PE X e (rdE X.K ca W me)) : PS X (.Return (some e) pos) (rdS X.K ca W (mRet me)) :=
  ps_imp (ps_ret he) fun D σ H kf ⟨ms, ρ, μ, e, r, h⟩ => af_of e r h fun u μ1 v H1 ms1 k1 r1 p1 h1 => fun _ => h1 v H1 ms1 Keep.refl r1 p1
theorem rs_exp (he : PE X e (rdE X.K ca W me)) (hs : swapsWith e none pos.line X.env = pure false := by rfl) : PS X (.Expr e pos) (rdS X.K ca W (mExp me)) :=
  ps_imp (ps_expr he hs) fun D σ H kf ⟨ms, ρ, μ, e, r, h⟩ => af_of e r h fun u μ1 v H1 ms1 k1 r1 p1 h1 => fun _ => AfS.nx (r := r1) h1 (e.keep k1)
theorem rs_if (hc : PT X c (rdT X.K ca W mt)) (ha : PSs X ss (rdS X.K ca W m)) (hb : PSs X zs (rdS X.K ca W n)) : PS X (.If c ss zs pos) (rdS X.K ca W (mIf mt m n)) :=
  ps_imp (ps_if hc ha hb) fun D σ H kf ⟨ms, ρ, μ, e, r, h⟩ => af_of e r h fun u μ1 v H1 ms1 k1 r1 p1 h1 => by
    obtain rfl : v = u := p1
    cases v with
    | true => exact ⟨ms1, ρ, μ1, e.keep k1, r1, AfS.kf h1⟩
    | false => exact ⟨ms1, ρ, μ1, e.keep k1, r1, AfS.kf h1⟩
end
/-! ### defs -/
def runB (n : Nat) (m : MS) (us : List U) (μ : Mem) : R U := match m (us.map some ++ List.replicate (n - us.length) none) μ with
  | .next _ μ1 => .val (.d .non) μ1
  | .ret v μ1 => .val v μ1
  | .exc c fs _ μ1 => .exc c fs μ1
  | _ => .stuck
abbrev MF := List U → Mem → R U
/-- the promise: a def of k arguments does what mf tells -/
def spD (K : PySem.W.Frag) (ca : Nat → Addr) (k : Nat) (mf : MF) : Sp := fun vs H Q E => vs.length = k ∧ ∃ ms μ us, RelM K ca μ ms H ∧ RepUL K ca ms H us vs ∧ Af K ca (RepU K ca) (fun cls d _ H' => E cls d H') [] ms H (mf us μ) Q
def LenL (ml : ML) (n : Nat) : Prop := ∀ ρ μ us μ1, ml ρ μ = .val us μ1 → us.length = n
theorem len_nil : LenL mNil 0 := fun ρ μ us μ1 h => by cases h; rfl
theorem len_cons {ma : MD} {mr : ML} {n : Nat} (h : LenL mr n) : LenL (mCons ma mr) (n + 1) := fun ρ μ us μ1 q => by
  unfold mCons at q
  cases h1 : ma ρ μ with
  | val x μ2 =>
    rw [h1, bind_val] at q
    cases h2 : mr ρ μ2 with
    | val xs μ3 =>
      rw [h2, bind_val] at q
      have hl := h ρ μ2 xs μ3 h2
      cases q
      rw [List.length_cons, hl]
    | exc c fs μ4 => rw [h2] at q; cases q
    | stuck => rw [h2] at q; cases q
  | exc c fs μ4 => rw [h1] at q; cases q
  | stuck => rw [h1] at q; cases q
def mFn (mf : MF) (ml : ML) : MD := fun ρ μ => (ml ρ μ).bind mf
section
variable {P : Program} {w : World} {K : PySem.W.Frag} {mg : Str → Option Value} {base : Heap} {ca : Nat → Addr}
theorem start_rel {N : List Str} {us : List U} {vs : List V} {ms : Ms} {H : Hp} (h : RepUL K ca ms H us vs) : RelE K ca (us.map some ++ List.replicate (N.length - us.length) none) ms (L2.start N vs) H := by
  refine ⟨by simp [L2.start, h.1], fun i u e => ?_⟩
  by_cases hi : i < us.length
  · rw [List.getElem?_append_left (by simpa using hi), List.getElem?_map] at e
    cases q : us[i]? with
    | none => rw [q] at e; simp at e
    | some y =>
      rw [q] at e
      simp only [Option.map_some, Option.some.injEq] at e
      subst e
      have hv : i < vs.length := by rw [← h.1]; exact hi
      refine ⟨vs[i], ?_, h.2 i y _ q (List.getElem?_eq_getElem hv)⟩
      unfold L2.start
      rw [List.getElem?_append_left (by simpa using hv), List.getElem?_map, List.getElem?_eq_getElem hv]
      rfl
  · rw [List.getElem?_append_right (by simpa using hi)] at e
    have := List.mem_of_getElem? e
    simp at this
end
/-! ### a def's promise where no repr is under way -/
structure FnG (P : Program) (w : World) (K : PySem.W.Frag) (mg : Str → Option Value) (base : Heap) (k : Nat) (f : Addr) (fd : FuncData) (ps : List Str) (sp : Sp) : Prop where
  size : ∀ xs G Q E, sp xs G Q E → xs.length = ps.length
  go : ∀ (B : Around) (fr : List PySem.Env) (z : Shared) (G : Hp) (ar : Args) (as : List Value) (xs : List V) (Q : VK) (E : XK), Room k B → B.guards = some [] → Env0 P w K mg base B fr z G → BindsTo z fd ar (ps.zip as) → Vals xs as → sp xs G Q E →
    codeAny (model P w) B (.call (.ref f) ar) (CR (L2.CX P w) fr P w G z Q E) z
theorem FnG.up {P : Program} {w : World} {K : PySem.W.Frag} {mg : Str → Option Value} {base : Heap} {j k : Nat} {f : Addr} {fd : FuncData} {ps : List Str} {sp : Sp} (F : FnG P w K mg base j f fd ps sp) (h : j ≤ k) : FnG P w K mg base k f fd ps sp :=
  ⟨F.size, fun B fr z G ar as xs Q E rm => F.go B fr z G ar as xs Q E (rm.mono h)⟩
section
variable {P : Program} {w : World} {K : PySem.W.Frag} {mg : Str → Option Value} {base : Heap} {ca : Nat → Addr}
theorem fn_body {k : Nat} {f : Addr} {st : Stmt} {nm qual : Str} {fd : FuncData} {N ps : List Str} {sp : Sp} (F : Fun K nm qual st f fd) (S : FnScope N ps (defScope st)) (sz : ∀ xs G Q E, sp xs G Q E → xs.length = ps.length)
    (bd : ∀ (cv : Value) (B : Around) (fr : List PySem.Env) (z : Shared) (G : Hp) (xs : List V) (Q : VK) (E : XK), Room k (B.deeper (envOfC qual (defScope st) z.heap.objs.size f cv)) → B.guards = some [] → sp xs G Q E →
      ∃ t, PSs (cxOf (L2.CX P w) P w K mg base N qual (defScope st) f cv B fr z G E) (defBody st) t ∧ t { nx := fun _ G' => Q .non G', rt := Q } (L2.start N xs) G) : FnG P w K mg base (k + 1) f fd ps sp := by
  obtain ⟨oc, od, kV, doc, pm, an, cv, ct, osl, rfl, at_, cod⟩ := F.ex
  refine ⟨sz, fun B fr z G ar as xs Q E rm gd e0 bi rv hs => ?_⟩
  have inK : K.In z.heap := e0.mod.kin.keeps fun c o q => (e0.bs c o q).1
  have noL : z.heap.NoLimit := e0.mod.nolimit.keeps fun c o q => (e0.bs c o q).1
  refine codeAny_call_function rm.depth (inK _ _ at_) rfl S.co S.gen rfl (PySem.W.codeRec_of inK cod) (bi _ _ _ _ (wpAny_newFunctionEnv_cells S.kind (fun pr mem => ?_) fun env eq z1 ic => ?_))
  · obtain ⟨n, v⟩ := pr
    rcases S.par n (List.of_mem_zip mem).1 with q | q
    · exact Or.inl q
    · exact Or.inr ⟨q, PySem.W.cellsFrom_some _ _ _ (Or.inl q)⟩
  · subst eq
    obtain ⟨t, derive, say⟩ := bd cv B fr z G xs Q E (rm.deeper _) gd hs
    have J0 : Inv (cxOf (L2.CX P w) P w K mg base N qual (defScope st) f cv B fr z G E) [] (L2.start N xs) G z1 := inv_start S rm.hd e0 (sz _ _ _ _ hs) rv ic
    refine ⟨noL.keeps ic.toInCall.keep, codeAny_func (wpAny_mono (derive.run [] z1 _ G _ J0 say) (fun way z2 ends => ?_) fun _ _ q => q)⟩
    cases way with
    | ret u => obtain ⟨v, σ', G', J, rel, q⟩ := ends; exact ⟨v, G', J.os, J.bare, J.base, J.hok, rel, q⟩
    | next => obtain ⟨σ', G', J, q⟩ := ends; exact ⟨V.non, G', J.os, J.bare, J.base, J.hok, rfl, q⟩
    | brk => obtain ⟨_, _, _, q⟩ := ends; exact q.elim
    | cont => obtain ⟨_, _, _, q⟩ := ends; exact q.elim
theorem fn_ok {x qual : Str} {st : Stmt} {f : Addr} {fd : FuncData} {N ps : List Str} {k : Nat} {m : MS} {mf : MF} (F : Fun K x qual st f fd) (S : FnScope N ps (defScope st)) (hmf : ∀ us μ, us.length = ps.length → mf us μ = runB N.length m us μ)
    (hbody : ∀ (cdv : Value) (A : Around) (outer : List PySem.Env) (s : Shared) (H : Hp) (E : XK), Room k (A.deeper (envOfC qual (defScope st) s.heap.objs.size f cdv)) → A.guards = some [] →
      PSs (cxOf (L2.CX P w) P w K mg base N qual (defScope st) f cdv A outer s H E) (defBody st) (rdS K ca (fun cls d _ H' => E cls d H') m)) : FnG P w K mg base (k + 1) f fd ps (spD K ca ps.length mf) := by
  refine fn_body F S (fun vs H Q E h => h.1) fun cdv A outer s H vs Q E hr gd h => ⟨_, hbody cdv A outer s H E hr gd, ?_⟩
  obtain ⟨hl, ms, μ, us, r, l, h⟩ := h
  refine ⟨ms, _, μ, start_rel (N := N) l, r, ?_⟩
  rw [hmf us μ (by rw [l.1]; exact hl)] at h
  unfold runB at h
  cases hm : m (us.map some ++ List.replicate (N.length - us.length) none) μ with
  | next ρ1 μ1 => rw [hm] at h; exact fun σ' H' ms' k' e' r' => h .non H' ms' k' r' Rep.non
  | ret v μ1 => rw [hm] at h; exact fun v' H' ms' k' r' p' => h v' H' ms' k' r' p'
  | exc c fs ρ1 μ1 => rw [hm] at h; exact fun d σ' H' ms' k' e' r' x' => h d H' ms' k' r' x'
  | brk ρ1 μ1 => rw [hm] at h; exact (show False from h).elim
  | cont ρ1 μ1 => rw [hm] at h; exact (show False from h).elim
  | stuck => rw [hm] at h; exact (show False from h).elim
end
section
variable {X : Cx} {ca : Nat → Addr} {W : WX} {pos p : Pos} {e : Expr} {es : List Expr} {ml : ML}
/-- a call of a def by values -/
theorem call_fn {k : Nat} {f : Addr} {fd : FuncData} {ps : List Str} {sp : Sp} {pins : List (Addr × Obj)} {σ : St} {H : Hp} {s : Shared} {Q : VK} {us : List Value} {vs : List V} (F : FnG X.prog X.w X.K X.mg X.base k f fd ps sp) (hr : Room k X.A) (gd : X.A.guards = some []) (hb : Binds X.K fd ps [])
    (tk : Takes X W) (I : Inv X pins σ H s) (r : Vals vs us) (h : sp vs H Q (WE W σ)) : wpAny (model X.prog X.w) X.A (call (.ref f) us) (EP X pins σ Q) X.xe s := by
  have sz : us.length = ps.length := r.length ▸ F.size _ _ _ _ h
  have bi := hb s us I.kIn (by simpa using sz)
  refine wpAny_call (codeAny_mono (F.go X.A X.stack s H ⟨us, []⟩ us vs Q (WE W σ) hr gd I.env0 (by simpa using bi) r h) fun res s' end_ => ?_)
  cases res with
  | error er => exact passAt tk σ pins H s er s' I end_
  | ok way =>
    cases way with
    | ret u => exact I.after end_
    | next => exact False.elim end_
    | brk => exact False.elim end_
    | cont => exact False.elim end_
theorem pe_fn {k : Nat} {f : Addr} {fd : FuncData} {ps : List Str} {sp : Sp} {x : Str} {t : TA} (F : FnG X.prog X.w X.K X.mg X.base k f fd ps sp) (hr : Room k X.A) (gd : X.A.guards = some []) (tk : Takes X W) (hm : X.mg x = some (.ref f)) (hk : PySem.W.keepIn X.K (.ref f) = true) (hb : Binds X.K fd ps [])
    (ha : PA X (e :: es) t) (hg : Gl X x) (hdb : (x == ("__debug__" : Str)) = false) (he : starEach (e :: es) X.env = (false, eval e X.env) :: starEach es X.env) (hpl : (backTo pos (starEach es X.env)).any (·.1) = false) : PE X (.Call (.Name x p) (e :: es) [] pos) (tCallS sp (WE W) t) :=
  ⟨fun pins s σ H Q I h => wpAny_Call_Name_kw (ld_glob I hg hm (PySem.W.callWith_K (h₀ := X.base) I.ok.mod.kin hk (thn (ha.run pos pins s σ H _ I h) fun us s1 ⟨vs, H1, I1, r, q⟩ => ⟨I1.kIn, call_fn F hr gd hb tk I1 r q⟩) he hpl) hdb)⟩
theorem re_fn {k : Nat} {f : Addr} {fd : FuncData} {ps : List Str} {x : Str} {mf : MF} (F : FnG X.prog X.w X.K X.mg X.base k f fd ps (spD X.K ca ps.length mf)) (hr : Room k X.A) (gd : X.A.guards = some []) (tk : Takes X W) (hm : X.mg x = some (.ref f)) (hk : PySem.W.keepIn X.K (.ref f) = true) (hb : Binds X.K fd ps [])
    (ha : PA X (e :: es) (rdA X.K ca W ml)) (hg : Gl X x := by rfl) (hl : (e :: es).length = ps.length := by rfl) (hml : LenL ml (e :: es).length := by repeat' first | exact len_nil | refine len_cons ?_) (hdb : (x == ("__debug__" : Str)) = false := by decide) (he : starEach (e :: es) X.env = (false, eval e X.env) :: starEach es X.env := by rfl) (hpl : (backTo pos (starEach es X.env)).any (·.1) = false := by rfl) :
    PE X (.Call (.Name x p) (e :: es) [] pos) (rdE X.K ca W (mFn mf ml)) := by
  refine pe_imp (pe_fn F hr gd tk hm hk hb ha hg hdb he hpl) fun σ H Q kf ⟨ms, ρ, μ, e, r, h⟩ => ?_
  refine ⟨ms, ρ, μ, e, r, ?_⟩
  unfold mFn at h
  cases hq : ml ρ μ with
  | val us μ1 =>
    rw [hq] at h
    intro vs H1 ms1 k1 r1 p1
    refine ⟨by rw [← p1.1, hml ρ μ us μ1 hq, hl], ms1, μ1, us, r1, p1, ?_⟩
    have h2 := Af.shift h k1
    show Af X.K ca (RepU X.K ca) _ [] ms1 H1 (mf us μ1) _
    cases hf : mf us μ1 with
    | val u μ2 => rw [bind_val, hf] at h2; exact fun v H' ms' k' r' p' _ => h2 v H' ms' k' r' p'
    | exc c fs μ2 => rw [bind_val, hf] at h2; exact fun d H' ms' k' r' x' => h2 d H' ms' k' r' x'
    | stuck => rw [bind_val, hf] at h2; exact h2
  | exc c fs μ1 => rw [hq] at h; exact h
  | stuck => rw [hq] at h; exact h
end
end Dv
namespace Dv
open PySem L2
/-- the items of a list, in a cell or told -/
def cellL (μ : Mem) (n : Nat) : Option (List D) := match μ[n]? with
  | some (some (.lst xs)) => some xs
  | _ => none
def asL (μ : Mem) : U → Option (List D)
  | .d (.lst xs) => some xs
  | .cell n => cellL μ n
  | _ => none
section
variable {K : PySem.W.Frag} {ca : Nat → Addr} {ms : Ms} {H : Hp} {μ : Mem}
theorem asL_at {u : U} {v : V} {xs : List D} (r : RelM K ca μ ms H) (p : RepU K ca ms H u v) (h : asL μ u = some xs) : ∃ a vs, v = .ref a ∧ H a = some (.lst vs) ∧ RepL K ca ms H xs vs := by
  cases u with
  | d x =>
    cases x with
    | lst ys =>
      cases h
      cases p with
      | lst s n l z => exact ⟨_, _, rfl, s, l, z⟩
    | _ => cases h
  | cell n =>
    obtain ⟨a, rfl, e⟩ := p
    have h : cellL μ n = some xs := h
    unfold cellL at h
    cases q : μ[n]? with
    | none => rw [q] at h; cases h
    | some o =>
      rw [q] at h
      cases o with
      | none => cases h
      | some c =>
        cases c with
        | lst ys =>
          cases h
          obtain ⟨b, e1, vs, s, l⟩ := r.live n _ q
          rcases e with e | e
          · rw [e] at e1
            cases e1
            exact ⟨a, vs, rfl, s, l⟩
          · rw [e] at e1
            cases e1
        | obj c fs => cases h
theorem cellL_at {n : Nat} {xs : List D} (h : cellL μ n = some xs) : μ[n]? = some (some (.lst xs)) := by
  unfold cellL at h
  split at h
  · rename_i ys q
    cases h
    exact q
  · cases h
theorem RepL.append {xs ys : List D} {vs ws : List V} (a : RepL K ca ms H xs vs) (b : RepL K ca ms H ys ws) : RepL K ca ms H (xs ++ ys) (vs ++ ws) := by
  refine ⟨by simp [a.1, b.1], fun i x v h1 h2 => ?_⟩
  by_cases hi : i < xs.length
  · rw [List.getElem?_append_left hi] at h1
    rw [List.getElem?_append_left (by rw [← a.1]; exact hi)] at h2
    exact a.2 i x v h1 h2
  · rw [List.getElem?_append_right (by omega)] at h1
    rw [List.getElem?_append_right (by rw [← a.1]; omega), ← a.1] at h2
    exact b.2 _ x v h1 h2
theorem rep_new {xs : List D} {vs : List V} {p : Addr} (r : RelM K ca μ ms H) (hp : H p = none) (l : RepL K ca ms H xs vs) : Rep K ca ms (upd H p (.lst vs)) (.lst xs) (.ref p) :=
  .lst upd_same (r.out hp) l.1 fun i x v a b => (l.2 i x v a b).ext (same_new hp)
end
/-! ### numbers -/
def intOp (f : Int → Int → Option D) : Mem → U → U → Option D := fun _ a b => match a, b with
  | .d (.int i), .d (.int j) => f i j
  | _, _ => none
def small64 (i : Int) : Bool := decide (-(2 ^ 64) < i) && decide (i < 2 ^ 64)
def addD (μ : Mem) (a b : U) : Option D := match a, b with
  | .d (.int i), .d (.int j) => some (.int (i + j))
  | .d (.str x), .d (.str y) => if szD (x.length + y.length) then some (.str (x ++ y)) else none
  | a, b => (asL μ a).bind fun xs => (asL μ b).bind fun ys => if szD (xs.length + ys.length) then some (.lst (xs ++ ys)) else none
def subD : Mem → U → U → Option D := intOp fun i j => some (.int (i - j))
def mulD : Mem → U → U → Option D := intOp fun i j => if small64 i || small64 j then some (.int (i * j)) else none
def powD : Mem → U → U → Option D := intOp fun i j => if decide (0 ≤ j) && decide (j ≤ 1000000) && decide (i.natAbs < 2 ^ 64) then some (.int (i ^ j.toNat)) else none
def modD : Mem → U → U → Option D := intOp fun i j => if j = 0 then none else some (.int (i.fmod j))
def divD : Mem → U → U → Option D := intOp fun i j => if decide (j ≠ 0) && decide (j.natAbs < 1000000000000000000000000000000000) then some (.int (i.fdiv j)) else none
def negD (_ : Mem) : U → Option D
  | .d (.int i) => some (.int (-i))
  | _ => none
section
variable {X : Cx} {ca : Nat → Addr}
theorem op_int {f : Value → Value → Sem Value} {C : Int → Int → Prop} {g : Int → Int → V} {h : Int → Int → Option D} (ho : OpR X f (rI C g)) (k : ∀ i j d, h i j = some d → C i j ∧ ∀ ms H, Rep X.K ca ms H d (g i j)) : OpR X f (rD2 X.K ca (intOp h)) := by
  intro pins s σ H x y v u Q I rx ry ⟨ms, μ, a, b, d, rm, ra, rb, e, q⟩
  unfold intOp at e
  split at e
  · rename_i i j
    cases ra; cases rb
    obtain ⟨c, z⟩ := k i j d e
    exact ho pins s σ H _ _ v u Q I rx ry ⟨i, j, rfl, rfl, c, q _ _ (Same.refl H) fun _ => z ms H⟩
  · cases e
theorem op_int0 {f : Value → Value → Sem Value} {g : Int → Int → V} {h : Int → Int → Option D} (ho : OpR X f (rI0 g)) (k : ∀ i j d, h i j = some d → ∀ ms H, Rep X.K ca ms H d (g i j)) : OpR X f (rD2 X.K ca (intOp h)) := by
  intro pins s σ H x y v u Q I rx ry ⟨ms, μ, a, b, d, rm, ra, rb, e, q⟩
  unfold intOp at e
  split at e
  · rename_i i j
    cases ra; cases rb
    exact ho pins s σ H _ _ v u Q I rx ry ⟨i, j, rfl, rfl, q _ _ (Same.refl H) fun _ => k i j d e ms H⟩
  · cases e
theorem o_sub : OpR X (binaryOp .Sub) (rD2 X.K ca subD) := op_int0 op_sub fun i j d h ms H => by cases h; exact .int _
theorem o_mul : OpR X (binaryOp .Mult) (rD2 X.K ca mulD) := op_int op_mul fun i j d h => by
  split at h
  · rename_i hc
    cases h
    refine ⟨?_, fun ms H => .int _⟩
    simp only [small64, Bool.or_eq_true, Bool.and_eq_true, decide_eq_true_eq] at hc
    exact hc
  · cases h
theorem o_pow : OpR X (binaryOp .Pow) (rD2 X.K ca powD) := op_int op_pow fun i j d h => by
  split at h
  · rename_i hc
    cases h
    simp only [Bool.and_eq_true, decide_eq_true_eq] at hc
    exact ⟨⟨hc.1.1, hc.1.2, hc.2⟩, fun ms H => .int _⟩
  · cases h
theorem o_mod : OpR X (binaryOp .Mod) (rD2 X.K ca modD) := op_int op_modN fun i j d h => by
  split at h
  · cases h
  · rename_i hc
    cases h
    exact ⟨hc, fun ms H => .int _⟩
theorem op_fdivB : OpR X (binaryOp .FloorDiv) (rI (fun _ j => j ≠ 0 ∧ j.natAbs.log2 < 9000) fun i j => .int (i.fdiv j)) := opI fun _ _ _ _ _ _ _ hc q => PyProof.Rows.floordiv_int hc.1 q (.inl (PyProof.noPylong_of_log2 hc.2))
theorem o_div : OpR X (binaryOp .FloorDiv) (rD2 X.K ca divD) := op_int op_fdivB fun i j d h => by
  split at h
  · rename_i hc
    cases h
    simp only [Bool.and_eq_true, decide_eq_true_eq] at hc
    refine ⟨⟨hc.1, ?_⟩, fun ms H => .int _⟩
    have h0 : j.natAbs ≠ 0 := by have := hc.1; omega
    exact (Nat.log2_lt h0).mpr (Nat.lt_of_lt_of_le hc.2 (Nat.le_trans (by decide : 1000000000000000000000000000000000 ≤ 2 ^ 120) (Nat.pow_le_pow_right (by decide) (by decide))))
  · cases h
theorem o_neg : UnR X (unaryOp .USub) (rD1 X.K ca negD) := by
  intro pins s σ H x v Q I rx ⟨ms, μ, a, d, rm, ra, e, q⟩
  unfold negD at e
  split at e
  · cases e
    cases ra
    exact un_neg pins s σ H _ v Q I rx ⟨_, rfl, q _ _ (Same.refl H) fun _ => .int _⟩
  · cases e
theorem o_add : OpR X (binaryOp .Add) (rD2 X.K ca addD) := by
  intro pins s σ H x y v u Q I rx ry ⟨ms, μ, a, b, d, rm, ra, rb, e, q⟩
  unfold addD at e
  split at e
  · cases e
    cases ra; cases rb
    exact op_add pins s σ H _ _ v u Q I rx ry ⟨_, _, rfl, rfl, q _ _ (Same.refl H) fun _ => .int _⟩
  · split at e
    · rename_i hz
      cases e
      cases ra; cases rb
      exact op_add_str pins s σ H _ _ v u Q I rx ry ⟨_, _, rfl, rfl, sz_ok hz, q _ _ (Same.refl H) fun _ => .str _⟩
    · cases e
  · cases ha : asL μ a with
    | none => rw [ha] at e; cases e
    | some xs =>
      rw [ha] at e
      cases hb : asL μ b with
      | none => rw [hb] at e; cases e
      | some ys =>
        rw [hb] at e
        simp only [Option.bind_some] at e
        split at e
        · rename_i hz
          cases e
          obtain ⟨p, vs, rfl, hp, l1⟩ := asL_at rm ra ha
          obtain ⟨p2, ws, rfl, hp2, l2⟩ := asL_at rm rb hb
          exact op_cat pins s σ H _ _ v u Q I rx ry ⟨p, p2, vs, ws, rfl, rfl, hp, hp2, by rw [← l1.1, ← l2.1]; exact sz_ok hz, fun n hn => q _ _ (same_new hn) fun _ => rep_new rm hn (l1.append l2)⟩
        · cases e
end
/-! ### comparisons of numbers -/
def ltB (f : Int → Int → Bool) : Mem → U → U → Option Bool := fun _ a b => match a, b with
  | .d (.int i), .d (.int j) => some (f i j)
  | _, _ => none
section
variable {X : Cx} {ca : Nat → Addr}
theorem op_cmpI {g : Value → Value → Sem Value} {f : Int → Int → Bool} (ho : OpR X g (rI0 fun i j => .bl (f i j))) : OpR X g (rDB X.K ca (ltB f)) := by
  intro pins s σ H x y v u Q I rx ry ⟨ms, μ, a, b, d, rm, ra, rb, e, q⟩
  unfold ltB at e
  split at e
  · cases e
    cases ra; cases rb
    exact ho pins s σ H _ _ v u Q I rx ry ⟨_, _, rfl, rfl, q _ (Same.refl H)⟩
  · cases e
theorem o_lt : OpR X (compareOp .Lt) (rDB X.K ca (ltB fun i j => decide (i < j))) := op_cmpI op_lt
theorem o_gt : OpR X (compareOp .Gt) (rDB X.K ca (ltB fun i j => decide (j < i))) := op_cmpI op_gt
theorem o_ge : OpR X (compareOp .GtE) (rDB X.K ca (ltB fun i j => decide (j ≤ i))) := op_cmpI op_ge
end
end Dv
namespace Dv
open PySem L2
/-! ### plain data -/
mutual
def pd : D → Option PyData
  | .non => some .none
  | .bl b => some (.bool b)
  | .int i => some (.int i)
  | .str x => some (.str x)
  | .tup xs => (pdL xs).map .tuple
  | .lst xs => (pdL xs).map .list
  | _ => none
def pdL : List D → Option (List PyData)
  | [] => some []
  | x :: r => (pd x).bind fun d => (pdL r).bind fun ds => some (d :: ds)
end
def pdU (μ : Mem) : U → Option PyData
  | .d x => pd x
  | .cell n => (cellL μ n).bind fun xs => (pdL xs).map .list
section
variable {K : PySem.W.Frag} {ca : Nat → Addr} {ms : Ms} {H : Hp} {μ : Mem}
mutual
theorem dp_of : ∀ (x : D) (v : V) (d : PyData), Rep K ca ms H x v → pd x = some d → Dp K H v d
  | .non, _, _, h, e => by cases h; simp only [pd] at e; cases e; exact .non
  | .bl b, _, _, h, e => by cases h; simp only [pd] at e; cases e; exact .bl b
  | .int i, _, _, h, e => by cases h; simp only [pd] at e; cases e; exact .int i
  | .str x, _, _, h, e => by cases h; simp only [pd] at e; cases e; exact .str x
  | .tup xs, _, _, h, e => by
    cases h with
    | tup s l z =>
      simp only [pd, Option.map_eq_some_iff] at e
      obtain ⟨ds, e1, rfl⟩ := e
      exact .tup s.sq (dpL_of xs _ ds l z e1)
  | .lst xs, _, _, h, e => by
    cases h with
    | lst s n l z =>
      simp only [pd, Option.map_eq_some_iff] at e
      obtain ⟨ds, e1, rfl⟩ := e
      exact .lst (.inl (.inl s)) (dpL_of xs _ ds l z e1)
  | .scr _, _, _, _, e => by simp [pd] at e
  | .dic _, _, _, _, e => by simp [pd] at e
  | .obj _ _, _, _, _, e => by simp [pd] at e
  | .err _ _, _, _, _, e => by simp [pd] at e
  | .thing _, _, _, _, e => by simp [pd] at e
  | .ty _, _, _, _, e => by simp [pd] at e
  | .cls _, _, _, _, e => by simp [pd] at e
theorem dpL_of : ∀ (xs : List D) (vs : List V) (ds : List PyData), xs.length = vs.length → (∀ (i : Nat) x v, xs[i]? = some x → vs[i]? = some v → Rep K ca ms H x v) → pdL xs = some ds → DpAll K H vs ds
  | [], [], _, _, _, e => by simp only [pdL] at e; cases e; exact .nil
  | [], _ :: _, _, l, _, _ => by simp at l
  | _ :: _, [], _, l, _, _ => by simp at l
  | x :: xs, v :: vs, ds, l, z, e => by
    simp only [pdL] at e
    cases h1 : pd x with
    | none => rw [h1] at e; simp at e
    | some d =>
      cases h2 : pdL xs with
      | none => rw [h1, h2] at e; simp at e
      | some es =>
        rw [h1, h2] at e
        simp only [Option.bind_some, Option.some.injEq] at e
        subst e
        exact .cons (dp_of x v d (z 0 x v rfl rfl) h1) (dpL_of xs vs es (by simpa using l) (fun i y w a b => z (i + 1) y w (by simpa using a) (by simpa using b)) h2)
end
theorem dpU_of {u : U} {v : V} {d : PyData} (r : RelM K ca μ ms H) (p : RepU K ca ms H u v) (h : pdU μ u = some d) : Dp K H v d := by
  cases u with
  | d x => exact dp_of x v d p h
  | cell n =>
    simp only [pdU] at h
    cases q : cellL μ n with
    | none => rw [q] at h; simp at h
    | some xs =>
      rw [q] at h
      simp only [Option.bind_some, Option.map_eq_some_iff] at h
      obtain ⟨ds, e1, rfl⟩ := h
      obtain ⟨a, vs, rfl, s, l⟩ := asL_at (u := .cell n) r p q
      exact .lst (.inl (.inl s)) (dpL_of xs vs ds l.1 l.2 e1)
end
/-! ### equal -/
def scalD : U → Option V
  | .d .non => some .non
  | .d (.bl b) => some (.bl b)
  | .d (.int i) => some (.int i)
  | .d (.str x) => some (.str x)
  | _ => none
theorem scalD_at {K : PySem.W.Frag} {ca : Nat → Addr} {ms : Ms} {H : Hp} {u : U} {v w : V} (p : RepU K ca ms H u v) (h : scalD u = some w) : v = w := by
  unfold scalD at h
  split at h <;> first | (cases h; cases p; rfl) | cases h
def eqP (μ : Mem) (a b : U) : Option Bool := (pdU μ a).bind fun d => (pdU μ b).bind fun e => if SeqAt.shaped d && SeqAt.shaped e then some (PyData.eqv d e) else none
def eqU (μ : Mem) (a b : U) : Option Bool := match scalD a, scalD b with
  | some v, some w => if scal v w then some (decide (v = w)) else eqP μ a b
  | _, _ => eqP μ a b
def neU (μ : Mem) (a b : U) : Option Bool := (eqU μ a b).map (!·)
section
variable {X : Cx} {ca : Nat → Addr}
theorem eqP_at {μ : Mem} {ms : Ms} {H : Hp} {a b : U} {x y : V} {c : Bool} (rm : RelM X.K ca μ ms H) (ra : RepU X.K ca ms H a x) (rb : RepU X.K ca ms H b y) (e : eqP μ a b = some c) : ∃ d f, Dp X.K H x d ∧ Dp X.K H y f ∧ SeqAt.shaped d = true ∧ SeqAt.shaped f = true ∧ PyData.eqv d f = c := by
  unfold eqP at e
  cases h1 : pdU μ a with
  | none => rw [h1] at e; simp at e
  | some d =>
    cases h2 : pdU μ b with
    | none => rw [h1, h2] at e; simp at e
    | some f =>
      rw [h1, h2] at e
      simp only [Option.bind_some] at e
      split at e
      · rename_i hs
        simp only [Bool.and_eq_true] at hs
        cases e
        exact ⟨d, f, dpU_of rm ra h1, dpU_of rm rb h2, hs.1, hs.2, rfl⟩
      · cases e
theorem eqU_at {μ : Mem} {ms : Ms} {H : Hp} {a b : U} {x y : V} {c : Bool} (rm : RelM X.K ca μ ms H) (ra : RepU X.K ca ms H a x) (rb : RepU X.K ca ms H b y) (e : eqU μ a b = some c) : (scal x y = true ∧ decide (x = y) = c) ∨ ∃ d f, Dp X.K H x d ∧ Dp X.K H y f ∧ SeqAt.shaped d = true ∧ SeqAt.shaped f = true ∧ PyData.eqv d f = c := by
  unfold eqU at e
  split at e
  · rename_i v w h1 h2
    obtain rfl := scalD_at ra h1
    obtain rfl := scalD_at rb h2
    split at e
    · rename_i hs
      cases e
      exact .inl ⟨hs, rfl⟩
    · exact .inr (eqP_at rm ra rb e)
  · exact .inr (eqP_at rm ra rb e)
theorem o_eq (hu : X.A.units + 64 < cLine) : OpR X (compareOp .Eq) (rDB X.K ca eqU) := by
  intro pins s σ H x y v u Q I rx ry ⟨ms, μ, a, b, c, rm, ra, rb, e, q⟩
  rcases eqU_at rm ra rb e with ⟨hs, rfl⟩ | ⟨d, f, h1, h2, h3, h4, rfl⟩
  · exact op_eq pins s σ H x y v u Q I rx ry ⟨hs, q _ (Same.refl H)⟩
  · exact op_eqD hu pins s σ H x y v u Q I rx ry ⟨d, f, h1, h2, h3, h4, q _ (Same.refl H)⟩
theorem o_ne (hu : X.A.units + 64 < cLine) : OpR X (compareOp .NotEq) (rDB X.K ca neU) := by
  intro pins s σ H x y v u Q I rx ry ⟨ms, μ, a, b, c, rm, ra, rb, e, q⟩
  unfold neU at e
  simp only [Option.map_eq_some_iff] at e
  obtain ⟨c', e, rfl⟩ := e
  rcases eqU_at rm ra rb e with ⟨hs, rfl⟩ | ⟨d, f, h1, h2, h3, h4, rfl⟩
  · exact op_ne pins s σ H x y v u Q I rx ry ⟨hs, q _ (Same.refl H)⟩
  · exact op_neD hu pins s σ H x y v u Q I rx ry ⟨d, f, h1, h2, h3, h4, q _ (Same.refl H)⟩
end
/-! ### in -/
def itemsU (μ : Mem) : U → Option (List D)
  | .d (.tup xs) => some xs
  | u => asL μ u
def scalL : List D → Option (List V)
  | [] => some []
  | x :: r => (scalD (.d x)).bind fun v => (scalL r).bind fun vs => some (v :: vs)
theorem scalL_at {K : PySem.W.Frag} {ca : Nat → Addr} {ms : Ms} {H : Hp} : ∀ {xs : List D} {vs ws : List V}, RepL K ca ms H xs vs → scalL xs = some ws → vs = ws ∧ ws.all flatV = true
  | [], vs, ws, l, h => by
    cases h
    have : vs.length = 0 := l.1.symm
    exact ⟨List.length_eq_zero_iff.mp this, rfl⟩
  | x :: r, vs, ws, l, h => by
    unfold scalL at h
    cases vs with
    | nil => have := l.1; simp at this
    | cons v vs =>
      cases h1 : scalD (.d x) with
      | none => rw [h1] at h; simp at h
      | some y =>
        cases h2 : scalL r with
        | none => rw [h1, h2] at h; simp at h
        | some ys =>
          rw [h1, h2] at h
          simp only [Option.bind_some, Option.some.injEq] at h
          subst h
          have e1 := scalD_at (u := .d x) (l.2 0 x v rfl rfl) h1
          subst e1
          obtain ⟨rfl, e3⟩ := scalL_at (xs := r) (vs := vs) ⟨by simpa using l.1, fun i z w a b => l.2 (i + 1) z w (by simpa using a) (by simpa using b)⟩ h2
          refine ⟨rfl, ?_⟩
          simp only [List.all_cons, e3, Bool.and_true]
          unfold scalD at h1
          split at h1 <;> first | (cases h1; rfl) | cases h1
def inU (neg : Bool) (μ : Mem) (a b : U) : Option Bool := (scalD a).bind fun v => (itemsU μ b).bind fun xs => (scalL xs).bind fun ws => some (if neg then !inV v ws else inV v ws)
theorem items_at {K : PySem.W.Frag} {ca : Nat → Addr} {ms : Ms} {H : Hp} {μ : Mem} {u : U} {v : V} {xs : List D} (r : RelM K ca μ ms H) (p : RepU K ca ms H u v) (h : itemsU μ u = some xs) : ∃ a vs, v = .ref a ∧ (SqL K H a vs ∨ SqT K H a vs) ∧ RepL K ca ms H xs vs := by
  unfold itemsU at h
  split at h
  · cases h
    cases p with
    | tup s l z => exact ⟨_, _, rfl, .inr s.sq, l, z⟩
  · obtain ⟨a, vs, e, s, l⟩ := asL_at r p h
    exact ⟨a, vs, e, .inl (.inl (.inl s)), l⟩
theorem flat_of {a : U} {v : V} (h : scalD a = some v) : flatV v = true := by
  unfold scalD at h
  split at h <;> first | (cases h; rfl) | cases h
section
variable {X : Cx} {ca : Nat → Addr}
theorem in_of {neg : Bool} {op : CmpOp} (ho : OpR X (compareOp op) (rIn X.K neg)) : OpR X (compareOp op) (rDB X.K ca (inU neg)) := by
  intro pins s σ H x y v u Q I rx ry ⟨ms, μ, a, b, c, rm, ra, rb, e, q⟩
  unfold inU at e
  cases h1 : scalD a with
  | none => rw [h1] at e; simp at e
  | some w =>
    cases h2 : itemsU μ b with
    | none => rw [h1, h2] at e; simp at e
    | some xs =>
      cases h3 : scalL xs with
      | none => rw [h1, h2] at e; simp only [Option.bind_some, h3] at e; simp at e
      | some ws =>
        rw [h1, h2] at e
        simp only [Option.bind_some, h3, Option.some.injEq] at e
        subst e
        obtain rfl := scalD_at ra h1
        obtain ⟨p, vs, rfl, sq, l⟩ := items_at rm rb h2
        obtain ⟨rfl, fl⟩ := scalL_at l h3
        exact ho pins s σ H _ _ v u Q I rx ry ⟨p, vs, rfl, sq, flat_of h1, fl, q _ (Same.refl H)⟩
theorem o_in : OpR X (compareOp .In) (rDB X.K ca (inU false)) := in_of op_in_seq
end
end Dv
namespace Dv
open PySem L2
/-! ### built-in calls -/
def one (f : Mem → U → Option D) : Mem → List U → Option D := fun μ us => match us with
  | [u] => f μ u
  | _ => none
def lenD (μ : Mem) (u : U) : Option D := match u with
  | .d (.str x) => if szD x.length then some (.int x.length) else none
  | u => (itemsU μ u).bind fun xs => some (.int xs.length)
def intD (_ : Mem) : U → Option D
  | .d (.int i) => some (.int i)
  | .d (.bl b) => some (.int (if b then 1 else 0))
  | _ => none
def absD (_ : Mem) : U → Option D
  | .d (.int i) => some (.int (if i < 0 then -i else i))
  | _ => none
def itemsS (μ : Mem) : U → Option (List D)
  | .d (.scr xs) => some xs
  | u => itemsU μ u
def listD (μ : Mem) (u : U) : Option D := (itemsS μ u).bind fun xs => some (.lst xs)
section
variable {K : PySem.W.Frag} {ca : Nat → Addr} {ms : Ms} {H : Hp} {μ : Mem}
theorem itemsS_at {u : U} {v : V} {xs : List D} (r : RelM K ca μ ms H) (p : RepU K ca ms H u v) (h : itemsS μ u = some xs) : ∃ a vs, v = .ref a ∧ (SqL K H a vs ∨ SqT K H a vs) ∧ RepL K ca ms H xs vs := by
  unfold itemsS at h
  split at h
  · cases h
    cases p with
    | scr s l z => exact ⟨_, _, rfl, .inl s.sq, l, z⟩
  · exact items_at r p h
theorem one_at {f : Mem → U → Option D} {us : List U} {vs : List V} {d : D} (l : RepUL K ca ms H us vs) (h : one f μ us = some d) : ∃ u v, us = [u] ∧ vs = [v] ∧ RepU K ca ms H u v ∧ f μ u = some d := by
  unfold one at h
  split at h
  · rename_i u
    match vs, l with
    | [v], l => exact ⟨u, v, rfl, rfl, l.2 0 u v rfl rfl, h⟩
    | [], l => exact absurd l.1 (by simp)
    | _ :: _ :: _, l => exact absurd l.1 (by simp)
  · cases h
end
section
variable {X : Cx} {ca : Nat → Addr}
theorem c_len : CallR X (.builtin "len") (rDn X.K ca (one lenD)) := by
  intro pins s σ H xs us Q I r ⟨ms, μ, as, d, rm, ra, e, q⟩
  obtain ⟨u, v, rfl, rfl, p, e⟩ := one_at ra e
  unfold lenD at e
  split at e
  · split at e
    · rename_i hz
      cases e
      cases p
      exact call_len_str pins s σ H _ us Q I r ⟨_, rfl, sz_ok hz, q _ _ (Same.refl H) fun _ => .int _⟩
    · cases e
  · cases h : itemsU μ u with
    | none => rw [h] at e; simp at e
    | some ys =>
      rw [h] at e
      simp only [Option.bind_some, Option.some.injEq] at e
      subst e
      obtain ⟨a, vs, rfl, sq, l⟩ := items_at rm p h
      refine call_len_seq pins s σ H _ us Q I r ⟨a, vs, rfl, sq, q _ _ (Same.refl H) fun _ => ?_⟩
      rw [l.1]
      exact .int _
theorem c_int : CallR X (.type "int") (rDn X.K ca (one intD)) := by
  intro pins s σ H xs us Q I r ⟨ms, μ, as, d, rm, ra, e, q⟩
  obtain ⟨u, v, rfl, rfl, p, e⟩ := one_at ra e
  unfold intD at e
  split at e
  · cases e
    cases p
    exact call_int1 pins s σ H _ us Q I r (.inl ⟨_, rfl, q _ _ (Same.refl H) fun _ => .int _⟩)
  · cases e
    cases p
    exact call_int1 pins s σ H _ us Q I r (.inr ⟨_, rfl, q _ _ (Same.refl H) fun _ => .int _⟩)
  · cases e
theorem c_abs : CallR X (.builtin "abs") (rDn X.K ca (one absD)) := by
  intro pins s σ H xs us Q I r ⟨ms, μ, as, d, rm, ra, e, q⟩
  obtain ⟨u, v, rfl, rfl, p, e⟩ := one_at ra e
  unfold absD at e
  split at e
  · cases e
    cases p
    exact call_abs pins s σ H _ us Q I r ⟨_, rfl, q _ _ (Same.refl H) fun _ => .int _⟩
  · cases e
theorem c_list : CallR X (.type "list") (rDn X.K ca (one listD)) := by
  intro pins s σ H xs us Q I r ⟨ms, μ, as, d, rm, ra, e, q⟩
  obtain ⟨u, v, rfl, rfl, p, e⟩ := one_at ra e
  unfold listD at e
  cases h : itemsS μ u with
  | none => rw [h] at e; simp at e
  | some ys =>
    rw [h] at e
    simp only [Option.bind_some, Option.some.injEq] at e
    subst e
    obtain ⟨a, vs, rfl, sq, l⟩ := itemsS_at rm p h
    exact call_list_of pins s σ H _ us Q I r ⟨a, vs, rfl, sq, fun n hn => q _ _ (same_new hn) fun _ => rep_new rm hn l⟩
end
/-! ### subscripts -/
def ixD (μ : Mem) (a b : U) : Option D := match b with
  | .d (.int i) => (itemsU μ a).bind fun xs => atI xs i
  | _ => none
def mIx (ma mb : MD) : MD := mBin ixD ma mb
theorem atI_rep {K : PySem.W.Frag} {ca : Nat → Addr} {ms : Ms} {H : Hp} {xs : List D} {vs : List V} {i : Int} {x : D} (l : RepL K ca ms H xs vs) (h : atI xs i = some x) : ∃ v, atI vs i = some v ∧ Rep K ca ms H x v := by
  unfold atI at h ⊢
  rw [← l.1]
  cases hx : ixN xs.length i with
  | none => rw [hx] at h; simp at h
  | some j =>
    rw [hx] at h
    simp only [Option.bind_some] at h ⊢
    have hj : j < vs.length := by rw [← l.1]; exact (List.getElem?_eq_some_iff.mp h).1
    exact ⟨vs[j], List.getElem?_eq_getElem hj, l.2 j x _ h (List.getElem?_eq_getElem hj)⟩
section
variable {X : Cx} {ca : Nat → Addr} {W : WX} {pos : Pos} {a b : Expr} {ma mb : MD}
theorem ix_any : IxR X (rD2 X.K ca ixD) := by
  intro value slice pins s σ H x y v u Q I rx ry ⟨ms, μ, a, b, d, rm, ra, rb, e, q⟩ hs
  unfold ixD at e
  split at e
  · rename_i i
    cases rb
    cases h : itemsU μ a with
    | none => rw [h] at e; simp at e
    | some xs =>
      rw [h] at e
      simp only [Option.bind_some] at e
      obtain ⟨p, vs, rfl, sq, l⟩ := items_at rm ra h
      obtain ⟨w, e2, rp⟩ := atI_rep l e
      rcases sq with sq | sq
      · exact ix_list value slice pins s σ H _ _ v u Q I rx ry ⟨p, vs, i, w, rfl, rfl, sq, e2, q _ _ (Same.refl H) fun _ => rp⟩ hs
      · exact ix_tup value slice pins s σ H _ _ v u Q I rx ry ⟨p, vs, i, w, rfl, rfl, sq, e2, q _ _ (Same.refl H) fun _ => rp⟩ hs
  · cases e
theorem re_ix (ha : PE X a (rdE X.K ca W ma)) (hb : PE X b (rdE X.K ca W mb)) (hs : PlainIx b := by exact fun _ _ => rfl) : PE X (.Subscript a b pos) (rdE X.K ca W (mIx ma mb)) :=
  pe_imp (pe_ix ix_any ha hb hs) fun _ _ _ _ h => to_bin h
end
def cutD {α : Type} (xs : List α) (lo hi : Option Int) : List α := (xs.drop (HT.sIx xs.length 0 lo)).take (HT.sIx xs.length xs.length hi - HT.sIx xs.length 0 lo)
theorem cut_rep {K : PySem.W.Frag} {ca : Nat → Addr} {ms : Ms} {H : Hp} {xs : List D} {vs : List V} (l : RepL K ca ms H xs vs) (lo hi : Option Int) : RepL K ca ms H (cutD xs lo hi) (cutV vs lo hi) := by
  unfold cutD cutV
  rw [l.1]
  refine ⟨by simp [l.1], fun i x v h1 h2 => ?_⟩
  rw [List.getElem?_take] at h1 h2
  split at h1
  · rename_i hi'
    rw [if_pos hi'] at h2
    rw [List.getElem?_drop] at h1 h2
    exact l.2 _ x v h1 h2
  · cases h1
abbrev MO := Env → Mem → R (Option Int)
def rpO (_ : Ms) (_ : Hp) (a b : Option Int) : Prop := b = a
def mNoPart : MO := fun _ μ => .val none μ
def mPart (m : MD) : MO := fun ρ μ => (m ρ μ).bind fun u μ1 => match u with
  | .d (.int i) => .val (some i) μ1
  | _ => .stuck
def slD (μ : Mem) (u : U) (lo hi : Option Int) : Option D := match u with
  | .d (.scr xs) => some (.lst (cutD xs lo hi))
  | u => (asL μ u).bind fun xs => some (.lst (cutD xs lo hi))
def mSl (ma : MD) (ml mh : MO) : MD := fun ρ μ => (ma ρ μ).bind fun u μ1 => (ml ρ μ1).bind fun lo μ2 => (mh ρ μ2).bind fun hi μ3 => (ofO μ3 (slD μ3 u lo hi)).bind fun d μ4 => .val (.d d) μ4
section
variable {X : Cx} {ca : Nat → Addr} {W : WX} {pos p2 : Pos} {e : Expr} {lo hi : Option Expr} {ma : MD} {ml mh : MO}
theorem po_imp {o : Option Expr} {t t' : TO} (h : PO X o t) (k : ∀ σ H Q, KF X.K H → t' σ H Q → t σ H fun v H' => KF X.K H' → Q v H') : PO X o t' :=
  ⟨fun pins s σ H Q I q => thn (h.run pins s σ H _ I (k σ H Q (kf_of I) q)) fun u s1 ⟨v, H1, I1, r1, q1⟩ => ⟨v, H1, I1, r1, q1 (kf_of I1)⟩⟩
theorem ro_none : PO X none (rd X.K ca rpO W mNoPart) := po_imp po_none fun σ H Q _ ⟨ms, ρ, μ, e, r, h⟩ _ => Af.at (a := (none : Option Int)) h r rfl
theorem ro_some (h : PE X e (rdE X.K ca W ma)) : PO X (some e) (rd X.K ca rpO W (mPart ma)) := po_imp (po_some h) fun σ H Q _ ⟨ms, ρ, μ, e, r, h⟩ => af_bind e r h fun u μ1 v H1 ms1 k1 r1 p1 h1 => by
  split at h1
  · rename_i i
    cases p1
    exact ⟨i, rfl, fun _ => Af.at (a := some i) h1 r1 rfl⟩
  · exact (show False from h1).elim
def rSlD (K : PySem.W.Frag) (ca : Nat → Addr) : V → Option Int → Option Int → Hp → VK → Prop := fun x lo hi H Q => ∃ ms μ u d, RelM K ca μ ms H ∧ RepU K ca ms H u x ∧ slD μ u lo hi = some d ∧ ∀ v H', Same H H' → (KF K H' → Rep K ca ms H' d v) → Q v H'
theorem sl_any : SlR X (rSlD X.K ca) := by
  intro pins s σ H x v vl vu lo hi sl Q I rx hs pl pu ⟨ms, μ, u, d, rm, ru, e, q⟩
  unfold slD at e
  split at e
  · cases e
    cases ru with
    | scr sq l z => exact sl_list pins s σ H _ v vl vu lo hi sl Q I rx hs pl pu ⟨_, _, rfl, sq.sq, fun n hn => q _ _ (same_new hn) fun _ => rep_new rm hn (cut_rep ⟨l, z⟩ lo hi)⟩
  · cases h : asL μ u with
    | none => rw [h] at e; simp at e
    | some xs =>
      rw [h] at e
      simp only [Option.bind_some, Option.some.injEq] at e
      subst e
      obtain ⟨p, vs, rfl, sq, l⟩ := asL_at rm ru h
      exact sl_list pins s σ H _ v vl vu lo hi sl Q I rx hs pl pu ⟨p, vs, rfl, .inl (.inl sq), fun n hn => q _ _ (same_new hn) fun _ => rep_new rm hn (cut_rep l lo hi)⟩
theorem re_slice (he : PE X e (rdE X.K ca W ma)) (hl : PO X lo (rd X.K ca rpO W ml)) (hh : PO X hi (rd X.K ca rpO W mh)) : PE X (.Subscript e (.Slice lo hi none p2) pos) (rdE X.K ca W (mSl ma ml mh)) := by
  refine pe_imp (pe_slice (sl_any (ca := ca)) he hl hh) fun σ H Q _ ⟨ms, ρ, μ, e, r, h⟩ => af_bind e r h fun u μ1 v H1 ms1 k1 r1 p1 h1 => af_bind (e.keep k1) r1 h1 fun lo μ2 lo' H2 ms2 k2 r2 p2 h2 => af_bind ((e.keep k1).keep k2) r2 h2 fun hi μ3 hi' H3 ms3 k3 r3 p3 h3 => ?_
  obtain ⟨d, hd, q⟩ := fin_of h3 r3
  obtain rfl : lo' = lo := p2
  obtain rfl : hi' = hi := p3
  exact ⟨ms3, μ3, u, d, r3, (k2.trans k3).all _ _ p1, hd, q⟩
end
/-! ### a list cell's item stored -/
def setAt (μ : Mem) (o i : U) (x : D) : Option Mem := match o, i with
  | .cell n, .d (.int k) => (cellL μ n).bind fun xs => (ixN xs.length k).bind fun j => some (μ.set n (some (.lst (xs.set j x))))
  | _, _ => none
def mSetIx (me mo mi : MD) : MS := fun ρ μ => RS.of ρ (me ρ μ) fun u μ1 => match toD u with
  | some x => RS.of ρ (mo ρ μ1) fun o μ2 => RS.of ρ (mi ρ μ2) fun i μ3 => match setAt μ3 o i x with
    | some μ4 => .next ρ μ4
    | none => .stuck
  | none => .stuck
theorem RepL.set {K : PySem.W.Frag} {ca : Nat → Addr} {ms : Ms} {H : Hp} {xs : List D} {vs : List V} {x : D} {v : V} (l : RepL K ca ms H xs vs) (p : Rep K ca ms H x v) (j : Nat) : RepL K ca ms H (xs.set j x) (vs.set j v) := by
  refine ⟨by simp [l.1], fun i y w h1 h2 => ?_⟩
  by_cases hi : i = j
  · subst hi
    by_cases hb : i < xs.length
    · rw [List.getElem?_set_self hb] at h1
      rw [List.getElem?_set_self (by rw [← l.1]; exact hb)] at h2
      cases h1; cases h2
      exact p
    · rw [List.getElem?_eq_none (by simp; omega)] at h1
      cases h1
  · rw [List.getElem?_set_ne (by omega)] at h1 h2
    exact l.2 i y w h1 h2
section
variable {X : Cx} {ca : Nat → Addr} {W : WX} {pos p2 : Pos} {e o i : Expr} {me mo mi : MD}
theorem rs_setIx (he : PE X e (rdE X.K ca W me)) (ho : PE X o (rdE X.K ca W mo)) (hi : PE X i (rdE X.K ca W mi))
    (hg : PG X (.Subscript o i p2) (gSub (rdE X.K ca W mo) (rdE X.K ca W mi) rSetL) := by exact pg_sub ‹_› ‹_› set_list)
    (hs : swapsWithSole [.Subscript o i p2] e pos.line X.env = pure false := by rfl) (hw : swappedStores [.Subscript o i p2] e X.env = pure none := by rfl) (h1 : (assignEach [.Subscript o i p2] X.env).map (·.2) = [assign (.Subscript o i p2) X.env] := by rfl) :
    PS X (.Assign [.Subscript o i p2] e pos) (rdS X.K ca W (mSetIx me mo mi)) := by
  refine ps_imp (ps_asg he hg hs hw h1) fun D σ H kf ⟨ms, ρ, μ, e, r, h⟩ => af_of e r h fun u μ1 v H1 ms1 k1 r1 p1 h1 => ?_
  cases u with
  | cell n => exact (show False from h1).elim
  | d x =>
    refine af_of (e.keep k1) r1 h1 fun o μ2 ov H2 ms2 k2 r2 p2 h2 => af_of ((e.keep k1).keep k2) r2 h2 fun i μ3 iv H3 ms3 k3 r3 p3 h3 => ?_
    have po := k3.all _ _ p2
    have px : Rep X.K ca ms3 H3 x v := (k2.trans k3).all _ _ p1
    unfold setAt at h3
    split at h3
    · rename_i μ4 hq
      split at hq
      · rename_i n k
        obtain ⟨a, rfl, ea⟩ := po
        cases p3
        cases hc : cellL μ3 n with
        | none => rw [hc] at hq; simp at hq
        | some xs =>
          rw [hc] at hq
          simp only [Option.bind_some] at hq
          cases hj : ixN xs.length k with
          | none => rw [hj] at hq; simp at hq
          | some j =>
            rw [hj] at hq
            simp only [Option.bind_some, Option.some.injEq] at hq
            subst hq
            obtain ⟨b, vs, eb, sq, l⟩ := asL_at (u := .cell n) r3 ⟨a, rfl, ea⟩ hc
            cases eb
            refine ⟨a, vs, k, j, rfl, rfl, sq, by rw [← l.1]; exact hj, fun kf' => ?_⟩
            obtain ⟨_, ez, ea⟩ := r3.lives (v := .ref a) ⟨a, rfl, ea⟩ (cellL_at hc)
            cases ez
            obtain ⟨k4, r4⟩ := r3.setLst ea kf' (l.set px j)
            exact h3 σ _ ms3 k4 ((((e.keep k1).keep k2).keep k3).keep k4) r4
      · cases hq
    · exact (show False from h3).elim
end
end Dv
namespace Dv
open PySem L2
/-! ### targets -/
def putAll : List Nat → List D → Env → Option Env
  | [], [], ρ => some ρ
  | i :: is, x :: xs, ρ => (putE i (.d x) ρ).bind (putAll is xs)
  | _, _, _ => none
/-- names at a tuple's (or a list's) places -/
def gTupE (is : List Nat) (μ : Mem) (u : U) (ρ : Env) : Option Env := (itemsU μ u).bind fun xs => putAll is xs ρ
def gNameE (i : Nat) (_ : Mem) (u : U) (ρ : Env) : Option Env := putE i u ρ
section
variable (K : PySem.W.Frag) (ca : Nat → Addr)
/-- two states of slots that agree but at some places -/
def Agree (is : List Nat) (σ σ' : St) : Prop := σ'.length = σ.length ∧ ∀ (j : Nat), j ∉ is → σ'[j]? = σ[j]?
def rdG (g : Mem → U → Env → Option Env) (is : List Nat) : TG := fun v σ H Q => ∃ ms ρ μ u ρ1, RelE K ca ρ ms σ H ∧ RelM K ca μ ms H ∧ RepU K ca ms H u v ∧ g μ u ρ = some ρ1 ∧ ∀ σ', RelE K ca ρ1 ms σ' H → Agree is σ σ' → Q σ' H
def rdGs (is : List Nat) : TGs := fun vs σ H Q => ∃ ms ρ xs ρ1, RelE K ca ρ ms σ H ∧ RepL K ca ms H xs vs ∧ putAll is xs ρ = some ρ1 ∧ ∀ σ', RelE K ca ρ1 ms σ' H → Agree is σ σ' → Q σ' H
end
theorem Agree.set {σ : St} {i : Nat} {v : Option V} : Agree [i] σ (σ.set i v) := ⟨by simp, fun j h => by rw [List.getElem?_set_ne]; simp at h; omega⟩
theorem Agree.trans {σ σ' σ'' : St} {i : Nat} {is : List Nat} (a : Agree [i] σ σ') (b : Agree is σ' σ'') : Agree (i :: is) σ σ'' := ⟨b.1.trans a.1, fun j h => by
  simp only [List.mem_cons, not_or] at h
  rw [b.2 j h.2, a.2 j (by simpa using h.1)]⟩
section
variable {X : Cx} {ca : Nat → Addr} {W : WX} {pos : Pos}
theorem pg_imp {tg : Expr} {t t' : TG} (h : PG X tg t) (k : ∀ v σ H Q, t' v σ H Q → t v σ H Q) : PG X tg t' := ⟨fun pins s σ H v u Q I r q => h.run pins s σ H v u Q I r (k _ _ _ _ q)⟩
theorem pgs_imp {tg : List Expr} {t t' : TGs} (h : PGs X tg t) (k : ∀ v σ H Q, t' v σ H Q → t v σ H Q) : PGs X tg t' := ⟨fun pins s σ H v u Q I r q => h.run pins s σ H v u Q I r (k _ _ _ _ q)⟩
theorem rg_name (i : Nat) {x : Str} (nd : X.N.Nodup) (hi : X.N[i]? = some x := by rfl) (hx : Loc X.env.scope x := by first | exact Or.inl rfl | exact Or.inr rfl) (hf : X.fn x = true ∨ X.env.scope.names.lookup x = some .local := by first | exact .inl rfl | exact .inr rfl | assumption) : PG X (.Name x pos) (rdG X.K ca (gNameE i) [i]) :=
  pg_imp (pg_name nd hi hx hf) fun v σ H Q ⟨ms, ρ, μ, u, ρ1, e, r, p, h, q⟩ => by
    unfold gNameE putE at h
    split at h
    · rename_i hi
      cases h
      exact q _ (e.set hi p) Agree.set
    · cases h
theorem rgs_nil : PGs X [] (rdGs X.K ca []) := pgs_imp pgs_nil fun vs σ H Q ⟨ms, ρ, xs, ρ1, e, l, h, q⟩ => by
  cases xs with
  | nil =>
    cases h
    exact ⟨List.length_eq_zero_iff.mp l.1.symm, q σ e ⟨rfl, fun _ _ => rfl⟩⟩
  | cons x xs => cases h
theorem rgs_cons (i : Nat) {x : Str} {es : List Expr} {is : List Nat} (nd : X.N.Nodup) (h2 : PGs X es (rdGs X.K ca is)) (hi : X.N[i]? = some x := by rfl) (hx : Loc X.env.scope x := by first | exact Or.inl rfl | exact Or.inr rfl) (hf : X.fn x = true ∨ X.env.scope.names.lookup x = some .local := by first | exact .inl rfl | exact .inr rfl | assumption)
    (hs : (assignEach (.Name x pos :: es) X.env).map (·.2) = assign (.Name x pos) X.env :: (assignEach es X.env).map (·.2) := by rfl) : PGs X (.Name x pos :: es) (rdGs X.K ca (i :: is)) :=
  pgs_imp (pgs_cons (pg_name nd hi hx hf) h2 hs) fun vs σ H Q ⟨ms, ρ, xs, ρ1, e, l, h, q⟩ => by
    cases xs with
    | nil => cases h
    | cons y ys =>
      cases vs with
      | nil => have := l.1; simp at this
      | cons v vs =>
        unfold putAll at h
        cases hp : putE i (.d y) ρ with
        | none => rw [hp] at h; simp at h
        | some ρ2 =>
          rw [hp] at h
          simp only [Option.bind_some] at h
          unfold putE at hp
          split at hp
          · rename_i hi
            cases hp
            exact ⟨v, vs, rfl, ms, _, ys, ρ1, e.set hi (u := .d y) (l.2 0 y v rfl rfl), ⟨by simpa using l.1, fun i z w a b => l.2 (i + 1) z w (by simpa using a) (by simpa using b)⟩, h, fun σ' e' ag => q σ' e' (Agree.set.trans ag)⟩
          · cases hp
/-- a, b = a tuple -/
theorem rg_tup {es : List Expr} {k n : Nat} {is : List Nat} (hc : X.calm = true) (h : PGs X es (rdGs X.K ca is)) (hl : is.length = n := by rfl)
    (hn : (assignEach es X.env).length = n := by rfl) (hst : (assignEach es X.env).findIdx? (·.1) = none := by rfl) : PG X (.Tuple es k pos) (rdG X.K ca (gTupE is) is) := by
  have h1 : PG X (.Tuple es k pos) (gTup X.K n (rdGs X.K ca is)) := pg_tup hc h hn hst
  have h2 : PG X (.Tuple es k pos) (gLst X.K n (rdGs X.K ca is)) := pg_lst hc h hn hst
  refine ⟨fun pins s σ H v u Q I r ⟨ms, ρ, μ, w, ρ1, e, rm, p, hg, q⟩ => ?_⟩
  unfold gTupE at hg
  cases hi : itemsU μ w with
  | none => rw [hi] at hg; simp at hg
  | some xs =>
    rw [hi] at hg
    simp only [Option.bind_some] at hg
    obtain ⟨a, vs, rfl, sq, l⟩ := items_at rm p hi
    have hlen : ∀ (is : List Nat) (xs : List D) (ρ ρ1 : Env), putAll is xs ρ = some ρ1 → xs.length = is.length := by
      intro is
      induction is with
      | nil => intro xs ρ ρ1 h; cases xs with | nil => rfl | cons => cases h
      | cons i is ih =>
        intro xs ρ ρ1 h
        cases xs with
        | nil => cases h
        | cons x xs =>
          unfold putAll at h
          cases hp : putE i (.d x) ρ with
          | none => rw [hp] at h; simp at h
          | some ρ2 => rw [hp] at h; simp only [Option.bind_some] at h; simp [ih xs ρ2 ρ1 h]
    have hv : vs.length = n := by rw [← l.1, hlen is xs ρ ρ1 hg, hl]
    rcases sq with sq | sq
    · exact h2.run pins s σ H _ u Q I r ⟨a, vs, rfl, sq, hv, ms, ρ, xs, ρ1, e, l, hg, q⟩
    · exact h1.run pins s σ H _ u Q I r ⟨a, vs, rfl, sq, hv, ms, ρ, xs, ρ1, e, l, hg, q⟩
end
/-- target = e, any target -/
def mAsg (g : Mem → U → Env → Option Env) (m : MD) : MS := fun ρ μ => RS.of ρ (m ρ μ) fun u μ1 => match g μ1 u ρ with
  | some ρ1 => .next ρ1 μ1
  | none => .stuck
section
variable {X : Cx} {ca : Nat → Addr} {W : WX} {pos : Pos} {e tg : Expr} {me : MD} {g : Mem → U → Env → Option Env}
theorem rs_asg {is : List Nat} (hg : PG X tg (rdG X.K ca g is)) (he : PE X e (rdE X.K ca W me)) (hs : swapsWithSole [tg] e pos.line X.env = pure false := by rfl) (hw : swappedStores [tg] e X.env = pure none := by rfl) (h1 : (assignEach [tg] X.env).map (·.2) = [assign tg X.env] := by rfl) :
    PS X (.Assign [tg] e pos) (rdS X.K ca W (mAsg g me)) :=
  ps_imp (ps_asg he hg hs hw h1) fun D σ H kf ⟨ms, ρ, μ, e, r, h⟩ => af_of e r h fun u μ1 v H1 ms1 k1 r1 p1 h1 => by
    split at h1
    · rename_i ρ1 hq
      exact ⟨ms1, ρ, μ1, u, ρ1, e.keep k1, r1, p1, hq, fun σ' e' _ _ => AfS.nx (r := r1) h1 e'⟩
    · exact (show False from h1).elim
/-- a, b = x, y: two names (no tuple is made) -/
def mPar (i j : Nat) (ml : ML) : MS := fun ρ μ => RS.of ρ (ml ρ μ) fun us μ1 => match us with
  | [x, y] => match (putE i x ρ).bind (putE j y) with
    | some ρ1 => .next ρ1 μ1
    | none => .stuck
  | _ => .stuck
end
/-! ### loops -/
def forL (g : Mem → U → Env → Option Env) (b : MS) : List D → MS
  | [], ρ, μ => .next ρ μ
  | x :: xs, ρ, μ => match g μ (.d x) ρ with
    | none => .stuck
    | some ρ1 => match b ρ1 μ with
      | .next ρ2 μ2 => forL g b xs ρ2 μ2
      | .cont ρ2 μ2 => forL g b xs ρ2 μ2
      | .brk ρ2 μ2 => .next ρ2 μ2
      | r => r
def rangeD (lo : Int) (n : Nat) : List D := (List.range n).map fun (i : Nat) => .int (lo + (i : Int))
def rgBounds (i : Int) : Bool := decide (-(2 ^ 62) ≤ i) && decide (i < 2 ^ 62)
def rng1 : List U → Option (List D)
  | [.d (.int j)] => if rgBounds j then some (rangeD 0 j.toNat) else none
  | _ => none
def mForR (rg : List U → Option (List D)) (ml : ML) (g : Mem → U → Env → Option Env) (b : MS) : MS := fun ρ μ => RS.of ρ (ml ρ μ) fun us μ1 => match rg us with
  | some xs => forL g b xs ρ μ1
  | none => .stuck
section
variable {X : Cx} {ca : Nat → Addr} {W : WX} {g : Mem → U → Env → Option Env} {b : MS} {D : Ends}
/-- what holds ahead of a turn: the rest of the loop leads on -/
def Ahead (X : Cx) (ca : Nat → Addr) (W : WX) (g : Mem → U → Env → Option Env) (b : MS) (D : Ends) (ms0 : Ms) (H0 : Hp) (xs : List Dv.D) (i : Nat) (σ : St) (H : Hp) : Prop :=
  ∃ ms ρ μ, Keep X.K ca ms0 H0 ms H ∧ RelE X.K ca ρ ms σ H ∧ RelM X.K ca μ ms H ∧ AfS X.K ca W ms H (forL g b (xs.drop i) ρ μ) D
theorem turn_ok {is : List Nat} {ms0 : Ms} {H0 : Hp} {xs : List Dv.D} {i : Nat} {σ : St} {H : Hp} {x : Dv.D} {v : V} (a : Ahead X ca W g b D ms0 H0 xs i σ H) (hx : xs[i]? = some x) (hv : ∀ ms, Keep X.K ca ms0 H0 ms H → Rep X.K ca ms H x v) :
    rdG X.K ca g is v σ H fun σ2 H2 => rdS X.K ca W b { D with nx := Ahead X ca W g b D ms0 H0 xs (i + 1), ct := Ahead X ca W g b D ms0 H0 xs (i + 1), bk := D.nx } σ2 H2 := by
  obtain ⟨ms, ρ, μ, k, e, r, h⟩ := a
  have hd : xs.drop i = x :: xs.drop (i + 1) := by
    have hi := (List.getElem?_eq_some_iff.mp hx).1
    rw [List.drop_eq_getElem_cons hi]
    rw [(List.getElem?_eq_some_iff.mp hx).2]
  rw [hd] at h
  unfold forL at h
  cases hg : g μ (.d x) ρ with
  | none => rw [hg] at h; exact (show False from h).elim
  | some ρ1 =>
    rw [hg] at h
    refine ⟨ms, ρ, μ, .d x, ρ1, e, r, hv ms k, hg, fun σ' e' _ => ⟨ms, ρ1, μ, e', r, ?_⟩⟩
    cases hb : b ρ1 μ with
    | next ρ2 μ2 => simp only [hb] at h; exact fun σ2 H2 ms2 k2 e2 r2 => ⟨ms2, ρ2, μ2, k.trans k2, e2, r2, AfS.shift h k2⟩
    | cont ρ2 μ2 => simp only [hb] at h; exact fun σ2 H2 ms2 k2 e2 r2 => ⟨ms2, ρ2, μ2, k.trans k2, e2, r2, AfS.shift h k2⟩
    | brk ρ2 μ2 => simp only [hb] at h; exact h
    | ret u μ2 => simp only [hb] at h; exact h
    | exc c fs ρ2 μ2 => simp only [hb] at h; exact h
    | stuck => simp only [hb] at h; exact h
theorem ahead_end {ms0 : Ms} {H0 : Hp} {xs : List Dv.D} {n : Nat} {σ : St} {H : Hp} (a : Ahead X ca W g b D ms0 H0 xs n σ H) (hn : xs.length ≤ n) : D.nx σ H := by
  obtain ⟨ms, ρ, μ, k, e, r, h⟩ := a
  rw [List.drop_eq_nil_of_le hn] at h
  exact AfS.nx (r := r) h e
theorem range_get {lo : Int} {n i : Nat} (h : i < n) : (rangeD lo n)[i]? = some (.int (lo + i)) := by
  unfold rangeD
  rw [List.getElem?_map, List.getElem?_range h]
  rfl
end
section
variable {X : Cx} {ca : Nat → Addr} {W : WX} {pos p1 p2 : Pos} {a c tg : Expr} {body : List Stmt} {ml : ML} {ma : MD} {g : Mem → U → Env → Option Env} {b : MS}
theorem rs_forR1 {is : List Nat} (hp : PassesOwn (model X.prog X.w) X.A X.env X.xe) (hc : X.calm = true) (hm : X.mg "range" = none) (ha : PA X [a] (rdA X.K ca W ml)) (hg : PG X tg (rdG X.K ca g is)) (hb : PSs X body (rdS X.K ca W b)) (gl : Gl X "range" := by rfl) (hs : starEach [a] X.env = [(false, eval a X.env)] := by rfl)
    (hs2 : ∀ x, foldedSetIterable (.Call (.Name "range" p1) [a] [] p2) X.env x = pure x := by intro _; rfl) : PS X (.For tg (.Call (.Name "range" p1) [a] [] p2) body [] pos) (rdS X.K ca W (mForR rng1 ml g b)) := by
  refine ps_imp (ps_for hp hc (pi_range1 gl hm ha hs) hg hb hs2) fun D σ H kf ⟨ms, ρ, μ, e, r, h⟩ => af_of e r h fun us μ1 vs H1 ms1 k1 r1 l1 h1 => ?_
  split at h1
  · rename_i xs hr
    unfold rng1 at hr
    split at hr
    · rename_i j
      split at hr
      · rename_i hb'
        cases hr
        unfold rgBounds at hb'
        simp only [Bool.and_eq_true, decide_eq_true_eq] at hb'
        match vs, l1 with
        | [v], l1 =>
          have hv := l1.2 0 _ v rfl rfl
          cases hv
          refine ⟨j, rfl, hb'.1, hb'.2, for_range (lo := 0) (n := j.toNat) (Ahead X ca W g b (kfD X.K D) ms1 H1 (rangeD 0 j.toNat)) ⟨ms1, ρ, μ1, Keep.refl, e.keep k1, r1, AfS.kf h1⟩ (fun i σ' H' hi A => ?_) fun σ' H' A => ahead_end A (by simp [rangeD])⟩
          exact turn_ok A (range_get hi) fun ms _ => .int _
        | [], l1 => exact absurd l1.1 (by simp)
        | _ :: _ :: _, l1 => exact absurd l1.1 (by simp)
      · cases hr
    · cases hr
  · exact (show False from h1).elim
end
end Dv
namespace Dv
open PySem L2
/-! ### comprehensions -/
def wipeE (ρ : Env) : List Nat → Env
  | [] => ρ
  | v :: vs => (wipeE ρ vs).set v none
theorem wipe_get (σ : St) : ∀ (vs : List Nat) (j : Nat), (wipe σ vs)[j]? = if j ∈ vs then (if j < σ.length then some none else none) else σ[j]?
  | [], j => by simp [wipe]
  | v :: vs, j => by
    unfold wipe
    by_cases hj : j = v
    · subst hj
      rw [if_pos (by simp)]
      by_cases hl : j < σ.length
      · rw [List.getElem?_set_self (by rw [wipe_length]; exact hl), if_pos hl]
      · rw [if_neg hl]
        exact List.getElem?_eq_none (by rw [List.length_set, wipe_length]; omega)
    · rw [List.getElem?_set_ne (by omega), wipe_get σ vs j]
      simp [hj]
theorem wipeE_get (ρ : Env) : ∀ (vs : List Nat) (j : Nat) u, (wipeE ρ vs)[j]? = some (some u) → ρ[j]? = some (some u) ∧ j ∉ vs
  | [], j, u, h => ⟨h, by simp⟩
  | v :: vs, j, u, h => by
    unfold wipeE at h
    by_cases hj : j = v
    · subst hj
      by_cases hl : j < (wipeE ρ vs).length
      · rw [List.getElem?_set_self hl] at h; cases h
      · rw [List.getElem?_eq_none (by simpa using hl)] at h; cases h
    · rw [List.getElem?_set_ne (by omega)] at h
      obtain ⟨a, b⟩ := wipeE_get ρ vs j u h
      exact ⟨a, by simp [hj, b]⟩
theorem wipeE_len (ρ : Env) : ∀ vs : List Nat, (wipeE ρ vs).length = ρ.length
  | [] => rfl
  | v :: vs => by unfold wipeE; rw [List.length_set, wipeE_len ρ vs]
theorem RelE.wipe {K : PySem.W.Frag} {ca : Nat → Addr} {ρ : Env} {ms : Ms} {σ : St} {H : Hp} (e : RelE K ca ρ ms σ H) (vs : List Nat) : RelE K ca (wipeE ρ vs) ms (L2.wipe σ vs) H := by
  refine ⟨by rw [wipeE_len, wipe_length]; exact e.1, fun i u h => ?_⟩
  obtain ⟨a, b⟩ := wipeE_get ρ vs i u h
  obtain ⟨v, q, p⟩ := e.2 i u a
  exact ⟨v, by rw [wipe_get, if_neg b]; exact q, p⟩
theorem agree_wipe {σ σ2 : St} {is vs : List Nat} (a : Agree is (wipe σ vs) σ2) (h : ∀ i, i ∈ is → i ∈ vs) : wipe σ2 vs = wipe σ vs := by
  apply List.ext_getElem?
  intro j
  have hl : σ2.length = σ.length := by rw [a.1, wipe_length]
  rw [wipe_get, wipe_get, hl]
  by_cases hj : j ∈ vs
  · rw [if_pos hj, if_pos hj]
  · rw [if_neg hj, if_neg hj, a.2 j (fun z => hj (h j z)), wipe_get, if_neg hj]
/-- no error leaves a comprehension here -/
def R.calm {α : Type} : R α → R α
  | .exc _ _ _ => .stuck
  | r => r
@[simp] theorem calm_val {α : Type} (a : α) (μ : Mem) : (R.val a μ).calm = .val a μ := rfl
@[simp] theorem calm_stuck {α : Type} : (R.stuck : R α).calm = .stuck := rfl
@[simp] theorem calm_exc {α : Type} (c : Nat) (fs : List (Str × D)) (μ : Mem) : (R.exc c fs μ : R α).calm = .stuck := rfl
/-- the items of a comprehension -/
def compL (g : Mem → U → Env → Option Env) (t : MT) (e : MD) (ρ : Env) : List D → Mem → List D → R (List D)
  | [], μ, acc => .val acc μ
  | x :: xs, μ, acc => match g μ (.d x) ρ with
    | none => .stuck
    | some ρ1 => (t ρ1 μ).calm.bind fun b μ1 => if b = true then (e ρ1 μ1).calm.bind fun u μ2 => (if szD (acc.length + 1) then ofO μ2 (toD u) else .stuck).bind fun y μ3 => compL g t e ρ xs μ3 (acc ++ [y])
      else compL g t e ρ xs μ1 acc
def mYes : MT := fun _ μ => .val true μ
def mLcR (rg : List U → Option (List D)) (ml : ML) (g : Mem → U → Env → Option Env) (t : MT) (e : MD) (vs : List Nat) : MD := fun ρ μ => (ml ρ μ).bind fun us μ1 => match rg us with
  | some xs => (compL g t e (wipeE ρ vs) xs μ1 []).bind fun acc μ2 => .val (.d (.lst acc)) μ2
  | none => .stuck
abbrev W0 : WX := fun _ _ _ _ => False
def Ms.hide (ms : Ms) (p : Addr) : Ms := { ms with hid := p :: ms.hid }
section
variable {K : PySem.W.Frag} {ca : Nat → Addr} {ms ms' : Ms} {H H' : Hp} {μ : Mem}
theorem RelM.hide {p : Addr} {o : HO} (r : RelM K ca μ ms H) (hp : H p = none) : RelM K ca μ (ms.hide p) (upd H p o) ∧ ∀ u v, RepU K ca ms H u v → RepU K ca (ms.hide p) (upd H p o) u v := by
  have all : ∀ u v, RepU K ca ms H u v → RepU K ca (ms.hide p) (upd H p o) u v := fun u v h => by
    cases u with
    | d x =>
      refine Rep.mono h (fun a o q _ => same_new hp a o q) fun a z => ?_
      rcases z with z | z
      · exact .inl (.inl z)
      · rcases List.mem_cons.mp z with rfl | z
        · exact .inr hp
        · exact .inl (.inr z)
    | cell n => exact h
  refine ⟨⟨r.len, fun n c h => ?_, r.dead, r.apart, fun a h => ?_, fun n a h z => ?_, ⟨rfl, rfl⟩⟩, all⟩
  · obtain ⟨a, q, z⟩ := r.live n c h
    refine ⟨a, q, ?_⟩
    cases c with
    | lst xs => obtain ⟨vs, s, l⟩ := z; exact ⟨vs, same_new hp _ _ s, l.1, fun i x v a b => all (.d x) v (l.2 i x v a b)⟩
    | obj c fs => obtain ⟨dx, gs, s, l, y⟩ := z; exact ⟨dx, gs, same_new hp _ _ s, l, fun i x v a b => all _ v.2 (y i x v a b)⟩
  · rcases List.mem_cons.mp h with rfl | h
    · exact ⟨o, upd_same⟩
    · obtain ⟨u, q⟩ := r.hidden a h
      exact ⟨u, same_new hp _ _ q⟩
  · rcases List.mem_cons.mp z with rfl | z
    · obtain ⟨u, q⟩ := r.at h
      rw [hp] at q; cases q
    · exact r.sep n a h z
theorem hide_old {p : Addr} {o : HO} (hp : H p = none) : Old ms H (ms.hide p) (upd H p o) := ⟨fun a u q _ => same_new hp a u q, fun a z => by
  rcases z with z | z
  · exact .inl (.inl z)
  · rcases List.mem_cons.mp z with rfl | z
    · exact .inr hp
    · exact .inl (.inr z)⟩
/-- the list is made: it is a thing like others -/
theorem RelM.show_ {p : Addr} (r : RelM K ca μ ms' H') (hh : ms'.hid = p :: ms.hid) : RelM K ca μ { ms' with hid := ms.hid } H' ∧ (∀ u v, RepU K ca ms' H' u v → RepU K ca { ms' with hid := ms.hid } H' u v) := by
  have all : ∀ u v, RepU K ca ms' H' u v → RepU K ca { ms' with hid := ms.hid } H' u v := fun u v h => by
    cases u with
    | d x =>
      refine Rep.mono h (fun a o q _ => q) fun a z => ?_
      rcases z with z | z
      · exact .inl (.inl z)
      · exact .inl (.inr (by rw [hh]; exact List.mem_cons_of_mem _ z))
    | cell n => exact h
  refine ⟨⟨r.len, fun n c h => ?_, r.dead, r.apart, fun a h => r.hidden a (by rw [hh]; exact List.mem_cons_of_mem _ h), fun n a h z => r.sep n a h (by rw [hh]; exact List.mem_cons_of_mem _ z), ⟨rfl, rfl⟩⟩, all⟩
  obtain ⟨a, q, z⟩ := r.live n c h
  refine ⟨a, q, ?_⟩
  cases c with
  | lst xs => obtain ⟨vs, s, l⟩ := z; exact ⟨vs, s, l.1, fun i x v a b => all (.d x) v (l.2 i x v a b)⟩
  | obj c fs => obtain ⟨dx, gs, s, l, y⟩ := z; exact ⟨dx, gs, s, l, fun i x v a b => all _ v.2 (y i x v a b)⟩
/-- the hidden list grows -/
theorem RelM.grow {p : Addr} {o : HO} (r : RelM K ca μ ms H) (hp : p ∈ ms.hid) : RelM K ca μ ms (upd H p o) ∧ ∀ u v, RepU K ca ms H u v → RepU K ca ms (upd H p o) u v := by
  have kp : ∀ a u, H a = some u → ¬ ms.In a → upd H p o a = some u := fun a u q n => by
    rw [upd_ne]
    · exact q
    · intro e; subst e; exact n (.inr hp)
  have all : ∀ u v, RepU K ca ms H u v → RepU K ca ms (upd H p o) u v := fun u v h => by
    cases u with
    | d x => exact Rep.mono h kp fun a z => .inl z
    | cell n => exact h
  refine ⟨⟨r.len, fun n c h => ?_, r.dead, r.apart, fun a h => ?_, r.sep, ⟨rfl, rfl⟩⟩, all⟩
  · obtain ⟨a, q, z⟩ := r.live n c h
    have na : a ≠ p := fun e => r.sep n a q (e ▸ hp)
    refine ⟨a, q, ?_⟩
    cases c with
    | lst xs => obtain ⟨vs, s, l⟩ := z; exact ⟨vs, by rw [upd_ne na]; exact s, l.1, fun i x v a b => all (.d x) v (l.2 i x v a b)⟩
    | obj c fs => obtain ⟨dx, gs, s, l, y⟩ := z; exact ⟨dx, gs, by rw [upd_ne na]; exact s, l, fun i x v a b => all _ v.2 (y i x v a b)⟩
  · by_cases ha : a = p
    · subst ha; exact ⟨o, upd_same⟩
    · obtain ⟨u, q⟩ := r.hidden a h
      exact ⟨u, by rw [upd_ne ha]; exact q⟩
end
section
variable {X : Cx} {ca : Nat → Addr} {W : WX} {g : Mem → U → Env → Option Env} {t : MT} {e : MD} {ρ : Env} {σ : St} {is vs : List Nat} {Q : VK}
/-- ahead of an item: the rest of the comprehension leads on; the list so far stands at p, hidden -/
def AheadC (X : Cx) (ca : Nat → Addr) (W : WX) (g : Mem → U → Env → Option Env) (t : MT) (e : MD) (ρ : Env) (σ : St) (Q : VK) (ms0 : Ms) (H0 : Hp) (p : Addr) (xs : List D) (i : Nat) (H : Hp) : Prop :=
  ∃ ms μ acc av, Old ms0 H0 ms H ∧ H0 p = none ∧ ms.hid = p :: ms0.hid ∧ (∀ u v, RepU X.K ca ms0 H0 u v → RepU X.K ca ms H u v) ∧ (∀ a, a ∈ ms0.hid → H a = H0 a) ∧ RelM X.K ca μ ms H ∧ H p = some (.lst av) ∧ RepL X.K ca ms H acc av ∧
    Af X.K ca (RepU X.K ca) W σ ms0 H0 ((compL g t e ρ (xs.drop i) μ acc).bind fun acc μ2 => .val (.d (.lst acc)) μ2) Q
theorem item_ok {ms0 : Ms} {H0 H : Hp} {p : Addr} {xs : List D} {i : Nat} {x : D} {v : V} (er : RelE X.K ca ρ ms0 (wipe σ vs) H0) (np : p ∉ ms0.hid) (a : AheadC X ca W g t e ρ σ Q ms0 H0 p xs i H) (hx : xs[i]? = some x) (hv : ∀ ms, (∀ u v, RepU X.K ca ms0 H0 u v → RepU X.K ca ms H u v) → Rep X.K ca ms H x v) (hi : ∀ i, i ∈ is → i ∈ vs) :
    rdG X.K ca g is v (wipe σ vs) H fun σ2 H2 => wipe σ2 vs = wipe σ vs ∧ rdT X.K ca W0 t σ2 H2 fun b H3 => if b = true then rdE X.K ca W0 e σ2 H3 fun y H4 => ∃ acc, H4 p = some (.lst acc) ∧ acc.length < sizeLine ∧ AheadC X ca W g t e ρ σ Q ms0 H0 p xs (i + 1) (upd H4 p (.lst (acc ++ [y])))
      else AheadC X ca W g t e ρ σ Q ms0 H0 p xs (i + 1) H3 := by
  obtain ⟨ms, μ, acc, av, ol, p0, hh, k, ks, r, hp, l, h⟩ := a
  have hd : xs.drop i = x :: xs.drop (i + 1) := by
    have hi := (List.getElem?_eq_some_iff.mp hx).1
    rw [List.drop_eq_getElem_cons hi, (List.getElem?_eq_some_iff.mp hx).2]
  have er' : RelE X.K ca ρ ms (wipe σ vs) H := ⟨er.1, fun i u h => let ⟨v, a, b⟩ := er.2 i u h; ⟨v, a, k u v b⟩⟩
  rw [hd] at h
  unfold compL at h
  cases hg : g μ (.d x) ρ with
  | none => rw [hg] at h; exact (show False from h).elim
  | some ρ1 =>
    rw [hg] at h
    simp only at h
    refine ⟨ms, ρ, μ, .d x, ρ1, er', r, hv ms k, hg, fun σ2 e2 ag => ⟨agree_wipe ag hi, ms, ρ1, μ, e2, r, ?_⟩⟩
    cases ht : t ρ1 μ with
    | stuck => rw [ht] at h; exact (show False from h).elim
    | exc c fs μ1 =>
      rw [ht] at h
      exact (show False from h).elim
    | val b μ1 =>
      rw [ht, calm_val, bind_val] at h
      intro b' H3 ms3 k3 r3 eb
      obtain rfl : b' = b := eb
      have hp3 : H3 p = some (.lst av) := by rw [k3.same p (by rw [hh]; exact List.mem_cons_self)]; exact hp
      cases b' with
      | false =>
        refine ⟨ms3, μ1, acc, av, ol.trans k3.ol, p0, k3.hid.trans hh, fun u v q => k3.all u v (k u v q), fun a q => (k3.same a (by rw [hh]; exact List.mem_cons_of_mem _ q)).trans (ks a q), r3, hp3, k3.list l, ?_⟩
        simpa using h
      | true =>
        rw [if_pos rfl] at h ⊢
        refine ⟨ms3, ρ1, μ1, e2.keep k3, r3, ?_⟩
        cases he : e ρ1 μ1 with
        | stuck => rw [he] at h; exact (show False from h).elim
        | exc c fs μ2 => rw [he] at h; exact (show False from h).elim
        | val u μ2 =>
          rw [he, calm_val, bind_val] at h
          intro y H4 ms4 k4 r4 py
          have hh4 : ms4.hid = p :: ms0.hid := k4.hid.trans (k3.hid.trans hh)
          have hp4 : H4 p = some (.lst av) := by rw [k4.same p (by rw [k3.hid, hh]; exact List.mem_cons_self)]; exact hp3
          split at h
          · rename_i hz
            cases u with
            | cell n => exact (show False from h).elim
            | d z =>
              have l4 := (k3.trans k4).list l
              refine ⟨av, hp4, Nat.lt_of_lt_of_le (by rw [← l4.1]; exact Nat.lt_succ_self _) (sz_ok hz), ?_⟩
              have pin : p ∈ ms4.hid := by rw [hh4]; exact List.mem_cons_self
              obtain ⟨r5, a5⟩ := r4.grow (o := .lst (av ++ [y])) pin
              refine ⟨ms4, μ2, acc ++ [z], av ++ [y], (ol.trans (k3.trans k4).ol).put p0, p0, hh4, fun u v q => a5 u v ((k3.trans k4).all u v (k u v q)), fun a q => ?_, r5, upd_same, ?_, ?_⟩
              · rw [upd_ne]
                · rw [k4.same a (by rw [k3.hid, hh]; exact List.mem_cons_of_mem _ q), k3.same a (by rw [hh]; exact List.mem_cons_of_mem _ q)]
                  exact ks a q
                · intro e'; subst e'; exact np q
              · refine RepL.append ⟨l4.1, fun i x v a b => a5 (.d x) v (l4.2 i x v a b)⟩ ⟨rfl, fun i x v a b => ?_⟩
                cases i with
                | zero =>
                  simp only [List.getElem?_cons_zero, Option.some.injEq] at a b
                  subst a; subst b
                  exact a5 (.d z) y py
                | succ i => simp at a
              · exact h
          · exact (show False from h).elim
theorem done_ok {ms0 : Ms} {H0 H : Hp} {p : Addr} {xs : List D} {n : Nat} (a : AheadC X ca W g t e ρ σ Q ms0 H0 p xs n H) (hn : xs.length ≤ n) (nc : ∀ ms μ, RelM X.K ca μ ms H → p ∈ ms.hid → some p ∉ ms.cs) (np : p ∉ ms0.hid) : Q (.ref p) H := by
  obtain ⟨ms, μ, acc, av, ol, p0, hh, k, ks, r, hp, l, h⟩ := a
  rw [List.drop_eq_nil_of_le hn] at h
  obtain ⟨r2, all⟩ := r.show_ (ms := ms0) hh
  refine h (.ref p) H { ms with hid := ms0.hid } ⟨fun u v q => all u v (k u v q), rfl, ks, ⟨ol.old, fun a z => ol.new a (z.elim .inl fun z => .inr (by rw [hh]; exact List.mem_cons_of_mem _ z))⟩⟩ r2 ?_
  have out : ¬ Ms.In { ms with hid := ms0.hid } p := fun z => by
    rcases z with z | z
    · exact nc ms μ r (by rw [hh]; exact List.mem_cons_self) z
    · exact np z
  exact Rep.lst hp out l.1 fun i x v a b => all (.d x) v (l.2 i x v a b)
theorem nc_of {H : Hp} {p : Addr} : ∀ ms μ, RelM X.K ca μ ms H → p ∈ ms.hid → some p ∉ ms.cs := fun ms μ r h z => by
  obtain ⟨n, q⟩ := List.getElem?_of_mem z
  exact r.sep n p q h
end
section
variable {X : Cx} {ca : Nat → Addr} {W : WX} {pos p1 p2 : Pos} {a tg elt iter : Expr} {ifs : List Expr} {scope : Scope} {own : List (Str × Nat)} {ml : ML} {ma me : MD} {mt : MT} {g : Mem → U → Env → Option Env} {is : List Nat}
theorem rts_nil : PTs X [] (rdT X.K ca W mYes) := ⟨fun pins s σ H Q I ⟨ms, ρ, μ, e, r, h⟩ => pts_nil.run pins s σ H Q I (Af.at (a := true) h r rfl)⟩
theorem rts_one {c : Expr} (h : PT X c (rdT X.K ca W mt)) : PTs X [c] (rdT X.K ca W mt) := pts_one h
theorem re_lcR (hc : X.calm = true) (nd : X.N.Nodup) (hm : X.mg "range" = none) (ha : PA X [a] (rdA X.K ca W ml)) (ok : BlkOk X.N X.env.scope scope own)
    (hg : ∀ (s : Shared) (H : Hp) (C : Addr) (cl : List (Str × Addr)) (fp : List Addr), PG (X.blk s H scope (compEnvC scope cl C X.env) fp) tg (rdG X.K ca g is)) (ht : ∀ (s : Shared) (H : Hp) (C : Addr) (cl : List (Str × Addr)) (fp : List Addr), PTs (X.blk s H scope (compEnvC scope cl C X.env) fp) ifs (rdT X.K ca W0 mt))
    (he : ∀ (s : Shared) (H : Hp) (C : Addr) (cl : List (Str × Addr)) (fp : List Addr), PE (X.blk s H scope (compEnvC scope cl C X.env) fp) elt (rdE X.K ca W0 me)) (hi : ∀ i, i ∈ is → i ∈ own.map (·.2) := by decide) (gl : Gl X "range" := by rfl) (hs : starEach [a] X.env = [(false, eval a X.env)] := by rfl)
    (hs2 : ∀ x, foldedSetIterable (.Call (.Name "range" p1) [a] [] p2) X.env x = pure x := by intro _; rfl) : PE X (.ListComp elt [⟨tg, .Call (.Name "range" p1) [a] [] p2, ifs, 0⟩] scope pos) (rdE X.K ca W (mLcR rng1 ml g mt me (own.map (·.2)))) := by
  refine pe_imp (pe_lc hc nd (pi_range1 gl hm ha hs) ok hg ht he hs2) fun σ H Q kf ⟨ms, ρ, μ, e, r, h⟩ => af_bind e r h fun us μ1 vs H1 ms1 k1 r1 l1 h1 => ?_
  split at h1
  · rename_i xs hr
    unfold rng1 at hr
    split at hr
    · rename_i j
      split at hr
      · rename_i hb'
        cases hr
        unfold rgBounds at hb'
        simp only [Bool.and_eq_true, decide_eq_true_eq] at hb'
        match vs, l1 with
        | [v], l1 =>
          have hv := l1.2 0 _ v rfl rfl
          cases hv
          refine ⟨j, rfl, hb'.1, hb'.2, fun p hp => ?_⟩
          have np : p ∉ ms1.hid := fun z => by
            obtain ⟨o, q⟩ := r1.hidden p z
            rw [hp] at q; cases q
          obtain ⟨r2, a2⟩ := r1.hide (o := .lst []) hp
          refine lc_range (lo := 0) (n := j.toNat) (AheadC X ca W g mt me (wipeE ρ (own.map (·.2))) σ (fun v H' => KF X.K H' → Q v H') ms1 H1 p (rangeD 0 j.toNat)) ⟨ms1.hide p, μ1, [], [], hide_old hp, hp, rfl, a2, fun a q => upd_ne fun z => np (z ▸ q), r2, upd_same, ⟨rfl, fun i x v a => by simp at a⟩, af_kf h1⟩ (fun i H' hi' A => ?_) fun H' A => done_ok A (by simp [rangeD]) nc_of np
          exact item_ok ((e.keep k1).wipe _) np A (range_get hi') (fun ms _ => .int _) hi
        | [], l1 => exact absurd l1.1 (by simp)
        | _ :: _ :: _, l1 => exact absurd l1.1 (by simp)
      · cases hr
    · cases hr
  · exact (show False from h1).elim
end
end Dv
/-! Errors of own classes, made by a call with or without keywords. -/
namespace PySem
namespace DvX
open PySem.W PySem.Calls PyProof.Rows PySem.HandSPX
section
variable {M : Model} {A : Around} {E : Value → Shared → Prop} {h : Heap} {g : Array GenState} {d : Drawn} {t : Nat} {os : OsState}
variable {nm q : Str} {C N : Addr} {bs bm bmB : List Value} {hdct : Bool} {sn : List Str} {sub : List Value} {ab : Bool} {col : Option Bool} {dd : Option Addr} {k0 k1 k2 k3 k5 : Option Value} {B newId initId : String}
theorem chk_new (F : ExcBaseFacts B newId initId bmB) (hT : ∀ X : String, bm.contains (.type X) = bmB.contains (.type X)) {us : List Value} {kw : List (Str × Value)} {Q : Unit → Shared → Prop}
    (hC : h.get? C = some (excClassObj nm q C N bs bm hdct sn sub ab col dd k0 k1 k2 k3 k5 newId)) (z : Q () ⟨h, g, d, t, os⟩) : wpAny M A (checkBuiltinCall newId ⟨.ref C :: us, kw⟩) Q E ⟨h, g, d, t, os⟩ := by
  have inB : (Value.ref C :: bm).contains (.type B) = true := by simp only [List.contains_cons, hT, F.hasB, Bool.or_true]
  have st := F.noStar
  simp only [checkBuiltinCall, F.newKind, F.newSplit, F.newRow]
  repeat (first | (refine wpAny_isSubtype_exc hC ?_; rw [inB]) | refine wpAny_loadPart_at hC ?_ | refine wpAny_madeBy_exc hC ?_ | refine wpAny_staticBase_exc hC ?_ | simp only [bne_self_eq_false, Bool.false_eq_true, if_false] | wp_step)
  exact z
theorem chk_call {us : List Value} {kw : List (Str × Value)} {Q : Unit → Shared → Prop} (hC : h.get? C = some (excClassObj nm q C N bs bm hdct sn sub ab col dd k0 k1 k2 k3 k5 newId)) (z : Q () ⟨h, g, d, t, os⟩) :
    wpAny M A (checkBuiltinCall "type.__call__" ⟨.ref C :: us, kw⟩) Q E ⟨h, g, d, t, os⟩ := by
  have e3 := tc_sub
  have tyC : (⟨h, g, d, t, os⟩ : Shared).TypeIs (.ref C) "type" := ⟨_, hC, rfl⟩
  simp only [checkBuiltinCall, tc_kind, tc_split]
  repeat (any_goals (first | assumption | with_reducible refine wpAny_loadPart_at hC ?_ | with_reducible refine wpAny_map ?_ | with_reducible refine wpAny_onRaise ?_ | wp_step))
end
section
variable {prog : Program} {w : World} {A : Around} {E : Value → Shared → Prop} {R : Result → Shared → Prop} {h : Heap} {g : Array GenState} {d : Drawn} {t : Nat} {os : OsState}
variable {nm q : Str} {C N : Addr} {bs bm bmB : List Value} {hdct : Bool} {sn : List Str} {sub : List Value} {ab : Bool} {col : Option Bool} {dd : Option Addr} {k0 k1 k2 k3 k5 : Option Value} {B newId initId : String}
theorem run_new (F : ExcBaseFacts B newId initId bmB) (hT : ∀ X : String, bm.contains (.type X) = bmB.contains (.type X)) {us : List Value} {kw : List (Str × Value)}
    (hC : h.get? C = some (excClassObj nm q C N bs bm hdct sn sub ab col dd k0 k1 k2 k3 k5 newId))
    (z : R (.ok (.ret (.ref (h.objs.size + 1)))) ⟨(h.push (kdv_tup us)).push (excO C h.objs.size), g, d, t, os⟩) (hz : us.length ≤ sizeLine) :
    codeAny (model prog w) A (.builtin newId ⟨.ref C :: us, kw⟩) R ⟨h, g, d, t, os⟩ := by
  have e1 := F.ends
  have inB : (Value.ref C :: bm).contains (.type B) = true := by simp only [List.contains_cons, hT, F.hasB, Bool.or_true]
  have noA : (Value.ref C :: bm).contains (.type "AttributeError") = false := by simp only [List.contains_cons, hT, F.noAttr]; rfl
  have noN : (Value.ref C :: bm).contains (.type "NameError") = false := by simp only [List.contains_cons, hT, F.noName]; rfl
  refine codeAny_builtinAt F.entry ?_
  unfold Builtin.«BaseException.__new__»
  refine wpAt_bind ?_
  show wpAt _ _ _ (stack >>= _) _ _ _
  refine wpAt_bind (wpAt_stack fun p below => wpAt_of_wpAny ?_)
  wp_walk
  refine wpAt_of_wpAny ?_
  rw [F.owner]
  repeat (first | with_reducible refine wpAny_loadPart_at hC ?_ | with_reducible refine wpAny_madeHere_exc F.canon hC ?_ | (with_reducible refine wpAny_isSubtype_exc hC ?_; first | rw [inB] | rw [noA] | rw [noN]) | wp_step)
  show R _ _
  rw [Heap.size_push]
  exact z
theorem run_type (F : ExcBaseFacts B newId initId bmB) (hT : ∀ X : String, bm.contains (.type X) = bmB.contains (.type X)) {us : List Value} {kw : List (Str × Value)} {fI : Addr} {Q : Fin → Shared → Prop}
    (hC : h.get? C = some (excClassObj nm q C N bs bm hdct sn sub ab col dd k0 k1 k2 k3 k5 newId))
    (li : W.Looks (model prog w) h (typeLookup (.ref C) "__init__") (some (.ref fI))) (lb : ∀ self, W.Looks (model prog w) h (bindSpecial (.ref fI) self) (.ref fI, [self])) (hz : us.length ≤ sizeLine)
    (z : codeAny (model prog w) A (.call (.ref fI) ⟨.ref (h.objs.size + 1) :: us, kw⟩)
      (fun r s' => match r with | .ok (.ret v) => v = .none ∧ Q (.done (.ret (.ref (h.objs.size + 1)))) s' | .ok _ => False | .error e => E e s')
      ⟨(h.push (kdv_tup us)).push (excO C h.objs.size), g, d, t, os⟩) :
    wpAny (model prog w) A (Builtin.«type.__call__» ⟨.ref C :: us, kw⟩) Q E ⟨h, g, d, t, os⟩ := by
  repeat (first | with_reducible refine wpAny_madeBy_exc hC ?_ | with_reducible refine wpAny_loadPart_at hC ?_ | wp_step)
  refine codeAny_call_builtin_code (Code.quiet_builtin _ F.quiet) (chk_new F hT hC ?_)
  refine run_new F hT hC ?_ hz
  show wpAny _ _ _ _ _ _
  have up : ∀ b o, h.get? b = some o → ((h.push (kdv_tup us)).push (excO C h.objs.size)).get? b = some o := fun b o e => Heap.get?_push_of_some _ (Heap.get?_push_of_some _ e)
  have hCu := up _ _ hC
  have hg : ((h.push (kdv_tup us)).push (excO C h.objs.size)).get? (h.objs.size + 1) = some (excO C h.objs.size) := by heap_get
  have inC : (Value.ref C :: bm).contains (.ref C) = true := by simp
  have liu := li.keeps up
  have lbu := (lb (.ref (h.objs.size + 1))).keeps up
  unfold isInstance
  repeat (first | (with_reducible refine wpAny_isSubtype_exc hCu ?_; rw [inC]) | with_reducible refine wpAny_loadPart_at hg ?_ | wp_step)
  show wpAny _ _ (typeLookup (.ref C) _) _ _ _
  refine liu.at ?_
  refine wpAny_holding (wpAny_bind (lbu.at ?_))
  refine wpAny_bind (wpAny_call (codeAny_mono z fun r s' y => ?_))
  rcases r with e | (v | _ | _ | _) <;> first | exact y | exact y.elim | skip
  obtain ⟨rfl, y⟩ := y
  first
    | exact wpAny_pure (wpAny_pure y)
    | (wp_walk; exact y)
/-- an own error class with an own __init__, called -/
theorem made (F : ExcBaseFacts B newId initId bmB) (hT : ∀ X : String, bm.contains (.type X) = bmB.contains (.type X)) {us : List Value} {kw : List (Str × Value)} {fI : Addr}
    (hC : h.get? C = some (excClassObj nm q C N bs bm hdct sn sub ab col dd k0 k1 k2 k3 k5 newId))
    (li : W.Looks (model prog w) h (typeLookup (.ref C) "__init__") (some (.ref fI))) (lb : ∀ self, W.Looks (model prog w) h (bindSpecial (.ref fI) self) (.ref fI, [self])) (hz : us.length ≤ sizeLine)
    (z : codeAny (model prog w) (A.under (.builtin "type.__call__" ⟨.ref C :: us, kw⟩)) (.call (.ref fI) ⟨.ref (h.objs.size + 1) :: us, kw⟩) (W.InitBack (h.objs.size + 1) R)
      ⟨(h.push (kdv_tup us)).push (excO C h.objs.size), g, d, t, os⟩) :
    codeAny (model prog w) A (.call (.ref C) ⟨us, kw⟩) R ⟨h, g, d, t, os⟩ := by
  have e1 := tc_lookup
  have e2 := tc_bind (.ref C)
  have tyC : (⟨h, g, d, t, os⟩ : Shared).TypeIs (.ref C) "type" := ⟨_, hC, rfl⟩
  refine codeAny_of_tree ?_
  show wpAny _ _ (callAny (.ref C) _) _ _ _
  repeat (any_goals (first | assumption | with_reducible refine wpAny_loadPart_at hC ?_ | wp_step))
  refine ⟨rfl, ?_⟩
  refine codeAny_call_builtin_at (Code.quiet_builtin _ (by decide +kernel)) entry_typeCall (chk_call hC (run_type F hT hC li lb hz ?_))
  refine codeAny_mono z fun r s' y => ?_
  rcases r with e | (v | _ | _ | _) <;> exact y
end
end DvX
end PySem
/-! The text of such an __init__: super().__init__(..), then self.f = f for each field. -/
namespace PySem
namespace DvX
open PySem.W PySem.Calls PyProof.Rows PySem.HandSPX
def supS (p0 p1 p2 p3 p4 : Pos) (args : List Expr) : Stmt := .Expr (.Call (.Attribute (.Call (.Name "super" p0) [] [] p1) "__init__" p2) args [] p3) p4
def stoS (f : Str) (q1 q2 q3 q4 : Pos) : Stmt := .Assign [.Attribute (.Name "self" q1) f q2] (.Name f q3) q4
/-- what the written part says of the class at C -/
structure CF (K : Frag) (C : Addr) : Prop where
  cls : ∃ nm q N bs bm sn sub ab col dd k0 k1 k2 k3 k5, K.lookup C = some (excClassObj nm q C N bs bm true sn sub ab col dd k0 k1 k2 k3 k5 "ValueError.__new__") ∧ refsVE bm = true
  ga : findIn K (.ref C) "__getattribute__" = some (some (.builtin "BaseException.__getattribute__"))
  gg : findIn K (.ref C) "__getattr__" = some none
  exC : subIn K (.ref C) (.type "BaseException") = some true
  tyC : typeIn K (.ref C) = some (.type "type")
  hdC : hasDictIn K C = true
  kC : keepIn K (.ref C) = true
/-- .. and of its __init__ -/
structure IF (K : Frag) (prog : Program) (mg : Str → Option Value) (C fI : Addr) (name qual : Str) (par : Arguments) (body : List Stmt) (sc : Scope) (cc cda : Addr) : Prop where
  sa : findIn K (.ref C) "__setattr__" = some (some (.builtin "object.__setattr__"))
  iC : findIn K (.ref C) "__init__" = some (some (.ref fI))
  tC : typeIn K (.ref fI) = some (.type "function")
  su : ks_superIn K C C "__init__" = some (some (.builtin "ValueError.__init__"))
  vB : subIn K (.ref C) (.type "ValueError") = some true
  sC : mroIn K C (.ref C) = some true
  op : nsIn K cStatics "thirdparty.any" = some none
  sg : mg "super" = none
  fn : ∃ (oc : Value) (od : Option Addr) (doc pm : Value) (an : Option Addr) (ct : Value) (osl : Array (Option Value)), K.lookup fI = some ⟨oc, od, .func (ksFn name qual par body sc .none .none doc pm an (.ref cda) ct cc), osl⟩
  cd : codeIn K (.ref cda) qual = true
  ch : ∃ (ccl : Value) (cdd : Option Addr) (vs : Array Value) (ccs : Array (Option Value)) (file : Str) (tf : Tok), K.lookup cda = some ⟨ccl, cdd, .fields vs, ccs⟩ ∧ vs[2]? = some (.str file tf) ∧ ((prog.main.file : Str) == file) = true
  ce : ∃ (cl : Value) (cld : Option Addr) (csl : Array (Option Value)), K.lookup cc = some ⟨cl, cld, .cell (some (.ref C)), csl⟩
  top : (prog.main.scope.names.lookup ("super" : Str)).isSome = false
  hks : sc.names.lookup ("super" : Str) = some .globalImplicit
  hkc : sc.names.lookup ("__class__" : Str) = some .free
  hka : sc.names.lookup ("self" : Str) = some .local
  kind : sc.kind = .function
  co : sc.isCoroutine = false
  gen : sc.isGenerator = false
  cell : ∀ x ∈ sc.names, x.2 ≠ .cell
  par0 : ∃ ar, (par.posonlyargs ++ par.args).head? = some ar ∧ ar.arg = "self"
/-- what is read of the module, anywhere -/
structure Rm (K : Frag) (mg : Str → Option Value) (h : Heap) : Prop where
  kin : K.In h
  glob : h.Ns mainGlobals mg
  blt : ∃ mb, h.Ns builtinsNs mb ∧ ∀ x : Str, x ≠ "__name__" → mb x = bootBuiltins x
  lim : h.NoLimit
theorem Rm.keeps {K : Frag} {mg : Str → Option Value} {h h' : Heap} (r : Rm K mg h) (k : ∀ b o, h.get? b = some o → h'.get? b = some o) : Rm K mg h' :=
  ⟨r.kin.keeps k, r.glob.keeps k, let ⟨mb, a, b⟩ := r.blt; ⟨mb, a.keeps k, b⟩, r.lim.keeps k⟩
/-- how the call is read -/
def Sup1 (p0 p1 p2 p3 : Pos) (args : List Expr) (env : Env) : Prop := ∃ pl : Sem Bool, eval (.Call (.Attribute (.Call (.Name "super" p0) [] [] p1) "__init__" p2) args [] p3) env = (do
  let ov ← attributeBase (.Call (.Name "super" p0) [] [] p1) "__init__" env (eval (.Call (.Name "super" p0) [] [] p1) env)
  standAt p2.atName
  let (f, first) ← holding [ov] (getMethod ov "__init__" pl)
  callWith p3 f first (backTo p3 (starEach args env)) [])
section
variable {prog : Program} {w : World} {A : Around} {E : Value → Shared → Prop} {R : Result → Shared → Prop} {s : Shared} {K : Frag} {mg : Str → Option Value} {C fI cc cda : Addr} {name qual : Str} {par : Arguments} {body : List Stmt} {sc : Scope}
/-- ValueError.__init__, bound to the error at e, called -/
theorem call_w {u e t0 : Addr} {us : List Value} {Q : Value → Shared → Prop} (T : CF K C) (X : K.In s.heap) (he : s.heap.get? e = some (excO C t0)) (hu : s.heap.get? u = some (kxs_mw "ValueError.__init__" e)) (hz : us.length ≤ sizeLine)
    (hq : ∀ h' t1, (∀ b o, b ≠ e → s.heap.get? b = some o → h'.get? b = some o) → h'.get? e = some (excO C t1) → Q .none { s with heap := h' }) : wpAny (model prog w) A (call (.ref u) us) Q E s := by
  obtain ⟨nm, q, N, bs, bm, sn, sub, ab, col, dd, k0, k1, k2, k3, k5, hC, hbm⟩ := T.cls
  obtain ⟨h, g, d, t, os⟩ := s
  have hC1 := X _ _ hC
  refine wpAny_call (codeAny_of_tree ?_)
  show wpAny _ A.in1 (callAny (.ref u) ⟨us, []⟩) _ _ _
  simp only [callAny]
  refine wpAny_bind (wpAny_load hu ?_)
  simp only [kxs_mw, show (Value.type "method-wrapper" == Value.type "method" || Value.type "method-wrapper" == Value.type "builtin_function_or_method" || Value.type "method-wrapper" == Value.type "method-wrapper") = true from by decide, if_true]
  refine KFB.if_so (by decide) (wpAny_bind (check_bound_init F.excBase_ValueError.toExcCallFacts hC1 he rfl (wpAny_bind (wpAny_pure (wpAny_pure ⟨plainId_quiet F.excBase_ValueError.init.plain _, codeAny_builtin F.excBase_ValueError.initEntry ?_⟩)))))
  exact exc_init_tree (cls := .ref C) (t0 := t0) (dv := none) (c2 := .none) (c3 := .none) (b4 := .bool false) he hz fun h' k e' _ => hq h' _ k e'
/-- super().__init__(..) -/
theorem sup_run {L x t0 : Addr} {m : Str → Option Value} {p0 p1 p2 p3 p4 : Pos} {a : Expr} {args : List Expr} {n : Nat} {Q : Flow → Shared → Prop} (T : CF K C) (I : IF K prog mg C fI name qual par body sc cc cda) (r : Rm K mg s.heap)
    (hx : s.heap.get? x = some (excO C t0)) (hn : s.heap.Ns L m) (hs : m "self" = some (.ref x)) (hz : n ≤ sizeLine)
    (ha : ∀ (s1 : Shared) (Q1 : List Value → Shared → Prop), s1.heap.Ns L m → (∀ us tk, us.length = n → Q1 us { s1 with toks := tk }) → wpAny (model prog w) A (spliced (backTo p3 (starEach (a :: args) (ksEnv qual sc L fI (.ref cda) cc)))) Q1 E s1)
    (hq : ∀ h' tk t1, (∀ b o, b ≠ x → s.heap.get? b = some o → h'.get? b = some o) → h'.get? x = some (excO C t1) → Q .next { s with heap := h', toks := tk })
    (he : starEach (a :: args) (ksEnv qual sc L fI (.ref cda) cc) = (false, eval a (ksEnv qual sc L fI (.ref cda) cc)) :: starEach args (ksEnv qual sc L fI (.ref cda) cc))
    (hpl : (backTo p3 (starEach args (ksEnv qual sc L fI (.ref cda) cc))).any (·.1) = false)
    (hev : Sup1 p0 p1 p2 p3 (a :: args) (ksEnv qual sc L fI (.ref cda) cc)) :
    PySem.wpAt (model prog w) A (.func body (ksEnv qual sc L fI (.ref cda) cc)) (exec (supS p0 p1 p2 p3 p4 (a :: args)) (ksEnv qual sc L fI (.ref cda) cc)) Q E s := by
  obtain ⟨oc, od, doc, pm, an, ct, osl, hf⟩ := I.fn
  obtain ⟨ccl, cdd, vs, ccs, file, tf, hcode, hvs, hfile⟩ := I.ch
  obtain ⟨cl, cld, csl, hce⟩ := I.ce
  obtain ⟨ar, hp, har⟩ := I.par0
  obtain ⟨nm, q, N, bs, bm, sn, sub, ab, col, dd, k0, k1, k2, k3, k5, hC, hbm⟩ := T.cls
  obtain ⟨mb, hb1, hb2⟩ := r.blt
  have X := r.kin
  have hD := X _ _ hC
  unfold supS
  refine ks_wpAt_Expr_any ?_ (by unfold interactive; simp [I.kind]) (by rfl)
  obtain ⟨pl, hev⟩ := hev
  refine ks_wpAt_MethodCall (pl := pl) ?_ hev
  refine ks_wpAt_super_base (env := ksEnv qual sc L fI (.ref cda) cc) I.hks I.hkc (by decide) rfl (X _ _ hf) rfl hp rfl (X _ _ hcode) rfl hvs hfile I.top ?_
  · refine ks_loadName_global I.kind I.hks (loadGlobal_builtin (env := ksEnv qual sc L fI (.ref cda) cc) r.glob I.sg hb1 ((hb2 _ (by decide +kernel)).trans (show bootBuiltins "super" = some (.type "super") by kernel_rfl)) ⟨rfl, ?_⟩)
    refine wpAny_loadName_free I.kind I.hkc rfl ⟨_, X _ _ hce, rfl⟩ ?_
    refine wpAny_loadName_local I.kind (by rw [har]; exact I.hka) hn (by rw [har]; exact hs) ?_
    refine ks_wpAny_isType_cls hD rfl ⟨rfl, ?_⟩
    obtain ⟨h, g, d, t, os⟩ := s
    refine ks_wpAny_call_super hD rfl hx rfl (fun c e => by cases e) (looks_mroIn X I.sC) (fun h1 hso up1 => ?_)
    have X1 := X.keeps up1
    have hx1 := up1 _ _ hx
    have J : InstAt h1 x (excO C t0) C none := ⟨hx1, rfl, rfl, trivial⟩
    have hcl : ∃ cd, clsIn K C = some cd ∧ cd.mro = .ref C :: bm := ⟨_, by unfold clsIn; rw [hC] <;> rfl, rfl⟩
    obtain ⟨cd, hc, hm⟩ := hcl
    have su := I.su
    unfold ks_superIn at su
    rw [hc] at su
    refine kxs_getMethod kxs_ValueError hso (looks_opaque X1 I.op) (l₀ := cd.mro) (fun A Q E s k q => wpAny_bind ((looks_clsIn X1 hc) A _ E s k (wpAny_pure q))) rfl X1 su (J.type.andThen (looks_subIn X1 I.vB)) (ks_ne X1 J hc) (by decide) ?_
    have up2 : ∀ b o, h1.get? b = some o → (h1.push (kxs_mw "ValueError.__init__" x)).get? b = some o := fun b o e => Heap.get?_push_of_some _ e
    have hu : (h1.push (kxs_mw "ValueError.__init__" x)).get? h1.objs.size = some (kxs_mw "ValueError.__init__" x) := Heap.get?_push_at rfl rfl
    have hn2 := (hn.keeps up1).keeps up2
    have fin : ∀ (us : List Value) tk, us.length = n → wpAny (model prog w) A (call (.ref h1.objs.size) us) (fun _ => Q .next) E ⟨h1.push (kxs_mw "ValueError.__init__" x), g, d, tk, os⟩ := fun us tk hl =>
      call_w T (X1.keeps up2) (up2 _ _ hx1) hu (hl ▸ hz) fun h' t1 k e' => hq h' tk t1 (fun b o n e => k b o n (up2 b o (up1 b o e))) e'
    rw [he]
    refine kxs_callWith (i := "ValueError.__init__") (x := x) (by show (false || (backTo p3 (starEach args _)).any (·.1)) = false; rw [hpl]; rfl) ?_
    refine evalArgs_plain ?_
    have z := ha ⟨h1.push (kxs_mw "ValueError.__init__" x), g, d, t + 1, os⟩ (fun vs s₁ => KxsAt "ValueError.__init__" h1.objs.size x s₁.heap ∧ wpAny (model prog w) A (call (.ref h1.objs.size) vs) (fun _ => Q .next) E s₁) hn2 fun us tk hl => ⟨hu, fin us tk hl⟩
    rw [he] at z
    exact z
end
end DvX
end PySem
namespace PySem
namespace DvX
open PySem.W PySem.Calls PyProof.Rows PySem.HandSPX
open Builtin Builtin.ObjectAttr
/-- self.g = u on an error that has a dict -/
theorem osa_more {prog : Program} {w : World} {A : Around} {R : Result → Shared → Prop} {hp : Heap} {g : Array GenState} {d : Drawn} {t : Nat} {os : OsState} {K : W.Frag} {name : Str} {tk : Tok} {v : Value} {x C dx : Addr} {fv : Array Value} {cd : ClassData} {m0 : Str → Option Value} {nl : List Str}
    (X : K.In hp) (hx : hp.get? x = some { cls := .ref C, dict := some dx, data := .fields fv }) (hns : hp.Ns1 dx m0) (hw : Within m0 nl) (hz : nl.length ≤ 1000) (hcd : W.clsIn K C = some cd) (hm : refsVE cd.mro = true) (hh : cd.hasDict = true)
    (ha : W.findIn K (.ref C) name = some none)
    (hq : ∀ h' tk', (∀ b o, b ≠ dx → hp.get? b = some o → h'.get? b = some o) → h'.Ns1 dx (fun y => if y = name then some v else m0 y) → R (.ok (.ret .none)) ⟨h', g, d, tk', os⟩) :
    codeAny (model prog w) A (.call (.builtin "object.__setattr__") ⟨[.ref x, .str name tk, v], []⟩) R ⟨hp, g, d, t, os⟩ := by
  obtain ⟨oD, esD, epD, hoD, hdD, _⟩ := hns.count hw
  have J : W.InstAt hp x { cls := .ref C, dict := some dx, data := .fields fv } C (some oD) := ⟨hx, rfl, rfl, hoD⟩
  have S := F.store_object
  have inO : cd.mro.contains (.type "object") = true := (refsVE_contains "object" _ hm).trans (by decide +kernel)
  have sub : W.Looks (model prog w) hp (isInstance (.ref x) (.type "object")) true := J.type.andThen (W.looks_mroIn X (by unfold W.mroIn; rw [hcd, Option.bind_some, if_neg (by rw [refsVE_ne hm]; decide), inO]))
  refine codeAny_call_builtin S.slot.plain S.entry (@W.check_slot (model prog w) _ _ ⟨hp, g, d, t, os⟩ "object.__setattr__" "object" "__setattr__" (.ref x) [.str name tk, v] [] _ S.kind S.split sub (S.args (.ref x) (.str name tk) v) ?_)
  have lm : W.Looks (model prog w) hp (mroOf (.ref C)) cd.mro := (W.looks_clsIn X hcd).andThen .now
  have l3 : W.Looks (model prog w) hp (storeTaker? none) none := .now
  have lc : W.Looks (model prog w) hp (classData C) cd := W.looks_clsIn X hcd
  rw [W.osa_eq, refuse_eq]
  refine wpAny_bind (wpAny_bind (J.type.at (wpAny_bind (lm.at ?_))))
  rw [refsVE_pass _ _ hm]
  refine wpAny_pure (wpAny_bind (J.type.at (wpAny_bind ((W.looks_findIn X ha).at (wpAny_bind (l3.at ?_))))))
  show wpAny _ _ (storeInOwnDict (.ref x) (.ref C) (.str name tk) name v false) _ _ _
  obtain ⟨nm, bs, mro, ns, qn, hd, sn, sb, ab, col, del⟩ := cd
  dsimp only at hh
  subst hh
  unfold storeInOwnDict ownDictForStores
  repeat (first | with_reducible refine ESX.store_in_old hns hw hz ?_ | with_reducible refine wpAny_loadPart_at hx ?_ | with_reducible refine lc.at ?_ | wp_step)
  exact fun h' tk' hn' hs => hq h' tk' (fun b o hb ho => (hs.2 b hb).trans ho) hn'
section
variable {prog : Program} {w : World} {A : Around} {E : Value → Shared → Prop} {R : Result → Shared → Prop} {s : Shared} {K : Frag} {mg : Str → Option Value} {C fI cc cda : Addr} {name qual : Str} {par : Arguments} {body : List Stmt} {sc : Scope}
theorem ldN {L : Addr} {m : Str → Option Value} {x : Str} {pos : Pos} {v : Value} {Q : Value → Shared → Prop} {M : Model} (hk : sc.kind = .function) (hl : sc.names.lookup x = some .local) (hd : (x == ("__debug__" : Str)) = false) (hn : s.heap.Ns L m) (hv : m x = some v) (h : Q v s) :
    wpAny M A (eval (.Name x pos) (ksEnv qual sc L fI (.ref cda) cc)) Q E s := wpAny_Name (wpAny_loadName_local hk hl hn hv h) hd
theorem cls_in (T : CF K C) : ∃ cd, clsIn K C = some cd ∧ refsVE cd.mro = true ∧ cd.hasDict = true := by
  obtain ⟨nm, q, N, bs, bm, sn, sub, ab, col, dd, k0, k1, k2, k3, k5, hC, hbm⟩ := T.cls
  exact ⟨_, by unfold clsIn; rw [hC] <;> rfl, hbm, rfl⟩
/-- the arguments of super().__init__: names and texts -/
def AEv (M : Model) (env : Env) (L : Addr) (m : Str → Option Value) (args : List Expr) : Prop :=
  ∀ (A : Around) (E : Value → Shared → Prop) (pos : Pos) (s1 : Shared) (Q1 : List Value → Shared → Prop), s1.heap.Ns L m → (∀ us tk, us.length = args.length → Q1 us { s1 with toks := tk }) → wpAny M A (spliced (backTo pos (starEach args env))) Q1 E s1
theorem aev_nil {M : Model} {env : Env} {L : Addr} {m : Str → Option Value} : AEv M env L m [] := fun A E pos s1 Q1 hn h => Calls.spliced_nil (h [] s1.toks rfl)
theorem aev_cons {M : Model} {L : Addr} {m : Str → Option Value} {f : Str} {v : Value} {q : Pos} {args : List Expr} (hk : sc.kind = .function) (hl : sc.names.lookup f = some .local) (hd : (f == ("__debug__" : Str)) = false) (hv : m f = some v) (r : AEv M (ksEnv qual sc L fI (.ref cda) cc) L m args) :
    AEv M (ksEnv qual sc L fI (.ref cda) cc) L m (.Name f q :: args) := fun A E pos s1 Q1 hn h => by
  show wpAny _ _ (spliced ((false, eval (.Name f q) (ksEnv qual sc L fI (.ref cda) cc)) :: backTo pos (starEach args (ksEnv qual sc L fI (.ref cda) cc)))) _ _ s1
  exact Calls.spliced_cons (ldN hk hl hd hn hv (r A E pos s1 _ hn fun us tk e => h (v :: us) tk (by simp [e])))
theorem aev_str {M : Model} {L : Addr} {m : Str → Option Value} {f : Str} {j : Nat} {q : Pos} {args : List Expr} (r : AEv M (ksEnv qual sc L fI (.ref cda) cc) L m args) :
    AEv M (ksEnv qual sc L fI (.ref cda) cc) L m (.Constant (.str f) j q :: args) := fun A E pos s1 Q1 hn h => by
  show wpAny _ _ (spliced ((false, eval (.Constant (.str f) j q) (ksEnv qual sc L fI (.ref cda) cc)) :: backTo pos (starEach args (ksEnv qual sc L fI (.ref cda) cc)))) _ _ s1
  exact Calls.spliced_cons (Calls.Constant_str (r A E pos _ _ hn fun us tk e => h (_ :: us) tk (by simp [e])))
theorem kin_but {h h' : Heap} {x : Addr} (X : K.In h) (hx : K.lookup x = none) (k : ∀ b o, b ≠ x → h.get? b = some o → h'.get? b = some o) : K.In h' := fun a o e =>
  k a o (fun z => by rw [z, hx] at e; cases e) (X a o e)
theorem ns_but {h h' : Heap} {x L : Addr} {m : Str → Option Value} (n : h.Ns L m) (hx : L ≠ x) (k : ∀ b o, b ≠ x → h.get? b = some o → h'.get? b = some o) : h'.Ns L m := by
  obtain ⟨oL, es, ep, hL, r⟩ := n
  exact ⟨oL, es, ep, k _ _ hx hL, r⟩
/-- what __init__ leaves of a fresh error at x: fs its fields -/
structure IEnd (h h' : Heap) (x C : Addr) (fs : List (Str × Value)) : Prop where
  keep : ∀ b o, b ≠ x → h.get? b = some o → h'.get? b = some o
  obj : (fs = [] ∧ ∃ t, h'.get? x = some (excO C t)) ∨ ∃ dx t, h'.get? x = some { cls := .ref C, dict := some dx, data := .fields #[.ref t, .none, .none, .none, .bool false, .none] } ∧ h.objs.size ≤ dx ∧ dx ≠ x ∧ h'.Ns1 dx (fun y => List.lookup y fs)
/-- the text of __init__, by its fields -/
def Body (body : List Stmt) (sc : Scope) (fs : List Str) : Prop :=
  (∃ p0 p1 p2 p3 p4 a j q, fs = [] ∧ body = [supS p0 p1 p2 p3 p4 [.Constant (.str a) j q]] ∧ ∀ qual L fI cda cc, Sup1 p0 p1 p2 p3 [.Constant (.str a) j q] (ksEnv qual sc L fI (.ref cda) cc)) ∨
  (∃ p0 p1 p2 p3 p4 f q q1 q2 q3 q4, fs = [f] ∧ body = [supS p0 p1 p2 p3 p4 [.Name f q], stoS f q1 q2 q3 q4] ∧ ∀ qual L fI cda cc, Sup1 p0 p1 p2 p3 [.Name f q] (ksEnv qual sc L fI (.ref cda) cc)) ∨
  (∃ p0 p1 p2 p3 p4 f g q q' q1 q2 q3 q4 r1 r2 r3 r4, fs = [f, g] ∧ body = [supS p0 p1 p2 p3 p4 [.Name f q, .Name g q'], stoS f q1 q2 q3 q4, stoS g r1 r2 r3 r4] ∧ ∀ qual L fI cda cc, Sup1 p0 p1 p2 p3 [.Name f q, .Name g q'] (ksEnv qual sc L fI (.ref cda) cc))
/-- what the fields' names must be -/
structure Nm (K : Frag) (C : Addr) (sc : Scope) (f : Str) : Prop where
  loc : sc.names.lookup f = some .local
  dbg : (f == ("__debug__" : Str)) = false
  self : f ≠ "self"
  no : findIn K (.ref C) f = some none
theorem one_le {n : Nat} (h : n ≤ 2) : n ≤ sizeLine := by
  rw [sizeLine_eq]
  omega
/-- __init__ runs -/
theorem ini (T : CF K C) (I : IF K prog mg C fI name qual par body sc cc cda) {fs : List Str} (B : Body body sc fs) (hf : ∀ f ∈ fs, Nm K C sc f) (hnd : fs.Nodup) {x t0 : Addr} {vs : List Value} {args : Args} (hl : vs.length = fs.length) (r : Rm K mg s.heap)
    (hx : s.heap.get? x = some (excO C t0)) (hnx : K.lookup x = none) (hnG : x ≠ mainGlobals) (hroom : A.depth < recursionLimit)
    (bt : ∀ doc pm an ct, BindsTo s (ksFn name qual par body sc .none .none doc pm an (.ref cda) ct cc) args (("self", .ref x) :: fs.zip vs))
    (hq : ∀ h' tk, IEnd s.heap h' x C (fs.zip vs) → R (.ok (.ret .none)) { s with heap := h', toks := tk }) : codeAny (model prog w) A (.call (.ref fI) args) R s := by
  obtain ⟨oc, od, doc, pm, an, ct, osl, hfn⟩ := I.fn
  obtain ⟨cd, hcl, hm, hhd⟩ := cls_in T
  refine ks_codeAny_call_defAt (fd := ksFn name qual par body sc .none .none doc pm an (.ref cda) ct cc) (body := body) (binds := ("self", .ref x) :: fs.zip vs) hroom (r.kin _ _ hfn) rfl r.lim (codeRec_of r.kin I.cd) rfl (bt doc pm an ct) I.cell (fun y hy => ?_) (fun h₁ hns k₁ => ?_) I.co I.gen I.kind
  · rcases List.mem_cons.mp hy with rfl | hy
    · exact I.hka
    · exact (hf y.1 (List.of_mem_zip hy).1).loc
  have xL : s.heap.objs.size ≠ x := Nat.ne_of_gt (Heap.lt_size hx)
  have big : s.heap.objs.size < h₁.objs.size := hns.lt
  have r1 := r.keeps k₁
  have hx1 := k₁ _ _ hx
  show PySem.wpAt _ _ (.func body (ksEnv qual sc s.heap.objs.size fI (.ref cda) cc)) (execs body (ksEnv qual sc s.heap.objs.size fI (.ref cda) cc)) _ _ _
  rcases B with ⟨p0, p1, p2, p3, p4, a, j, q, rfl, hbody, S⟩ | ⟨p0, p1, p2, p3, p4, f, q, q1, q2, q3, q4, rfl, hbody, S⟩ | ⟨p0, p1, p2, p3, p4, f, f', q, q', q1, q2, q3, q4, z1, z2, z3, z4, rfl, hbody, S⟩
  · rw [show execs body = execs [supS p0 p1 p2 p3 p4 [.Constant (.str a) j q]] from by rw [hbody]]
    refine ks_wpAt_execs_cons (sup_run (n := 1) T I r1 hx1 hns (by simp [List.lookup]) (one_le (by decide)) (fun s1 Q1 => aev_str aev_nil _ _ _ s1 Q1) (fun h' tk t1 k e => wpAt_of_wpAny (wpAny_execs_nil (hq h' tk ⟨fun b o hb z => k b o hb (k₁ b o z), .inl ⟨rfl, t1, e⟩⟩))) rfl rfl (S _ _ _ _ _))
  · cases vs with
    | nil => cases hl
    | cons v vs =>
      cases vs with
      | cons _ _ => cases hl
      | nil =>
        have N := hf f List.mem_cons_self
        have n1 : (("self" : Str) == f) = false := beq_false_of_ne (Ne.symm N.self)
        have lf : List.lookup f (((("self" : Str), Value.ref x) :: [f].zip [v]).reverse) = some v := by simp [List.lookup]
        have ls : List.lookup ("self" : Str) (((("self" : Str), Value.ref x) :: [f].zip [v]).reverse) = some (.ref x) := by simp [List.lookup, n1]
        rw [show execs body = execs [supS p0 p1 p2 p3 p4 [.Name f q], stoS f q1 q2 q3 q4] from by rw [hbody]]
        refine ks_wpAt_execs_cons (sup_run (n := 1) T I r1 hx1 hns ls (one_le (by decide)) (fun s1 Q1 => aev_cons I.kind N.loc N.dbg lf aev_nil _ _ _ s1 Q1) (fun h2 tk t1 k e => wpAt_of_wpAny ?_) rfl rfl (S _ _ _ _ _))
        have X2 := kin_but r1.kin hnx k
        have ns2 := ns_but hns xL k
        refine wpAny_execs_cons (plainObj_wpAny_Assign_Attribute (ldN I.kind N.loc N.dbg ns2 lf (ldN I.kind I.hka (by decide) ns2 ls ?_)))
        refine set_plain X2 (ox := excO C t1) (od := none) ⟨e, rfl, rfl, trivial⟩ I.sa ?_
        refine exc_osa X2 e hcl hm hhd N.no (fun h3 tk3 dx k3 dn dne hx3 hn3 => ?_)
        refine wpAny_execs_nil (hq h3 tk3 ⟨fun b o hb z => k3 b o hb (k b o hb (k₁ b o z)), .inr ⟨dx, t1, hx3, ?_, dne, ?_⟩⟩)
        · exact Nat.le_of_lt (Nat.lt_of_lt_of_le (show s.heap.objs.size < h2.objs.size from ns2.lt) dn)
        · have e2 : (fun y => List.lookup y ([f].zip [v])) = (fun y => if y = f then some v else none) := by
            funext y
            by_cases c : y = f
            · subst c; simp [List.lookup]
            · have c' : (y == f) = false := beq_false_of_ne c
              simp [List.lookup, c, c']
          rw [e2]
          exact hn3
  · cases vs with
    | nil => cases hl
    | cons v vs =>
      cases vs with
      | nil => cases hl
      | cons u vs =>
        cases vs with
        | cons _ _ => cases hl
        | nil =>
          have N := hf f List.mem_cons_self
          have N' := hf f' (List.mem_cons_of_mem _ List.mem_cons_self)
          have ff : f ≠ f' := fun e => by subst e; simp at hnd
          have n1 : (("self" : Str) == f) = false := beq_false_of_ne (Ne.symm N.self)
          have n2 : (("self" : Str) == f') = false := beq_false_of_ne (Ne.symm N'.self)
          have n3 : (f == f') = false := beq_false_of_ne ff
          have n4 : (f' == f) = false := beq_false_of_ne (Ne.symm ff)
          have lf : List.lookup f (((("self" : Str), Value.ref x) :: [f, f'].zip [v, u]).reverse) = some v := by simp [List.lookup, n3]
          have lf' : List.lookup f' (((("self" : Str), Value.ref x) :: [f, f'].zip [v, u]).reverse) = some u := by simp [List.lookup]
          have ls : List.lookup ("self" : Str) (((("self" : Str), Value.ref x) :: [f, f'].zip [v, u]).reverse) = some (.ref x) := by simp [List.lookup, n1, n2]
          rw [show execs body = execs [supS p0 p1 p2 p3 p4 [.Name f q, .Name f' q'], stoS f q1 q2 q3 q4, stoS f' z1 z2 z3 z4] from by rw [hbody]]
          refine ks_wpAt_execs_cons (sup_run (n := 2) T I r1 hx1 hns ls (one_le (by decide)) (fun s1 Q1 => aev_cons I.kind N.loc N.dbg lf (aev_cons I.kind N'.loc N'.dbg lf' aev_nil) _ _ _ s1 Q1) (fun h2 tk t1 k e => wpAt_of_wpAny ?_) rfl rfl (S _ _ _ _ _))
          have X2 := kin_but r1.kin hnx k
          have ns2 := ns_but hns xL k
          refine wpAny_execs_cons (plainObj_wpAny_Assign_Attribute (ldN I.kind N.loc N.dbg ns2 lf (ldN I.kind I.hka (by decide) ns2 ls ?_)))
          refine set_plain X2 (ox := excO C t1) (od := none) ⟨e, rfl, rfl, trivial⟩ I.sa ?_
          refine exc_osa X2 e hcl hm hhd N.no (fun h3 tk3 dx k3 dn dne hx3 hn3 => ?_)
          have X3 := kin_but X2 hnx k3
          have ns3 := ns_but ns2 xL k3
          have hd3 : h2.objs.size ≤ dx := dn
          have big2 : s.heap.objs.size < h2.objs.size := ns2.lt
          have old : ∀ b o, s.heap.get? b = some o → b ≠ dx := fun b o z => Nat.ne_of_lt (Nat.lt_of_lt_of_le (Nat.lt_trans (Heap.lt_size z) big2) hd3)
          show wpAny _ _ (execs [stoS f' z1 z2 z3 z4] _) _ _ _
          have w1 : Within (fun y => if y = f then some v else none) [f] := Within.cons f v Within.nil
          obtain ⟨oD, esD, epD, hoD, hdD, _⟩ := hn3.count w1
          refine wpAny_execs_cons (plainObj_wpAny_Assign_Attribute (ldN I.kind N'.loc N'.dbg ns3 lf' (ldN I.kind I.hka (by decide) ns3 ls ?_)))
          refine set_plain X3 (ox := { cls := .ref C, dict := some dx, data := .fields #[.ref t1, .none, .none, .none, .bool false, .none] }) (od := some oD) ⟨hx3, rfl, rfl, hoD⟩ I.sa ?_
          refine osa_more X3 hx3 hn3 w1 (by simp) hcl hm hhd N'.no (fun h4 tk4 k4 hn4 => ?_)
          refine wpAny_execs_nil (hq h4 tk4 ⟨fun b o hb z => k4 b o (old b o z) (k3 b o hb (k b o hb (k₁ b o z))), .inr ⟨dx, t1, k4 _ _ (Ne.symm dne) hx3, Nat.le_of_lt (Nat.lt_of_lt_of_le big2 hd3), dne, ?_⟩⟩)
          have e2 : (fun y => List.lookup y ([f, f'].zip [v, u])) = (fun y => if y = f' then some u else if y = f then some v else none) := by
            funext y
            by_cases c : y = f
            · subst c; simp [List.lookup, ff]
            · have c' : (y == f) = false := beq_false_of_ne c
              by_cases d : y = f'
              · subst d; simp [List.lookup, c']
              · have d' : (y == f') = false := beq_false_of_ne d
                simp [List.lookup, c, c', d, d']
          rw [e2]
          exact hn4
end
end DvX
end PySem
namespace Dv
open PySem L2 PySem.DvX PySem.HandSPX PySem.W
theorem lookup_zip {fs : List Str} : ∀ {vs : List V} {us : List Value}, Vals vs us → ∀ f, RelO (List.lookup f (fs.zip vs)) (List.lookup f (fs.zip us)) := by
  induction fs with
  | nil => intro vs us r f; exact trivial
  | cons g fs ih =>
    intro vs us r f
    cases r with
    | nil => exact trivial
    | cons r1 r2 =>
      show RelO (List.lookup f ((g, _) :: fs.zip _)) (List.lookup f ((g, _) :: fs.zip _))
      simp only [List.lookup]
      cases c : f == g with
      | true => exact r1
      | false => exact ih r2 f
section
variable {X : Cx} {pins : List (Addr × Obj)} {σ : St} {H : Hp} {s : Shared} {C fI cc cda : Addr} {name qual : Str} {par : Arguments} {body : List Stmt} {sc : Scope} {fs : List Str}
theorem rm_of (I : Inv X pins σ H s) : Rm X.K X.mg s.heap := ⟨I.kIn, I.ok.mod.glob.keeps I.bk, let ⟨mb, a, b⟩ := I.ok.mod.blt; ⟨mb, a.keeps I.bk, b⟩, I.nolimit⟩
end
end Dv
namespace Dv
open PySem L2 PySem.DvX PySem.HandSPX PySem.W
/-- all that a class of errors with own __init__ must say -/
structure ErF (K : Frag) (prog : Program) (mg : Str → Option Value) (C : Addr) (x : Str) (fs : List Str) : Prop where
  gC : mg x = some (.ref C)
  T : CF K C
  ex : ∃ fI cc cda name qual par body sc, IF K prog mg C fI name qual par body sc cc cda ∧ Body body sc fs ∧ (∀ f ∈ fs, Nm K C sc f) ∧ fs.Nodup ∧
    (∀ us : List Value, us.length = fs.length → ∀ s x doc pm an ct, BindsTo s (ksFn name qual par body sc .none .none doc pm an (.ref cda) ct cc) ⟨.ref x :: us, []⟩ (("self", .ref x) :: fs.zip us)) ∧
    (∀ us : List Value, us.length = fs.length → ∀ s x doc pm an ct, BindsTo s (ksFn name qual par body sc .none .none doc pm an (.ref cda) ct cc) ⟨[.ref x], fs.zip us⟩ (("self", .ref x) :: fs.zip us)) ∧
    (∀ us : List Value, us.length = fs.length → ∀ s x doc pm an ct, BindsTo s (ksFn name qual par body sc .none .none doc pm an (.ref cda) ct cc) ⟨[.ref x], fs.reverse.zip us⟩ (("self", .ref x) :: fs.zip us.reverse))
def rv {α : Type} (rev : Bool) (xs : List α) : List α := if rev then xs.reverse else xs
theorem fst_zip {α : Type} : ∀ {fs : List Str} {xs : List α}, xs.length = fs.length → (fs.zip xs).map (·.1) = fs
  | [], [], _ => rfl
  | f :: fs, x :: xs, h => by
    show f :: (fs.zip xs).map (·.1) = f :: fs
    rw [fst_zip (by simpa using h)]
  | [], _ :: _, h => by cases h
  | _ :: _, [], h => by cases h
section
variable {X : Cx} {ca : Nat → Addr} {W : WX}
theorem big_ok {n : Nat} (h : n ≤ 100) : n ≤ sizeLine := by
  rw [sizeLine_eq]
  omega
/-! ### keywords -/
theorem pk_imp {kws : List Keyword} {t t' : TA} (h : PK X kws t) (k : ∀ σ H Q, t' σ H Q → t σ H Q) : PK X kws t' := ⟨fun pos pins s σ H Q I q => h.run pos pins s σ H Q I (k σ H Q q)⟩
theorem rk_nil : PK X [] (rdA X.K ca W mNil) := pk_imp pk_nil fun σ H Q ⟨ms, ρ, μ, e, r, h⟩ => Af.at (a := ([] : List U)) h r ⟨rfl, fun i x v h1 => by simp at h1⟩
theorem rk_cons {a : Expr} {nm : Option Str} {kpos : Pos} {kws : List Keyword} {ma : MD} {mr : ML} (ha : PE X a (rdE X.K ca W ma)) (hr : PK X kws (rdA X.K ca W mr)) : PK X (⟨nm, a, kpos⟩ :: kws) (rdA X.K ca W (mCons ma mr)) := by
  refine pk_imp (pk_cons ha hr) fun σ H Q ⟨ms, ρ, μ, e, r, h⟩ => ?_
  refine af_bind e r h fun x μ1 v H1 ms1 k1 r1 p1 h1 => af_bind (e.keep k1) r1 h1 fun xs μ2 vs H2 ms2 k2 r2 p2 h2 => ?_
  refine Af.at h2 r2 ⟨by simp only [List.length_cons]; rw [p2.1], fun i y w h3 h4 => ?_⟩
  cases i with
  | zero =>
    simp only [List.getElem?_cons_zero, Option.some.injEq] at h3 h4
    subst h3; subst h4
    exact k2.all _ _ p1
  | succ i =>
    simp only [List.getElem?_cons_succ] at h3 h4
    exact p2.2 i y w h3 h4
end
end Dv
namespace Dv
open PySem L2
/-! ### repr -/
mutual
inductive Rz (h : Heap) : Value → PyData → Prop
  | non : Rz h .none .none
  | bl (b : Bool) : Rz h (.bool b) (.bool b)
  | int (i : Int) (t : Tok) : Rz h (.int i t) (.int i)
  | str (x : Str) (t : Tok) : Rz h (.str x t) (.str x)
  | lst {a : Addr} {o : Obj} {vs : Array Value} {n : Nat} {xs : List PyData} : h.get? a = some o → o.cls = .type "list" → o.data = .seq vs n → RzL h vs.toList xs → Rz h (.ref a) (.list xs)
  | tup {a : Addr} {o : Obj} {vs : Array Value} {n : Nat} {xs : List PyData} : h.get? a = some o → o.cls = .type "tuple" → o.data = .seq vs n → RzL h vs.toList xs → Rz h (.ref a) (.tuple xs)
  | dic0 {a : Addr} {o : Obj} {n : Nat} : h.get? a = some o → o.cls = .type "dict" → o.data = .dict #[] n → (a == sysModules) = false → Rz h (.ref a) (.dict [])
inductive RzL (h : Heap) : List Value → List PyData → Prop
  | nil : RzL h [] []
  | cons {v : Value} {vs : List Value} {d : PyData} {ds : List PyData} : Rz h v d → RzL h vs ds → RzL h (v :: vs) (d :: ds)
end
section
variable {h : Heap}
mutual
theorem Rz.reads : ∀ {v : Value} {d : PyData}, Rz h v d → ∃ as, Reads h v d as
  | _, _, .non => ⟨_, .none⟩
  | _, _, .bl b => ⟨_, .bool b⟩
  | _, _, .int i t => ⟨_, .int i t⟩
  | _, _, .str x t => ⟨_, .str x t⟩
  | _, _, .lst a b c r => let ⟨_, q⟩ := RzL.reads r; ⟨_, .list a b c q⟩
  | _, _, .tup a b c r => let ⟨_, q⟩ := RzL.reads r; ⟨_, .tuple a b c q⟩
  | _, _, .dic0 a b c _ => ⟨_, .dict a b c .nil .nil⟩
theorem RzL.reads : ∀ {v : List Value} {d : List PyData}, RzL h v d → ∃ as, ReadsAll h v d as
  | _, _, .nil => ⟨_, .nil⟩
  | _, _, .cons a b => let ⟨_, q⟩ := Rz.reads a; let ⟨_, r⟩ := RzL.reads b; ⟨_, .cons q r⟩
end
variable {prog : Program} {w : World}
mutual
theorem Rz.repr : ∀ {v : Value} {d : PyData}, Rz h v d → d.showable = true → d.shown.length ≤ sizeLine → ∃ bs, ReadAtMost h d.depth bs ∧ ReprK prog w bs h d.depth v d.shown
  | _, _, .non, _, _ => ⟨[], (fun _ z => nomatch z), by simp only [PyData.shown]; exact .of_is ReprIs.none _ _ _⟩
  | _, _, .bl b, _, _ => ⟨[], (fun _ z => nomatch z), by simp only [PyData.shown]; exact .of_is (ReprIs.bool b) _ _ _⟩
  | _, _, .int i t, s, _ => ⟨[], (fun _ z => nomatch z), by simp only [PyData.shown]; exact .of_is (ReprIs.int t (by simpa [PyData.showable] using s)) _ _ _⟩
  | _, _, .str x t, _, z => ⟨[], (fun _ z => nomatch z), by simp only [PyData.shown]; exact .of_is (ReprIs.str x t (by simpa only [PyData.shown] using z)) _ _ _⟩
  | _, _, .lst (a := a) (vs := vs) (xs := xs) e1 e2 e3 r, s, z => by
    have z1 : (listText (PyData.shownAll xs)).length ≤ sizeLine := by simpa only [PyData.shown] using z
    obtain ⟨bs, hb, hk⟩ := RzL.repr r (by simpa [PyData.showable] using s) fun t ht => Nat.le_trans (listText_mem_le ht) z1
    obtain ⟨as, q⟩ := Rz.reads (.lst e1 e2 e3 r)
    have na : a ∉ bs := not_mem_of_deeper q (by simp only [PyData.depth]; omega) hb
    refine ⟨a :: bs, ReadAtMost.cons q (by simp only [PyData.depth]; omega) hb, ?_⟩
    simp only [PyData.depth, PyData.shown]
    obtain ⟨l⟩ := vs
    cases l with
    | nil =>
      have r' : RzL h [] xs := r
      cases r'
      simp only [PyData.shownAll, listText_nil]
      exact ReprK.listEmpty e1 e2 e3
    | cons x l => exact ReprK.list e1 e2 e3 na (by simpa using hk.length_eq) (fun i y e => hk.item i y (by simpa using e))
  | _, _, .tup (a := a) (xs := xs) e1 e2 e3 r, s, z => by
    have z1 : (tupleText (PyData.shownAll xs)).length ≤ sizeLine := by simpa only [PyData.shown] using z
    obtain ⟨bs, hb, hk⟩ := RzL.repr r (by simpa [PyData.showable] using s) fun t ht => Nat.le_trans (tupleText_mem_le ht) z1
    obtain ⟨as, q⟩ := Rz.reads (.tup e1 e2 e3 r)
    have na : a ∉ bs := not_mem_of_deeper q (by simp only [PyData.depth]; omega) hb
    refine ⟨a :: bs, ReadAtMost.cons q (by simp only [PyData.depth]; omega) hb, ?_⟩
    simp only [PyData.depth, PyData.shown]
    exact ReprK.tuple e1 e2 e3 na hk
  | _, _, .dic0 (a := a) e1 e2 e3 e4, s, z => by
    obtain ⟨as, q⟩ := Rz.reads (.dic0 e1 e2 e3 e4)
    refine ⟨[a], ReadAtMost.cons (n := 0) q (Nat.zero_le _) (fun _ y => nomatch y), ?_⟩
    simp only [PyData.depth, PyData.shown, PyData.shownKv_eq]
    exact ReprK.dict e1 e2 e3 e4 (by simp) .nil
theorem RzL.repr : ∀ {vs : List Value} {ds : List PyData}, RzL h vs ds → PyData.showableAll ds = true → (∀ t ∈ PyData.shownAll ds, t.length ≤ sizeLine) → ∃ bs, ReadAtMost h (PyData.depthAll ds) bs ∧ ReprAllK prog w bs h (PyData.depthAll ds) vs (PyData.shownAll ds)
  | _, _, .nil, _, _ => ⟨[], (fun _ z => nomatch z), by simp only [PyData.shownAll]; exact .nil⟩
  | _, _, .cons (d := d) (ds := ds) r rs, s, z => by
    have s1 : d.showable = true ∧ PyData.showableAll ds = true := by simpa [PyData.showableAll] using s
    obtain ⟨b1, h1, k1⟩ := Rz.repr r s1.1 (z _ (by simp only [PyData.shownAll]; exact List.mem_cons_self ..))
    obtain ⟨b2, h2, k2⟩ := RzL.repr rs s1.2 (fun t ht => z t (by simp only [PyData.shownAll]; exact List.mem_cons_of_mem _ ht))
    refine ⟨b1 ++ b2, (h1.mono ?_).append (h2.mono ?_), ?_⟩
    · simp only [PyData.depthAll]; exact Nat.le_max_left _ _
    · simp only [PyData.depthAll]; exact Nat.le_max_right _ _
    · simp only [PyData.depthAll, PyData.shownAll]
      exact .cons ((k1.more fun b hb => List.mem_append_left _ hb).level_le (Nat.le_max_left _ _)) (k2.more_le (fun b hb => List.mem_append_right _ hb) (Nat.le_max_right _ _))
end
/-- repr of a list -/
theorem repr_lst {A : Around} {E : Value → Shared → Prop} {s : Shared} {Q : Value → Shared → Prop} {a : Addr} {xs : List PyData} (r : Rz s.heap (.ref a) (.list xs)) (hs : PyData.showableAll xs = true) (hg : A.guards = some []) (hu : A.units + (PyData.depthAll xs + 2) < cLine)
    (hz : (listText (PyData.shownAll xs)).length ≤ sizeLine) (hQ : ∀ h' u tk, (∀ b o, s.heap.get? b = some o → h'.get? b = some o) → Q (.str (listText (PyData.shownAll xs)) u) { s with heap := h', toks := tk }) : wpAny (model prog w) A (call (.builtin "repr") [.ref a]) Q E s := by
  cases r with
  | lst e1 e2 e3 r =>
    rename_i o vs n
    obtain ⟨bs, hb, hk⟩ := RzL.repr (prog := prog) (w := w) r hs fun t ht => Nat.le_trans (listText_mem_le ht) hz
    obtain ⟨as, q⟩ := Rz.reads (.lst e1 e2 e3 r)
    have na : a ∉ bs := not_mem_of_deeper q (by simp only [PyData.depth]; omega) hb
    refine call_repr_slot (by omega) ⟨o, e1, e2⟩ F.slot_list_repr.toG ?_
    obtain ⟨l⟩ := vs
    cases l with
    | nil =>
      have r' : RzL s.heap [] xs := r
      cases r'
      simp only [PyData.shownAll, listText_nil] at hQ
      exact call_list_repr_empty ⟨o, e1, e2⟩ e1 e3 ⟨_, _, rfl, hQ s.heap _ _ fun _ _ e => e⟩
    | cons x l =>
      exact call_list_reprK e1 e2 e3 na (by simpa using hk.length_eq) (fun i y e => hk.item i y (by simpa using e)) hg (fun b _ => Clear.nil b) (by show A.units + 1 + _ < cLine; omega) (fun _ _ e => e) (fun h' u tk k => ⟨_, _, rfl, hQ h' u tk k⟩) hz
end
end Dv
namespace Dv
open PySem L2
mutual
def pz : D → Option PyData
  | .non => some .none
  | .bl b => some (.bool b)
  | .int i => some (.int i)
  | .str x => some (.str x)
  | .tup xs => (pzL xs).map .tuple
  | .lst xs => (pzL xs).map .list
  | .dic [] => some (.dict [])
  | _ => none
def pzL : List D → Option (List PyData)
  | [] => some []
  | x :: r => (pz x).bind fun d => (pzL r).bind fun ds => some (d :: ds)
end
section
variable {X : Cx} {ca : Nat → Addr} {ms : Ms} {H : Hp} {μ : Mem} {pins : List (Addr × Obj)} {σ : St} {s : Shared}
theorem dic0_at {a : Addr} (I : Inv X pins σ H s) (h : Rd H a (.dK [])) : ∃ o n, s.heap.get? a = some o ∧ o.cls = .type "dict" ∧ o.data = .dict #[] n ∧ (a == sysModules) = false := by
  have ok : ObjOk X.prog X.w H s.heap a (.dK []) := by
    rcases h with h | ⟨ob, h⟩
    · exact I.hok a _ h
    · exact (I.hok a _ h).2
  obtain ⟨_, hs, vs, kv, o, es, ep, e1, e2, e3, _, e4, _⟩ := ok
  cases kv
  have e5 : es = #[] := by
    obtain ⟨l⟩ := es
    cases l with
    | nil => rfl
    | cons x l => cases e4
  subst e5
  exact ⟨o, ep, e1, e2.1, e3, hs⟩
mutual
theorem rz_of (I : Inv X pins σ H s) : ∀ (x : D) (v : V) (u : Value) (d : PyData), Rep X.K ca ms H x v → RelV v u → pz x = some d → Rz s.heap u d
  | .non, _, _, _, h, r, e => by cases h; simp only [pz] at e; cases e; cases r; exact .non
  | .bl b, _, _, _, h, r, e => by cases h; simp only [pz] at e; cases e; cases r; exact .bl b
  | .int i, _, _, _, h, r, e => by cases h; simp only [pz] at e; cases e; obtain ⟨t, rfl⟩ := r; exact .int i t
  | .str x, _, _, _, h, r, e => by cases h; simp only [pz] at e; cases e; obtain ⟨t, rfl⟩ := r; exact .str x t
  | .tup xs, _, _, _, h, r, e => by
    cases h with
    | tup s l z =>
      simp only [pz, Option.map_eq_some_iff] at e
      obtain ⟨ds, e1, rfl⟩ := e
      cases r
      obtain ⟨its, rv, ⟨o, ho, hc, n, hd⟩, _⟩ := I.tuple s.sq
      exact .tup ho hc hd (rzL_of I xs _ its ds l z rv e1)
  | .lst xs, _, _, _, h, r, e => by
    cases h with
    | lst s n l z =>
      simp only [pz, Option.map_eq_some_iff] at e
      obtain ⟨ds, e1, rfl⟩ := e
      cases r
      obtain ⟨its, rv, ⟨o, n, ho, hc, _, hd⟩, _⟩ := I.list (.inl (.inl s))
      exact .lst ho hc hd (rzL_of I xs _ its ds l z rv e1)
  | .dic [], _, _, _, h, r, e => by
    cases h with
    | dic s n l z =>
      simp only [pz] at e
      cases e
      cases r
      rename_i ws a
      have : ws = [] := by simpa using l.symm
      subst this
      obtain ⟨o, n, h1, h2, h3, h4⟩ := dic0_at I s
      exact .dic0 h1 h2 h3 h4
  | .dic (_ :: _), _, _, _, _, _, e => by simp [pz] at e
  | .scr _, _, _, _, _, _, e => by simp [pz] at e
  | .obj _ _, _, _, _, _, _, e => by simp [pz] at e
  | .err _ _, _, _, _, _, _, e => by simp [pz] at e
  | .thing _, _, _, _, _, _, e => by simp [pz] at e
  | .ty _, _, _, _, _, _, e => by simp [pz] at e
  | .cls _, _, _, _, _, _, e => by simp [pz] at e
theorem rzL_of (I : Inv X pins σ H s) : ∀ (xs : List D) (vs : List V) (us : List Value) (ds : List PyData), xs.length = vs.length → (∀ (i : Nat) x v, xs[i]? = some x → vs[i]? = some v → Rep X.K ca ms H x v) → Vals vs us → pzL xs = some ds → RzL s.heap us ds
  | [], [], _, _, _, _, r, e => by simp only [pzL] at e; cases e; cases r; exact .nil
  | [], _ :: _, _, _, l, _, _, _ => by simp at l
  | _ :: _, [], _, _, l, _, _, _ => by simp at l
  | x :: xs, v :: vs, _, ds, l, z, r, e => by
    simp only [pzL] at e
    cases h1 : pz x with
    | none => rw [h1] at e; simp at e
    | some d =>
      cases h2 : pzL xs with
      | none => rw [h1, h2] at e; simp at e
      | some es =>
        rw [h1, h2] at e
        simp only [Option.bind_some, Option.some.injEq] at e
        subst e
        cases r with
        | cons r1 r2 => exact .cons (rz_of I x v _ d (z 0 x v rfl rfl) r1 h1) (rzL_of I xs vs _ es (by simpa using l) (fun i y w a b => z (i + 1) y w (by simpa using a) (by simpa using b)) r2 h2)
end
end
def reprD (μ : Mem) (u : U) : Option D := (asL μ u).bind fun xs => (pzL xs).bind fun ds => if PyData.showableAll ds && decide (PyData.depthAll ds ≤ 60) && decide ((listText (PyData.shownAll ds)).length ≤ 1000000) then some (.str (listText (PyData.shownAll ds))) else none
theorem c_repr {X : Cx} {ca : Nat → Addr} (hg : X.A.guards = some []) (hu : X.A.units + 64 < cLine) : CallR X (.builtin "repr") (rDn X.K ca (one reprD)) := by
  intro pins s σ H xs us Q I r ⟨ms, μ, as, d, rm, ra, e, q⟩
  obtain ⟨u, v, rfl, rfl, p, e⟩ := one_at ra e
  unfold reprD at e
  cases h : asL μ u with
  | none => rw [h] at e; simp at e
  | some ys =>
    obtain ⟨a, vs, rfl, hs, l⟩ := asL_at rm p h
    cases h2 : pzL ys with
    | none => rw [h, Option.bind_some, h2] at e; simp at e
    | some ds =>
      rw [h, Option.bind_some, h2, Option.bind_some] at e
      split at e
      · rename_i hc
        cases e
        simp only [Bool.and_eq_true, decide_eq_true_eq] at hc
        obtain ⟨⟨c1, c2⟩, c3⟩ := hc
        cases r with
        | cons r1 r2 =>
          cases r2
          cases r1
          obtain ⟨its, rv, ⟨o, n, ho, hcl, _, hd⟩, _⟩ := I.list (.inl (.inl hs))
          have z : Rz s.heap (.ref a) (.list ds) := .lst ho hcl hd (rzL_of I ys vs its ds l.1 l.2 rv h2)
          exact repr_lst z c1 hg (by omega) (Nat.le_trans c3 (by rw [sizeLine_eq]; omega)) fun h' t tk k => ⟨.str _, H, I.kept (t' := tk) k, ⟨t, rfl⟩, q _ _ (Same.refl H) fun _ => .str _⟩
      · cases e
end Dv
namespace Dv
open PySem L2 PySem.DvX PySem.HandSPX PySem.W
section
variable {X : Cx} {ca : Nat → Addr} {W : WX} {pos : Pos}
/-! ### {} -/
/-! ### classes by name -/
theorem re_cls (n : Nat) {x : Str} (hm : X.mg x = some (.ref (ca n))) (hg : Gl X x := by rfl) (hd : (x == ("__debug__" : Str)) = false := by decide) : PE X (.Name x pos) (rdE X.K ca W (mC (.cls n))) := re_c (pe_glob (v := .ref (ca n)) hg hm rfl hd) fun _ _ => .cls n
theorem re_ty {x : Str} {n : String} (hm : X.mg x = none) (hv : bootBuiltins x = some (.type n)) (hg : Gl X x := by rfl) (hn : x ≠ "__name__" := by decide) (hd : (x == ("__debug__" : Str)) = false := by decide) : PE X (.Name x pos) (rdE X.K ca W (mC (.ty n))) := re_c (pe_bltn (v := .ty n) hg hm hv rfl hn hd) fun _ _ => .ty n
/-! ### a field of an error -/
theorem lookup_pair {α β : Type} {f : Str} : ∀ {fs : List (Str × α)} {gs : List (Str × β)} {x : α}, fs.map (·.1) = gs.map (·.1) → fs.lookup f = some x → ∃ (i : Nat) (g : Str) (y : β), fs[i]? = some (g, x) ∧ gs[i]? = some (g, y) ∧ gs.lookup f = some y
  | [], _, _, _, h => by cases h
  | (k, a) :: fs, [], _, e, _ => by simp at e
  | (k, a) :: fs, (k', b) :: gs, x, e, h => by
    simp only [List.map_cons, List.cons.injEq] at e
    obtain ⟨rfl, e⟩ := e
    simp only [List.lookup] at h ⊢
    cases c : f == k with
    | true =>
      rw [c] at h
      cases h
      exact ⟨0, k, b, rfl, rfl, rfl⟩
    | false =>
      rw [c] at h
      obtain ⟨i, g, y, h1, h2, h3⟩ := lookup_pair e h
      exact ⟨i + 1, g, y, by simpa using h1, by simpa using h2, h3⟩
/-! ### isinstance of an error -/
def clsV (ca : Nat → Addr) : D → Option Value
  | .thing a => some (.ref a)
  | .cls n => some (.ref (ca n))
  | .ty n => some (.type n)
  | _ => none
/-! ### an error of a class without own __init__ -/
/-! ### a, b = x, y -/
theorem rs_par {i j : Nat} {x y : Str} {a b : Expr} {ml : ML} {px py pt : Pos} {kt k2 pt2} (nd : X.N.Nodup) (hc : X.calm = true) (ha : PA X [a, b] (rdA X.K ca W ml)) (hij : i ≠ j := by decide) (hi : X.N[i]? = some x := by rfl) (hj : X.N[j]? = some y := by rfl)
    (hx : X.env.scope.names.lookup x = some .local := by rfl) (hy : X.env.scope.names.lookup y = some .local := by rfl) (hw : swappedStores [.Tuple [.Name x px, .Name y py] kt pt] (.Tuple [a, b] k2 pt2) X.env = pure (some [x, y]) := by rfl)
    (hs : swapsWithSole [.Tuple [.Name x px, .Name y py] kt pt] (.Tuple [a, b] k2 pt2) pos.line X.env = pure false := by rfl) :
    PS X (.Assign [.Tuple [.Name x px, .Name y py] kt pt] (.Tuple [a, b] k2 pt2) pos) (rdS X.K ca W (mPar i j ml)) :=
  ps_imp (ps_par hc nd hi hj hij hx hy ha hw hs) fun D σ H kf ⟨ms, ρ, μ, e, r, h⟩ => af_of e r h fun us μ1 vs H1 ms1 k1 r1 p1 h1 => by
    match us, h1 with
    | [u, w], h1 =>
      match vs, p1 with
      | [v, z], p1 =>
        simp only at h1
        unfold putE at h1
        by_cases li : i < ρ.length
        · rw [if_pos li, Option.bind_some] at h1
          by_cases lj : j < (ρ.set i (some u)).length
          · rw [if_pos lj] at h1
            exact ⟨v, z, rfl, fun _ => AfS.nx (r := r1) h1 (((e.keep k1).set li (p1.2 0 u v rfl rfl)).set lj (p1.2 1 w z rfl rfl))⟩
          · rw [if_neg lj] at h1
            exact (show False from h1).elim
        · rw [if_neg li, Option.bind_none] at h1
          exact (show False from h1).elim
      | [], p1 => exact absurd p1.1 (by simp)
      | [_], p1 => exact absurd p1.1 (by simp)
      | _ :: _ :: _ :: _, p1 => exact absurd p1.1 (by simp)
    | [], h1 => exact (show False from h1).elim
    | [_], h1 => exact (show False from h1).elim
    | _ :: _ :: _ :: _, h1 => exact (show False from h1).elim
end
end Dv
namespace Dv
open PySem L2 PySem.Spec PyProof.Rows
/-- the law's def, called with the script, gives True -/
theorem law_go {P : Program} {w : World} {K : PySem.W.Frag} {mg mb : Str → Option Value} {ca : Nat → Addr} {k : Nat} {f b : Addr} {fd : FuncData} {x : Str} {mf : MF} {z : Shared} {us : List Value} {js : List Int}
    (kx : K.In z.heap) (gl : z.heap.Ns mainGlobals mg) (bl : z.heap.Ns builtinsNs mb) (bb : ∀ x : Str, x ≠ "__name__" → mb x = bootBuiltins x) (nl : z.heap.NoLimit) (ng : z.gens = #[])
    (at_ : z.heap.get? b = some { cls := .type "list", data := .seq us.toArray }) (is : IntsAre us js) (sz : js.length ≤ sizeLine) (rm : Room k callerA) (gd : callerA.guards = some [])
    (F : ∀ base : Heap, K.In base → base.Ns mainGlobals mg → FnG P w K mg base k f fd [x] (spD K ca 1 mf)) (bi : ∀ (s : Shared) (u : Value), BindsTo s fd ⟨[u], []⟩ [(x, u)])
    (yes : ∃ μ, mf [.d (.scr (js.map .int))] [] = .val (.d (.bl true)) μ) :
    codeAny (model P w) callerA (.call (.ref f) ⟨[.ref b], []⟩) (fun r s' => r = .ok (.ret (.bool true)) ∧ OldK z.heap s'.heap ∧ s'.os = z.os ∧ AllBare s'.gens) z := by
  have vs := vals_ints is
  have sameLen := is.length
  have main : ∀ G : Hp, Only G → StL K ⟨[], []⟩ G b (js.map V.int) → HOk P w G z.heap → (∀ c, G c ≠ none → c = b) → (G b ≠ none → K.lookup b = none) →
      codeAny (model P w) callerA (.call (.ref f) ⟨[.ref b], []⟩) (fun r s' => r = .ok (.ret (.bool true)) ∧ OldK z.heap s'.heap ∧ s'.os = z.os ∧ AllBare s'.gens) z := by
    intro G only st ok just inK
    have kept : ∀ {c : Addr} {o : Obj}, z.heap.get? c = some o → G c = none → (hidT z.heap G).get? c = some o := fun e n => hidT_get e n
    have dicts : ∀ {c : Addr} {o : Obj} {es : Array DictEntry} {ep : Nat}, z.heap.get? c = some o → o.data = .dict es ep → G c = none := fun {c o es ep} e dd => by
      cases gc : G c with
      | none => rfl
      | some u =>
        have cb : c = b := just c (by rw [gc]; simp)
        subst cb
        rw [at_] at e
        cases e
        exact absurd (show Data.seq us.toArray _ = Data.dict es ep from dd) (by simp)
    have nss : ∀ {c : Addr} {m : Str → Option Value}, z.heap.Ns c m → (hidT z.heap G).Ns c m := fun {c m} ⟨o, es, ep, e, dd, r⟩ => ⟨o, es, ep, kept e (dicts e dd), dd, r⟩
    have kb : K.In (hidT z.heap G) := fun c o e => kept (kx c o e) (by
      cases gc : G c with
      | none => rfl
      | some u =>
        have cb : c = b := just c (by rw [gc]; simp)
        subst cb
        rw [inK (by rw [gc]; simp)] at e
        cases e)
    have md : Mod K mg (hidT z.heap G) := ⟨kb, nss gl, ⟨mb, nss bl, bb⟩, let ⟨mc, h1, h2⟩ := nl; ⟨mc, nss h1, h2⟩⟩
    have en : Env0 P w K mg (hidT z.heap G) callerA [] z G := ⟨rfl, md, fun c o e => of_hidT e, Nat.le_of_eq (hidT_size _ _), trivial, fun c hc => absurd (show c ∈ ([] : List Addr) from hc) (by simp), ok, .of_eq ng⟩
    have rel0 : RelM K ca [] ⟨[], []⟩ G := ⟨rfl, fun n c h => by simp at h, fun n a h => by simp at h, fun n m a h => by simp at h, fun a h => by simp at h, fun n a h => by simp at h, ⟨rfl, rfl⟩⟩
    have scr : Rep K ca ⟨[], []⟩ G (.scr (js.map .int)) (.ref b) := .scr st (by simp) fun i y v h1 h2 => by
      rw [List.getElem?_map] at h1 h2
      cases hj : js[i]? with
      | none => rw [hj] at h1; cases h1
      | some j =>
        rw [hj] at h1 h2
        cases h1
        cases h2
        exact .int j
    obtain ⟨μ, yes⟩ := yes
    have say : spD K ca 1 mf [.ref b] G (fun v _ => v = .bl true) (fun _ _ _ => False) := ⟨rfl, ⟨[], []⟩, [], [.d (.scr (js.map .int))], rel0, ⟨rfl, fun i y v h1 h2 => by
      cases i with
      | zero =>
        simp only [List.getElem?_cons_zero, Option.some.injEq] at h1 h2
        subst h1
        subst h2
        exact scr
      | succ i => simp at h1⟩, by
        rw [yes]
        intro v H' ms' _ _ p
        cases (show Rep K ca ms' H' (.bl true) v from p)
        rfl⟩
    refine codeAny_mono ((F _ kb (nss gl)).go callerA [] z G ⟨[.ref b], []⟩ [.ref b] [.ref b] _ _ rm gd en (bi z (.ref b)) (.cons rfl .nil) say) fun r s' fin => ?_
    cases r with
    | error e =>
      obtain ⟨_, _, _, _, _, _, _, _, _, _, _, _, no⟩ := fin
      exact no.elim
    | ok way =>
      cases way with
      | next => exact False.elim fin
      | brk => exact False.elim fin
      | cont => exact False.elim fin
      | ret u =>
        obtain ⟨v, G', os, bare, un, ok', rv, q⟩ := fin
        obtain rfl : v = .bl true := q
        obtain rfl : u = Value.bool true := rv
        refine ⟨rfl, OldK.of_keep fun c o e => ?_, os, bare⟩
        cases gc : G c with
        | none => exact un.keep c o e gc (by intro h; exact absurd (show c ∈ ([] : List Addr) from h) (by simp)) (by simp)
        | some u =>
          rcases only c with no | ⟨ob, xs, yes⟩
          · rw [gc] at no; cases no
          · obtain ⟨e1, _⟩ := ok c _ yes
            obtain ⟨e2, _⟩ := ok' c _ (un.frzs c ob _ yes)
            rw [e] at e1
            cases e1
            exact e2
  cases lk : K.lookup b with
  | some o =>
    have e := kx b o lk
    rw [at_] at e
    cases e
    exact main (fun _ => none) (fun _ => .inl rfl) (.inr ⟨_, us.toArray, _, lk, rfl, rfl, rfl, by rw [List.size_toArray, sameLen]; exact sz, by simpa using vs⟩) (fun c u h => by cases (show (none : Option HO) = some u from h)) (fun c h => absurd rfl h) fun h => absurd rfl h
  | none =>
    refine main (fun c => if c = b then some (.frz { cls := .type "list", data := .seq us.toArray } (.lst (js.map V.int))) else none) (fun c => ?_) (.inl ⟨.inr ⟨{ cls := .type "list", data := .seq us.toArray }, if_pos rfl⟩, fun h => by rcases h with h | h <;> cases h⟩) (fun c u h => ?_) (fun c h => ?_) fun _ => lk
    · by_cases cb : c = b
      · exact .inr ⟨_, _, if_pos cb⟩
      · exact .inl (if_neg cb)
    · by_cases cb : c = b
      · cases (if_pos cb).symm.trans h
        subst cb
        exact ⟨at_, by rw [List.length_map]; exact sz, us, _, vs, at_⟩
      · cases (if_neg cb).symm.trans h
    · by_cases cb : c = b
      · exact cb
      · exact absurd (if_neg cb) h
/-- the goal that the head leaves -/
theorem walkD {l : PySem.W.OpenLaw} {n k : Nat} {q : Program} {loose : List Str} {XP : (Str → Option Value) → Heap → Prop} {YP : World → Heap → Prop} {d : DefRec} {K : Params → PySem.W.Frag} {x : Str}
    (hn : l.most = some n) (hn2 : n ≤ sizeLine) (hdf : d.params.defaults = []) (rm : Room k callerA) (hY : ∀ (w : World) (h : Heap), YP w h → (K w.params).In h)
    (F : ∀ (w : World) (mg : Str → Option Value) (f : Addr) (h : Heap), (K w.params).In h → h.Ns mainGlobals mg → mg d.name = some (.ref f) →
      ∃ (fd : FuncData) (ca : Nat → Addr) (mf : MF), (∀ (s : Shared) (u : Value), BindsTo s fd ⟨[u], []⟩ [(x, u)]) ∧ (∀ js : List Int, js.length ≤ n → ∃ μ, mf [.d (.scr (js.map .int))] [] = .val (.d (.bl true)) μ) ∧
        ∀ base : Heap, (K w.params).In base → base.Ns mainGlobals mg → FnG l.prog w (K w.params) mg base k f fd [x] (spD (K w.params) ca 1 mf)) :
    PySem.W.WalkO q loose XP YP l.row.toRowW d [] (fun f vs => PySem.call f vs) := by
  refine Att.attach_call hn hdf fun w s₀ s₁ mg mb f o pm cd doc b us js G Y ho hd hcd hmg hobj hints hlen hg => ?_
  have kx := hY w _ Y
  obtain ⟨fd, ca, mf, bi, yes, go⟩ := F w mg f _ kx G.T.g hmg
  exact law_go kx G.T.g G.T.b G.T.builtins G.T.nolimit hg hobj hints (Nat.le_trans hlen hn2) rm rfl go bi (yes js hlen)
end Dv
namespace Dv
open PySem L2 PySem.W PySem.HandSPX PySem.DvX
/-- what the text of an __init__ says by itself -/
structure TxI (par : Arguments) (body : List Stmt) (sc : Scope) (fs : List Str) : Prop where
  B : Body body sc fs
  hks : sc.names.lookup ("super" : Str) = some .globalImplicit
  hkc : sc.names.lookup ("__class__" : Str) = some .free
  hka : sc.names.lookup ("self" : Str) = some .local
  kind : sc.kind = .function
  co : sc.isCoroutine = false
  gen : sc.isGenerator = false
  cell : ∀ x ∈ sc.names, x.2 ≠ .cell
  par0 : ∃ ar, (par.posonlyargs ++ par.args).head? = some ar ∧ ar.arg = "self"
  nm : ∀ f ∈ fs, sc.names.lookup f = some .local ∧ (f == ("__debug__" : Str)) = false ∧ f ≠ "self"
  nd : fs.Nodup
  b1 : ∀ (name qual : Str) (cda cc : Addr) (us : List Value), us.length = fs.length → ∀ s x doc pm an ct, BindsTo s (ksFn name qual par body sc .none .none doc pm an (.ref cda) ct cc) ⟨.ref x :: us, []⟩ (("self", .ref x) :: fs.zip us)
  b2 : ∀ (name qual : Str) (cda cc : Addr) (us : List Value), us.length = fs.length → ∀ s x doc pm an ct, BindsTo s (ksFn name qual par body sc .none .none doc pm an (.ref cda) ct cc) ⟨[.ref x], fs.zip us⟩ (("self", .ref x) :: fs.zip us)
  b3 : ∀ (name qual : Str) (cda cc : Addr) (us : List Value), us.length = fs.length → ∀ s x doc pm an ct, BindsTo s (ksFn name qual par body sc .none .none doc pm an (.ref cda) ct cc) ⟨[.ref x], fs.reverse.zip us⟩ (("self", .ref x) :: fs.zip us.reverse)
/-- what K alone says of an error class, by a look -/
def ckC (K : Frag) (C : Addr) : Bool :=
  (findIn K (.ref C) "__getattribute__" == some (some (.builtin "BaseException.__getattribute__"))) && (findIn K (.ref C) "__getattr__" == some none) && (subIn K (.ref C) (.type "BaseException") == some true) &&
  (typeIn K (.ref C) == some (.type "type")) && hasDictIn K C && keepIn K (.ref C) && (findIn K (.ref C) "__class__" == some (some (.builtin "object.__class__"))) && (mroIn K C (.type "object") == some true) &&
  (match K.lookup C with
    | some ⟨.type t, _, .cls cd, sl⟩ => decide (t = "type") && cd.hasDict && !cd.hasDel && (match cd.mro with | c :: bm => c == .ref C && refsVE bm | _ => false) && (match sl.toList with | [_, _, _, _, some (.builtin n), _] => decide (n = "ValueError.__new__") | _ => false)
    | _ => false)
/-- .. of its __init__ -/
def ckI (K : Frag) (C fI cc cda : Addr) (file : Str) (fs : List Str) : Bool :=
  (findIn K (.ref C) "__setattr__" == some (some (.builtin "object.__setattr__"))) && (findIn K (.ref C) "__init__" == some (some (.ref fI))) && (typeIn K (.ref fI) == some (.type "function")) &&
  (ks_superIn K C C "__init__" == some (some (.builtin "ValueError.__init__"))) && (subIn K (.ref C) (.type "ValueError") == some true) && (mroIn K C (.ref C) == some true) && fs.all (fun f => findIn K (.ref C) f == some none) &&
  (match K.lookup cda with | some ⟨_, _, .fields vs, _⟩ => (match (vs[2]? : Option Value) with | some (Value.str f _) => f == file | _ => false) | _ => false) &&
  (match K.lookup cc with | some ⟨_, _, .cell (some (.ref D)), _⟩ => D == C | _ => false)
theorem cf_of {K : Frag} {C : Addr} (h : ckC K C = true) : CF K C ∧ findIn K (.ref C) "__class__" = some (some (.builtin "object.__class__")) ∧ mroIn K C (.type "object") = some true := by
  unfold ckC at h
  simp only [Bool.and_eq_true, beq_iff_eq] at h
  obtain ⟨⟨⟨⟨⟨⟨⟨⟨h1, h2⟩, h3⟩, h4⟩, h5⟩, h6⟩, h7⟩, h8⟩, h9⟩ := h
  refine ⟨⟨?_, h1, h2, h3, h4, h5, h6⟩, h7, h8⟩
  split at h9
  · rename_i t dd cd sl ho
    simp only [Bool.and_eq_true, decide_eq_true_eq, Bool.not_eq_true'] at h9
    obtain ⟨⟨⟨⟨rfl, hh⟩, hd⟩, hm⟩, hs⟩ := h9
    obtain ⟨nm, bs, mro, ns, qn, hdct, sn, sub, ab, col, del⟩ := cd
    dsimp only at hh hd hm
    subst hh hd
    split at hm
    · rename_i c bm
      simp only [Bool.and_eq_true, beq_iff_eq] at hm
      obtain ⟨rfl, hm⟩ := hm
      split at hs
      · rename_i k0 k1 k2 k3 n k5 hl
        have hn := of_decide_eq_true hs
        subst hn
        obtain ⟨l⟩ := sl
        simp only at hl
        subst hl
        exact ⟨_, _, _, _, _, _, _, _, _, _, _, _, _, _, _, ho, hm⟩
      · cases hs
    · cases hm
  · cases h9
theorem er_mk {K : Frag} {P : Program} {mg : Str → Option Value} {h : Heap} {C fI cc cda : Addr} {x name qual : Str} {par : Arguments} {body : List Stmt} {sc : Scope} {fs : List Str} {oc : Value} {od : Option Addr} {doc pm : Value} {an : Option Addr} {ct : Value} {osl : Array (Option Value)}
    (X : K.In h) (G : h.Ns mainGlobals mg) (t : TxI par body sc fs) (op : nsIn K cStatics "thirdparty.any" = some none) (sg : mg "super" = none) (top : (P.main.scope.names.lookup ("super" : Str)).isSome = false)
    (a : nsIn K mainGlobals x = some (some (.ref C))) (c1 : ckC K C = true) (l : K.lookup fI = some ⟨oc, od, .func (ksFn name qual par body sc .none .none doc pm an (.ref cda) ct cc), osl⟩) (cd : codeIn K (.ref cda) qual = true) (c2 : ckI K C fI cc cda P.main.file fs = true) : ErF K P mg C x fs := by
  obtain ⟨T, _, _⟩ := cf_of c1
  unfold ckI at c2
  simp only [Bool.and_eq_true, beq_iff_eq] at c2
  obtain ⟨⟨⟨⟨⟨⟨⟨⟨h1, h2⟩, h3⟩, h4⟩, h5⟩, h6⟩, h7⟩, h8⟩, h9⟩ := c2
  refine ⟨mg_of X G a, T, fI, cc, cda, name, qual, par, body, sc, ⟨h1, h2, h3, h4, h5, h6, op, sg, ⟨oc, od, doc, pm, an, ct, osl, l⟩, cd, ?_, ?_, top, t.hks, t.hkc, t.hka, t.kind, t.co, t.gen, t.cell, t.par0⟩, t.B, fun f hf => ?_, t.nd, t.b1 _ _ _ _, t.b2 _ _ _ _, t.b3 _ _ _ _⟩
  · split at h8
    · rename_i ccl cdd vs ccs ho
      split at h8
      · rename_i f tf hv
        exact ⟨ccl, cdd, vs, ccs, f, tf, ho, hv, beq_iff_eq.mpr (beq_iff_eq.mp h8).symm⟩
      · cases h8
    · cases h8
  · split at h9
    · rename_i cl cld D csl ho
      have e := beq_iff_eq.mp h9
      subst e
      exact ⟨cl, cld, csl, ho⟩
    · cases h9
  · obtain ⟨n1, n2, n3⟩ := t.nm f hf
    exact ⟨n1, n2, n3, beq_iff_eq.mp (List.all_eq_true.mp h7 f hf)⟩
end Dv
namespace Dv
open PySem L2 PySem.W
/-! ### instances of own classes -/
def upF (fs : List (Str × D)) : List (Str × U) := fs.map fun p => (p.1, .d p.2)
/-- an instance's class and fields -/
def objAt (μ : Mem) : U → Option (Nat × List (Str × U))
  | .d (.obj c fs) => some (c, upF fs)
  | .cell n => match μ[n]? with
    | some (some (.obj c fs)) => some (c, fs)
    | _ => none
  | _ => none
section
variable {K : Frag} {ca : Nat → Addr} {ms : Ms} {H H' : Hp} {μ : Mem}
def RepF (K : Frag) (ca : Nat → Addr) (ms : Ms) (H : Hp) (fs : List (Str × U)) (gs : List (Str × V)) : Prop := fs.map (·.1) = gs.map (·.1) ∧ ∀ (i : Nat) x v, fs[i]? = some x → gs[i]? = some v → RepU K ca ms H x.2 v.2
theorem obj_at {u : U} {v : V} {c : Nat} {fs : List (Str × U)} (r : RelM K ca μ ms H) (p : RepU K ca ms H u v) (h : objAt μ u = some (c, fs)) : ∃ a dx gs, v = .ref a ∧ H a = some (.ins (ca c) dx gs) ∧ RepF K ca ms H fs gs := by
  cases u with
  | d x =>
    cases x with
    | obj c' fs' =>
      simp only [objAt, Option.some.injEq, Prod.mk.injEq] at h
      obtain ⟨rfl, rfl⟩ := h
      cases (show Rep K ca ms H (.obj c' fs') v from p) with
      | obj s n l z =>
        refine ⟨_, _, _, rfl, s, by rw [← l]; unfold upF; rw [List.map_map]; rfl, fun i x v h1 h2 => ?_⟩
        unfold upF at h1
        rw [List.getElem?_map] at h1
        cases hf : fs'[i]? with
        | none => rw [hf] at h1; cases h1
        | some y =>
          rw [hf] at h1
          cases h1
          exact z i y v hf h2
    | _ => cases h
  | cell n =>
    obtain ⟨a, rfl, e⟩ := p
    simp only [objAt] at h
    split at h
    · rename_i c' fs' hm
      simp only [Option.some.injEq, Prod.mk.injEq] at h
      obtain ⟨rfl, rfl⟩ := h
      obtain ⟨b, e1, dx, gs, s, l, z⟩ := r.live n _ hm
      rcases e with e | e
      · rw [e] at e1
        cases e1
        exact ⟨a, dx, gs, rfl, s, l, z⟩
      · rw [e] at e1
        cases e1
    · cases h
theorem RepF.look {fs : List (Str × U)} {gs : List (Str × V)} {f : Str} {u : U} (l : RepF K ca ms H fs gs) (h : fs.lookup f = some u) : ∃ v, gs.lookup f = some v ∧ RepU K ca ms H u v := by
  obtain ⟨i, g, y, h1, h2, h3⟩ := lookup_pair l.1 h
  exact ⟨y, h3, l.2 i _ _ h1 h2⟩
theorem RepF.none {fs : List (Str × U)} {gs : List (Str × V)} {f : Str} (l : RepF K ca ms H fs gs) (h : fs.lookup f = .none) : gs.lookup f = .none := by
  cases q : gs.lookup f with
  | none => rfl
  | some y =>
    obtain ⟨i, g, x, h1, h2, h3⟩ := lookup_pair l.1.symm q
    rw [h] at h3
    cases h3
theorem RepF.keep {fs : List (Str × U)} {gs : List (Str × V)} {ms' : Ms} (l : RepF K ca ms H fs gs) (k : Keep K ca ms H ms' H') : RepF K ca ms' H' fs gs := ⟨l.1, fun i x v a b => k.all _ _ (l.2 i x v a b)⟩
def putU (f : Str) (v : U) : List (Str × U) → List (Str × U)
  | [] => [(f, v)]
  | (g, x) :: r => if g = f then (g, v) :: r else (g, x) :: putU f v r
theorem RepF.put {f : Str} {u : U} {v : V} (p : RepU K ca ms H u v) : ∀ {fs : List (Str × U)} {gs : List (Str × V)}, RepF K ca ms H fs gs → RepF K ca ms H (putU f u fs) (putF f v gs)
  | [], [], _ => ⟨rfl, fun i x w a b => by
      cases i with
      | zero =>
        simp only [putU, putF, List.getElem?_cons_zero, Option.some.injEq] at a b
        subst a; subst b
        exact p
      | succ i => simp [putU] at a⟩
  | [], _ :: _, l => by have := l.1; simp at this
  | _ :: _, [], l => by have := l.1; simp at this
  | (g, x) :: fs, (g', y) :: gs, l => by
    have e := l.1
    simp only [List.map_cons, List.cons.injEq] at e
    obtain ⟨rfl, e⟩ := e
    have t : RepF K ca ms H fs gs := ⟨e, fun i a b h1 h2 => l.2 (i + 1) a b (by simpa using h1) (by simpa using h2)⟩
    have h0 := l.2 0 (g, x) (g, y) rfl rfl
    unfold putU putF
    by_cases c : g = f
    · rw [if_pos c, if_pos c]
      refine ⟨by simp [e], fun i a b h1 h2 => ?_⟩
      cases i with
      | zero =>
        simp only [List.getElem?_cons_zero, Option.some.injEq] at h1 h2
        subst h1; subst h2
        exact p
      | succ i => exact t.2 i a b (by simpa using h1) (by simpa using h2)
    · rw [if_neg c, if_neg c]
      have q := RepF.put (f := f) p t
      refine ⟨by simp [q.1], fun i a b h1 h2 => ?_⟩
      cases i with
      | zero =>
        simp only [List.getElem?_cons_zero, Option.some.injEq] at h1 h2
        subst h1; subst h2
        exact h0
      | succ i => exact q.2 i a b (by simpa using h1) (by simpa using h2)
/-- a cell changes -/
theorem RelM.setC {n : Nat} {p : Addr} {c : Cel} {o : HO} (r : RelM K ca μ ms H) (hp : ms.cs[n]? = some (some p)) (hc : Keep K ca ms H ms (upd H p o) → RepC K ca ms (upd H p o) p c) :
    Keep K ca ms H ms (upd H p o) ∧ RelM K ca (μ.set n (some c)) ms (upd H p o) := by
  have pin : ms.In p := .inl (List.mem_of_getElem? hp)
  have k : Keep K ca ms H ms (upd H p o) := keep_of (fun a o' q z => by
    rw [upd_ne]
    · exact q
    · rintro rfl; exact z pin) (fun a z => .inl z) (fun _ _ q => q) rfl fun a h => by
      rw [upd_ne]
      rintro rfl
      exact r.sep n _ hp h
  have hn : n < μ.length := by rw [r.len]; exact (List.getElem?_eq_some_iff.mp hp).1
  refine ⟨k, ⟨by simp [r.len], fun m c' h => ?_, fun m a h => ?_, r.apart, fun a h => ?_, r.sep, ⟨rfl, rfl⟩⟩⟩
  · by_cases hm : m = n
    · subst hm
      rw [List.getElem?_set_self hn] at h
      simp only [Option.some.injEq] at h
      subst h
      exact ⟨p, hp, hc k⟩
    · rw [List.getElem?_set_ne (by omega)] at h
      obtain ⟨a, q, z⟩ := r.live m c' h
      refine ⟨a, q, z.keep k fun o e => ?_⟩
      rw [upd_ne]
      · exact e
      · rintro rfl; exact hm (r.apart m n _ q hp)
  · by_cases hm : m = n
    · subst hm
      exact ⟨_, List.getElem?_set_self hn⟩
    · obtain ⟨c', q⟩ := r.dead m a h
      exact ⟨c', by rw [List.getElem?_set_ne (by omega)]; exact q⟩
  · by_cases ha : a = p
    · subst ha
      exact ⟨_, upd_same⟩
    · obtain ⟨o', q⟩ := r.hidden a h
      exact ⟨o', by rw [upd_ne ha]; exact q⟩
/-- a new cell, in a heap that goes on -/
theorem RelM.newC {p : Addr} {c : Cel} (r : RelM K ca μ ms H) (hp : H p = none) (sm : Same H H') (hc : Keep K ca ms H (ms.more p) H' → RepC K ca (ms.more p) H' p c) : Keep K ca ms H (ms.more p) H' ∧ RelM K ca (μ ++ [some c]) (ms.more p) H' := by
  have out := r.out hp
  have sl : ∀ (n : Nat) a, (ms.cs ++ [some p])[n]? = some (some a) → (ms.cs[n]? = some (some a) ∧ n < ms.cs.length) ∨ (n = ms.cs.length ∧ a = p) := fun n a h => by
    by_cases hn : n < ms.cs.length
    · rw [List.getElem?_append_left hn] at h
      exact .inl ⟨h, hn⟩
    · have hn' : n = ms.cs.length := by
        have := (List.getElem?_eq_some_iff.mp h).1
        simp at this
        omega
      subst hn'
      simp only [List.getElem?_concat_length, Option.some.injEq] at h
      exact .inr ⟨rfl, h.symm⟩
  have k : Keep K ca ms H (ms.more p) H' := keep_of (fun a o q _ => sm a o q) (fun a z => by
    rcases z with z | z
    · rcases List.mem_append.mp z with z | z
      · exact .inl (.inl z)
      · simp only [List.mem_singleton, Option.some.injEq] at z
        subst z
        exact .inr hp
    · exact .inl (.inr z)) (fun n a q => by show (ms.cs ++ [some p])[n]? = _; rw [List.getElem?_append_left (List.getElem?_eq_some_iff.mp q).1]; exact q) rfl fun a h => by
      obtain ⟨o, q⟩ := r.hidden a h
      rw [q, sm a o q]
  refine ⟨k, ⟨by simp [Ms.more, r.len], fun n c' h => ?_, fun n a h => ?_, fun n m a h1 h2 => ?_, fun a h => let ⟨o, q⟩ := r.hidden a h; ⟨o, sm a o q⟩, fun n a h z => ?_, ⟨rfl, rfl⟩⟩⟩
  · by_cases hn : n < μ.length
    · rw [List.getElem?_append_left hn] at h
      obtain ⟨a, q, z⟩ := r.live n c' h
      refine ⟨a, by show (ms.cs ++ [some p])[n]? = _; rw [List.getElem?_append_left (by rw [← r.len]; exact hn)]; exact q, z.keep k fun o e => sm _ _ e⟩
    · have hn' : n = μ.length := by
        have := (List.getElem?_eq_some_iff.mp h).1
        simp at this
        omega
      subst hn'
      simp only [List.getElem?_concat_length, Option.some.injEq] at h
      subst h
      exact ⟨p, by show (ms.cs ++ [some p])[μ.length]? = _; rw [r.len]; simp, hc k⟩
  · rcases sl n a h with ⟨h, hn⟩ | ⟨rfl, rfl⟩
    · obtain ⟨c', q⟩ := r.dead n a h
      exact ⟨c', by rw [List.getElem?_append_left (by rw [r.len]; exact hn)]; exact q⟩
    · exact ⟨c, by rw [← r.len]; simp⟩
  · rcases sl n a h1 with ⟨a1, _⟩ | ⟨rfl, e1⟩ <;> rcases sl m a h2 with ⟨b1, _⟩ | ⟨rfl, e2⟩
    · exact r.apart n m a a1 b1
    · subst e2
      exact absurd (.inl (List.mem_of_getElem? a1)) out
    · subst e1
      exact absurd (.inl (List.mem_of_getElem? b1)) out
    · rfl
  · rcases sl n a h with ⟨h, _⟩ | ⟨rfl, rfl⟩
    · exact r.sep n a h z
    · obtain ⟨o, q⟩ := r.hidden _ z
      rw [hp] at q
      cases q
end
/-- o.f, a field -/
def mFld (ok : Nat → Bool) (f : Str) (me : MD) : MD := fun ρ μ => (me ρ μ).bind fun u μ1 => match objAt μ1 u with
  | some (c, fs) => if ok c then ofO μ1 (fs.lookup f) else .stuck
  | none => .stuck
/-- o.f, a constant of its class -/
def mCon (tb : Nat → Option D) (f : Str) (me : MD) : MD := fun ρ μ => (me ρ μ).bind fun u μ1 => match objAt μ1 u with
  | some (c, fs) => match fs.lookup f, tb c with
    | none, some d => .val (.d d) μ1
    | _, _ => .stuck
  | none => .stuck
/-- o.f = e, o an instance that changes -/
def mSetF (ok : Nat → Bool) (f : Str) (mo me : MD) : MS := fun ρ μ => RS.of ρ (me ρ μ) fun u μ1 => RS.of ρ (mo ρ μ1) fun o μ2 => match o with
  | .cell n => match μ2[n]? with
    | some (some (.obj c fs)) => if ok c && decide (fs.length < 100) then .next ρ (μ2.set n (some (.obj c (putU f u fs)))) else .stuck
    | _ => .stuck
  | _ => .stuck
section
variable {X : Cx} {ca : Nat → Addr} {W : WX} {pos pos' : Pos} {e o value : Expr} {me mo : MD} {f : Str}
theorem re_fld {ok : Nat → Bool} (hok : ∀ c, ok c = true → Cls X.K (ca c) ∧ NoAttr X.K (ca c) f) (he : PE X e (rdE X.K ca W me)) (hb : attributeBase e f X.env (eval e X.env) = eval e X.env := by rfl) : PE X (.Attribute e f pos) (rdE X.K ca W (mFld ok f me)) := by
  refine pe_imp (pe_fld he hb) fun σ H Q kf ⟨ms, ρ, μ, en, r, h⟩ => af_bind en r h fun u μ1 v H1 ms1 k1 r1 p1 h1 => ?_
  split at h1
  · rename_i c fs ho
    obtain ⟨a, dx, gs, rfl, ha, l⟩ := obj_at r1 p1 ho
    by_cases hc : ok c = true
    · rw [if_pos hc] at h1
      cases hl : fs.lookup f with
      | none => rw [hl] at h1; exact (show False from h1).elim
      | some w =>
        rw [hl] at h1
        obtain ⟨z, hz, pz⟩ := l.look hl
        obtain ⟨c1, c2⟩ := hok c hc
        exact ⟨a, ca c, dx, gs, z, rfl, ha, c1, c2, hz, fun _ => Af.at h1 r1 pz⟩
    · rw [if_neg hc] at h1
      exact (show False from h1).elim
  · exact (show False from h1).elim
theorem re_con {tb : Nat → Option D} (hok : ∀ c d, tb c = some d → Cls X.K (ca c) ∧ ∃ v u, Con X.K (ca c) f v u ∧ ∀ ms H, Rep X.K ca ms H d v) (he : PE X e (rdE X.K ca W me)) (hb : attributeBase e f X.env (eval e X.env) = eval e X.env := by rfl) : PE X (.Attribute e f pos) (rdE X.K ca W (mCon tb f me)) := by
  refine pe_imp (pe_con he hb) fun σ H Q kf ⟨ms, ρ, μ, en, r, h⟩ => af_bind en r h fun u μ1 v H1 ms1 k1 r1 p1 h1 => ?_
  split at h1
  · rename_i c fs ho
    obtain ⟨a, dx, gs, rfl, ha, l⟩ := obj_at r1 p1 ho
    split at h1
    · rename_i d hl ht
      obtain ⟨c1, v, u, c2, c3⟩ := hok c d ht
      exact ⟨a, ca c, dx, gs, v, u, rfl, ha, c1, c2, l.none hl, fun _ => Af.at (a := U.d d) h1 r1 (c3 ms1 H1)⟩
    · exact (show False from h1).elim
  · exact (show False from h1).elim
theorem rs_setF {ok : Nat → Bool} (hok : ∀ c, ok c = true → Cls X.K (ca c) ∧ NoAttr X.K (ca c) f) (ho : PE X o (rdE X.K ca W mo)) (he : PE X value (rdE X.K ca W me)) (hs : swapsWith value (some (.Attribute o f pos')) pos.line X.env = pure false := by rfl) :
    PS X (.Assign [.Attribute o f pos'] value pos) (rdS X.K ca W (mSetF ok f mo me)) := by
  refine ps_imp (ps_fld ho he hs) fun D σ H kf ⟨ms, ρ, μ, en, r, h⟩ => af_of en r h fun u μ1 v H1 ms1 k1 r1 p1 h1 => af_of (en.keep k1) r1 h1 fun o μ2 ov H2 ms2 k2 r2 p2 h2 => ?_
  have pu := k2.all _ _ p1
  cases o with
  | d x => exact (show False from h2).elim
  | cell n =>
    simp only at h2
    split at h2
    · rename_i c fs hm
      split at h2
      · rename_i hc
        simp only [Bool.and_eq_true, decide_eq_true_eq] at hc
        obtain ⟨a, rfl, ea⟩ := r2.lives p2 hm
        obtain ⟨b, e1, dx, gs, s, l1, l2⟩ := r2.live n _ hm
        rw [ea] at e1
        cases e1
        obtain ⟨c1, c2⟩ := hok c hc.1
        have lg : gs.length < 1000 := by
          have : fs.length = gs.length := by simpa using congrArg List.length l1
          omega
        refine ⟨a, ca c, dx, gs, rfl, s, c1, c2, lg, fun _ => ?_⟩
        obtain ⟨k3, r3⟩ := r2.setC (c := .obj c (putU f u fs)) (o := .ins (ca c) dx (putF f v gs)) ea fun k => by
          have q := RepF.put (f := f) (k.all _ _ pu) (RepF.keep ⟨l1, l2⟩ k)
          exact ⟨dx, _, upd_same, q.1, q.2⟩
        exact h2 σ _ ms2 k3 (((en.keep k1).keep k2).keep k3) r3
      · exact (show False from h2).elim
    · exact (show False from h2).elim
end
end Dv
namespace Dv
open PySem L2 PySem.W
/-! ### how arguments reach the parameters: the i-th of what is written (by position, then by keyword), or a default -/
abbrev Sel := List (Nat ⊕ (D × V × Value))
def gS {α : Type} (f : D × V × Value → α) (sel : Sel) (ws : List α) : List α := sel.filterMap fun x => match x with
  | .inl i => ws[i]?
  | .inr k => some (f k)
abbrev gU (sel : Sel) (us : List U) : List U := gS (fun k => .d k.1) sel us
abbrev gV (sel : Sel) (vs : List V) : List V := gS (fun k => k.2.1) sel vs
abbrev gW (sel : Sel) (ws : List Value) : List Value := gS (fun k => k.2.2) sel ws
/-- constants that stand anywhere -/
structure SelOk (K : Frag) (ca : Nat → Addr) (sel : Sel) (n : Nat) : Prop where
  ix : ∀ i, .inl i ∈ sel → i < n
  con : ∀ k, .inr k ∈ sel → RelV k.2.1 k.2.2 ∧ ∀ ms H, Rep K ca ms H k.1 k.2.1
theorem gS_len {α : Type} {f : D × V × Value → α} {ws : List α} : ∀ {sel : Sel}, (∀ i, .inl i ∈ sel → i < ws.length) → (gS f sel ws).length = sel.length
  | [], _ => rfl
  | .inl i :: r, h => by
    have hi := h i List.mem_cons_self
    have e : gS f (.inl i :: r) ws = ws[i] :: gS f r ws := by simp [gS, hi]
    rw [e, List.length_cons, gS_len fun j hj => h j (List.mem_cons_of_mem _ hj), List.length_cons]
  | .inr k :: r, h => by
    have e : gS f (.inr k :: r) ws = f k :: gS f r ws := by simp [gS]
    rw [e, List.length_cons, gS_len fun j hj => h j (List.mem_cons_of_mem _ hj), List.length_cons]
theorem vals_at {vs : List V} {ws : List Value} (r : Vals vs ws) : ∀ (i : Nat) (h1 : i < vs.length) (h2 : i < ws.length), RelV vs[i] ws[i] := by
  induction r with
  | nil => intro i h1; simp at h1
  | cons a b ih =>
    intro i h1 h2
    cases i with
    | zero => exact a
    | succ i => exact ih i (by simpa using h1) (by simpa using h2)
theorem vals_sel {K : Frag} {ca : Nat → Addr} {vs : List V} {ws : List Value} (r : Vals vs ws) : ∀ {sel : Sel}, SelOk K ca sel vs.length → Vals (gV sel vs) (gW sel ws)
  | [], _ => .nil
  | .inl i :: t, h => by
    have hi := h.ix i List.mem_cons_self
    have hj : i < ws.length := by rw [← r.length]; exact hi
    have e1 : gV (.inl i :: t) vs = vs[i] :: gV t vs := by simp [gS, hi]
    have e2 : gW (.inl i :: t) ws = ws[i] :: gW t ws := by simp [gS, hj]
    rw [e1, e2]
    exact .cons (vals_at r i hi hj) (vals_sel r ⟨fun j hj => h.ix j (List.mem_cons_of_mem _ hj), fun k hk => h.con k (List.mem_cons_of_mem _ hk)⟩)
  | .inr k :: t, h => by
    have e1 : gV (.inr k :: t) vs = k.2.1 :: gV t vs := by simp [gS]
    have e2 : gW (.inr k :: t) ws = k.2.2 :: gW t ws := by simp [gS]
    rw [e1, e2]
    exact .cons (h.con k List.mem_cons_self).1 (vals_sel r ⟨fun j hj => h.ix j (List.mem_cons_of_mem _ hj), fun k hk => h.con k (List.mem_cons_of_mem _ hk)⟩)
theorem RepUL.cons {K : Frag} {ca : Nat → Addr} {ms : Ms} {H : Hp} {x : U} {v : V} {us : List U} {vs : List V} (p : RepU K ca ms H x v) (l : RepUL K ca ms H us vs) : RepUL K ca ms H (x :: us) (v :: vs) := by
  refine ⟨by simp [l.1], fun i y w h1 h2 => ?_⟩
  cases i with
  | zero =>
    simp only [List.getElem?_cons_zero, Option.some.injEq] at h1 h2
    subst h1; subst h2
    exact p
  | succ i => exact l.2 i y w (by simpa using h1) (by simpa using h2)
theorem rep_sel {K : Frag} {ca : Nat → Addr} {ms : Ms} {H : Hp} {us : List U} {vs : List V} (l : RepUL K ca ms H us vs) : ∀ {sel : Sel}, SelOk K ca sel vs.length → RepUL K ca ms H (gU sel us) (gV sel vs)
  | [], _ => ⟨rfl, fun i y w h => by simp [gS] at h⟩
  | .inl i :: t, h => by
    have hi := h.ix i List.mem_cons_self
    have hj : i < us.length := by rw [l.1]; exact hi
    have e1 : gV (.inl i :: t) vs = vs[i] :: gV t vs := by simp [gS, hi]
    have e2 : gU (.inl i :: t) us = us[i] :: gU t us := by simp [gS, hj]
    rw [e1, e2]
    exact RepUL.cons (l.2 i _ _ (List.getElem?_eq_getElem hj) (List.getElem?_eq_getElem hi)) (rep_sel l ⟨fun j hj => h.ix j (List.mem_cons_of_mem _ hj), fun k hk => h.con k (List.mem_cons_of_mem _ hk)⟩)
  | .inr k :: t, h => by
    have e1 : gV (.inr k :: t) vs = k.2.1 :: gV t vs := by simp [gS]
    have e2 : gU (.inr k :: t) us = .d k.1 :: gU t us := by simp [gS]
    rw [e1, e2]
    exact RepUL.cons ((h.con k List.mem_cons_self).2 ms H) (rep_sel l ⟨fun j hj => h.ix j (List.mem_cons_of_mem _ hj), fun k hk => h.con k (List.mem_cons_of_mem _ hk)⟩)
/-- how a def binds np values by position and those of the keywords ks -/
structure Bd (K : Frag) (ca : Nat → Addr) (fd : FuncData) (ps : List Str) (np : Nat) (ks : List Str) (sel : Sel) : Prop where
  ok : SelOk K ca sel (np + ks.length)
  len : sel.length = ps.length
  to : ∀ (s : Shared) (us ws : List Value), K.In s.heap → us.length = np → ws.length = ks.length → BindsTo s fd ⟨us, ks.zip ws⟩ (ps.zip (gW sel (us ++ ws)))
section
variable {X : Cx} {ca : Nat → Addr} {W : WX}
/-- the wish behind the arguments of a call -/
def AfC (K : Frag) (ca : Nat → Addr) (W : WX) (σ : St) (mf : MF) (sel : Sel) (vs : List V) (H : Hp) (Q : VK) : Prop := ∃ us ms μ, RelM K ca μ ms H ∧ RepUL K ca ms H us vs ∧ Af K ca (RepU K ca) W σ ms H (mf (gU sel us) μ) Q
theorem spD_of {k : Nat} {mf : MF} {sel : Sel} {σ : St} {H : Hp} {vs : List V} {Q : VK} {n : Nat} (ok : SelOk X.K ca sel vs.length) (hk : sel.length = k) (h : AfC X.K ca W σ mf sel vs H Q) : spD X.K ca k mf (gV sel vs) H Q (WE W σ) := by
  obtain ⟨us, ms, μ, r, l, h⟩ := h
  refine ⟨by rw [← hk]; exact gS_len ok.ix, ms, μ, gU sel us, r, rep_sel l ok, ?_⟩
  cases hm : mf (gU sel us) μ with
  | val u μ2 => rw [hm] at h; exact h
  | exc c fs μ2 => rw [hm] at h; exact h
  | stuck => rw [hm] at h; exact h
/-- a def is called -/
theorem call_fnK {k : Nat} {f : Addr} {fd : FuncData} {ps : List Str} {mf : MF} {np : Nat} {ks : List Str} {sel : Sel} {pins : List (Addr × Obj)} {σ : St} {H : Hp} {s : Shared} {Q : VK} {us ws : List Value} {vs : List V}
    (F : FnG X.prog X.w X.K X.mg X.base k f fd ps (spD X.K ca ps.length mf)) (hr : Room k X.A) (gd : X.A.guards = some []) (tk : Takes X W) (B : Bd X.K ca fd ps np ks sel) (I : Inv X pins σ H s) (r : Vals vs (us ++ ws)) (hu : us.length = np) (hw : ws.length = ks.length)
    (h : AfC X.K ca W σ mf sel vs H Q) : wpAny (model X.prog X.w) X.A (call (.ref f) us (ks.zip ws)) (EP X pins σ Q) X.xe s := by
  have lv : vs.length = np + ks.length := by rw [r.length, List.length_append, hu, hw]
  have ok : SelOk X.K ca sel vs.length := by rw [lv]; exact B.ok
  refine wpAny_call (codeAny_mono (F.go X.A X.stack s H ⟨us, ks.zip ws⟩ (gW sel (us ++ ws)) (gV sel vs) Q (WE W σ) hr gd I.env0 (B.to s us ws I.kIn hu hw) (vals_sel r ok) (spD_of (n := 0) ok B.len h)) fun res s' end_ => ?_)
  cases res with
  | error er => exact passAt tk σ pins H s er s' I end_
  | ok way =>
    cases way with
    | ret u => exact I.after end_
    | next => exact False.elim end_
    | brk => exact False.elim end_
    | cont => exact False.elim end_
end
end Dv
namespace Dv
open PySem L2 PySem.W
/-! ### the arguments of a call, by position and by keyword -/
structure PCW (X : Cx) (ca : Nat → Addr) (W : WX) (args : List Expr) (kws : List Keyword) (pos : Pos) (np : Nat) (ks : List Str) (ml : ML) : Prop where
  run : ∀ (pins : List (Addr × Obj)) (s : Shared) (σ : St) (H : Hp) (f : Value) (first : List Value) (Q : Value → Shared → Prop), Inv X pins σ H s → keepIn X.K f = true →
    rdA X.K ca W ml σ H (fun vs H1 => ∀ (us ws : List Value) (s1 : Shared), Inv X pins σ H1 s1 → Vals vs (us ++ ws) → us.length = np → ws.length = ks.length → wpAny (model X.prog X.w) X.A (call f (first ++ us) (ks.zip ws)) Q X.xe s1) →
    wpAny (model X.prog X.w) X.A (callWith pos f first (backTo pos (starEach args X.env)) (backToKw pos (keywordEach kws X.env))) Q X.xe s
theorem rd_len {K : Frag} {ca : Nat → Addr} {W : WX} {ml : ML} {n : Nat} {σ : St} {H : Hp} {Q : List V → Hp → Prop} (hl : LenL ml n) (h : rdA K ca W ml σ H Q) : rdA K ca W ml σ H fun vs H1 => vs.length = n ∧ Q vs H1 := by
  obtain ⟨ms, ρ, μ, e, r, h⟩ := h
  refine ⟨ms, ρ, μ, e, r, ?_⟩
  cases hm : ml ρ μ with
  | val us μ1 =>
    rw [hm] at h
    exact fun vs H1 ms1 k1 r1 p1 => ⟨by rw [← p1.1]; exact hl ρ μ us μ1 hm, h vs H1 ms1 k1 r1 p1⟩
  | exc c fs μ1 => rw [hm] at h; exact h
  | stuck => rw [hm] at h; exact h
section
variable {X : Cx} {ca : Nat → Addr} {W : WX} {pos : Pos} {e : Expr} {es : List Expr} {kws : List Keyword} {ml mk : ML}
/-- by position -/
theorem pc_pos {n : Nat} (ha : PA X (e :: es) (rdA X.K ca W ml)) (hl : LenL ml n := by repeat' first | exact len_nil | refine len_cons ?_) (he : starEach (e :: es) X.env = (false, eval e X.env) :: starEach es X.env := by rfl) (hpl : (backTo pos (starEach es X.env)).any (·.1) = false := by rfl) : PCW X ca W (e :: es) [] pos n [] ml :=
  ⟨fun pins s σ H f first Q I hk h => PySem.W.callWith_K (h₀ := X.base) I.ok.mod.kin hk (thn (ha.run pos pins s σ H _ I (rd_len hl h)) fun us s1 ⟨vs, H1, I1, r, hn, q⟩ => ⟨I1.kIn, q us [] s1 I1 (by rw [List.append_nil]; exact r) (by rw [← r.length]; exact hn) rfl⟩) he hpl⟩
/-- none -/
theorem pc_nil : PCW X ca W [] [] pos 0 [] mNil :=
  ⟨fun pins s σ H f first Q I hk ⟨ms, ρ, μ, e, r, h⟩ => PySem.W.callWith_K0 I.kIn hk (Af.at (a := ([] : List U)) (v := ([] : List V)) h r ⟨rfl, fun i x v h1 => by simp at h1⟩ [] [] s I .nil rfl rfl)⟩
/-- by keyword -/
theorem pc_kw {ks : List Str} (hkw : PK X kws (rdA X.K ca W mk)) (hl : LenL mk ks.length := by repeat' first | exact len_nil | refine len_cons ?_) (hall : (backToKw pos (keywordEach kws X.env)).all (·.1.isSome) = true := by rfl)
    (hks : (backToKw pos (keywordEach kws X.env)).filterMap (·.1) = ks := by rfl) (hpl : ((backTo pos (starEach [] X.env)).any (·.1) || (backToKw pos (keywordEach kws X.env)).any (·.1.isNone)) = false := by rfl) : PCW X ca W [] kws pos 0 ks mk :=
  ⟨fun pins s σ H f first Q I hk h => PySem.W.callWith_KW0 (h₀ := X.base) I.ok.mod.kin hk hall (thn (hkw.run pos pins s σ H _ I (rd_len hl h)) fun ws s1 ⟨vs, H1, I1, r, hn, q⟩ => ⟨I1.kIn, by
    rw [hks]
    exact q [] ws s1 I1 r rfl (by rw [← r.length]; exact hn)⟩) hpl⟩
/-- o.m(..): by the class of o -/
def mMt (m : Str) (tb : Nat → Option (MF × Sel)) (mo : MD) (ml : ML) : MD := fun ρ μ => (mo ρ μ).bind fun o μ1 => match objAt μ1 o with
  | some (c, fs) => match fs.lookup m, tb c with
    | none, some (mf, sel) => (ml ρ μ1).bind fun us μ2 => mf (gU sel (o :: us)) μ2
    | _, _ => .stuck
  | none => .stuck
/-- what a class's method must be -/
structure MtF (X : Cx) (ca : Nat → Addr) (k : Nat) (C : Addr) (m : Str) (np : Nat) (ks : List Str) (mf : MF) (sel : Sel) : Prop where
  cl : Cls X.K C
  ex : ∃ f fd ps, Meth X.K C m f ∧ FnG X.prog X.w X.K X.mg X.base k f fd ps (spD X.K ca ps.length mf) ∧ Bd X.K ca fd ps (np + 1) ks sel
theorem re_mt {k : Nat} {m : Str} {tb : Nat → Option (MF × Sel)} {o : Expr} {mo : MD} {np : Nat} {ks : List Str} {apos : Pos} {pl : Sem Bool} (T : ∀ c mf sel, tb c = some (mf, sel) → MtF X ca k (ca c) m np ks mf sel) (hr : Room k X.A) (gd : X.A.guards = some []) (tk : Takes X W) (ho : PE X o (rdE X.K ca W mo))
    (hc : PCW X ca W es kws pos np ks ml)
    (ht : eval (.Call (.Attribute o m apos) es kws pos) X.env = (do
      let ov ← eval o X.env
      standAt apos.atName
      let (f, first) ← holding [ov] (getMethod ov m pl)
      callWith pos f first (backTo pos (starEach es X.env)) (backToKw pos (keywordEach kws X.env))) := by rfl) : PE X (.Call (.Attribute o m apos) es kws pos) (rdE X.K ca W (mMt m tb mo ml)) := by
  refine ⟨fun pins s σ H Q I ⟨ms, ρ, μ, en, r, h⟩ => ?_⟩
  rw [ht]
  refine wpAny_bind (thn (ho.run pins s σ H (fun v H1 => ∃ u ms1 μ1, Keep X.K ca ms H ms1 H1 ∧ RelM X.K ca μ1 ms1 H1 ∧ RepU X.K ca ms1 H1 u v ∧ Af X.K ca (RepU X.K ca) W σ ms1 H1 (match objAt μ1 u with | some (c, fs) => (match fs.lookup m, tb c with | none, some (mf, sel) => (ml ρ μ1).bind fun us μ2 => mf (gU sel (u :: us)) μ2 | _, _ => .stuck) | none => .stuck) Q) I
    (af_bind en r h fun u μ1 v H1 ms1 k1 r1 p1 h1 => ⟨u, ms1, μ1, k1, r1, p1, h1⟩)) fun w s1 ⟨v, H1, I1, rv, u, ms1, μ1, k1, r1, p1, h1⟩ => wpAny_bind (wpAny_standAt ?_))
  split at h1
  · rename_i c fs hob
    split at h1
    · rename_i mf sel hl htb
      obtain ⟨a, dx, gs, rfl, ha, l⟩ := obj_at r1 p1 hob
      obtain ⟨cl, f, fd, ps, hm, F, B⟩ := T c mf sel htb
      obtain rfl : w = Value.ref a := rv
      refine wpAny_bind (wpAny_holding (getmeth_ok I1 ha cl hm (l.none hl) ?_))
      refine hc.run pins s1 σ H1 (.ref f) [.ref a] _ I1 hm.kp (af_bind (en.keep k1) r1 h1 fun us μ2 vs H2 ms2 k2 r2 p2 h2 => fun xs ws s2 I2 rv2 hu hw => ?_)
      exact call_fnK (us := .ref a :: xs) (vs := .ref a :: vs) F hr gd tk B I2 (.cons rfl rv2) (by simp [hu]) hw ⟨u :: us, ms2, μ2, r2, RepUL.cons (k2.all _ _ p1) p2, h2⟩
    · exact (show False from h1).elim
  · exact (show False from h1).elim
end
end Dv
namespace Dv
open PySem L2 PySem.W
/-! ### an instance that changes no more is told by its contents -/
def downF : List (Str × U) → Option (List (Str × D))
  | [] => some []
  | (f, .d x) :: r => (downF r).bind fun ds => some ((f, x) :: ds)
  | (_, .cell _) :: _ => none
def isCell (n : Nat) : U → Bool
  | .cell m => m == n
  | _ => false
def noRef (n : Nat) (μ : Mem) : Bool := μ.all fun c => match c with
  | some (.obj _ fs) => fs.all fun p => !isCell n p.2
  | _ => true
def Ms.gone (ms : Ms) (n : Nat) : Ms := { ms with cs := ms.cs.set n none }
section
variable {K : Frag} {ca : Nat → Addr} {ms : Ms} {H : Hp} {μ : Mem}
theorem gone_in {n : Nat} {a : Addr} (h : (ms.gone n).In a) : ms.In a := by
  rcases h with h | h
  · obtain ⟨i, hi⟩ := List.getElem?_of_mem h
    have hi : (ms.cs.set n none)[i]? = some (some a) := hi
    by_cases e : i = n
    · subst e
      by_cases hl : i < ms.cs.length
      · rw [List.getElem?_set_self hl] at hi; cases hi
      · rw [List.getElem?_eq_none (by simpa using hl)] at hi; cases hi
    · rw [List.getElem?_set_ne (Ne.symm e)] at hi
      exact .inl (List.mem_of_getElem? hi)
  · exact .inr h
theorem gone_at {n m : Nat} {a : Addr} (h : (ms.gone n).cs[m]? = some (some a)) : m ≠ n ∧ ms.cs[m]? = some (some a) := by
  have h : (ms.cs.set n none)[m]? = some (some a) := h
  by_cases e : m = n
  · subst e
    by_cases hl : m < ms.cs.length
    · rw [List.getElem?_set_self hl] at h; cases h
    · rw [List.getElem?_eq_none (by simpa using hl)] at h; cases h
  · rw [List.getElem?_set_ne (Ne.symm e)] at h
    exact ⟨e, h⟩
theorem gone_of {n m : Nat} {a : Option Addr} (e : m ≠ n) (h : ms.cs[m]? = some a) : (ms.gone n).cs[m]? = some a := by
  show (ms.cs.set n none)[m]? = _
  rw [List.getElem?_set_ne (Ne.symm e)]
  exact h
theorem RepU.gone {n : Nat} {u : U} {v : V} (p : RepU K ca ms H u v) (h : isCell n u = false) : RepU K ca (ms.gone n) H u v := by
  cases u with
  | d x => exact Rep.mono p (fun a o q _ => q) fun a z => .inl (gone_in z)
  | cell m =>
    obtain ⟨a, e, q⟩ := p
    have ne : m ≠ n := by simpa [isCell] using h
    exact ⟨a, e, q.imp (gone_of ne) (gone_of ne)⟩
theorem downF_at : ∀ {fs : List (Str × U)} {ds : List (Str × D)}, downF fs = some ds → fs = upF ds
  | [], ds, h => by cases h; rfl
  | (f, .d x) :: r, ds, h => by
    unfold downF at h
    cases q : downF r with
    | none => rw [q] at h; cases h
    | some es =>
      rw [q] at h
      simp only [Option.bind_some, Option.some.injEq] at h
      subst h
      rw [downF_at q]
      rfl
  | (_, .cell _) :: _, _, h => by cases h
theorem RelM.freeze {n : Nat} {c : Nat} {fs : List (Str × U)} {ds : List (Str × D)} {a : Addr} (r : RelM K ca μ ms H) (hm : μ[n]? = some (some (.obj c fs))) (hd : downF fs = some ds) (nr : noRef n μ = true) (ha : ms.cs[n]? = some (some a)) :
    RelM K ca (μ.set n none) (ms.gone n) H ∧ Rep K ca (ms.gone n) H (.obj c ds) (.ref a) := by
  have out : ¬ (ms.gone n).In a := fun z => by
    rcases z with z | z
    · obtain ⟨i, hi⟩ := List.getElem?_of_mem z
      obtain ⟨ne, q⟩ := gone_at hi
      exact ne (r.apart i n a q ha)
    · exact r.sep n a ha z
  refine ⟨⟨by simp [Ms.gone, r.len], fun m c' h => ?_, fun m b h => ?_, fun i j b h1 h2 => r.apart i j b (gone_at h1).2 (gone_at h2).2, r.hidden, fun m b h => r.sep m b (gone_at h).2, ⟨rfl, rfl⟩⟩, ?_⟩
  · have ne : m ≠ n := by
      rintro rfl
      by_cases hl : m < μ.length
      · rw [List.getElem?_set_self hl] at h; cases h
      · rw [List.getElem?_eq_none (by simpa using hl)] at h; cases h
    rw [List.getElem?_set_ne (Ne.symm ne)] at h
    obtain ⟨b, q, z⟩ := r.live m c' h
    refine ⟨b, gone_of ne q, ?_⟩
    cases c' with
    | lst xs =>
      obtain ⟨vs, s, l⟩ := z
      exact ⟨vs, s, l.1, fun i x v h1 h2 => RepU.gone (u := .d x) (l.2 i x v h1 h2) rfl⟩
    | obj c2 gs =>
      obtain ⟨dx, ws, s, l1, l2⟩ := z
      refine ⟨dx, ws, s, l1, fun i x v h1 h2 => RepU.gone (l2 i x v h1 h2) ?_⟩
      have z1 := List.all_eq_true.mp nr _ (List.mem_of_getElem? h)
      have z2 := List.all_eq_true.mp z1 x (List.mem_of_getElem? h1)
      simpa using z2
  · obtain ⟨ne, q⟩ := gone_at h
    obtain ⟨c', z⟩ := r.dead m b q
    exact ⟨c', by rw [List.getElem?_set_ne (Ne.symm ne)]; exact z⟩
  · obtain ⟨b, e1, dx, gs, s, l1, l2⟩ := r.live n _ hm
    rw [ha] at e1
    cases e1
    have e := downF_at hd
    subst e
    refine .obj s out (by rw [← l1]; unfold upF; rw [List.map_map]; rfl) fun i x v h1 h2 => ?_
    exact RepU.gone (u := .d x.2) (n := n) (l2 i (x.1, .d x.2) v (by unfold upF; rw [List.getElem?_map, h1]; rfl) h2) rfl
end
def frzU (n : Nat) (μ : Mem) : R U := match μ[n]? with
  | some (some (.obj c fs)) => match downF fs with
    | some ds => if noRef n μ then .val (.d (.obj c ds)) (μ.set n none) else .stuck
    | none => .stuck
  | _ => .stuck
/-- C(..): __init__ runs on a new cell; then it is frozen, or stays a cell -/
def mkU (c : Nat) (fr : Bool) (mf : MF) (sel : Sel) (us : List U) (μ : Mem) : R U := match mf (gU sel (.cell μ.length :: us)) (μ ++ [some (.obj c [])]) with
  | .val (.d .non) μ2 => if fr then frzU μ.length μ2 else .val (.cell μ.length) μ2
  | .exc k fs μ2 => .exc k fs μ2
  | _ => .stuck
def mMk (c : Nat) (fr : Bool) (mf : MF) (sel : Sel) (ml : ML) : MD := fun ρ μ => (ml ρ μ).bind fun us μ1 => mkU c fr mf sel us μ1
/-- what a class must be, to be made -/
structure MkF (X : Cx) (ca : Nat → Addr) (k : Nat) (C : Addr) (np : Nat) (ks : List Str) (mf : MF) (sel : Sel) : Prop where
  ex : ∃ f fd ps, Mk X.K C f ∧ FnG X.prog X.w X.K X.mg X.base k f fd ps (spD X.K ca ps.length mf) ∧ Bd X.K ca fd ps (np + 1) ks sel
section
variable {X : Cx} {ca : Nat → Addr} {W : WX} {pos : Pos} {es : List Expr} {kws : List Keyword} {ml : ML}
theorem run_mk {k : Nat} {c np : Nat} {ks : List Str} {fr : Bool} {mf : MF} {sel : Sel} {pins : List (Addr × Obj)} {σ : St} {H : Hp} {s : Shared} {Q : VK} {us : List U} {vs : List V} {xs ws : List Value} {ms : Ms} {μ : Mem}
    (M : MkF X ca k (ca c) np ks mf sel) (hr : Room (k + 1) X.A) (gd : X.A.guards = some []) (tk : Takes X W) (I : Inv X pins σ H s) (r : RelM X.K ca μ ms H) (l : RepUL X.K ca ms H us vs) (rv : Vals vs (xs ++ ws)) (hu : xs.length = np) (hw : ws.length = ks.length)
    (h : Af X.K ca (RepU X.K ca) W σ ms H (mkU c fr mf sel us μ) Q) : wpAny (model X.prog X.w) X.A (call (.ref (ca c)) xs (ks.zip ws)) (EP X pins σ Q) X.xe s := by
  obtain ⟨f, fd, ps, M, F, B⟩ := M.ex
  have fx : H (s.heap.objs.size + 1) = none := I.hok.fresh (Nat.le_succ _)
  have fd0 : H s.heap.objs.size = none := I.hok.fresh (Nat.le_refl _)
  have ne : s.heap.objs.size ≠ s.heap.objs.size + 1 := Nat.ne_of_lt (Nat.lt_succ_self _)
  have I2 := Inv.made (C := ca c) I
  have sm : Same H (upd (upd H s.heap.objs.size (.own (s.heap.objs.size + 1))) (s.heap.objs.size + 1) (.ins (ca c) s.heap.objs.size [])) := fun b o q => same_new (by rw [upd_ne (Ne.symm ne)]; exact fx) b o (same_new fd0 b o q)
  obtain ⟨k2, r2⟩ := r.newC (p := s.heap.objs.size + 1) (c := .obj c []) fx sm fun _ => ⟨_, [], upd_same, rfl, fun i x v h => by simp at h⟩
  have pself : RepU X.K ca (ms.more (s.heap.objs.size + 1)) (upd (upd H s.heap.objs.size (.own (s.heap.objs.size + 1))) (s.heap.objs.size + 1) (.ins (ca c) s.heap.objs.size [])) (.cell μ.length) (.ref (s.heap.objs.size + 1)) :=
    ⟨_, rfl, .inl (by show (ms.cs ++ [some _])[μ.length]? = _; rw [r.len]; simp)⟩
  have l2 := RepUL.cons pself (k2.ulist l)
  have rv2 : Vals (V.ref (s.heap.objs.size + 1) :: vs) (Value.ref (s.heap.objs.size + 1) :: (xs ++ ws)) := .cons rfl rv
  have lv : (V.ref (s.heap.objs.size + 1) :: vs).length = np + 1 + ks.length := by
    rw [List.length_cons, rv.length, List.length_append, hu, hw]
    omega
  have ok : SelOk X.K ca sel (V.ref (s.heap.objs.size + 1) :: vs).length := by rw [lv]; exact B.ok
  have say : spD X.K ca ps.length mf (gV sel (V.ref (s.heap.objs.size + 1) :: vs)) _ (fun v H2 => v = .non ∧ Q (.ref (s.heap.objs.size + 1)) H2) (WE W σ) := spD_of (n := 0) ok B.len ⟨_, _, _, r2, l2, by
    unfold mkU at h
    cases hm : mf (gU sel (.cell μ.length :: us)) (μ ++ [some (.obj c [])]) with
    | stuck => rw [hm] at h; exact (show False from h).elim
    | exc k fs μ2 =>
      rw [hm] at h
      exact fun d H' ms' k' r' e' => h d H' ms' (k2.trans k') r' e'
    | val u μ2 =>
      rw [hm] at h
      cases u with
      | cell m => exact (show False from h).elim
      | d x =>
        cases x with
        | non =>
          intro v H' ms' k' r' p'
          cases (show Rep X.K ca ms' H' .non v from p')
          refine ⟨rfl, ?_⟩
          have ps' := k'.all _ _ pself
          cases fr with
          | false => exact h _ H' ms' (k2.trans k') r' ps'
          | true =>
            simp only [if_true] at h
            unfold frzU at h
            split at h
            · rename_i c' fs hn
              split at h
              · rename_i ds hds
                split at h
                · rename_i nr
                  obtain ⟨a, ea, qa⟩ := r'.lives ps' hn
                  cases ea
                  obtain ⟨r3, p3⟩ := r'.freeze hn hds nr qa
                  refine h _ H' (ms'.gone μ.length) ⟨fun u v p => ?_, (k2.trans k').hid, (k2.trans k').same, ⟨(k2.trans k').ol.old, fun a z => (k2.trans k').ol.new a (gone_in z)⟩⟩ r3 p3
                  refine RepU.gone ((k2.trans k').all _ _ p) ?_
                  cases u with
                  | d x => rfl
                  | cell m =>
                    obtain ⟨a, _, q⟩ := p
                    have : m < ms.cs.length := by rcases q with q | q <;> exact (List.getElem?_eq_some_iff.mp q).1
                    rw [← r.len] at this
                    simp only [isCell, beq_eq_false_iff_ne]
                    omega
                · exact (show False from h).elim
              · exact (show False from h).elim
            · exact (show False from h).elim
        | _ => exact (show False from h).elim⟩
  refine wpAny_call (make_map (f := f) I.kIn M.makes M.init (beq_iff_eq.mp M.fn) (codeAny_mono (F.go _ X.stack _ _ ⟨Value.ref (s.heap.objs.size + 1) :: xs, ks.zip ws⟩ (gW sel (Value.ref (s.heap.objs.size + 1) :: (xs ++ ws))) _ _ (WE W σ) (hr.make (ca c) xs (ks.zip ws)) gd
    (I2.env0.make (ca c) xs (ks.zip ws)) (B.to _ (Value.ref (s.heap.objs.size + 1) :: xs) ws I2.kIn (by simp [hu]) hw) (vals_sel rv2 ok) say) fun res s' end_ => ?_))
  cases res with
  | error er => exact passAt tk σ pins _ _ er s' I2 end_
  | ok way =>
    cases way with
    | ret u =>
      obtain ⟨v, H', I3, rr, ev, q3⟩ := I2.after end_
      subst ev
      exact ⟨rr, ⟨V.ref (s.heap.objs.size + 1), H', I3, rfl, q3⟩⟩
    | next => exact False.elim end_
    | brk => exact False.elim end_
    | cont => exact False.elim end_
theorem re_mk {k : Nat} {c np : Nat} {ks : List Str} {fr : Bool} {mf : MF} {sel : Sel} {x : Str} {p : Pos} (M : MkF X ca k (ca c) np ks mf sel) (hr : Room (k + 1) X.A) (gd : X.A.guards = some []) (tk : Takes X W) (hm : X.mg x = some (.ref (ca c))) (hk : keepIn X.K (.ref (ca c)) = true)
    (hc : PCW X ca W es kws pos np ks ml) (hg : Gl X x := by rfl) (hdb : (x == ("__debug__" : Str)) = false := by decide) : PE X (.Call (.Name x p) es kws pos) (rdE X.K ca W (mMk c fr mf sel ml)) := by
  refine ⟨fun pins s σ H Q I ⟨ms, ρ, μ, en, r, h⟩ => wpAny_Call_Name_kw (ld_glob I hg hm ?_ hdb)⟩
  exact hc.run pins s σ H (.ref (ca c)) [] _ I hk (af_bind en r h fun us μ1 vs H1 ms1 k1 r1 p1 h1 => fun xs ws s1 I1 rv hu hw => run_mk M hr gd tk I1 r1 p1 rv hu hw h1)
end
end Dv
namespace Dv
open PySem L2 PySem.W PyProof.Rows
/-! ### a def that closes over __class__ -/
abbrev clsN : Str := "__class__"
theorem cells_app (cc : Addr) : ∀ (names : List (Str × NameKind)) (n : Nat) (acc : List (Str × Addr)), cellsFrom n names (acc ++ [(clsN, cc)]) = cellsFrom n names acc ++ [(clsN, cc)]
  | [], _, _ => rfl
  | (x, k) :: r, n, acc => by
    unfold cellsFrom
    split
    · exact cells_app cc r (n + 1) ((x, n) :: acc)
    · exact cells_app cc r n acc
abbrev cellsS (L : Addr) (scope : Scope) (cc : Addr) : List (Str × Addr) := cellsFrom (L + 1) scope.names [] ++ [(clsN, cc)]
theorem look_app {l : List (Str × Addr)} {cc : Addr} {x : Str} (h : x ≠ clsN) : (l ++ [(clsN, cc)]).lookup x = l.lookup x := by
  rw [List.lookup_append]
  have e : (x == clsN) = false := beq_false_of_ne h
  cases l.lookup x <;> simp [List.lookup, e]
abbrev envS (qual : Str) (scope : Scope) (L a : Addr) (cd : Value) (cc : Addr) : PySem.Env := envX qual scope L a cd (cellsS L scope cc)
/-- storing goes to the same place -/
theorem store_same {qual : Str} {scope : Scope} {L a cc : Addr} {cd : Value} {x : Str} {v : Value} (h : x ≠ clsN) : storeName (envS qual scope L a cd cc) x v = storeName (envOfC qual scope L a cd) x v := by
  unfold storeName PySem.cellOf
  show _ = _
  have e : (envS qual scope L a cd cc).cells.lookup x = (envOfC qual scope L a cd).cells.lookup x := look_app h
  simp only [show (envS qual scope L a cd cc).kindOf x = (envOfC qual scope L a cd).kindOf x from rfl, e]
  rfl
theorem forIn_same {β : Type} {f g : Str × Value → β → Sem (ForInStep β)} : ∀ (l : List (Str × Value)) (b : β), (∀ x ∈ l, ∀ b, f x b = g x b) → forIn l b f = forIn l b g
  | [], b, _ => rfl
  | x :: r, b, h => by
    rw [List.forIn_cons, List.forIn_cons, h x List.mem_cons_self]
    congr 1
    funext z
    cases z with
    | done b' => rfl
    | yield b' => exact forIn_same r b' fun y hy => h y (List.mem_cons_of_mem _ hy)
theorem new_envS {M : Model} {A : Around} {E : Value → Shared → Prop} {s : Shared} {scope : Scope} {binds : List (Str × Value)} {qual : Str} {a cc : Addr} {cd : Value} {Q : PySem.Env → Shared → Prop} (hk : scope.kind = .function)
    (hkind : ∀ x ∈ binds, scope.names.lookup x.1 = some .local ∨ (scope.names.lookup x.1 = some .cell ∧ ((cellsFrom (s.heap.objs.size + 1) scope.names []).lookup x.1).isSome = true)) (hne : ∀ x ∈ binds, x.1 ≠ clsN)
    (hQ : ∀ s', InCallC s s.heap.objs.size (bindL (envOfC qual scope s.heap.objs.size a cd).kindOf binds fun _ => none) (cellsFrom (s.heap.objs.size + 1) scope.names []) (bindC (envOfC qual scope s.heap.objs.size a cd).kindOf binds fun _ => none) s' → Q (envS qual scope s.heap.objs.size a cd cc) s') :
    wpAny M A (newFunctionEnv scope mainGlobals [(clsN, cc)] binds (qual ++ ".<locals>.") (some a) cd none builtinsNs) Q E s := by
  simp only [newFunctionEnv, Option.isSome_none, Bool.false_eq_true, if_false]
  refine wpAny_bind (wpAny_alloc ?_)
  refine wpAny_bind (wpAny_layCells _ (fun name kind cells => by cases hkc : kind == NameKind.cell <;> simp [hkc]) _ _ _ _ ?_)
  have ok := cellsFrom_ok scope.names (s.heap.push { cls := .type "frame", data := .dict #[] }) (s.heap.objs.size + 1) [] ⟨fun _ _ hm => (nomatch hm), List.Pairwise.nil⟩ (by rw [Heap.size_push]; exact Nat.le_refl _)
  rw [Heap.size_push] at ok
  rw [show ({ s with heap := s.heap.push { cls := .type "frame", data := .dict #[] } } : Shared).heap.objs.size = s.heap.objs.size + 1 from Heap.size_push .., show cellsFrom (s.heap.objs.size + 1) scope.names [(clsN, cc)] = cellsS s.heap.objs.size scope cc from cells_app cc scope.names _ []]
  refine wpAny_bind ?_
  rw [forIn_same (g := fun (x : Str × Value) (_ : PUnit) => (do storeName (envOfC qual scope s.heap.objs.size a cd) x.1 x.2; pure (ForInStep.yield PUnit.unit) : Sem (ForInStep PUnit))) binds _ fun x hx b => by
    show (do storeName (envS qual scope s.heap.objs.size a cd cc) x.1 x.2; pure (ForInStep.yield PUnit.unit) : Sem (ForInStep PUnit)) = _
    rw [store_same (hne x hx)]]
  refine wpAny_bindParams (s₀ := s) (env := envOfC qual scope s.heap.objs.size a cd) _ (fun _ _ _ => rfl) hk binds (fun _ => none) (fun _ => none) _ _
    ⟨⟨⟨_, _, rfl⟩, (Heap.Ns.new s.heap (.type "frame")).keeps (pushCells_keeps _ _), fun b o e => pushCells_keeps _ _ b o (Heap.get?_push_of_some _ e), Nat.le_refl _⟩,
      fun n c hc => (ok.empty n c (mem_of_lookup hc)).1, ok.apart, fun n c hm => (ok.empty n c hm).2⟩
    hkind fun s' x => wpAny_pure (hQ s' x)
theorem mem_cells {x : Str} {c : Addr} : ∀ (names : List (Str × NameKind)) (n : Nat) (acc : List (Str × Addr)), (x, c) ∈ cellsFrom n names acc → (x, NameKind.cell) ∈ names ∨ (x, c) ∈ acc
  | [], _, _, h => .inr h
  | (y, k) :: r, n, acc, h => by
    unfold cellsFrom at h
    split at h
    · rename_i hk
      rcases mem_cells r (n + 1) _ h with z | z
      · exact .inl (List.mem_cons_of_mem _ z)
      · rcases List.mem_cons.mp z with z | z
        · cases z
          have : k = .cell := by cases k <;> first | rfl | cases hk
          subst this
          exact .inl List.mem_cons_self
        · exact .inr z
    · rcases mem_cells r n acc h with z | z
      · exact .inl (List.mem_cons_of_mem _ z)
      · exact .inr z
/-- names, parameters of such a def -/
structure ScS (N P : List Str) (sc : Scope) : Prop where
  kind : sc.kind = .function
  co : sc.isCoroutine = false
  gen : sc.isGenerator = false
  nd : N.Nodup
  pre : N.take P.length = P
  par : ∀ x ∈ P, sc.names.lookup x = some .local ∨ sc.names.lookup x = some .cell
  free : ∀ y ∈ sc.names, y.2 = .free → y.1 = clsN
  fr : sc.names.lookup clsN = some .free
  nocl : (clsN, NameKind.cell) ∉ sc.names
  ncls : clsN ∉ N
def cxS (P : Program) (w : World) (K : Frag) (mg : Str → Option Value) (base : Heap) (N : List Str) (qual : Str) (scope : Scope) (f : Addr) (cd : Value) (cc : Addr) (A : Around) (outer : List PySem.Env) (s : Shared) (H : Hp) (E : XK) : Cx where
  prog := P
  w := w
  K := K
  mg := mg
  base := base
  A := A.deeper (envS qual scope s.heap.objs.size f cd cc)
  N := N
  s_0 := s
  H_0 := H
  env := envS qual scope s.heap.objs.size f cd cc
  outer := outer
  stack := envS qual scope s.heap.objs.size f cd cc :: outer
  ex := []
  calm := true
  fn := fun x => !(x == clsN)
  pn := []
  xe := fun e s' => wpAny (model P w) (A.deeper (envS qual scope s.heap.objs.size f cd cc)) (leaving (envS qual scope s.heap.objs.size f cd cc) e) (fun _ s'' => L2.CX P w outer H s E e s'') (fun e' s'' => L2.CX P w outer H s E e' s'') s'
theorem inv_startS {P : Program} {w : World} {K : Frag} {mg : Str → Option Value} {base : Heap} {N ps : List Str} {qual : Str} {scope : Scope} {f cc : Addr} {cd : Value} {A : Around} {outer : List PySem.Env} {s s1 : Shared} {H : Hp} {E : XK} {us : List Value} {vs : List V} {cv : Option Value} {co : Obj}
    (S : ScS N ps scope) (hd : A.handled = none) (e0 : Env0 P w K mg base A outer s H) (hl : vs.length = ps.length) (r : Vals vs us) (hc : K.lookup cc = some co) (hcd : co.data = .cell cv)
    (x : InCallC s s.heap.objs.size (bindL (envOfC qual scope s.heap.objs.size f cd).kindOf (ps.zip us) fun _ => none) (cellsFrom (s.heap.objs.size + 1) scope.names []) (bindC (envOfC qual scope s.heap.objs.size f cd).kindOf (ps.zip us) fun _ => none) s1) :
    Inv (cxS P w K mg base N qual scope f cd cc A outer s H E) [] (L2.start N vs) H s1 := by
  have hpl : ps.length ≤ N.length := by have := congrArg List.length S.pre; rw [List.length_take] at this; omega
  obtain ⟨h1, tk, rfl, kp⟩ := x.done
  have noA : ∀ b : Addr, b ∉ (cxS P w K mg base N qual scope f cd cc A outer s H E).ex := fun b z => absurd (show b ∈ ([] : List Addr) from z) (by simp)
  have bc := e0.mod.kin _ _ hc
  obtain ⟨sc1, sc2⟩ := e0.bs _ _ bc
  have ccLt : cc < s.heap.objs.size := Heap.lt_size sc1
  have split : ∀ y c, (cellsS s.heap.objs.size scope cc).lookup y = some c → (y ≠ clsN ∧ (cellsFrom (s.heap.objs.size + 1) scope.names []).lookup y = some c ∧ s.heap.objs.size < c) ∨ c = cc := fun y c h => by
    have m := PySem.mem_of_lookup h
    rcases List.mem_append.mp m with m | m
    · by_cases e : y = clsN
      · subst e
        rw [List.lookup_append] at h
        cases q : (cellsFrom (s.heap.objs.size + 1) scope.names []).lookup clsN with
        | none =>
          rw [q] at h
          simp [List.lookup] at h
          exact .inr h.symm
        | some z =>
          exfalso
          rcases mem_cells scope.names _ [] (PySem.mem_of_lookup q) with z | z
          · exact S.nocl z
          · cases z
      · rw [look_app e] at h
        exact .inl ⟨e, h, x.above y c (PySem.mem_of_lookup h)⟩
    · simp only [List.mem_singleton, Prod.mk.injEq] at m
      exact .inr m.2
  have own : ∀ y c, y ≠ clsN → (cellsFrom (s.heap.objs.size + 1) scope.names []).lookup y = some c → (cellsS s.heap.objs.size scope cc).lookup y = some c := fun y c e h => by rw [look_app e]; exact h
  have isC : h1.IsCell cc cv := ⟨co, kp _ _ sc1, hcd⟩
  refine ⟨⟨e0.mod, S.kind, rfl, rfl, Nat.le_refl _, fun y z c q1 q2 => ?_, fun y hy => ?_, fun y c z h => ?_, fun _ => hd, Around.frames_deeper e0.frames, .inr ⟨rfl, rfl⟩, fun b z => absurd z (noA b), e0.bs, e0.bsz, fun b _ _ => noA b, fun b z => absurd z (noA b), e0.funs, e0.frf⟩,
    rfl, e0.bare, Un.kept kp, ⟨_, x.toInCall.ns, fun i y v q1 q2 q3 => ?_⟩, fun y c h => ?_, e0.hok.fresh (Nat.le_refl _), fun y c h => ?_, fun p hp => absurd (show p ∈ ([] : List (Addr × Obj)) from hp) (by simp), e0.hok.kept kp, ?_⟩
  · rcases split y c q1 with ⟨n1, a1, b1⟩ | rfl
    · rcases split z c q2 with ⟨n2, a2, b2⟩ | rfl
      · exact name_of_addr x.apart (PySem.mem_of_lookup a1) (PySem.mem_of_lookup a2)
      · exact absurd (Nat.lt_trans ccLt b1) (Nat.lt_irrefl _)
    · have only : ∀ y, (cellsS s.heap.objs.size scope c).lookup y = some c → y = clsN := fun y h => by
        rcases Decidable.em (y = clsN) with e | e
        · exact e
        · rw [look_app e] at h
          exact absurd (Nat.lt_trans ccLt (x.above y c (PySem.mem_of_lookup h))) (Nat.lt_irrefl _)
      rw [only y q1, only z q2]
  · have hy : scope.names.lookup y = some .cell ∨ scope.names.lookup y = some .free := hy
    rcases hy with hy | hy
    · obtain ⟨c, e⟩ := cell_has (n := s.heap.objs.size + 1) hy
      have ny : y ≠ clsN := by
        rintro rfl
        rw [S.fr] at hy
        cases hy
      exact ⟨c, own y c ny e⟩
    · have e := S.free _ (PySem.mem_of_lookup hy) rfl
      have e : y = clsN := e
      subst e
      cases q : (cellsFrom (s.heap.objs.size + 1) scope.names []).lookup clsN with
      | some z =>
        exfalso
        rcases mem_cells scope.names _ [] (PySem.mem_of_lookup q) with z | z
        · exact S.nocl z
        · cases z
      | none => exact ⟨cc, by show (cellsFrom (s.heap.objs.size + 1) scope.names [] ++ [(clsN, cc)]).lookup clsN = _; rw [List.lookup_append, q]; simp [List.lookup]⟩
  · have ny : y ≠ clsN := by
      rintro rfl
      have z : (!(clsN == clsN)) = true := z
      simp at z
    have h : (cellsS s.heap.objs.size scope cc).lookup y = some c := h
    rw [look_app ny] at h
    exact Nat.le_of_lt (x.above y c (PySem.mem_of_lookup h))
  · have q1 : N[i]? = some y := q1
    have hi : i < vs.length := by
      unfold L2.start at q2
      by_cases hi : i < vs.length
      · exact hi
      · rw [List.getElem?_append_right (by simpa using hi), List.getElem?_replicate] at q2
        split at q2 <;> cases q2
    have ha : vs[i]? = some v := by
      unfold L2.start at q2
      rw [List.getElem?_append_left (by simpa using hi), List.getElem?_map] at q2
      cases e : vs[i]? with
      | none => rw [e] at q2; cases q2
      | some a => rw [e] at q2; cases q2; rfl
    obtain ⟨u, hu, rv⟩ := r.get ha
    have hp : ps[i]? = some y := by
      rw [← S.pre, List.getElem?_take_of_lt (by omega)]; exact q1
    have ndP : ps.Nodup := by rw [← S.pre]; exact S.nd.sublist (List.take_sublist _ _)
    have ny : y ≠ clsN := fun e => S.ncls (e ▸ List.mem_of_getElem? q1)
    refine ⟨u, rv, ?_⟩
    rcases S.par y (List.mem_of_getElem? hp) with k | k
    · exact .inl ⟨k, bindL_get ndP hp hu k⟩
    · obtain ⟨c, e⟩ := cell_has (n := s.heap.objs.size + 1) k
      refine .inr ⟨.inl k, c, own y c ny e, ?_⟩
      have q := x.cell y c e
      rw [bindC_get ndP hp hu (by show scope.names.lookup y ≠ _; rw [k]; decide)] at q
      exact q
  · rcases split y c h with ⟨n1, a1, b1⟩ | rfl
    · exact ⟨_, x.cell y c a1⟩
    · exact ⟨cv, isC⟩
  · rcases split y c h with ⟨n1, a1, b1⟩ | rfl
    · exact e0.hok.fresh (Nat.le_of_lt b1)
    · exact sc2
  · unfold L2.start
    show _ = N.length
    rw [List.length_append, List.length_map, List.length_replicate]
    omega
end Dv
namespace Dv
open PySem L2 PySem.W PySem.DvX
open PyProof.Rows (envOfC)
theorem inv_pinned {X : Cx} {pins : List (Addr × Obj)} {σ : St} {H : Hp} {s : Shared} {q : Addr} {o : Obj} (I : L2.Inv X pins σ H s) (e : s.heap.get? q = some o) (hn : H q = none) (hl : q ≠ X.env.locals) (hf : q ∉ X.fs) (hd : ∀ v, o.data ≠ .cell v) : L2.Inv X ((q, o) :: pins) σ H s :=
  ⟨I.ok, I.os, I.bare, I.base, I.loc, I.cell, I.free, I.freeC, fun p hp => by
    rcases List.mem_append.mp hp with h | h
    · exact I.pin p (List.mem_append_left _ h)
    · rcases List.mem_cons.mp h with rfl | h
      · exact ⟨e, hn, hl, hf, hd⟩
      · exact I.pin p (List.mem_append_right _ h), I.hok, I.len⟩
theorem inv_unpin {X : Cx} {pins : List (Addr × Obj)} {σ : St} {H : Hp} {s : Shared} {q : Addr × Obj} (I : L2.Inv X (q :: pins) σ H s) : L2.Inv X pins σ H s :=
  ⟨I.ok, I.os, I.bare, I.base, I.loc, I.cell, I.free, I.freeC, fun p hp => by
    rcases List.mem_append.mp hp with h | h
    · exact I.pin p (List.mem_append_left _ h)
    · exact I.pin p (List.mem_append_right _ (List.mem_cons_of_mem _ h)), I.hok, I.len⟩
theorem execs_app {env : PySem.Env} {post : List Stmt} : ∀ (pre : List Stmt), execs (pre ++ post) env = (execs pre env >>= fun f => match f with | .next => execs post env | f => pure f)
  | [] => by
    rw [execs_nil, pure_bind]
    rfl
  | st :: pre => by
    rw [List.cons_append, execs_cons, execs_cons, bind_assoc]
    congr 1
    funext f
    cases f with
    | next => exact execs_app pre
    | brk => exact (pure_bind _ _).symm
    | cont => exact (pure_bind _ _).symm
    | ret v => exact (pure_bind _ _).symm
/-- statements ahead of one that looks at the stack -/
theorem at_app {M : Model} {A : Around} {c : Code} {E : Value → Shared → Prop} {env : PySem.Env} {pre post : List Stmt} {Q : Flow → Shared → Prop} {s : Shared}
    (h : wpAny M A (execs pre env) (fun f s' => match f with | .next => PySem.wpAt M A c (execs post env) Q E s' | f => Q f s') E s) : PySem.wpAt M A c (execs (pre ++ post) env) Q E s := fun Γ p hc hΓ => by
  rw [execs_app, Sem.wp_bind']
  refine Sem.wp_mono M Γ _ (fun f p' s' h' => ?_) (fun _ _ _ h' => h') _ _ (h Γ p hΓ)
  cases f with
  | next => exact h' Γ p' hc hΓ
  | brk => rw [Sem.wp_pure']; exact h'
  | cont => rw [Sem.wp_pure']; exact h'
  | ret v => rw [Sem.wp_pure']; exact h'
/-- what is said of a def that calls the __init__ of the class above D -/
structure SuF (K : Frag) (prog : Program) (mg : Str → Option Value) (D f f2 cc cda : Addr) (scope : Scope) (ok : Nat → Bool) (ca : Nat → Addr) : Prop where
  fn : ∃ (oc : Value) (od : Option Addr) (osl : Array (Option Value)) (fd : FuncData) (ar : Arg), K.lookup f = some ⟨oc, od, .func fd, osl⟩ ∧ (fd.params.posonlyargs ++ fd.params.args).head? = some ar ∧ ar.arg = "self"
  ch : ∃ (ccl : Value) (cdd : Option Addr) (vs : Array Value) (ccs : Array (Option Value)) (file : Str) (tf : Tok), K.lookup cda = some ⟨ccl, cdd, .fields vs, ccs⟩ ∧ vs[2]? = some (.str file tf) ∧ ((prog.main.file : Str) == file) = true
  ce : ∃ (cl : Value) (cld : Option Addr) (csl : Array (Option Value)), K.lookup cc = some ⟨cl, cld, .cell (some (.ref D)), csl⟩
  cl : ∃ cdD, clsIn K D = some cdD
  op : nsIn K cStatics "thirdparty.any" = some none
  sg : mg "super" = none
  top : (prog.main.scope.names.lookup ("super" : Str)).isSome = false
  hks : scope.names.lookup ("super" : Str) = some .globalImplicit
  hkc : scope.names.lookup clsN = some .free
  hka : scope.names.lookup ("self" : Str) = some .local
  kind : scope.kind = .function
  t2 : typeIn K (.ref f2) = some (.type "function")
  nocl : (clsN, NameKind.cell) ∉ scope.names
  kf : fnIn K f2 = true
  cls : ∀ c, ok c = true → mroIn K (ca c) (.ref D) = some true ∧ ks_superIn K (ca c) D "__init__" = some (some (.ref f2))
theorem cls_look {scope : Scope} {L cc : Addr} (h : (clsN, NameKind.cell) ∉ scope.names) : (cellsS L scope cc).lookup clsN = some cc := by
  cases q : (cellsFrom (L + 1) scope.names []).lookup clsN with
  | some z =>
    exfalso
    rcases mem_cells scope.names _ [] (PySem.mem_of_lookup q) with z | z
    · exact h z
    · cases z
  | none =>
    show (cellsFrom (L + 1) scope.names [] ++ [(clsN, cc)]).lookup clsN = _
    rw [List.lookup_append, q]
    simp [List.lookup]
/-- super().__init__(..), self in slot 0 -/
def mSup (ok : Nat → Bool) (mf : MF) (sel : Sel) (ml : ML) : MS := fun ρ μ => match ρ[0]? with
  | some (some o) => match objAt μ o with
    | some (c, _) => if ok c then RS.of ρ (ml ρ μ) fun us μ1 => RS.of ρ (mf (gU sel (o :: us)) μ1) fun _ μ2 => .next ρ μ2 else .stuck
    | none => .stuck
  | _ => .stuck
section
variable {P : Program} {w : World} {K : Frag} {mg : Str → Option Value} {base : Heap} {N : List Str} {qual : Str} {scope : Scope} {f cc cda D f2 : Addr} {A : Around} {outer : List PySem.Env} {s0 : Shared} {H0 : Hp} {E0 : XK} {ca : Nat → Addr} {ok : Nat → Bool}
theorem sup_own {W : WX} {k : Nat} {fd2 : FuncData} {ps2 : List Str} {mf : MF} {np : Nat} {sel : Sel} {body : List Stmt} {a : Expr} {args : List Expr} {ml : ML} {p0 p1 p2 p3 p4 : Pos} {pins : List (Addr × Obj)} {σ : St} {H : Hp} {s : Shared} {En : Ends}
    (F : SuF K P mg D f f2 cc cda scope ok ca) (G : FnG P w K mg base k f2 fd2 ps2 (spD K ca ps2.length mf)) (B : Bd K ca fd2 ps2 (np + 1) [] sel)
    (hr : Room k (cxS P w K mg base N qual scope f (.ref cda) cc A outer s0 H0 E0).A) (gd : A.guards = some []) (tk : Takes (cxS P w K mg base N qual scope f (.ref cda) cc A outer s0 H0 E0) W)
    (hN : N[0]? = some ("self" : Str)) (ha : PA (cxS P w K mg base N qual scope f (.ref cda) cc A outer s0 H0 E0) (a :: args) (rdA K ca W ml)) (hl : LenL ml np)
    (hev : Sup1 p0 p1 p2 p3 (a :: args) (envS qual scope s0.heap.objs.size f (.ref cda) cc))
    (he : starEach (a :: args) (envS qual scope s0.heap.objs.size f (.ref cda) cc) = (false, eval a (envS qual scope s0.heap.objs.size f (.ref cda) cc)) :: starEach args (envS qual scope s0.heap.objs.size f (.ref cda) cc))
    (hpl : (backTo p3 (starEach args (envS qual scope s0.heap.objs.size f (.ref cda) cc))).any (·.1) = false)
    (I : L2.Inv (cxS P w K mg base N qual scope f (.ref cda) cc A outer s0 H0 E0) pins σ H s) (h : rdS K ca W (mSup ok mf sel ml) En σ H) :
    PySem.wpAt (model P w) (A.deeper (envS qual scope s0.heap.objs.size f (.ref cda) cc)) (.func body (envS qual scope s0.heap.objs.size f (.ref cda) cc)) (exec (supS p0 p1 p2 p3 p4 (a :: args)) (envS qual scope s0.heap.objs.size f (.ref cda) cc))
      (SP (cxS P w K mg base N qual scope f (.ref cda) cc A outer s0 H0 E0) pins En) (cxS P w K mg base N qual scope f (.ref cda) cc A outer s0 H0 E0).xe s := by
  obtain ⟨oc, od, osl, fd, ar, hf, hp, har⟩ := F.fn
  obtain ⟨ccl, cdd, vs, ccs, file, tf, hcode, hvs, hfile⟩ := F.ch
  obtain ⟨cl, cld, csl, hce⟩ := F.ce
  obtain ⟨cdD, hD⟩ := F.cl
  have X : K.In s.heap := I.kIn
  have rm := rm_of I
  obtain ⟨mb, hb1, hb2⟩ := rm.blt
  obtain ⟨oD, hD1, hD2⟩ : ∃ oD, s.heap.get? D = some oD ∧ oD.data = .cls cdD := by
    unfold clsIn at hD
    split at hD
    · rename_i c d cd' sl ho
      cases hD
      exact ⟨_, X _ _ ho, rfl⟩
    · cases hD
  obtain ⟨ms, ρ, μ, en, r, h⟩ := h
  unfold mSup at h
  split at h
  · rename_i o h0
    split at h
    · rename_i c fs hob
      by_cases hok : ok c = true
      · rw [if_pos hok] at h
        obtain ⟨v, hv, po⟩ := en.2 0 o h0
        obtain ⟨x, dx, gs, rfl, hx, lf⟩ := obj_at r po hob
        obtain ⟨hsub, hsup⟩ := F.cls c hok
        obtain ⟨mA, O, _⟩ := ins_get I.hok hx
        obtain ⟨odx, J, _⟩ := O.look
        obtain ⟨m, hn, hlk⟩ := I.loc
        obtain ⟨u, ru, hu⟩ := hlk 0 "self" (.ref x) hN hv (.inl F.hka)
        obtain rfl : u = Value.ref x := ru
        have hself : m "self" = some (.ref x) := by
          rcases hu with ⟨_, e⟩ | ⟨kk, _⟩
          · exact e
          · have kk : scope.names.lookup ("self" : Str) = some .cell ∨ scope.names.lookup ("self" : Str) = some .free := kk
            rw [F.hka] at kk
            rcases kk with kk | kk <;> cases kk
        have hcc : (envS qual scope s0.heap.objs.size f (.ref cda) cc).cells.lookup clsN = some cc := cls_look F.nocl
        unfold supS
        obtain ⟨pl, hev⟩ := hev
        refine ks_wpAt_Expr_any ?_ (by unfold interactive; simp [F.kind]) (by rfl)
        refine ks_wpAt_MethodCall (pl := pl) ?_ hev
        refine ks_wpAt_super_base (env := envS qual scope s0.heap.objs.size f (.ref cda) cc) F.hks F.hkc (by decide) rfl (X _ _ hf) rfl hp rfl (X _ _ hcode) rfl hvs hfile F.top ?_
        refine ks_loadName_global F.kind F.hks (PySem.Calls.loadGlobal_builtin (env := envS qual scope s0.heap.objs.size f (.ref cda) cc) rm.glob F.sg hb1 ((hb2 _ (by decide +kernel)).trans (show bootBuiltins "super" = some (.type "super") by kernel_rfl)) ⟨rfl, ?_⟩)
        refine wpAny_loadName_free F.kind F.hkc hcc ⟨_, X _ _ hce, rfl⟩ ?_
        refine wpAny_loadName_local F.kind (by rw [har]; exact F.hka) hn (by rw [har]; exact hself) ?_
        refine ks_wpAny_isType_cls hD1 hD2 ⟨rfl, ?_⟩
        have Ilt := I.lt
        obtain ⟨hh, g, d, t, os⟩ := s
        refine ks_wpAny_call_super hD1 hD2 J.at_ J.cls (fun c e => by have := J.no; unfold notCls at this; rw [e] at this; cases this) (looks_mroIn X hsub) (fun h1 hso up1 => ?_)
        have X1 := X.keeps up1
        obtain ⟨cd, hc⟩ : ∃ cd, clsIn K (ca c) = some cd := by
          unfold ks_superIn at hsup
          cases q : clsIn K (ca c) with
          | none => rw [q] at hsup; cases hsup
          | some cd => exact ⟨cd, rfl⟩
        have su := hsup
        unfold ks_superIn at su
        rw [hc] at su
        obtain ⟨of, hof, hofc⟩ : ∃ of, h1.get? f2 = some of ∧ of.cls = .type "function" := by
          have ht' : (K.lookup f2).map (·.cls) = some (.type "function") := F.t2
          cases z : K.lookup f2 with
          | none => rw [z] at ht'; cases ht'
          | some of => rw [z] at ht'; exact ⟨of, X1 _ _ z, Option.some.inj ht'⟩
        refine ks_wpAny_getMethod_super hso (looks_opaque X1 F.op) (l₀ := cd.mro) (fun A Q E s k q => wpAny_bind ((looks_clsIn X1 hc) A _ E s k (wpAny_pure q))) rfl X1 su hof hofc (ks_ne X J hc) (by decide) ?_
        have up2 : ∀ b o, hh.get? b = some o → (h1.push (methodObj (.ref f2) (.ref x))).get? b = some o := fun b o e => Heap.get?_push_of_some _ (up1 b o e)
        have hq : (h1.push (methodObj (.ref f2) (.ref x))).get? h1.objs.size = some (methodObj (.ref f2) (.ref x)) := Heap.get?_push_at rfl rfl
        have big : hh.objs.size ≤ h1.objs.size := Nat.le_of_lt (Heap.lt_size hso)
        have I2 := I.kept (t' := t + 1) up2
        have I3 := inv_pinned I2 hq (I.hok.fresh big) (fun z => absurd (Nat.lt_of_lt_of_le Ilt big) (by rw [z]; exact Nat.lt_irrefl _)) (I.nofs big) (fun v z => by cases z)
        have z : rdA K ca W ml σ H fun vs H1 => ∃ us ms1 μ1, Keep K ca ms H ms1 H1 ∧ RelM K ca μ1 ms1 H1 ∧ RepUL K ca ms1 H1 us vs ∧ AfS K ca W ms1 H1 (RS.of ρ (mf (gU sel (o :: us)) μ1) fun _ μ2 => .next ρ μ2) En :=
          af_of en r h fun us μ1 vs H1 ms1 k1 r1 p1 h1 => ⟨us, ms1, μ1, k1, r1, p1, h1⟩
        have run := wpAny_mono (ha.run p3 _ _ σ H _ I3 (rd_len hl z)) (Q' := fun us s1 => MethP K h1.objs.size f2 (.ref x) s1.heap ∧ wpAny (model P w) (A.deeper (envS qual scope s0.heap.objs.size f (.ref cda) cc)) (call (.ref h1.objs.size) us) (fun _ => SP (cxS P w K mg base N qual scope f (.ref cda) cc A outer s0 H0 E0) pins En .next) (cxS P w K mg base N qual scope f (.ref cda) cc A outer s0 H0 E0).xe s1)
          (fun us s1 ⟨vs, H1, I1, rv, hn1, xs, ms1, μ1, k1, r1, p1, h1'⟩ => by
            have pin := (I1.pin (h1.objs.size, methodObj (.ref f2) (.ref x)) (List.mem_append_right _ List.mem_cons_self)).1
            refine ⟨⟨pin, I1.kIn⟩, ?_⟩
            have lv : (V.ref x :: vs).length = np + 1 + ([] : List Str).length := by simp [hn1]
            have okS : SelOk K ca sel (V.ref x :: vs).length := by rw [lv]; exact B.ok
            have rv2 : Vals (V.ref x :: vs) (Value.ref x :: us ++ []) := by rw [List.append_nil]; exact .cons rfl rv
            have say : spD K ca ps2.length mf (gV sel (V.ref x :: vs)) H1 (fun v H2 => En.nx σ H2) (WE W σ) := spD_of (X := cxS P w K mg base N qual scope f (.ref cda) cc A outer s0 H0 E0) (n := 0) okS B.len ⟨o :: xs, ms1, μ1, r1, RepUL.cons (k1.all _ _ po) p1, by
              cases hm : mf (gU sel (o :: xs)) μ1 with
              | stuck => rw [hm] at h1'; exact (show False from h1').elim
              | exc k fs μ2 =>
                rw [hm] at h1'
                exact fun d H' ms' k' r' e' => h1' d σ H' ms' k' ((en.keep k1).keep k') r' e'
              | val u μ2 =>
                rw [hm] at h1'
                exact fun v H' ms' k' r' p' => h1' σ H' ms' k' ((en.keep k1).keep k') r'⟩
            refine wpAny_call (ks_codeAny_call_bound pin (codeAny_mono (G.go _ _ s1 H1 ⟨.ref x :: us, []⟩ (gW sel (Value.ref x :: us ++ [])) _ _ (WE W σ) hr gd I1.env0 (by
              have b := B.to s1 (Value.ref x :: us) [] I1.kIn (by simp [← rv.length, hn1]) rfl
              exact b) (vals_sel rv2 okS) say) fun res s' end_ => ?_))
            cases res with
            | error er => exact passAt tk σ _ H1 s1 er s' I1 end_
            | ok way =>
              cases way with
              | ret u =>
                obtain ⟨v, H', I5, _, q5⟩ := I1.after end_
                exact ⟨σ, H', inv_unpin I5, q5⟩
              | next => exact False.elim end_
              | brk => exact False.elim end_
              | cont => exact False.elim end_) (fun _ _ y => y)
        have run2 : wpAny (model P w) (A.deeper (envS qual scope s0.heap.objs.size f (.ref cda) cc)) (spliced (backTo p3 (starEach (a :: args) (envS qual scope s0.heap.objs.size f (.ref cda) cc)))) _ _ _ := run
        rw [he] at run2 ⊢
        exact callWith_of (P := MethP K h1.objs.size f2 (.ref x)) (by show ((false || (backTo p3 (starEach args _)).any (·.1)) || false) = false; rw [hpl]; rfl) (keeps_M F.kf) (PySem.Calls.evalArgs_plain run2)
      · rw [if_neg hok] at h
        exact (show False from h).elim
    · exact (show False from h).elim
  · exact (show False from h).elim
end
end Dv
namespace Dv
open PySem L2 PySem.W PySem.DvX
open PyProof.Rows (envOfC)
section
variable {P : Program} {w : World} {K : Frag} {mg : Str → Option Value} {base : Heap} {ca : Nat → Addr}
/-- a def over __class__ whose last statement is super().__init__(..) -/
theorem fn_okS {name qual : Str} {par : Arguments} {pre : List Stmt} {st : Stmt} {sc : Scope} {dV kV doc pm ct oc : Value} {an od : Option Addr} {osl : Array (Option Value)} {f cc cda : Addr} {co : Obj} {cv : Option Value} {N ps : List Str} {k : Nat} {mp ml : MS} {mf : MF}
    (at_ : K.lookup f = some ⟨oc, od, .func (ksFn name qual par (pre ++ [st]) sc dV kV doc pm an (.ref cda) ct cc), osl⟩) (cod : codeIn K (.ref cda) qual = true) (S : ScS N ps sc) (hc : K.lookup cc = some co) (hcd : co.data = .cell cv)
    (hmf : ∀ us μ, us.length = ps.length → mf us μ = runB N.length (mSeq mp ml) us μ)
    (hp : ∀ (A : Around) (outer : List PySem.Env) (s : Shared) (H : Hp) (E : XK), Room k (A.deeper (envS qual sc s.heap.objs.size f (.ref cda) cc)) → A.guards = some [] → PSs (cxS P w K mg base N qual sc f (.ref cda) cc A outer s H E) pre (rdS K ca (fun cls d _ H' => E cls d H') mp))
    (hl : ∀ (A : Around) (outer : List PySem.Env) (s0 : Shared) (H0 : Hp) (E : XK), Room k (A.deeper (envS qual sc s0.heap.objs.size f (.ref cda) cc)) → A.guards = some [] → ∀ (s : Shared) (σ : St) (H : Hp) (En : Ends), L2.Inv (cxS P w K mg base N qual sc f (.ref cda) cc A outer s0 H0 E) [] σ H s →
      rdS K ca (fun cls d _ H' => E cls d H') ml En σ H → PySem.wpAt (model P w) (A.deeper (envS qual sc s0.heap.objs.size f (.ref cda) cc)) (.func (pre ++ [st]) (envS qual sc s0.heap.objs.size f (.ref cda) cc)) (exec st (envS qual sc s0.heap.objs.size f (.ref cda) cc))
        (SP (cxS P w K mg base N qual sc f (.ref cda) cc A outer s0 H0 E) [] En) (cxS P w K mg base N qual sc f (.ref cda) cc A outer s0 H0 E).xe s) :
    FnG P w K mg base (k + 1) f (ksFn name qual par (pre ++ [st]) sc dV kV doc pm an (.ref cda) ct cc) ps (spD K ca ps.length mf) := by
  refine ⟨fun xs G Q E h => h.1, fun B fr z G ar as xs Q E rm gd e0 bi rv hs => ?_⟩
  have inK : K.In z.heap := e0.mod.kin.keeps fun c o q => (e0.bs c o q).1
  have noL : z.heap.NoLimit := e0.mod.nolimit.keeps fun c o q => (e0.bs c o q).1
  have hlen : xs.length = ps.length := hs.1
  have ncl : ∀ pr ∈ ps.zip as, pr.1 ≠ clsN := fun pr hm e => S.ncls (by
    have m := (List.of_mem_zip hm).1
    rw [e] at m
    rw [← S.pre] at m
    exact List.mem_of_mem_take m)
  refine codeAny_call_function rm.depth (inK _ _ at_) rfl S.co S.gen rfl (PySem.W.codeRec_of inK cod) (bi _ _ _ _ (new_envS S.kind (fun pr mem => ?_) ncl fun z1 ic => ?_))
  · obtain ⟨n, v⟩ := pr
    rcases S.par n (List.of_mem_zip mem).1 with q | q
    · exact Or.inl q
    · exact Or.inr ⟨q, PySem.W.cellsFrom_some _ _ _ (Or.inl q)⟩
  · have J0 : L2.Inv (cxS P w K mg base N qual sc f (.ref cda) cc B fr z G E) [] (L2.start N xs) G z1 := inv_startS S rm.hd e0 hlen rv hc hcd ic
    obtain ⟨h1, tk, rfl, kp⟩ := ic.done
    refine ⟨noL.keeps kp, ks_codeAny_funcAt (at_app ?_)⟩
    obtain ⟨_, ms, μ, us, r, l, h⟩ := hs
    rw [hmf us μ (by rw [l.1]; exact hlen)] at h
    let D : Ends := { nx := fun _ G' => Q .non G', rt := Q }
    have fin : AfS K ca (fun cls d _ H' => E cls d H') ms G (mSeq mp ml (us.map some ++ List.replicate (N.length - us.length) none) μ) { nx := fun _ G' => Q .non G', rt := Q } := by
      unfold runB at h
      cases hm : mSeq mp ml (us.map some ++ List.replicate (N.length - us.length) none) μ with
      | next ρ1 μ1 => rw [hm] at h; exact fun σ' H' ms' k' e' r' => h .non H' ms' k' r' Rep.non
      | ret v μ1 => rw [hm] at h; exact fun v' H' ms' k' r' p' => h v' H' ms' k' r' p'
      | exc c fs ρ1 μ1 => rw [hm] at h; exact fun d σ' H' ms' k' e' r' x' => h d H' ms' k' r' x'
      | brk ρ1 μ1 => rw [hm] at h; exact (show False from h).elim
      | cont ρ1 μ1 => rw [hm] at h; exact (show False from h).elim
      | stuck => rw [hm] at h; exact (show False from h).elim
    have say : rdS K ca (fun cls d _ H' => E cls d H') mp { nx := fun σ H => rdS K ca (fun cls d _ H' => E cls d H') ml { nx := fun _ G' => Q .non G', rt := Q } σ H, rt := Q } (L2.start N xs) G := by
      refine ⟨ms, _, μ, start_rel (N := N) l, r, ?_⟩
      unfold mSeq at fin
      cases hm : mp (us.map some ++ List.replicate (N.length - us.length) none) μ with
      | next ρ1 μ1 =>
        rw [hm] at fin
        exact fun σ' H' ms' k' e' r' => ⟨ms', ρ1, μ1, e', r', AfS.shift fin k'⟩
      | ret v μ1 => rw [hm] at fin; exact fin
      | exc c fs ρ1 μ1 => rw [hm] at fin; exact fin
      | brk ρ1 μ1 => rw [hm] at fin; exact fin
      | cont ρ1 μ1 => rw [hm] at fin; exact fin
      | stuck => rw [hm] at fin; exact fin
    have rm2 := rm.deeper (envS qual sc z.heap.objs.size f (.ref cda) cc)
    have back : ∀ {fl : Flow} {s' : Shared} {En : Ends}, (∀ σ H, En.nx σ H → Q .non H) → (∀ v H, En.rt v H → Q v H) → (∀ σ H, ¬ En.bk σ H) → (∀ σ H, ¬ En.ct σ H) → SP (cxS P w K mg base N qual sc f (.ref cda) cc B fr z G E) [] En fl s' → CR (L2.CX P w) fr P w G z Q E (.ok (.ret (match fl with | .ret v => v | _ => .none))) s' := fun {fl s' En} a1 a2 a3 a4 h => by
      cases fl with
      | ret u => obtain ⟨v, σ', G', J, rel, q⟩ := h; exact ⟨v, G', J.os, J.bare, J.base, J.hok, rel, a2 _ _ q⟩
      | next => obtain ⟨σ', G', J, q⟩ := h; exact ⟨V.non, G', J.os, J.bare, J.base, J.hok, rfl, a1 _ _ q⟩
      | brk => obtain ⟨_, _, _, q⟩ := h; exact absurd q (a3 _ _)
      | cont => obtain ⟨_, _, _, q⟩ := h; exact absurd q (a4 _ _)
    refine wpAny_mono ((hp B fr z G E rm2 gd).run [] _ (L2.start N xs) G _ J0 say) (fun fl s' hsp => ?_) fun e s' hx => hx
    cases fl with
    | next =>
      obtain ⟨σ', G', J, q⟩ := hsp
      refine ks_wpAt_execs_cons (ks_wpAt_mono (hl B fr z G E rm2 gd _ σ' G' _ J q) (fun fl s'' h2 => ?_) fun e s'' hx => hx)
      cases fl with
      | next => exact wpAt_of_wpAny (wpAny_execs_nil (back (fl := .next) (fun _ _ q => q) (fun _ _ q => q) (fun _ _ q => q) (fun _ _ q => q) h2))
      | ret u => exact back (fl := .ret u) (fun _ _ q => q) (fun _ _ q => q) (fun _ _ q => q) (fun _ _ q => q) h2
      | brk => exact back (fl := .brk) (fun _ _ q => q) (fun _ _ q => q) (fun _ _ q => q) (fun _ _ q => q) h2
      | cont => exact back (fl := .cont) (fun _ _ q => q) (fun _ _ q => q) (fun _ _ q => q) (fun _ _ q => q) h2
    | ret u =>
      obtain ⟨v, σ', G', J, rel, q⟩ := hsp
      exact ⟨v, G', J.os, J.bare, J.base, J.hok, rel, q⟩
    | brk => obtain ⟨_, _, _, q⟩ := hsp; exact q.elim
    | cont => obtain ⟨_, _, _, q⟩ := hsp; exact q.elim
end
end Dv
namespace Dv
open PySem L2
/-! ### loops and comprehensions over lists, over tuples -/
/-- the items of a list (a tuple) that is no cell -/
def itL : U → Option (List D)
  | .d (.lst xs) => some xs
  | _ => none
def itT : U → Option (List D)
  | .d (.tup xs) => some xs
  | _ => none
def mForI (it : U → Option (List D)) (ma : MD) (g : Mem → U → Env → Option Env) (b : MS) : MS := fun ρ μ => RS.of ρ (ma ρ μ) fun u μ1 => match it u with
  | some xs => forL g b xs ρ μ1
  | none => .stuck
def mLcI (it : U → Option (List D)) (ma : MD) (g : Mem → U → Env → Option Env) (t : MT) (e : MD) (vs : List Nat) : MD := fun ρ μ => (ma ρ μ).bind fun u μ1 => match it u with
  | some xs => (compL g t e (wipeE ρ vs) xs μ1 []).bind fun acc μ2 => .val (.d (.lst acc)) μ2
  | none => .stuck
section
variable {K : PySem.W.Frag} {ca : Nat → Addr} {ms ms' : Ms} {H H' : Hp}
theorem itL_at {u : U} {v : V} {xs : List D} (p : RepU K ca ms H u v) (h : itL u = some xs) : ∃ a vs, v = .ref a ∧ H a = some (.lst vs) ∧ ¬ ms.In a ∧ RepL K ca ms H xs vs := by
  unfold itL at h
  split at h
  · cases h
    cases p with
    | lst s n l z => exact ⟨_, _, rfl, s, n, l, z⟩
  · cases h
theorem itT_at {u : U} {v : V} {xs : List D} (p : RepU K ca ms H u v) (h : itT u = some xs) : ∃ a vs, v = .ref a ∧ StT K ms H a vs ∧ RepL K ca ms H xs vs := by
  unfold itT at h
  split at h
  · cases h
    cases p with
    | tup s l z => exact ⟨_, _, rfl, s, l, z⟩
  · cases h
theorem StT.old {a : Addr} {vs : List V} (s : StT K ms H a vs) (o : Old ms H ms' H') : SqT K H' a vs := by
  rcases s with ⟨h | ⟨ob, h⟩, n⟩ | h
  · exact .inl (.inl (o.old _ _ h n))
  · exact .inl (.inr ⟨ob, o.old _ _ h n⟩)
  · exact .inr h
theorem RepL.item {xs : List D} {vs : List V} (l : RepL K ca ms H xs vs) {i : Nat} {v : V} (h : vs[i]? = some v) : ∃ x, xs[i]? = some x ∧ Rep K ca ms H x v := by
  have hi : i < xs.length := by rw [l.1]; exact (List.getElem?_eq_some_iff.mp h).1
  exact ⟨xs[i], List.getElem?_eq_getElem hi, l.2 i _ v (List.getElem?_eq_getElem hi) h⟩
end
section
variable {X : Cx} {ca : Nat → Addr} {W : WX} {pos : Pos} {tg elt iter : Expr} {ifs : List Expr} {scope : Scope} {own : List (Str × Nat)} {ma me : MD} {mt : MT} {g : Mem → U → Env → Option Env} {is : List Nat}
theorem re_lcL (hc : X.calm = true) (nd : X.N.Nodup) (ha : PE X iter (rdE X.K ca W ma)) (ok : BlkOk X.N X.env.scope scope own)
    (hg : ∀ (s : Shared) (H : Hp) (C : Addr) (cl : List (Str × Addr)) (fp : List Addr), PG (X.blk s H scope (compEnvC scope cl C X.env) fp) tg (rdG X.K ca g is)) (ht : ∀ (s : Shared) (H : Hp) (C : Addr) (cl : List (Str × Addr)) (fp : List Addr), PTs (X.blk s H scope (compEnvC scope cl C X.env) fp) ifs (rdT X.K ca W0 mt))
    (he : ∀ (s : Shared) (H : Hp) (C : Addr) (cl : List (Str × Addr)) (fp : List Addr), PE (X.blk s H scope (compEnvC scope cl C X.env) fp) elt (rdE X.K ca W0 me)) (hi : ∀ i, i ∈ is → i ∈ own.map (·.2) := by decide)
    (hs2 : ∀ x, foldedSetIterable iter X.env x = pure x := by intro _; rfl) : PE X (.ListComp elt [⟨tg, iter, ifs, 0⟩] scope pos) (rdE X.K ca W (mLcI itL ma g mt me (own.map (·.2)))) := by
  refine pe_imp (pe_lc hc nd (pi_list ha) ok hg ht he hs2) fun σ H Q kf ⟨ms, ρ, μ, e, r, h⟩ => af_bind e r h fun u μ1 v H1 ms1 k1 r1 p1 h1 => ?_
  split at h1
  · rename_i xs hx
    obtain ⟨a, vs, rfl, s, n, l⟩ := itL_at p1 hx
    refine ⟨a, rfl, ⟨vs, .inl (.inl s)⟩, fun p hp => ?_⟩
    have np : p ∉ ms1.hid := fun z => by
      obtain ⟨o, q⟩ := r1.hidden p z
      rw [hp] at q; cases q
    obtain ⟨r2, a2⟩ := r1.hide (o := .lst []) hp
    refine lc_list (xs := vs) (AheadC X ca W g mt me (wipeE ρ (own.map (·.2))) σ (fun v H' => KF X.K H' → Q v H') ms1 H1 p xs) ⟨ms1.hide p, μ1, [], [], hide_old hp, hp, rfl, a2, fun a q => upd_ne fun z => np (z ▸ q), r2, upd_same, ⟨rfl, fun i x v a => by simp at a⟩, af_kf h1⟩ (fun i H' _ A => ?_) (fun i x H' hi' A => ?_) fun H' A => done_ok A (by rw [l.1]; exact Nat.le_refl _) nc_of np
    · obtain ⟨ms2, _, _, _, ol, _⟩ := A
      exact .inl (.inl (ol.old _ _ s n))
    · obtain ⟨y, hy, py⟩ := l.item hi'
      exact item_ok ((e.keep k1).wipe _) np A hy (fun ms k => k (.d y) x py) hi
  · exact (show False from h1).elim
theorem re_lcT (hc : X.calm = true) (nd : X.N.Nodup) (ha : PE X iter (rdE X.K ca W ma)) (ok : BlkOk X.N X.env.scope scope own)
    (hg : ∀ (s : Shared) (H : Hp) (C : Addr) (cl : List (Str × Addr)) (fp : List Addr), PG (X.blk s H scope (compEnvC scope cl C X.env) fp) tg (rdG X.K ca g is)) (ht : ∀ (s : Shared) (H : Hp) (C : Addr) (cl : List (Str × Addr)) (fp : List Addr), PTs (X.blk s H scope (compEnvC scope cl C X.env) fp) ifs (rdT X.K ca W0 mt))
    (he : ∀ (s : Shared) (H : Hp) (C : Addr) (cl : List (Str × Addr)) (fp : List Addr), PE (X.blk s H scope (compEnvC scope cl C X.env) fp) elt (rdE X.K ca W0 me)) (hi : ∀ i, i ∈ is → i ∈ own.map (·.2) := by decide)
    (hs2 : ∀ x, foldedSetIterable iter X.env x = pure x := by intro _; rfl) : PE X (.ListComp elt [⟨tg, iter, ifs, 0⟩] scope pos) (rdE X.K ca W (mLcI itT ma g mt me (own.map (·.2)))) := by
  refine pe_imp (pe_lc hc nd (pi_tup ha) ok hg ht he hs2) fun σ H Q kf ⟨ms, ρ, μ, e, r, h⟩ => af_bind e r h fun u μ1 v H1 ms1 k1 r1 p1 h1 => ?_
  split at h1
  · rename_i xs hx
    obtain ⟨a, vs, rfl, s, l⟩ := itT_at p1 hx
    refine ⟨a, rfl, ⟨vs, s.sq⟩, fun p hp => ?_⟩
    have np : p ∉ ms1.hid := fun z => by
      obtain ⟨o, q⟩ := r1.hidden p z
      rw [hp] at q; cases q
    obtain ⟨r2, a2⟩ := r1.hide (o := .lst []) hp
    refine lc_tup (xs := vs) (AheadC X ca W g mt me (wipeE ρ (own.map (·.2))) σ (fun v H' => KF X.K H' → Q v H') ms1 H1 p xs) ⟨ms1.hide p, μ1, [], [], hide_old hp, hp, rfl, a2, fun a q => upd_ne fun z => np (z ▸ q), r2, upd_same, ⟨rfl, fun i x v a => by simp at a⟩, af_kf h1⟩ (fun i H' _ A => ?_) (fun i x H' hi' A => ?_) fun H' A => done_ok A (by rw [l.1]; exact Nat.le_refl _) nc_of np
    · obtain ⟨ms2, _, _, _, ol, _⟩ := A
      exact s.old ol
    · obtain ⟨y, hy, py⟩ := l.item hi'
      exact item_ok ((e.keep k1).wipe _) np A hy (fun ms k => k (.d y) x py) hi
  · exact (show False from h1).elim
end
end Dv
namespace Dv
open PySem L2 PySem.DvX PySem.HandSPX PySem.W
/-! ### raise C(..) -/
/-- what a raise leaves: the fields' dict tracked, the error itself not -/
def RaisedE (H H' : Hp) (gs : List (Str × V)) (d : Option Addr) : Prop := (gs = [] ∧ d = none ∧ H' = H) ∨ ∃ dd, d = some dd ∧ H dd = none ∧ H' = upd H dd (.xd gs)
section
variable {X : Cx} {pins : List (Addr × Obj)} {σ : St} {H : Hp} {s : Shared} {C fI cc cda : Addr} {name qual : Str} {par : Arguments} {body : List Stmt} {sc : Scope} {fs : List Str}
theorem raise_ok (T : CF X.K C) (J : IF X.K X.prog X.mg C fI name qual par body sc cc cda) (B : Body body sc fs) (hf : ∀ f ∈ fs, Nm X.K C sc f) (hnd : fs.Nodup) {us : List Value} {kw : List (Str × Value)} {fv : List Value} {vs : List V} {k : Nat} {Q : XK}
    (hl : fv.length = fs.length) (hz : us.length ≤ sizeLine) (hr : Room k X.A)
    (bt : ∀ s x doc pm an ct, BindsTo s (ksFn name qual par body sc .none .none doc pm an (.ref cda) ct cc) ⟨.ref x :: us, kw⟩ (("self", .ref x) :: fs.zip fv))
    (I : Inv X pins σ H s) (r : Vals vs fv) (h : ∀ d H', RaisedE H H' (fs.zip vs) d → Q (.ref C) d H') : wpAny (model X.prog X.w) X.A (call (.ref C) us kw) (MkP X pins σ Q) X.xe s := by
  have rm := rm_of I
  obtain ⟨nm, q, N, bs, bm, sn, sub, ab, col, dd, k0, k1, k2, k3, k5, hC, hbm⟩ := T.cls
  obtain ⟨hp, g, d, tk, os⟩ := s
  have up : ∀ b o, hp.get? b = some o → ((hp.push (kdv_tup us)).push (excO C hp.objs.size)).get? b = some o := fun b o e => Heap.get?_push_of_some _ (Heap.get?_push_of_some _ e)
  have hx : ((hp.push (kdv_tup us)).push (excO C hp.objs.size)).get? (hp.objs.size + 1) = some (excO C hp.objs.size) := by heap_get
  have out : ∀ o, hp.get? (hp.objs.size + 1) ≠ some o := fun o e => absurd (Nat.lt_of_succ_lt (Heap.lt_size e)) (Nat.lt_irrefl _)
  have gone : hp.get? (hp.objs.size + 1) = none := by
    cases e : hp.get? (hp.objs.size + 1) with
    | none => rfl
    | some o => exact absurd e (out o)
  have hnx : X.K.lookup (hp.objs.size + 1) = none := by
    cases e : X.K.lookup (hp.objs.size + 1) with
    | none => rfl
    | some o => exact absurd (rm.kin _ _ e) (out o)
  have hnG : hp.objs.size + 1 ≠ mainGlobals := fun e => by
    obtain ⟨oL, es, ep, hL, _⟩ := rm.glob
    exact out oL (by rw [e]; exact hL)
  refine wpAny_call (DvX.made F.excBase_ValueError (fun X => refsVE_contains X bm hbm) (rm.kin _ _ hC) (looks_findIn rm.kin J.iC) (fun self => bind_fn rm.kin self J.tC) hz ?_)
  refine DvX.ini (s := ⟨(hp.push (kdv_tup us)).push (excO C hp.objs.size), g, d, tk, os⟩) T J B hf hnd hl (rm.keeps up) hx hnx hnG ?_ (fun doc pm an ct => bt _ _ doc pm an ct) fun h' tk' D => ⟨rfl, ?_⟩
  · have := hr.dp
    show X.A.depth + 1 < recursionLimit
    omega
  have sz : ((hp.push (kdv_tup us)).push (excO C hp.objs.size)).objs.size = hp.objs.size + 1 + 1 := by rw [Heap.size_push, Heap.size_push]
  have old : ∀ b o, hp.get? b = some o → h'.get? b = some o := fun b o e => D.keep b o (fun z => out o (by rw [← z]; exact e)) (up b o e)
  have nH : ∀ a, hp.objs.size ≤ a → H a = none := fun a ha => I.hok.fresh ha
  have ne := nH (hp.objs.size + 1) (Nat.le_succ _)
  rcases D.obj with ⟨hz0, t, ho⟩ | ⟨dx, t, ho, dn, dne, hns⟩
  · have z0 : fs.zip vs = [] := by
      cases fs with
      | nil => rfl
      | cons f fs =>
        cases fv with
        | nil => cases hl
        | cons v fv => simp at hz0
    exact ⟨hp.objs.size + 1, _, _, ⟨hp, g, d, tk, os⟩, H, .ref C, none, rfl, I, old, gone, ho, ⟨rfl, rfl⟩, rfl, rfl, ne, rfl, I.bare, raises_own T.exC T.tyC, h none H (.inl ⟨z0, rfl, rfl⟩)⟩
  · have dn' : hp.objs.size + 1 + 1 ≤ dx := by rw [← sz]; exact dn
    have hdx : hp.objs.size ≤ dx := Nat.le_trans (Nat.le_trans (Nat.le_succ _) (Nat.le_succ _)) dn'
    have nd := nH dx hdx
    obtain ⟨G, g1, g2⟩ := restrict h' fun b => decide (b ≠ hp.objs.size + 1)
    have gk : ∀ b, b ≠ hp.objs.size + 1 → G.get? b = h'.get? b := fun b hb => g1 b (decide_eq_true hb)
    have ge : G.get? (hp.objs.size + 1) = none := g2 _ (by simp)
    have oldG : ∀ b o, hp.get? b = some o → G.get? b = some o := fun b o z => (gk b (fun y => out o (by rw [← y]; exact z))).trans (old b o z)
    have up2 : ∀ b o, G.get? b = some o → h'.get? b = some o := fun b o z => by
      by_cases hb : b = hp.objs.size + 1
      · rw [hb, ge] at z; cases z
      · exact (gk b hb).symm.trans z
    have ob : ObjOk X.prog X.w (upd H dx (.xd (fs.zip vs))) G dx (.xd (fs.zip vs)) := ⟨_, hns.at (fun o q => (gk dx dne).trans q), fun f => lookup_zip r f⟩
    have J2 : Inv X pins σ (upd H dx (.xd (fs.zip vs))) ⟨G, g, d, tk', os⟩ := I.laid (t' := tk') oldG hdx ob
    exact ⟨hp.objs.size + 1, _, _, ⟨G, g, d, tk', os⟩, _, .ref C, some dx, rfl, J2, up2, ge, ho, ⟨rfl, rfl⟩, rfl, rfl, by rw [upd_ne (Ne.symm dne)]; exact ne, rfl, I.bare, raises_own T.exC T.tyC, h (some dx) _ (.inr ⟨dx, rfl, nd, rfl⟩)⟩
end
def mRaise (c : Nat) (fs : List Str) (rev : Bool) (ml : ML) : MS := fun ρ μ => RS.of ρ (ml ρ μ) fun us μ1 => if us.length = fs.length ∧ us.length ≤ 100 then (match toDs us with
  | some ds => .exc c (fs.zip (rv rev ds)) ρ μ1
  | none => .stuck) else .stuck
section
variable {X : Cx} {ca : Nat → Addr} {W : WX}
/-- raise C(e, ..) -/
theorem rs_raise {c : Nat} {x : Str} {fs : List Str} {e : Expr} {es : List Expr} {ml : ML} {p pos pos2 : Pos} {k : Nat} (E : ErF X.K X.prog X.mg (ca c) x fs) (hr : Room k X.A) (hc : X.calm = true) (tk : Takes X W) (ha : PA X (e :: es) (rdA X.K ca W ml)) (hg : Gl X x := by rfl) (hdb : (x == ("__debug__" : Str)) = false := by decide)
    (he : starEach (e :: es) X.env = (false, eval e X.env) :: starEach es X.env := by rfl) (hpl : (backTo pos (starEach es X.env)).any (·.1) = false := by rfl) : PS X (.Raise (some (.Call (.Name x p) (e :: es) [] pos)) none pos2) (rdS X.K ca W (mRaise c fs false ml)) := by
  have mk : PMk X (.Call (.Name x p) (e :: es) [] pos) (fun σ H Q => rdA X.K ca W ml σ H fun vs H1 => vs.length = fs.length ∧ vs.length ≤ 100 ∧ ∀ d H', RaisedE H1 H' (fs.zip vs) d → Q (.ref (ca c)) d H') := by
    intro pins s σ H Q I h
    refine wpAny_Call_Name_kw (ld_glob I hg E.gC ?_ hdb)
    refine PySem.W.callWith_K (h₀ := X.base) I.ok.mod.kin E.T.kC (thn (ha.run pos pins s σ H _ I h) fun ws s1 ⟨vs, H1, I1, z, l1, l2, q⟩ => ⟨I1.kIn, ?_⟩) he hpl
    obtain ⟨fI, cc, cda, name, qual, par, body, sc, J, B, hf, hnd, b1, b2, b3⟩ := E.ex
    have lw : ws.length = fs.length := by rw [← z.length]; exact l1
    exact raise_ok E.T J B hf hnd (us := ws) (fv := ws) lw (big_ok (by rw [← z.length]; exact l2)) hr (fun s x doc pm an ct => b1 ws lw s x doc pm an ct) I1 z q
  refine ps_imp (ps_raise hc tk mk) fun D σ H kf ⟨ms, ρ, μ, en, r, h⟩ => af_of en r h fun us μ1 vs H1 ms1 k1 r1 p1 h1 => ?_
  split at h1
  · rename_i hc
    split at h1
    · rename_i ds hd
      have l := repL_of p1 hd
      refine ⟨by rw [← p1.1]; exact hc.1, by rw [← p1.1]; exact hc.2, fun d H' ra => ?_⟩
      have ld : ds.length = fs.length := by rw [l.1, ← p1.1]; exact hc.1
      rcases ra with ⟨z, rfl, rfl⟩ | ⟨dd, rfl, nd, rfl⟩
      · have z0 : fs.zip ds = [] := by
          cases fs with
          | nil => rfl
          | cons f fs =>
            cases vs with
            | nil => rw [l.1] at ld; cases ld
            | cons v vs => simp at z
        exact h1 none σ _ ms1 Keep.refl (en.keep k1) r1 (.inl ⟨by show fs.zip (rv false ds) = []; exact z0, rfl⟩)
      · have sm : Same H1 (upd H1 dd (.xd (fs.zip vs))) := same_new nd
        refine h1 (some dd) σ _ ms1 (r1.keep_ext sm) ((en.keep k1).keep (r1.keep_ext sm)) (r1.ext sm ⟨rfl, rfl⟩) (.inr ⟨dd, _, rfl, upd_same, r1.out nd, ?_, fun i x v a b => ?_⟩)
        · show (fs.zip ds).map (·.1) = _
          rw [fst_zip ld, fst_zip (by rw [← l.1]; exact ld)]
        · have a : (fs.zip ds)[i]? = some x := a
          obtain ⟨a1, a2⟩ := List.getElem?_zip_eq_some.mp a
          obtain ⟨b1, b2⟩ := List.getElem?_zip_eq_some.mp b
          exact (l.2 i x.2 v.2 a2 b2).ext sm
    · exact (show False from h1).elim
  · exact (show False from h1).elim
end
end Dv
namespace Dv
open PySem L2 PySem.W
/-! ### isinstance of anything but an error -/
/-- a built-in value's type -/
def tyN (μ : Mem) : U → Option String
  | .d .non => some "NoneType"
  | .d (.bl _) => some "bool"
  | .d (.int _) => some "int"
  | .d (.str _) => some "str"
  | .d (.tup _) => some "tuple"
  | .d (.lst _) => some "list"
  | .d (.dic _) => some "dict"
  | .cell n => match μ[n]? with
    | some (some (.lst _)) => some "list"
    | _ => none
  | _ => none
theorem tyN_at {K : Frag} {ca : Nat → Addr} {ms : Ms} {H : Hp} {μ : Mem} {u : U} {v : V} {n : String} (r : RelM K ca μ ms H) (p : RepU K ca ms H u v) (h : tyN μ u = some n) : TyX K H v (.type n) := by
  cases u with
  | cell m =>
    simp only [tyN] at h
    split at h
    · rename_i xs hm
      cases h
      obtain ⟨a, rfl, e⟩ := r.lives p hm
      obtain ⟨b, e1, vs, s, l⟩ := r.live m _ hm
      rw [e] at e1
      cases e1
      exact .base (.lst s)
    · cases h
  | d x =>
    have px : Rep K ca ms H x v := p
    cases px with
    | non => cases h; exact .base .non
    | bl b => cases h; exact .base (.bl b)
    | int i => cases h; exact .base (.int i)
    | str y => cases h; exact .base (.str y)
    | tup s l z =>
      cases h
      rcases s with ⟨s | ⟨ob, s⟩, _⟩ | ⟨o, its, k, e1, e2, _⟩
      · exact .base (.tup s)
      · exact .fTuple s
      · exact .kTuple e1 e2
    | lst s n l z => cases h; exact .base (.lst s)
    | dic s n l z =>
      cases h
      rcases s with s | ⟨ob, s⟩
      · exact .base (.dK s)
      · exact .fDict s
    | _ => cases h
/-- what isinstance asks of an own class -/
structure IsO (K : Frag) (C : Addr) : Prop where
  cl : Cls K C
  ha : findIn K (.ref C) "__class__" = some (some (.builtin "object.__class__"))
  hn : specialIn K (.builtin "object.__class__") "__get__" = some (some (.builtin "getset_descriptor.__get__"))
  ht : takesIn K (.builtin "object.__class__") = some true
  hm : mroIn K C (.type "object") = some true
def isiV (tn : String → D → Option Bool) (tc : Nat → D → Option Bool) (μ : Mem) (us : List U) : Option D := match us with
  | [u, .d k] => match tyN μ u with
    | some n => (tn n k).map .bl
    | none => match objAt μ u with
      | some (c, _) => (tc c k).map .bl
      | none => none
  | _ => none
section
variable {X : Cx} {ca : Nat → Addr}
theorem clsV_at {ms : Ms} {H : Hp} {k : D} {v : V} {w : Value} (p : Rep X.K ca ms H k v) (h : clsV ca k = some w) : ClsV v w := by
  cases p <;> simp only [clsV] at h <;> first
    | (cases h; exact .ty _)
    | (cases h; exact .own _)
    | cases h
theorem c_isiV {tn : String → D → Option Bool} {tc : Nat → D → Option Bool} (h1 : ∀ n k b, tn n k = some b → ∃ v, clsV ca k = some v ∧ kitOne X.K (.type n) v = some b) (h2 : ∀ c k b, tc c k = some b → IsO X.K (ca c) ∧ ∃ v, clsV ca k = some v ∧ kitOne X.K (.ref (ca c)) v = some b) :
    CallR X (.builtin "isinstance") (rDn X.K ca (isiV tn tc)) := by
  intro pins s σ H xs us Q I r ⟨ms, μ, as, d, rm, ra, e, q⟩
  unfold isiV at e
  split at e
  · rename_i u k
    match xs, ra with
    | [x, y], ra =>
      have p1 : RepU X.K ca ms H u x := ra.2 0 _ x rfl rfl
      have p2 : Rep X.K ca ms H k y := ra.2 1 (.d k) y rfl rfl
      split at e
      · rename_i n hn
        cases hb : tn n k with
        | none => rw [hb] at e; cases e
        | some b =>
          rw [hb] at e
          cases e
          obtain ⟨v, hv, hk⟩ := h1 n k b hb
          exact call_isi pins s σ H _ us Q I r ⟨x, y, _, v, b, rfl, clsV_at p2 hv, tyN_at rm p1 hn, hk, q _ _ (Same.refl H) fun _ => .bl b⟩
      · split at e
        · rename_i c fs ho
          cases hb : tc c k with
          | none => rw [hb] at e; cases e
          | some b =>
            rw [hb] at e
            cases e
            obtain ⟨O, v, hv, hk⟩ := h2 c k b hb
            obtain ⟨a, dx, gs, rfl, ha, l⟩ := obj_at rm p1 ho
            exact call_isi pins s σ H _ us Q I r ⟨.ref a, y, _, v, b, rfl, clsV_at p2 hv, .base (.ins ha O.cl O.ha O.hn O.ht O.hm), hk, q _ _ (Same.refl H) fun _ => .bl b⟩
        · cases e
    | [], ra => exact absurd ra.1 (by simp)
    | [_], ra => exact absurd ra.1 (by simp)
    | _ :: _ :: _ :: _, ra => exact absurd ra.1 (by simp)
  · cases e
end
end Dv
namespace Dv
open PySem L2 PySem.W
/-! ### x in o, o an instance with an own __contains__ (which raises nothing) -/
abbrev WF : WX := fun _ _ _ _ => False
structure DuF (X : Cx) (ca : Nat → Addr) (k : Nat) (C : Addr) (m : Str) (n : Nat) (mf : MF) : Prop where
  ex : ∃ f fd ps, findIn X.K (.ref C) m = some (some (.ref f)) ∧ isFn X.K (.ref f) = true ∧ FnG X.prog X.w X.K X.mg X.base k f fd ps (spD X.K ca ps.length mf) ∧ Binds X.K fd ps [] ∧ ps.length = n
section
variable {X : Cx} {ca : Nat → Addr}
theorem takesF : Takes X WF := takes0
variable {W : WX} {pos : Pos} {a b : Expr} {ma mb : MD}
end
end Dv
namespace Dv
open PySem L2 PySem.W
/-! ### o == x, o an instance with an own __eq__ (which raises nothing) -/
def tyU (μ : Mem) (u : U) : Option (String ⊕ Nat) := match tyN μ u with
  | some n => some (.inl n)
  | none => (objAt μ u).map fun p => .inr p.1
def tyV (ca : Nat → Addr) : String ⊕ Nat → Value
  | .inl n => .type n
  | .inr c => .ref (ca c)
def eqO (tb : Nat → Option MF) (okT : Nat → String ⊕ Nat → Bool) (a b : U) (μ : Mem) : R Bool := match objAt μ a, tyU μ b with
  | some (c, _), some t => match tb c with
    | some mf => if okT c t then (mf [a, b] μ).calm.bind fun u μ2 => (match u with
      | .d (.bl t) => .val t μ2
      | _ => .stuck) else .stuck
    | none => .stuck
  | _, _ => .stuck
def rEqO (K : Frag) (ca : Nat → Addr) (tb : Nat → Option MF) (okT : Nat → String ⊕ Nat → Bool) : R2 := fun x y H Q => ∃ ms μ a b, RelM K ca μ ms H ∧ RepU K ca ms H a x ∧ RepU K ca ms H b y ∧ Af K ca rpB WF [] ms H (eqO tb okT a b μ) fun t H' => Q (.bl t) H'
section
variable {X : Cx} {ca : Nat → Addr}
theorem ty_looks {pins : List (Addr × Obj)} {σ : St} {H : Hp} {s : Shared} {ms : Ms} {μ : Mem} {u : U} {v : V} {w : Value} {t : String ⊕ Nat} (hO : ∀ c, t = .inr c → IsO X.K (ca c)) (I : Inv X pins σ H s) (r : RelM X.K ca μ ms H) (p : RepU X.K ca ms H u v) (rv : RelV v w) (h : tyU μ u = some t) :
    Looks (model X.prog X.w) s.heap (typeOf w) (tyV ca t) := by
  unfold tyU at h
  have fin : ∀ tv, TyX X.K H v tv → Looks (model X.prog X.w) s.heap (typeOf w) tv := fun tv ty => by
    obtain ⟨P, Z, pp, _⟩ := kit_of I rv ty
    exact Z.ty _ _ I.kIn pp
  split at h
  · rename_i n hn
    cases h
    exact fin _ (tyN_at r p hn)
  · cases ho : objAt μ u with
    | none => rw [ho] at h; cases h
    | some q =>
      obtain ⟨c, fs⟩ := q
      rw [ho] at h
      cases h
      obtain ⟨a, dx, gs, rfl, ha, l⟩ := obj_at r p ho
      have O := hO c rfl
      exact fin _ (.base (.ins ha O.cl O.ha O.hn O.ht O.hm))
theorem o_eqO {k : Nat} {tb : Nat → Option MF} {okT : Nat → String ⊕ Nat → Bool} (T : ∀ c mf, tb c = some mf → DuF X ca k (ca c) "__eq__" 2 mf) (hT : ∀ c t, okT c t = true → notFirst X.K (ca c) (tyV ca t) = true ∧ ∀ c', t = .inr c' → IsO X.K (ca c')) (hr : Room k X.A) (gd : X.A.guards = some []) :
    OpR X (compareOp .Eq) (rEqO X.K ca tb okT) := by
  intro pins s σ H x y v u Q I rx ry ⟨ms, μ, a, b, rm, ra, rb, h⟩
  unfold eqO at h
  split at h
  · rename_i c fs t ho ht
    split at h
    · rename_i mf htb
      split at h
      · rename_i hok
        obtain ⟨f, fd, ps, hf, hfn, F, B, hn⟩ := (T c mf htb).ex
        obtain ⟨p, dx, gs, rfl, hp, l⟩ := obj_at rm ra ho
        obtain ⟨h1, h2⟩ := hT c t hok
        have L := ty_looks h2 I rm rb ry ht
        cases rx
        obtain ⟨mA, O, _⟩ := ins_get I.hok hp
        obtain ⟨od, J, _⟩ := O.look
        obtain ⟨m0, Fr0⟩ := I.fr
        have say : spD X.K ca ps.length mf [.ref p, y] H (fun w H' => ∃ t, w = .bl t ∧ Q (.bl t) H') (WE WF σ) := by
          refine ⟨by rw [hn]; rfl, ms, μ, [a, b], rm, RepUL.cons ra (RepUL.cons rb ⟨rfl, fun i x v z => by simp at z⟩), ?_⟩
          cases hm : mf [a, b] μ with
          | stuck => rw [hm] at h; exact (show False from h).elim
          | exc k fs μ2 => rw [hm] at h; exact (show False from h).elim
          | val w μ2 =>
            rw [hm, calm_val, bind_val] at h
            intro w' H' ms' k' r' p'
            cases w with
            | cell n => exact (show False from h).elim
            | d z =>
              cases z with
              | bl t =>
                cases (show Rep X.K ca ms' H' (.bl t) w' from p')
                exact ⟨t, rfl, h _ H' ms' k' r' rfl⟩
              | _ => exact (show False from h).elim
        have rv : Vals [V.ref p, y] [Value.ref p, u] := .cons rfl (.cons ry .nil)
        have call_ := call_fn F hr gd B (takesF (X := X)) I rv say
        have hu : X.A.units < cLine := by have := hr.un; omega
        show wpAny _ _ (richCompare .Eq (.ref p) u) _ _ _
        refine cmp_K (op := .Eq) hu Fr0 I.ok.mod.kin J L h1 hf hfn (wpAny_mono call_ (fun w s' hw => ?_) fun _ _ z => z)
        obtain ⟨w0, H', I', rw', t', rfl, q⟩ := hw
        obtain rfl : w = Value.bool t' := rw'
        exact ⟨.bl t', H', I', rfl, q⟩
      · exact (show False from h).elim
    · exact (show False from h).elim
  · exact (show False from h).elim
end
end Dv
namespace Dv
open PySem L2 PySem.W
/-! ### tuple(xs) -/
def tupD (μ : Mem) : U → Option D
  | .d (.tup xs) => some (.tup xs)
  | u => (asL μ u).bind fun xs => some (.tup xs)
section
variable {X : Cx} {ca : Nat → Addr}
theorem c_tuple : CallR X (.type "tuple") (rDn X.K ca (one tupD)) := by
  intro pins s σ H xs us Q I r ⟨ms, μ, as, d, rm, ra, e, q⟩
  obtain ⟨u, v, rfl, rfl, p, e⟩ := one_at ra e
  unfold tupD at e
  split at e
  · cases e
    cases p with
    | tup st l z => exact call_tuple_of pins s σ H _ us Q I r ⟨_, _, rfl, .inr ⟨st.sq, q _ _ (Same.refl H) fun _ => .tup st l z⟩⟩
  · cases h : asL μ u with
    | none => rw [h] at e; simp at e
    | some ys =>
      rw [h] at e
      simp only [Option.bind_some, Option.some.injEq] at e
      subst e
      obtain ⟨a, vs, rfl, s0, l⟩ := asL_at rm p h
      exact call_tuple_of pins s σ H _ us Q I r ⟨a, vs, rfl, .inl ⟨.inl (.inl s0), fun n hn => q _ _ (same_new hn) fun _ => .tup (.inl ⟨.inl upd_same, rm.out hn⟩) l.1 fun i x v a b => (l.2 i x v a b).ext (same_new hn)⟩⟩
/-! ### xs * n -/
def repD (μ : Mem) (a b : U) : Option D := match b with
  | .d (.int k) => (asL μ a).bind fun xs => if decide (-(2 ^ 63) ≤ k) && decide (k < 2 ^ 63) && szD (xs.length * k.toNat) then some (.lst (List.replicate k.toNat xs).flatten) else none
  | _ => none
theorem RepL.flat {K : Frag} {ms : Ms} {H : Hp} {xs : List D} {vs : List V} (l : RepL K ca ms H xs vs) : ∀ n : Nat, RepL K ca ms H (List.replicate n xs).flatten (List.replicate n vs).flatten
  | 0 => ⟨rfl, fun i x v a => by simp at a⟩
  | n + 1 => by
    rw [List.replicate_succ, List.replicate_succ, List.flatten_cons, List.flatten_cons]
    exact l.append (l.flat n)
theorem o_rep : OpR X (binaryOp .Mult) (rD2 X.K ca repD) := by
  intro pins s σ H x y v u Q I rx ry ⟨ms, μ, a, b, d, rm, ra, rb, e, q⟩
  unfold repD at e
  split at e
  · rename_i k
    cases h : asL μ a with
    | none => rw [h] at e; simp at e
    | some ys =>
      rw [h, Option.bind_some] at e
      split at e
      · rename_i hc
        cases e
        simp only [Bool.and_eq_true, decide_eq_true_eq] at hc
        obtain ⟨p, vs, rfl, s0, l⟩ := asL_at rm ra h
        cases rb
        exact op_rep pins s σ H _ _ v u Q I rx ry ⟨p, k, vs, rfl, rfl, s0, hc.1.1, hc.1.2, by rw [← l.1]; exact sz_ok hc.2, fun n hn => q _ _ (same_new hn) fun _ => rep_new rm hn (l.flat _)⟩
      · cases e
  · cases e
end
end Dv
namespace Dv
open PySem L2 PySem.W
theorem R.assoc {α β γ : Type} (m : R α) (f : α → Mem → R β) (g : β → Mem → R γ) : (m.bind f).bind g = m.bind fun a μ => (f a μ).bind g := by cases m <;> rfl
/-! ### is, of bools -/
/-! ### a < b <= c -/
/-! ### a, b, c = x, y, z -/
/-! ### xs[::-1] -/
def revD (μ : Mem) (u : U) : Option D := (asL μ u).bind fun xs => some (.lst xs.reverse)
def mRev (me : MD) : MD := mUn revD me
section
variable {X : Cx} {ca : Nat → Addr} {W : WX} {pos : Pos} {e : Expr} {me : MD}
theorem RepL.rev {K : Frag} {ms : Ms} {H : Hp} {xs : List D} {vs : List V} (l : RepL K ca ms H xs vs) : RepL K ca ms H xs.reverse vs.reverse := by
  refine ⟨by simp [l.1], fun i x v h1 h2 => ?_⟩
  have hi : i < xs.length := by
    have := (List.getElem?_eq_some_iff.mp h1).1
    simpa using this
  rw [List.getElem?_reverse hi] at h1
  rw [List.getElem?_reverse (by rw [← l.1]; exact hi), ← l.1] at h2
  exact l.2 _ x v h1 h2
theorem re_rev {k : Nat} {p1 p2 p3 : Pos} (he : PE X e (rdE X.K ca W me)) : PE X (.Subscript e (.Slice none none (some (.UnaryOp .USub (.Constant (.int 1) k p1) p2)) p3) pos) (rdE X.K ca W (mRev me)) :=
  pe_imp (pe_revL he) fun σ H Q kf ⟨ms, ρ, μ, en, r, h⟩ => af_bind en r h fun u μ1 v H1 ms1 k1 r1 p1 h1 => by
    obtain ⟨d, hd, q⟩ := fin_of h1 r1
    unfold revD at hd
    cases hx : asL μ1 u with
    | none => rw [hx] at hd; cases hd
    | some xs =>
      rw [hx] at hd
      cases hd
      obtain ⟨a, vs, rfl, s0, l⟩ := asL_at r1 p1 hx
      exact ⟨a, vs, rfl, .inl (.inl s0), fun n hn => q _ _ (same_new hn) fun _ => rep_new r1 hn l.rev⟩
end
/-! ### ints sorted, with and without equal ones -/
def insI (x : Int) : List Int → List Int
  | [] => [x]
  | y :: r => if x ≤ y then x :: y :: r else y :: insI x r
def srt : List Int → List Int
  | [] => []
  | x :: r => insI x (srt r)
def insU (x : Int) : List Int → List Int
  | [] => [x]
  | y :: r => if x < y then x :: y :: r else if x = y then y :: r else y :: insU x r
def srtU : List Int → List Int
  | [] => []
  | x :: r => insU x (srtU r)
theorem insI_perm (x : Int) : ∀ l : List Int, (insI x l).Perm (x :: l)
  | [] => .refl _
  | y :: r => by
    unfold insI
    split
    · exact .refl _
    · exact ((insI_perm x r).cons y).trans (.swap x y r)
theorem srt_perm : ∀ l : List Int, (srt l).Perm l
  | [] => .refl _
  | x :: r => (insI_perm x _).trans ((srt_perm r).cons x)
theorem insI_le (x : Int) : ∀ l : List Int, l.Pairwise (· ≤ ·) → (insI x l).Pairwise (· ≤ ·)
  | [], _ => List.pairwise_singleton _ _
  | y :: r, h => by
    obtain ⟨h1, h2⟩ := List.pairwise_cons.mp h
    unfold insI
    split
    · rename_i hxy
      refine List.pairwise_cons.mpr ⟨fun z hz => ?_, h⟩
      rcases List.mem_cons.mp hz with rfl | hz
      · exact hxy
      · exact Int.le_trans hxy (h1 z hz)
    · rename_i hxy
      refine List.pairwise_cons.mpr ⟨fun z hz => ?_, insI_le x r h2⟩
      rcases List.mem_cons.mp ((insI_perm x r).mem_iff.mp hz) with rfl | hz
      · omega
      · exact h1 z hz
theorem srt_le : ∀ l : List Int, (srt l).Pairwise (· ≤ ·)
  | [] => .nil
  | x :: r => insI_le x _ (srt_le r)
theorem le_unique : ∀ {xs ys : List Int}, xs.Pairwise (· ≤ ·) → ys.Pairwise (· ≤ ·) → xs.Perm ys → xs = ys
  | [], ys, _, _, p => (List.Perm.nil_eq p)
  | x :: xs, [], _, _, p => absurd p.length_eq (by simp)
  | x :: xs, y :: ys, h1, h2, p => by
    obtain ⟨a1, a2⟩ := List.pairwise_cons.mp h1
    obtain ⟨b1, b2⟩ := List.pairwise_cons.mp h2
    have e : x = y := by
      have m1 : x ∈ y :: ys := p.mem_iff.mp List.mem_cons_self
      have m2 : y ∈ x :: xs := p.mem_iff.mpr List.mem_cons_self
      rcases List.mem_cons.mp m1 with e | m1
      · exact e
      · rcases List.mem_cons.mp m2 with e | m2
        · exact e.symm
        · have := a1 y m2
          have := b1 x m1
          omega
    subst e
    rw [le_unique a2 b2 (p.cons_inv)]
theorem insU_mem (x z : Int) : ∀ l : List Int, z ∈ insU x l ↔ z = x ∨ z ∈ l
  | [] => by simp [insU]
  | y :: r => by
    unfold insU
    split
    · simp
    · split
      · rename_i e
        subst e
        simp
      · simp only [List.mem_cons, insU_mem x z r]
        constructor
        · rintro (h | h | h) <;> simp [h]
        · rintro (h | h | h) <;> simp [h]
theorem srtU_mem (z : Int) : ∀ l : List Int, z ∈ srtU l ↔ z ∈ l
  | [] => by simp [srtU]
  | x :: r => by
    unfold srtU
    rw [insU_mem, srtU_mem z r, List.mem_cons]
theorem insU_lt (x : Int) : ∀ l : List Int, l.Pairwise (· < ·) → (insU x l).Pairwise (· < ·)
  | [], _ => List.pairwise_singleton _ _
  | y :: r, h => by
    obtain ⟨h1, h2⟩ := List.pairwise_cons.mp h
    unfold insU
    split
    · rename_i hxy
      refine List.pairwise_cons.mpr ⟨fun z hz => ?_, h⟩
      rcases List.mem_cons.mp hz with rfl | hz
      · exact hxy
      · exact Int.lt_trans hxy (h1 z hz)
    · split
      · exact h
      · refine List.pairwise_cons.mpr ⟨fun z hz => ?_, insU_lt x r h2⟩
        rcases (insU_mem x z r).mp hz with rfl | hz
        · omega
        · exact h1 z hz
theorem srtU_lt : ∀ l : List Int, (srtU l).Pairwise (· < ·)
  | [] => .nil
  | x :: r => insU_lt x _ (srtU_lt r)
theorem lt_unique : ∀ {xs ys : List Int}, xs.Pairwise (· < ·) → ys.Pairwise (· < ·) → (∀ k, k ∈ xs ↔ k ∈ ys) → xs = ys
  | [], [], _, _, _ => rfl
  | [], y :: ys, _, _, m => absurd ((m y).mpr List.mem_cons_self) (by simp)
  | x :: xs, [], _, _, m => absurd ((m x).mp List.mem_cons_self) (by simp)
  | x :: xs, y :: ys, h1, h2, m => by
    obtain ⟨a1, a2⟩ := List.pairwise_cons.mp h1
    obtain ⟨b1, b2⟩ := List.pairwise_cons.mp h2
    have e : x = y := by
      rcases List.mem_cons.mp ((m x).mp List.mem_cons_self) with e | m1
      · exact e
      · rcases List.mem_cons.mp ((m y).mpr List.mem_cons_self) with e | m2
        · exact e.symm
        · have := a1 y m2
          have := b1 x m1
          omega
    subst e
    congr 1
    refine lt_unique a2 b2 fun k => ⟨fun hk => ?_, fun hk => ?_⟩
    · rcases List.mem_cons.mp ((m k).mp (List.mem_cons_of_mem _ hk)) with e | h
      · have := a1 k hk
        omega
      · exact h
    · rcases List.mem_cons.mp ((m k).mpr (List.mem_cons_of_mem _ hk)) with e | h
      · have := b1 k hk
        omega
      · exact h
def intsD : List D → Option (List Int)
  | [] => some []
  | .int i :: r => (intsD r).map (i :: ·)
  | _ :: _ => none
section
variable {K : Frag} {ca : Nat → Addr} {ms : Ms} {H : Hp}
theorem RepL.tail {x : D} {xs : List D} {v : V} {vs : List V} (l : RepL K ca ms H (x :: xs) (v :: vs)) : RepL K ca ms H xs vs := ⟨by simpa using l.1, fun i y w a b => l.2 (i + 1) y w (by simpa using a) (by simpa using b)⟩
theorem ints_at : ∀ {xs : List D} {vs : List V} {ns : List Int}, RepL K ca ms H xs vs → intsD xs = some ns → vs = ns.map V.int
  | [], vs, ns, l, h => by
    cases h
    exact List.length_eq_zero_iff.mp l.1.symm
  | x :: xs, [], _, l, _ => absurd l.1 (by simp)
  | .int i :: xs, v :: vs, ns, l, h => by
    simp only [intsD, Option.map_eq_some_iff] at h
    obtain ⟨ms', h, rfl⟩ := h
    cases (show Rep K ca ms H (.int i) v from l.2 0 _ v rfl rfl)
    rw [ints_at l.tail h]
    rfl
  | .non :: _, _ :: _, _, _, h | .bl _ :: _, _ :: _, _, _, h | .str _ :: _, _ :: _, _, _, h | .tup _ :: _, _ :: _, _, _, h | .lst _ :: _, _ :: _, _, _, h | .scr _ :: _, _ :: _, _, _, h | .dic _ :: _, _ :: _, _, _, h | .obj _ _ :: _, _ :: _, _, _, h | .err _ _ :: _, _ :: _, _, _, h
  | .thing _ :: _, _ :: _, _, _, h | .ty _ :: _, _ :: _, _, _, h | .cls _ :: _, _ :: _, _, _, h => by cases h
theorem repL_ints (ns : List Int) : RepL K ca ms H (ns.map .int) (ns.map V.int) := by
  refine ⟨by simp, fun i x v h1 h2 => ?_⟩
  rw [List.getElem?_map] at h1 h2
  cases h : ns[i]? with
  | none => rw [h] at h1; cases h1
  | some n =>
    rw [h] at h1 h2
    cases h1
    cases h2
    exact .int n
end
def sortedD (μ : Mem) (u : U) : Option D := (asL μ u).bind fun xs => (intsD xs).bind fun ns => some (.lst ((srt ns).map .int))
section
variable {X : Cx} {ca : Nat → Addr}
theorem c_sorted : CallR X (.builtin "sorted") (rDn X.K ca (one sortedD)) := by
  intro pins s σ H xs us Q I r ⟨ms, μ, as, d, rm, ra, e, q⟩
  obtain ⟨u, v, rfl, rfl, p, e⟩ := one_at ra e
  unfold sortedD at e
  cases hx : asL μ u with
  | none => rw [hx] at e; cases e
  | some ys =>
    rw [hx, Option.bind_some] at e
    cases hn : intsD ys with
    | none => rw [hn] at e; cases e
    | some ns =>
      rw [hn] at e
      cases e
      obtain ⟨a, vs, rfl, s0, l⟩ := asL_at rm p hx
      obtain rfl := ints_at l hn
      refine cr_sortedI pins s σ H _ us Q I r ⟨a, ns, rfl, .inl (.inl s0), ?_⟩
      intro ns' p' hpm hle hnew
      obtain rfl : ns' = srt ns := le_unique hle (srt_le ns) (hpm.trans (srt_perm ns).symm)
      exact q _ _ (same_new hnew) fun _ => rep_new rm hnew (repL_ints _)
end
end Dv
namespace Dv
open PySem L2 PySem.W PySem.DvX StX
open PyProof.Rows (envOfC)
/-! ### *e among what is written in a display or a call -/
def mStar (ma : MD) (mr : ML) : ML := fun ρ μ => (ma ρ μ).bind fun u μ1 => match itemsU μ1 u with
  | some xs => (mr ρ μ1).bind fun ys μ2 => .val (xs.map .d ++ ys) μ2
  | none => .stuck
theorem RepL.ul {K : Frag} {ca : Nat → Addr} {ms : Ms} {H : Hp} {xs : List D} {vs : List V} (l : RepL K ca ms H xs vs) : RepUL K ca ms H (xs.map .d) vs := by
  refine ⟨by simp [l.1], fun i x v h1 h2 => ?_⟩
  rw [List.getElem?_map] at h1
  cases h : xs[i]? with
  | none => rw [h] at h1; cases h1
  | some y =>
    rw [h] at h1
    cases h1
    exact l.2 i y v h h2
theorem RepUL.append {K : Frag} {ca : Nat → Addr} {ms : Ms} {H : Hp} {us ws : List U} {vs zs : List V} (p1 : RepUL K ca ms H us vs) (p2 : RepUL K ca ms H ws zs) : RepUL K ca ms H (us ++ ws) (vs ++ zs) := ⟨by simp [p1.1, p2.1], fun i x v a b => by
  by_cases hi : i < us.length
  · rw [List.getElem?_append_left hi] at a
    rw [List.getElem?_append_left (by rw [← p1.1]; exact hi)] at b
    exact p1.2 i x v a b
  · rw [List.getElem?_append_right (by omega)] at a
    rw [List.getElem?_append_right (by rw [← p1.1]; omega), ← p1.1] at b
    exact p2.2 _ x v a b⟩
section
variable {X : Cx} {ca : Nat → Addr} {W : WX} {pos p : Pos} {e : Expr} {es : List Expr} {ma : MD} {mr ml : ML}
theorem ra_star (he : PE X e (rdE X.K ca W ma)) (hr : PA X es (rdA X.K ca W mr)) (hs : starEach (.Starred e p :: es) X.env = (true, eval e X.env) :: starEach es X.env := by rfl) : PA X (.Starred e p :: es) (rdA X.K ca W (mStar ma mr)) :=
  pa_imp (pa_star he hr hs) fun σ H Q _ ⟨ms, ρ, μ, en, r, h⟩ => af_bind en r h fun u μ1 v H1 ms1 k1 r1 p1 h1 => by
    cases hx : itemsU μ1 u with
    | none => rw [hx] at h1; exact (show False from h1).elim
    | some xs =>
      rw [hx] at h1
      obtain ⟨a, vs, rfl, sq, l⟩ := items_at r1 p1 hx
      refine ⟨a, vs, rfl, sq.symm, af_bind (en.keep k1) r1 h1 fun ys μ2 ws H2 ms2 k2 r2 p2 h2 => fun _ => Af.at h2 r2 ?_⟩
      exact (k2.list l).ul.append p2
/-- what stands behind f in a call without keywords, any number of values -/
structure PCS (X : Cx) (ca : Nat → Addr) (W : WX) (args : List Expr) (pos : Pos) (ml : ML) : Prop where
  run : ∀ (pins : List (Addr × Obj)) (s : Shared) (σ : St) (H : Hp) (f : Value) (first : List Value) (Q : Value → Shared → Prop), Inv X pins σ H s → keepIn X.K f = true →
    rdA X.K ca W ml σ H (fun vs H1 => ∀ (us : List Value) (s1 : Shared), Inv X pins σ H1 s1 → Vals vs us → wpAny (model X.prog X.w) X.A (call f (first ++ us)) Q X.xe s1) →
    wpAny (model X.prog X.w) X.A (callWith pos f first (backTo pos (starEach args X.env)) []) Q X.xe s
theorem pv_pos (ha : PA X (e :: es) (rdA X.K ca W ml)) (he : starEach (e :: es) X.env = (false, eval e X.env) :: starEach es X.env := by rfl) (hpl : (backTo pos (starEach es X.env)).any (·.1) = false := by rfl) : PCS X ca W (e :: es) pos ml :=
  ⟨fun pins s σ H f first Q I hk h => PySem.W.callWith_K (h₀ := X.base) I.ok.mod.kin hk (thn (ha.run pos pins s σ H _ I h) fun us s1 ⟨vs, H1, I1, r, q⟩ => ⟨I1.kIn, q us s1 I1 r⟩) he hpl⟩
end
/-! ### a def with *v, by what it is handed -/
structure FnP (P : Program) (w : World) (K : Frag) (mg : Str → Option Value) (base : Heap) (ca : Nat → Addr) (k : Nat) (f : Addr) (mf : MF) : Prop where
  go : ∀ (B : Around) (fr : List PySem.Env) (z : Shared) (G : Hp) (us : List Value) (vs : List V) (Q : VK) (E : XK), Room k B → B.guards = some [] → Env0 P w K mg base B fr z G → Vals vs us →
    (∃ ms μ xs, RelM K ca μ ms G ∧ RepUL K ca ms G xs vs ∧ Af K ca (RepU K ca) (fun cls d _ H' => E cls d H') [] ms G (mf xs μ) Q) →
    codeAny (model P w) B (.call (.ref f) ⟨us, []⟩) (CR (L2.CX P w) fr P w G z Q E) z
/-- n by position, the others in a new tuple -/
def vaU (n : Nat) (us : List U) : Option (List U) := if decide (n ≤ us.length) && szD us.length then (toDs (us.drop n)).map fun ds => us.take n ++ [.d (.tup ds)] else none
def runV (n : Nat) (mf : MF) : MF := fun us μ => match vaU n us with
  | some as => mf as μ
  | none => .stuck
theorem RepUL.drop {K : Frag} {ca : Nat → Addr} {ms : Ms} {H : Hp} {us : List U} {vs : List V} (l : RepUL K ca ms H us vs) (n : Nat) : RepUL K ca ms H (us.drop n) (vs.drop n) := ⟨by simp [l.1], fun i x v a b => l.2 _ x v (by rw [List.getElem?_drop] at a; exact a) (by rw [List.getElem?_drop] at b; exact b)⟩
theorem RepUL.take {K : Frag} {ca : Nat → Addr} {ms : Ms} {H : Hp} {us : List U} {vs : List V} (l : RepUL K ca ms H us vs) (n : Nat) : RepUL K ca ms H (us.take n) (vs.take n) := ⟨by simp [l.1], fun i x v a b => by
  rw [List.getElem?_take] at a b
  split at a
  · rename_i h
    rw [if_pos h] at b
    exact l.2 i x v a b
  · cases a⟩
theorem vals_take {vs : List V} {us : List Value} (r : Vals vs us) : ∀ n : Nat, Vals (vs.take n) (us.take n) ∧ Vals (vs.drop n) (us.drop n) := by
  induction r with
  | nil => intro n; rw [List.take_nil, List.drop_nil, List.take_nil, List.drop_nil]; exact ⟨.nil, .nil⟩
  | cons a b ih =>
    intro n
    cases n with
    | zero => exact ⟨.nil, .cons a b⟩
    | succ n => exact ⟨.cons a (ih n).1, (ih n).2⟩
theorem cr_up {P : Program} {w : World} {fr : List PySem.Env} {H H2 : Hp} {z z2 : Shared} {Q : VK} {E : XK} {r : Result} {s' : Shared} (un : Un (frs fr) [] H H2 z.heap z2.heap) (ho : z2.os = z.os) (hx : ∀ e s', L2.CX P w fr H2 z2 E e s' → L2.CX P w fr H z E e s') (h : CR (L2.CX P w) fr P w H2 z2 Q E r s') : CR (L2.CX P w) fr P w H z Q E r s' := by
  cases r with
  | error e => exact hx e s' h
  | ok fl =>
    cases fl with
    | ret u =>
      obtain ⟨v, H', h1, h2, h3, h4, h5, h6⟩ := h
      exact ⟨v, H', h1.trans ho, h2, un.trans h3, h4, h5, h6⟩
    | next => exact h
    | brk => exact h
    | cont => exact h
section
variable {P : Program} {w : World} {K : Frag} {mg : Str → Option Value} {base : Heap} {ca : Nat → Addr}
/-- a def over __class__ that ends in super().__init__(..), however it binds -/
theorem fn_okB {name qual : Str} {par : Arguments} {pre : List Stmt} {st : Stmt} {sc : Scope} {dV kV doc pm ct oc : Value} {an od : Option Addr} {osl : Array (Option Value)} {f cc cda : Addr} {co : Obj} {cv : Option Value} {N ps : List Str} {k : Nat} {mp ml : MS} {mf : MF}
    (at_ : K.lookup f = some ⟨oc, od, .func (ksFn name qual par (pre ++ [st]) sc dV kV doc pm an (.ref cda) ct cc), osl⟩) (cod : codeIn K (.ref cda) qual = true) (S : ScS N ps sc) (hc : K.lookup cc = some co) (hcd : co.data = .cell cv)
    (hmf : ∀ us μ, us.length = ps.length → mf us μ = runB N.length (mSeq mp ml) us μ)
    (hp : ∀ (A : Around) (outer : List PySem.Env) (s : Shared) (H : Hp) (E : XK), Room k (A.deeper (envS qual sc s.heap.objs.size f (.ref cda) cc)) → A.guards = some [] → PSs (cxS P w K mg base N qual sc f (.ref cda) cc A outer s H E) pre (rdS K ca (fun cls d _ H' => E cls d H') mp))
    (hl : ∀ (A : Around) (outer : List PySem.Env) (s0 : Shared) (H0 : Hp) (E : XK), Room k (A.deeper (envS qual sc s0.heap.objs.size f (.ref cda) cc)) → A.guards = some [] → ∀ (s : Shared) (σ : St) (H : Hp) (En : Ends), L2.Inv (cxS P w K mg base N qual sc f (.ref cda) cc A outer s0 H0 E) [] σ H s →
      rdS K ca (fun cls d _ H' => E cls d H') ml En σ H → PySem.wpAt (model P w) (A.deeper (envS qual sc s0.heap.objs.size f (.ref cda) cc)) (.func (pre ++ [st]) (envS qual sc s0.heap.objs.size f (.ref cda) cc)) (exec st (envS qual sc s0.heap.objs.size f (.ref cda) cc))
        (SP (cxS P w K mg base N qual sc f (.ref cda) cc A outer s0 H0 E) [] En) (cxS P w K mg base N qual sc f (.ref cda) cc A outer s0 H0 E).xe s) :
    ∀ (B : Around) (fr : List PySem.Env) (z0 z : Shared) (G : Hp) (ar : Args) (as : List Value) (xs : List V) (Q : VK) (E : XK), Room (k + 1) B → B.guards = some [] → K.In z0.heap → Env0 P w K mg base B fr z G →
      (∀ (M : Model) (A : Around) (E : Value → Shared → Prop) (Q : List (Str × Value) → Shared → Prop), Q (ps.zip as) z → wpAny M A (bindArgs (ksFn name qual par (pre ++ [st]) sc dV kV doc pm an (.ref cda) ct cc) ar) Q E z0) → Vals xs as → spD K ca ps.length mf xs G Q E →
      codeAny (model P w) B (.call (.ref f) ar) (CR (L2.CX P w) fr P w G z Q E) z0 := by
  intro B fr z0 z G ar as xs Q E rm gd inK0 e0 bi rv hs
  have inK : K.In z.heap := e0.mod.kin.keeps fun c o q => (e0.bs c o q).1
  have noL : z.heap.NoLimit := e0.mod.nolimit.keeps fun c o q => (e0.bs c o q).1
  have hlen : xs.length = ps.length := hs.1
  have ncl : ∀ pr ∈ ps.zip as, pr.1 ≠ clsN := fun pr hm e => S.ncls (by
    have m := (List.of_mem_zip hm).1
    rw [e] at m
    rw [← S.pre] at m
    exact List.mem_of_mem_take m)
  refine codeAny_call_function rm.depth (inK0 _ _ at_) rfl S.co S.gen rfl (PySem.W.codeRec_of inK0 cod) (bi _ _ _ _ (new_envS S.kind (fun pr mem => ?_) ncl fun z1 ic => ?_))
  · obtain ⟨n, v⟩ := pr
    rcases S.par n (List.of_mem_zip mem).1 with q | q
    · exact Or.inl q
    · exact Or.inr ⟨q, PySem.W.cellsFrom_some _ _ _ (Or.inl q)⟩
  · have J0 : L2.Inv (cxS P w K mg base N qual sc f (.ref cda) cc B fr z G E) [] (L2.start N xs) G z1 := inv_startS S rm.hd e0 hlen rv hc hcd ic
    obtain ⟨h1, tk, rfl, kp⟩ := ic.done
    refine ⟨noL.keeps kp, ks_codeAny_funcAt (at_app ?_)⟩
    obtain ⟨_, ms, μ, us, r, l, h⟩ := hs
    rw [hmf us μ (by rw [l.1]; exact hlen)] at h
    let D : Ends := { nx := fun _ G' => Q .non G', rt := Q }
    have fin : AfS K ca (fun cls d _ H' => E cls d H') ms G (mSeq mp ml (us.map some ++ List.replicate (N.length - us.length) none) μ) { nx := fun _ G' => Q .non G', rt := Q } := by
      unfold runB at h
      cases hm : mSeq mp ml (us.map some ++ List.replicate (N.length - us.length) none) μ with
      | next ρ1 μ1 => rw [hm] at h; exact fun σ' H' ms' k' e' r' => h .non H' ms' k' r' Rep.non
      | ret v μ1 => rw [hm] at h; exact fun v' H' ms' k' r' p' => h v' H' ms' k' r' p'
      | exc c fs ρ1 μ1 => rw [hm] at h; exact fun d σ' H' ms' k' e' r' x' => h d H' ms' k' r' x'
      | brk ρ1 μ1 => rw [hm] at h; exact (show False from h).elim
      | cont ρ1 μ1 => rw [hm] at h; exact (show False from h).elim
      | stuck => rw [hm] at h; exact (show False from h).elim
    have say : rdS K ca (fun cls d _ H' => E cls d H') mp { nx := fun σ H => rdS K ca (fun cls d _ H' => E cls d H') ml { nx := fun _ G' => Q .non G', rt := Q } σ H, rt := Q } (L2.start N xs) G := by
      refine ⟨ms, _, μ, start_rel (N := N) l, r, ?_⟩
      unfold mSeq at fin
      cases hm : mp (us.map some ++ List.replicate (N.length - us.length) none) μ with
      | next ρ1 μ1 =>
        rw [hm] at fin
        exact fun σ' H' ms' k' e' r' => ⟨ms', ρ1, μ1, e', r', AfS.shift fin k'⟩
      | ret v μ1 => rw [hm] at fin; exact fin
      | exc c fs ρ1 μ1 => rw [hm] at fin; exact fin
      | brk ρ1 μ1 => rw [hm] at fin; exact fin
      | cont ρ1 μ1 => rw [hm] at fin; exact fin
      | stuck => rw [hm] at fin; exact fin
    have rm2 := rm.deeper (envS qual sc z.heap.objs.size f (.ref cda) cc)
    have back : ∀ {fl : Flow} {s' : Shared} {En : Ends}, (∀ σ H, En.nx σ H → Q .non H) → (∀ v H, En.rt v H → Q v H) → (∀ σ H, ¬ En.bk σ H) → (∀ σ H, ¬ En.ct σ H) → SP (cxS P w K mg base N qual sc f (.ref cda) cc B fr z G E) [] En fl s' → CR (L2.CX P w) fr P w G z Q E (.ok (.ret (match fl with | .ret v => v | _ => .none))) s' := fun {fl s' En} a1 a2 a3 a4 h => by
      cases fl with
      | ret u => obtain ⟨v, σ', G', J, rel, q⟩ := h; exact ⟨v, G', J.os, J.bare, J.base, J.hok, rel, a2 _ _ q⟩
      | next => obtain ⟨σ', G', J, q⟩ := h; exact ⟨V.non, G', J.os, J.bare, J.base, J.hok, rfl, a1 _ _ q⟩
      | brk => obtain ⟨_, _, _, q⟩ := h; exact absurd q (a3 _ _)
      | cont => obtain ⟨_, _, _, q⟩ := h; exact absurd q (a4 _ _)
    refine wpAny_mono ((hp B fr z G E rm2 gd).run [] _ (L2.start N xs) G _ J0 say) (fun fl s' hsp => ?_) fun e s' hx => hx
    cases fl with
    | next =>
      obtain ⟨σ', G', J, q⟩ := hsp
      refine ks_wpAt_execs_cons (ks_wpAt_mono (hl B fr z G E rm2 gd _ σ' G' _ J q) (fun fl s'' h2 => ?_) fun e s'' hx => hx)
      cases fl with
      | next => exact wpAt_of_wpAny (wpAny_execs_nil (back (fl := .next) (fun _ _ q => q) (fun _ _ q => q) (fun _ _ q => q) (fun _ _ q => q) h2))
      | ret u => exact back (fl := .ret u) (fun _ _ q => q) (fun _ _ q => q) (fun _ _ q => q) (fun _ _ q => q) h2
      | brk => exact back (fl := .brk) (fun _ _ q => q) (fun _ _ q => q) (fun _ _ q => q) (fun _ _ q => q) h2
      | cont => exact back (fl := .cont) (fun _ _ q => q) (fun _ _ q => q) (fun _ _ q => q) (fun _ _ q => q) h2
    | ret u =>
      obtain ⟨v, σ', G', J, rel, q⟩ := hsp
      exact ⟨v, G', J.os, J.bare, J.base, J.hok, rel, q⟩
    | brk => obtain ⟨_, _, _, q⟩ := hsp; exact q.elim
    | cont => obtain ⟨_, _, _, q⟩ := hsp; exact q.elim
/-- such a def with *v -/
theorem fn_okSV {name qual : Str} {par : Arguments} {pre : List Stmt} {st : Stmt} {sc : Scope} {dV kV doc pm ct oc : Value} {an od : Option Addr} {osl : Array (Option Value)} {f cc cda : Addr} {co : Obj} {cv : Option Value} {N ps : List Str} {pv : Str} {k : Nat} {mp ml : MS} {mf : MF}
    (at_ : K.lookup f = some ⟨oc, od, .func (ksFn name qual par (pre ++ [st]) sc dV kV doc pm an (.ref cda) ct cc), osl⟩) (cod : codeIn K (.ref cda) qual = true) (S : ScS N (ps ++ [pv]) sc) (hc : K.lookup cc = some co) (hcd : co.data = .cell cv)
    (hmf : ∀ us μ, us.length = (ps ++ [pv]).length → mf us μ = runB N.length (mSeq mp ml) us μ)
    (hbd : ∀ us rest : List Value, us.length = ps.length → bindArgs (ksFn name qual par (pre ++ [st]) sc dV kV doc pm an (.ref cda) ct cc) ⟨us ++ rest, []⟩ = (newTuple rest >>= fun t => pure (ps.zip us ++ [(pv, t)])))
    (hp : ∀ (A : Around) (outer : List PySem.Env) (s : Shared) (H : Hp) (E : XK), Room k (A.deeper (envS qual sc s.heap.objs.size f (.ref cda) cc)) → A.guards = some [] → PSs (cxS P w K mg base N qual sc f (.ref cda) cc A outer s H E) pre (rdS K ca (fun cls d _ H' => E cls d H') mp))
    (hl : ∀ (A : Around) (outer : List PySem.Env) (s0 : Shared) (H0 : Hp) (E : XK), Room k (A.deeper (envS qual sc s0.heap.objs.size f (.ref cda) cc)) → A.guards = some [] → ∀ (s : Shared) (σ : St) (H : Hp) (En : Ends), L2.Inv (cxS P w K mg base N qual sc f (.ref cda) cc A outer s0 H0 E) [] σ H s →
      rdS K ca (fun cls d _ H' => E cls d H') ml En σ H → PySem.wpAt (model P w) (A.deeper (envS qual sc s0.heap.objs.size f (.ref cda) cc)) (.func (pre ++ [st]) (envS qual sc s0.heap.objs.size f (.ref cda) cc)) (exec st (envS qual sc s0.heap.objs.size f (.ref cda) cc))
        (SP (cxS P w K mg base N qual sc f (.ref cda) cc A outer s0 H0 E) [] En) (cxS P w K mg base N qual sc f (.ref cda) cc A outer s0 H0 E).xe s) :
    FnP P w K mg base ca (k + 1) f (runV ps.length mf) := by
  refine ⟨fun B fr z G us vs Q E rm gd e0 rv ⟨ms, μ, xs, r, l, h⟩ => ?_⟩
  unfold runV at h
  cases hv : vaU ps.length xs with
  | none => rw [hv] at h; exact (show False from h).elim
  | some as =>
    rw [hv] at h
    unfold vaU at hv
    split at hv
    · rename_i hz
      simp only [Bool.and_eq_true, decide_eq_true_eq] at hz
      cases hd : toDs (xs.drop ps.length) with
      | none => rw [hd] at hv; cases hv
      | some ds =>
        rw [hd] at hv
        cases hv
        have hn : G z.heap.objs.size = Option.none := e0.hok.fresh (Nat.le_refl _)
        have lt := l.take ps.length
        have ld := repL_of (l.drop ps.length) hd
        obtain ⟨r1, r2⟩ := vals_take rv ps.length
        have lv : vs.length = us.length := rv.length
        have lx : xs.length = vs.length := l.1
        have hu1 : (us.take ps.length).length = ps.length := by rw [List.length_take]; omega
        have hsz : (vs.drop ps.length).length ≤ sizeLine := Nat.le_trans (by rw [List.length_drop]; omega) (sz_ok hz.2)
        have new : ObjOk P w (upd G z.heap.objs.size (.tup (vs.drop ps.length))) (z.heap.push ({ cls := .type "tuple", data := .seq (us.drop ps.length).toArray } : Obj)) z.heap.objs.size (.tup (vs.drop ps.length)) := ⟨hsz, _, r2, ⟨_, Heap.get?_push_size _ rfl, rfl, _, rfl⟩⟩
        have un := un_laid (fs := frs fr) (s := z) (o := ({ cls := .type "tuple", data := .seq (us.drop ps.length).toArray } : Obj)) (u := .tup (vs.drop ps.length)) hn
        have e2 := env0_laid e0 new
        have sm : Same G (upd G z.heap.objs.size (.tup (vs.drop ps.length))) := same_new hn
        have kp := r.keep_ext sm
        have inK : K.In z.heap := e0.mod.kin.keeps fun c o q => (e0.bs c o q).1
        have core := fn_okB at_ cod S hc hcd hmf hp hl B fr z { z with heap := z.heap.push ({ cls := .type "tuple", data := .seq (us.drop ps.length).toArray } : Obj) } _ ⟨us, []⟩ (us.take ps.length ++ [.ref z.heap.objs.size]) (vs.take ps.length ++ [.ref z.heap.objs.size]) Q E rm gd inK e2
          (fun M A' E' Q' hq => by
            have e : (us : List Value) = us.take ps.length ++ us.drop ps.length := (List.take_append_drop _ _).symm
            rw [e, hbd _ _ hu1]
            refine wpAny_bind (wpAny_newTuple (wpAny_pure ?_) (by rw [← r2.length]; exact hsz))
            rw [← List.take_append_drop ps.length us] at hq
            have q2 := hq
            rw [List.zip_append (by rw [← e]; exact hu1.symm)] at q2
            rw [List.take_append_drop] at q2
            exact q2) (r1.append (.cons (show RelV (.ref z.heap.objs.size) (.ref z.heap.objs.size) from rfl) .nil))
          ⟨by simp [hz.1, lv, lx] <;> omega, ms, μ, _, r.ext sm ⟨rfl, rfl⟩, (kp.ulist lt).append (RepUL.cons (show RepU K ca ms _ (.d (.tup ds)) (.ref z.heap.objs.size) from .tup (.inl ⟨.inl upd_same, r.out hn⟩) ld.1 fun i x v a b => (ld.2 i x v a b).ext sm) ⟨rfl, fun i x v a => by simp at a⟩), Af.shift h kp⟩
        exact codeAny_mono core fun rr s' hq => cr_up (z2 := { z with heap := z.heap.push ({ cls := .type "tuple", data := .seq (us.drop ps.length).toArray } : Obj) }) un rfl (fun e s'' => cxUp fr z G { z with heap := z.heap.push ({ cls := .type "tuple", data := .seq (us.drop ps.length).toArray } : Obj) } _ E e s'' un (fun b o q => Heap.get?_push_of_some _ q) rfl) hq
    · cases hv
end
end Dv
namespace Dv
open PySem L2 PySem.W ClX
/-! ### C(..) where __init__ takes whatever it is handed -/
def mkP (c : Nat) (fr : Bool) (mf : MF) (us : List U) (μ : Mem) : R U := match mf (.cell μ.length :: us) (μ ++ [some (.obj c [])]) with
  | .val (.d .non) μ2 => if fr then frzU μ.length μ2 else .val (.cell μ.length) μ2
  | .exc k fs μ2 => .exc k fs μ2
  | _ => .stuck
def mMkP (c : Nat) (fr : Bool) (mf : MF) (ml : ML) : MD := fun ρ μ => (ml ρ μ).bind fun us μ1 => mkP c fr mf us μ1
structure MkPF (X : Cx) (ca : Nat → Addr) (k : Nat) (C : Addr) (mf : MF) : Prop where
  ex : ∃ f, Mk X.K C f ∧ FnP X.prog X.w X.K X.mg X.base ca k f mf
section
variable {X : Cx} {ca : Nat → Addr} {W : WX} {pos : Pos} {es : List Expr} {kws : List Keyword} {ml : ML}
theorem run_mkP {k : Nat} {c : Nat} {fr : Bool} {mf : MF} {pins : List (Addr × Obj)} {σ : St} {H : Hp} {s : Shared} {Q : VK} {us : List U} {vs : List V} {xs : List Value} {ms : Ms} {μ : Mem}
    (M : MkPF X ca k (ca c) mf) (hr : Room (k + 1) X.A) (gd : X.A.guards = some []) (tk : Takes X W) (I : Inv X pins σ H s) (r : RelM X.K ca μ ms H) (l : RepUL X.K ca ms H us vs) (rv : Vals vs xs)
    (h : Af X.K ca (RepU X.K ca) W σ ms H (mkP c fr mf us μ) Q) : wpAny (model X.prog X.w) X.A (call (.ref (ca c)) xs) (EP X pins σ Q) X.xe s := by
  obtain ⟨f, M, F⟩ := M.ex
  have fx : H (s.heap.objs.size + 1) = none := I.hok.fresh (Nat.le_succ _)
  have fd0 : H s.heap.objs.size = none := I.hok.fresh (Nat.le_refl _)
  have ne : s.heap.objs.size ≠ s.heap.objs.size + 1 := Nat.ne_of_lt (Nat.lt_succ_self _)
  have I2 := Inv.made (C := ca c) I
  have sm : Same H (upd (upd H s.heap.objs.size (.own (s.heap.objs.size + 1))) (s.heap.objs.size + 1) (.ins (ca c) s.heap.objs.size [])) := fun b o q => same_new (by rw [upd_ne (Ne.symm ne)]; exact fx) b o (same_new fd0 b o q)
  obtain ⟨k2, r2⟩ := r.newC (p := s.heap.objs.size + 1) (c := .obj c []) fx sm fun _ => ⟨_, [], upd_same, rfl, fun i x v h => by simp at h⟩
  have pself : RepU X.K ca (ms.more (s.heap.objs.size + 1)) (upd (upd H s.heap.objs.size (.own (s.heap.objs.size + 1))) (s.heap.objs.size + 1) (.ins (ca c) s.heap.objs.size [])) (.cell μ.length) (.ref (s.heap.objs.size + 1)) :=
    ⟨_, rfl, .inl (by show (ms.cs ++ [some _])[μ.length]? = _; rw [r.len]; simp)⟩
  have l2 := RepUL.cons pself (k2.ulist l)
  have rv2 : Vals (V.ref (s.heap.objs.size + 1) :: vs) (Value.ref (s.heap.objs.size + 1) :: xs) := .cons rfl rv
  have go := F.go _ X.stack _ _ (Value.ref (s.heap.objs.size + 1) :: xs) _ (fun v H2 => v = .non ∧ Q (.ref (s.heap.objs.size + 1)) H2) (WE W σ) (hr.make (ca c) xs []) gd (I2.env0.make (ca c) xs []) rv2 ⟨_, _, _, r2, l2, by
    unfold mkP at h
    cases hm : mf (.cell μ.length :: us) (μ ++ [some (.obj c [])]) with
    | stuck => rw [hm] at h; exact (show False from h).elim
    | exc k fs μ2 =>
      rw [hm] at h
      exact fun d H' ms' k' r' e' => h d H' ms' (k2.trans k') r' e'
    | val u μ2 =>
      rw [hm] at h
      cases u with
      | cell m => exact (show False from h).elim
      | d x =>
        cases x with
        | non =>
          intro v H' ms' k' r' p'
          cases (show Rep X.K ca ms' H' .non v from p')
          refine ⟨rfl, ?_⟩
          have ps' := k'.all _ _ pself
          cases fr with
          | false => exact h _ H' ms' (k2.trans k') r' ps'
          | true =>
            simp only [if_true] at h
            unfold frzU at h
            split at h
            · rename_i c' fs hn
              split at h
              · rename_i ds hds
                split at h
                · rename_i nr
                  obtain ⟨a, ea, qa⟩ := r'.lives ps' hn
                  cases ea
                  obtain ⟨r3, p3⟩ := r'.freeze hn hds nr qa
                  refine h _ H' (ms'.gone μ.length) ⟨fun u v p => ?_, (k2.trans k').hid, (k2.trans k').same, ⟨(k2.trans k').ol.old, fun a z => (k2.trans k').ol.new a (gone_in z)⟩⟩ r3 p3
                  refine RepU.gone ((k2.trans k').all _ _ p) ?_
                  cases u with
                  | d x => rfl
                  | cell m =>
                    obtain ⟨a, _, q⟩ := p
                    have : m < ms.cs.length := by rcases q with q | q <;> exact (List.getElem?_eq_some_iff.mp q).1
                    rw [← r.len] at this
                    simp only [isCell, beq_eq_false_iff_ne]
                    omega
                · exact (show False from h).elim
              · exact (show False from h).elim
            · exact (show False from h).elim
        | _ => exact (show False from h).elim⟩
  refine wpAny_call (make_map (f := f) I.kIn M.makes M.init (beq_iff_eq.mp M.fn) (codeAny_mono go fun res s' end_ => ?_))
  cases res with
  | error er => exact passAt tk σ pins _ _ er s' I2 end_
  | ok way =>
    cases way with
    | ret u =>
      obtain ⟨v, H', I3, rr, ev, q3⟩ := I2.after end_
      subst ev
      exact ⟨rr, ⟨V.ref (s.heap.objs.size + 1), H', I3, rfl, q3⟩⟩
    | next => exact False.elim end_
    | brk => exact False.elim end_
    | cont => exact False.elim end_
theorem re_mkP {k : Nat} {c : Nat} {fr : Bool} {mf : MF} {x : Str} {p : Pos} (M : MkPF X ca k (ca c) mf) (hr : Room (k + 1) X.A) (gd : X.A.guards = some []) (tk : Takes X W) (hm : X.mg x = some (.ref (ca c))) (hk : keepIn X.K (.ref (ca c)) = true)
    (hc : PCS X ca W es pos ml) (hg : Gl X x := by rfl) (hdb : (x == ("__debug__" : Str)) = false := by decide) : PE X (.Call (.Name x p) es [] pos) (rdE X.K ca W (mMkP c fr mf ml)) := by
  refine ⟨fun pins s σ H Q I ⟨ms, ρ, μ, en, r, h⟩ => wpAny_Call_Name_kw (ld_glob I hg hm ?_ hdb)⟩
  exact hc.run pins s σ H (.ref (ca c)) [] _ I hk (af_bind en r h fun us μ1 vs H1 ms1 k1 r1 p1 h1 => fun xs s1 I1 rv => run_mkP M hr gd tk I1 r1 p1 rv h1)
/-! ### C.m(..), m a staticmethod -/
/-! ### comparisons by own methods -/
def NoX (f : U → U → Mem → R Bool) : Prop := ∀ a b μ c fs μ', f a b μ ≠ .exc c fs μ'
def rOwn (K : Frag) (ca : Nat → Addr) (f : U → U → Mem → R Bool) : R2 := fun x y H Q => ∃ ms μ a b, RelM K ca μ ms H ∧ RepU K ca ms H a x ∧ RepU K ca ms H b y ∧ Af K ca rpB WF [] ms H (f a b μ) fun t H' => Q (.bl t) H'
def mOwn (f : U → U → Mem → R Bool) (ma mb : MD) : MT := fun ρ μ => (ma ρ μ).bind fun x μ1 => (mb ρ μ1).bind fun y μ2 => f x y μ2
variable {a b : Expr} {ma mb : MD}
theorem rt_own {op : CmpOp} {f : U → U → Mem → R Bool} (ho : OpR X (compareOp op) (rOwn X.K ca f)) (nx : NoX f) (ha : PE X a (rdE X.K ca W ma)) (hb : PE X b (rdE X.K ca W mb)) (hm : behindInMarks op b = false := by rfl) : PT X (.Compare a [op] [b] pos) (rdT X.K ca W (mOwn f ma mb)) :=
  pt_imp (pt_cmpR ho ha hb hm) fun σ H Q kf ⟨ms, ρ, μ, e, r, h⟩ => af_bind e r h fun x μ1 v H1 ms1 k1 r1 p1 h1 => af_bind (e.keep k1) r1 h1 fun y μ2 u H2 ms2 k2 r2 p2 h2 =>
    ⟨ms2, μ2, x, y, r2, k2.all _ _ p1, p2, by
      cases hi : f x y μ2 with
      | val t μ3 => rw [hi] at h2; exact fun t' H' ms' k' r' et => ⟨t', rfl, fun _ => h2 t' H' ms' k' r' et⟩
      | stuck => rw [hi] at h2; exact h2
      | exc c fs μ3 => exact absurd hi (nx _ _ _ _ _ _)⟩
theorem re_own {op : CmpOp} {f : U → U → Mem → R Bool} (ho : OpR X (compareOp op) (rOwn X.K ca f)) (nx : NoX f) (ha : PE X a (rdE X.K ca W ma)) (hb : PE X b (rdE X.K ca W mb)) (hm : behindInMarks op b = false := by rfl) : PE X (.Compare a [op] [b] pos) (rdE X.K ca W (mVal (mOwn f ma mb))) := by
  refine pe_imp (pe_cmpR ho ha hb hm) fun σ H Q kf ⟨ms, ρ, μ, e, r, h⟩ => ?_
  unfold mVal mOwn at h
  simp only [R.assoc] at h
  refine af_bind e r h fun x μ1 v H1 ms1 k1 r1 p1 h1 => af_bind (e.keep k1) r1 h1 fun y μ2 u H2 ms2 k2 r2 p2 h2 => ⟨ms2, μ2, x, y, r2, k2.all _ _ p1, p2, ?_⟩
  cases hi : f x y μ2 with
  | stuck => rw [hi] at h2; exact h2
  | exc c fs μ3 => exact absurd hi (nx _ _ _ _ _ _)
  | val t μ3 =>
    rw [hi, bind_val] at h2
    exact fun t' H' ms' k' r' et => by
      obtain rfl : t' = t := et
      exact fun _ => h2 (.bl t') H' ms' k' r' (Rep.bl t')
theorem nx_eqO {tb : Nat → Option MF} {okT : Nat → String ⊕ Nat → Bool} : NoX (eqO tb okT) := fun a b μ c fs μ' h => by
  unfold eqO at h
  split at h
  · split at h
    · rename_i mf _
      split at h
      · cases hm : mf [a, b] μ with
        | stuck => rw [hm] at h; cases h
        | exc c' fs' μ3 => rw [hm] at h; cases h
        | val u μ3 =>
          rw [hm, calm_val, bind_val] at h
          split at h <;> cases h
      · cases h
    · cases h
  · cases h
def neO (tb : Nat → Option MF) (okT : Nat → String ⊕ Nat → Bool) (a b : U) (μ : Mem) : R Bool := (eqO tb okT a b μ).bind fun t μ2 => .val (!t) μ2
theorem nx_neO {tb : Nat → Option MF} {okT : Nat → String ⊕ Nat → Bool} : NoX (neO tb okT) := fun a b μ c fs μ' h => by
  unfold neO at h
  cases hm : eqO tb okT a b μ with
  | stuck => rw [hm] at h; cases h
  | exc c' fs' μ3 => exact nx_eqO _ _ _ _ _ _ hm
  | val u μ3 => rw [hm] at h; cases h
end
section
variable {prog : Program} {w : World} {A : Around} {E : Value → Shared → Prop} {s : Shared} {K : Frag} {x C f : Addr} {ox : Obj} {od : Option Obj} {b tb : Value}
open Builtin in
theorem ne_own {Q : Value → Shared → Prop} (hu : A.units + 1 < cLine) (KX : K.In s.heap) (J : InstAt s.heap x ox C od) (hb : Looks (model prog w) s.heap (typeOf b) tb) (hn : notFirst K C tb = true)
    (hne : findIn K (.ref C) "__ne__" = some (some (.builtin "object.__ne__"))) (hob : mroIn K C (.type "object") = some true) (heq : findIn K (.ref C) "__eq__" = some (some (.ref f))) (hf : isFn K (.ref f) = true)
    (h : wpAny (model prog w) A.in1 (call (.ref f) [.ref x, b]) (fun v s' => ∃ t, v = .bool t ∧ Q (.bool (!t)) s') E s) : wpAny (model prog w) A (richCompare .NotEq (.ref x) b) Q E s := by
  have inner : wpAny (model prog w) A.in1 (Builtin.«object.__ne__» ⟨[.ref x, b], []⟩) (fun fin s' => ∃ v, fin = .done (.ret v) ∧ Q v s' ∧ v ≠ .notImplemented) E s := by
    unfold Builtin.«object.__ne__»
    repeat (first
      | with_reducible refine wpAny_cRoomFor hu ?_
      | (refine wpAny_bind (m := callSpecialIfBound? (.ref x) (Str.ofString "__eq__") [b])
          (ifBound_K KX J heq hf (wpAny_mono h (fun r s' hr => by
            obtain ⟨t, rfl, hq⟩ := hr
            repeat (first | exact ⟨_, rfl, hq, by simp⟩ | exact wpAny_pure ⟨_, rfl, hq, by simp⟩ | exact wpAny_truthy_bool ⟨_, rfl, hq, by simp⟩ | (refine wpAny_bind (m := truthy (.bool _)) (wpAny_truthy_bool ?_)) | wp_step)) fun _ _ e => e)))
      | wp_step)
  have one : wpAny (model prog w) A (tryCompare (.ref x) "__ne__" b) (fun r s' => ∃ v, r = some v ∧ Q v s') E s := by
    unfold tryCompare
    have bd : wpAny (model prog w) A (callSpecialIfBound? (.ref x) "__ne__" [b]) (fun r s' => ∃ v, r = some v ∧ Q v s' ∧ v ≠ .notImplemented) E s := by
      simp only [callSpecialIfBound?, bindSpecialIfBound?]
      refine wpAny_holding (wpAny_bind (wpAny_bind (wpAny_bind (J.type.here ((looks_findIn KX hne).here ?_)))))
      refine wpAny_bind (wpAny_askSetting (wpAny_ite ?_))
      have cl : wpAny (model prog w) A (call (.builtin "object.__ne__") ([.ref x] ++ [b]) >>= fun v => pure (some v)) (fun r s' => ∃ v, r = some v ∧ Q v s' ∧ v ≠ .notImplemented) E s := by
        refine wpAny_bind (wpAny_call (codeAny_call_builtin PySem.F.slot_object_ne.plain PySem.F.cmpEntry_ne (check_slot PySem.F.cmpKind_ne PySem.F.cmpSplit_ne (J.type.andThen (looks_mroIn KX hob)) (PySem.F.cmpArgs_ne _ _) (wpAny_mono inner (fun fin s' hq => ?_) fun _ _ e => e))))
        obtain ⟨v, rfl, hq, hv⟩ := hq
        exact wpAny_pure ⟨v, rfl, hq, hv⟩
      have bs : bindSpecial (.builtin "object.__ne__") (.ref x) = pure (.builtin "object.__ne__", [.ref x]) := PySem.F.slot_object_ne.bind _
      simp only [bs]
      split
      · exact wpAny_bind (wpAny_pure (wpAny_pure cl))
      · exact wpAny_tryCatch (wpAny_bind (wpAny_pure (wpAny_pure cl)))
    refine wpAny_bind (wpAny_mono bd (fun r s' hr => ?_) fun _ _ e => e)
    obtain ⟨v, rfl, hq, hv⟩ := hr
    cases v <;> first | exact absurd rfl hv | exact wpAny_pure ⟨_, rfl, hq⟩
  unfold richCompare
  simp only [oneThing_ref]
  refine wpAny_holding (wpAny_bind (wpAny_cRoomFor (Nat.lt_of_succ_lt hu) ?_))
  rw [cmpInfo_NotEq]
  dsimp only
  refine wpAny_bind (J.type.here (wpAny_bind (hb.here ?_)))
  split
  · rename_i q
    have e : subIn K tb (.ref C) = some false := by
      rcases Bool.or_eq_true_iff.mp hn with e | e
      · rw [beq_iff_eq.mp e] at q; simp at q
      · exact beq_iff_eq.mp e
    refine wpAny_bind ((looks_subIn KX e).here ?_)
    simp only [Bool.false_eq_true, if_false]
    refine wpAny_bind (wpAny_mono one (fun r s' z => ?_) fun _ _ e => e)
    obtain ⟨v, rfl, hq⟩ := z
    exact wpAny_pure hq
  · refine wpAny_bind (wpAny_pure ?_)
    simp only [Bool.false_eq_true, if_false]
    refine wpAny_bind (wpAny_mono one (fun r s' z => ?_) fun _ _ e => e)
    obtain ⟨v, rfl, hq⟩ := z
    exact wpAny_pure hq
end
section
variable {X : Cx} {ca : Nat → Addr} {W : WX}
/-- a def called within a built-in -/
theorem call_fnA {A : Around} {k : Nat} {f : Addr} {fd : FuncData} {ps : List Str} {sp : Sp} {pins : List (Addr × Obj)} {σ : St} {H : Hp} {s : Shared} {Q : VK} {us : List Value} {vs : List V} (F : FnG X.prog X.w X.K X.mg X.base k f fd ps sp) (hr : Room k A) (gd : A.guards = some []) (hA : A.frames = X.A.frames) (hb : Binds X.K fd ps [])
    (tk : Takes X W) (I : Inv X pins σ H s) (r : Vals vs us) (h : sp vs H Q (WE W σ)) : wpAny (model X.prog X.w) A (call (.ref f) us) (EP X pins σ Q) X.xe s := by
  have sz : us.length = ps.length := r.length ▸ F.size _ _ _ _ h
  have bi := hb s us I.kIn (by simpa using sz)
  have e := I.env0
  refine wpAny_call (codeAny_mono (F.go A X.stack s H ⟨us, []⟩ us vs Q (WE W σ) hr gd ⟨by rw [hA]; exact e.frames, e.mod, e.bs, e.bsz, e.funs, e.frf, e.hok, e.bare⟩ (by simpa using bi) r h) fun res s' end_ => ?_)
  cases res with
  | error er => exact passAt tk σ pins H s er s' I end_
  | ok way =>
    cases way with
    | ret u => exact I.after end_
    | next => exact False.elim end_
    | brk => exact False.elim end_
    | cont => exact False.elim end_
structure NeF (K : Frag) (C : Addr) : Prop where
  ne : findIn K (.ref C) "__ne__" = some (some (.builtin "object.__ne__"))
  ob : mroIn K C (.type "object") = some true
theorem o_neO {k : Nat} {tb : Nat → Option MF} {okT : Nat → String ⊕ Nat → Bool} (T : ∀ c mf, tb c = some mf → DuF X ca k (ca c) "__eq__" 2 mf ∧ NeF X.K (ca c)) (hT : ∀ c t, okT c t = true → notFirst X.K (ca c) (tyV ca t) = true ∧ ∀ c', t = .inr c' → IsO X.K (ca c')) (hr : Room (k + 1) X.A) (gd : X.A.guards = some []) :
    OpR X (compareOp .NotEq) (rOwn X.K ca (neO tb okT)) := by
  intro pins s σ H x y v u Q I rx ry ⟨ms, μ, a, b, rm, ra, rb, h⟩
  unfold neO eqO at h
  split at h
  · rename_i c fs t ho ht
    split at h
    · rename_i mf htb
      split at h
      · rename_i hok
        obtain ⟨⟨f, fd, ps, hf, hfn, F, B, hn⟩, ne⟩ : (∃ f fd ps, _) ∧ _ := ⟨(T c mf htb).1.ex, (T c mf htb).2⟩
        obtain ⟨p, dx, gs, rfl, hp, l⟩ := obj_at rm ra ho
        obtain ⟨h1, h2⟩ := hT c t hok
        have L := ty_looks h2 I rm rb ry ht
        cases rx
        obtain ⟨mA, O, _⟩ := ins_get I.hok hp
        obtain ⟨od, J, _⟩ := O.look
        have say : spD X.K ca ps.length mf [.ref p, y] H (fun w H' => ∃ t, w = .bl t ∧ Q (.bl (!t)) H') (WE WF σ) := by
          refine ⟨by rw [hn]; rfl, ms, μ, [a, b], rm, RepUL.cons ra (RepUL.cons rb ⟨rfl, fun i x v z => by simp at z⟩), ?_⟩
          cases hm : mf [a, b] μ with
          | stuck => rw [hm] at h; exact (show False from h).elim
          | exc k fs μ2 => rw [hm] at h; exact (show False from h).elim
          | val w μ2 =>
            rw [hm, calm_val, bind_val] at h
            intro w' H' ms' k' r' p'
            cases w with
            | cell n => exact (show False from h).elim
            | d z =>
              cases z with
              | bl t =>
                cases (show Rep X.K ca ms' H' (.bl t) w' from p')
                exact ⟨t, rfl, h _ H' ms' k' r' rfl⟩
              | _ => exact (show False from h).elim
        have rv : Vals [V.ref p, y] [Value.ref p, u] := .cons rfl (.cons ry .nil)
        have call_ := call_fnA F hr.in1 (show X.A.in1.guards = some [] from gd) rfl B (takesF (X := X)) I rv say
        have hu : X.A.units + 1 < cLine := by have := hr.un; omega
        show wpAny _ _ (richCompare .NotEq (.ref p) u) _ _ _
        refine ne_own hu I.kIn J L h1 ne.ne ne.ob hf hfn (wpAny_mono call_ (fun w s' hw => ?_) fun _ _ z => z)
        obtain ⟨w0, H', I', rw', t', rfl, q⟩ := hw
        obtain rfl : w = Value.bool t' := rw'
        exact ⟨t', rfl, .bl (!t'), H', I', rfl, q⟩
      · exact (show False from h).elim
    · exact (show False from h).elim
  · exact (show False from h).elim
/-! ### str(o), o an instance with an own __str__ (which raises nothing) -/
def strO (tb : Nat → Option MF) (u : U) (μ : Mem) : R U := match objAt μ u with
  | some (c, _) => match tb c with
    | some mf => (mf [u] μ).calm.bind fun r μ2 => match r with
      | .d (.str y) => .val (.d (.str y)) μ2
      | _ => .stuck
    | none => .stuck
  | none => .stuck
def mStrO (tb : Nat → Option MF) (me : MD) : MD := fun ρ μ => (me ρ μ).bind fun u μ1 => strO tb u μ1
def rStrO (K : Frag) (ca : Nat → Addr) (tb : Nat → Option MF) : List V → Hp → VK → Prop := fun xs H Q => ∃ ms μ u v, xs = [v] ∧ RelM K ca μ ms H ∧ RepU K ca ms H u v ∧ Af K ca (RepU K ca) WF [] ms H (strO tb u μ) Q
theorem c_strO {k : Nat} {tb : Nat → Option MF} (T : ∀ c mf, tb c = some mf → DuF X ca k (ca c) "__str__" 1 mf) (hr : Room (k + 2) X.A) (gd : X.A.guards = some []) : CallR X (.type "str") (rStrO X.K ca tb) := by
  intro pins s σ H xs us Q I r ⟨ms, μ, u, v, ex, rm, ru, h⟩
  subst ex
  unfold strO at h
  split at h
  · rename_i c fs ho
    split at h
    · rename_i mf htb
      obtain ⟨f, fd, ps, hf, hfn, F, B, hn⟩ := (T c mf htb).ex
      obtain ⟨p, dx, gs, rfl, hp, l⟩ := obj_at rm ru ho
      rw [Vals.ref1 r]
      obtain ⟨mA, O, _⟩ := ins_get I.hok hp
      obtain ⟨od, J, _⟩ := O.look
      have say : spD X.K ca ps.length mf [.ref p] H (fun w H' => ∃ y, w = .str y ∧ Q (.str y) H') (WE WF σ) := by
        refine ⟨by rw [hn]; rfl, ms, μ, [u], rm, RepUL.cons ru ⟨rfl, fun i x v z => by simp at z⟩, ?_⟩
        cases hm : mf [u] μ with
        | stuck => rw [hm] at h; exact (show False from h).elim
        | exc k fs μ2 => rw [hm] at h; exact (show False from h).elim
        | val w μ2 =>
          rw [hm, calm_val, bind_val] at h
          intro w' H' ms' k' r' p'
          cases w with
          | cell n => exact (show False from h).elim
          | d z =>
            cases z with
            | str y =>
              cases (show Rep X.K ca ms' H' (.str y) w' from p')
              exact ⟨y, rfl, h _ H' ms' k' r' (Rep.str y)⟩
            | _ => exact (show False from h).elim
      have call_ := call_fnA (A := X.A.in1.in1) F hr.in1.in1 (show X.A.in1.in1.guards = some [] from gd) rfl B (takesF (X := X)) I (vs := [.ref p]) (us := [.ref p]) (.cons rfl .nil) say
      have hu : X.A.in1.in1.units < cLine := hr.in1.in1.units0
      refine kso_call hu I.kIn J hf hfn (wpAny_mono call_ (fun w s' hw => ?_) fun _ _ z => z)
      obtain ⟨w0, H', I', rw', y, rfl, q⟩ := hw
      obtain ⟨t, rfl⟩ := rw'
      exact ⟨.str y, H', I', ⟨t, rfl⟩, q⟩
    · exact (show False from h).elim
  · exact (show False from h).elim
variable {e : Expr} {me : MD} {pos p : Pos}
theorem re_strO {k : Nat} {tb : Nat → Option MF} (T : ∀ c mf, tb c = some mf → DuF X ca k (ca c) "__str__" 1 mf) (hr : Room (k + 2) X.A) (gd : X.A.guards = some []) (hm : X.mg "str" = none) (he : PE X e (rdE X.K ca W me)) (hg : Gl X "str" := by rfl) (hv : bootBuiltins "str" = some (.type "str") := by kernel_rfl)
    (hs : starEach [e] X.env = (false, eval e X.env) :: starEach [] X.env := by rfl) : PE X (.Call (.Name "str" p) [e] [] pos) (rdE X.K ca W (mStrO tb me)) := by
  refine pe_imp (pe_callTy (c_strO T hr gd) hg hm hv (pa_cons he pa_nil hs) (by decide) (by decide) hs rfl) fun σ H Q kf ⟨ms, ρ, μ, en, r, h⟩ => af_bind en r h fun u μ1 v H1 ms1 k1 r1 p1 h1 => ⟨ms1, μ1, u, v, rfl, r1, p1, ?_⟩
  cases hq : strO tb u μ1 with
  | stuck => rw [hq] at h1; exact h1
  | val y μ2 => rw [hq] at h1; exact fun v' H' ms' k' r' p' _ => h1 v' H' ms' k' r' p'
  | exc c fs μ2 =>
    exfalso
    unfold strO at hq
    split at hq
    · split at hq
      · rename_i mf _
        cases hm' : mf [u] μ1 with
        | stuck => rw [hm'] at hq; cases hq
        | exc c' fs' μ3 => rw [hm'] at hq; cases hq
        | val w μ3 =>
          rw [hm', calm_val, bind_val] at hq
          split at hq <;> cases hq
      · cases hq
    · cases hq
end
end Dv
namespace Dv
open PySem L2 PySem.W
open PyProof.Rows (callWith_type1 Call_)
/-! ### for i, x in enumerate(t), t a tuple -/
set_option maxHeartbeats 1000000 in
theorem enum_new1 {v : Value} {o : Obj} {H : Heap → Prop} (B : Begins v o H) : Meets (Builtin.«enumerate.__new__» ⟨[.type "enumerate", v], []⟩) (fun _ R s => H s.heap ∧
      R (.ok (.ret (.ref (s.heap.push o).objs.size))) { s with heap := (s.heap.push o).push { cls := .type "enumerate", data := .fields #[.none, .bool false, .ref s.heap.objs.size, rawInt 0, .none, .none] } }) :=
  .of_wp fun prog w A R s h => by
    obtain ⟨hh, gg, dd, kk, oo⟩ := s
    obtain ⟨hv, h⟩ := h
    have sub_e := sub_enumerate
    have it1 : ∀ {A' : Around} {E : Value → Shared → Prop} {Q : Value → Shared → Prop}, Q (.ref hh.objs.size) ⟨hh.push o, gg, dd, kk, oo⟩ → wpAny (model prog w) A' (pyIter v) Q E ⟨hh, gg, dd, kk, oo⟩ := fun q => B.iter prog w _ _ ⟨hh, gg, dd, kk, oo⟩ _ hv q
    wp_walk using it1
    refine wpAny_stack_any fun st => wpAny_pure ?_
    split
    · rename_i c _ _ _ _ _
      cases (c == Value.type "enumerate") <;> (wp_walk using it1; exact ⟨_, rfl, h⟩)
    · wp_walk using it1; exact ⟨_, rfl, h⟩
section
variable {prog : Program} {w : World} {A : Around} {E : Value → Shared → Prop} {s : Shared}
theorem call_enum1 {v : Value} {o : Obj} {H : Heap → Prop} {Q : Value → Shared → Prop} (B : Begins v o H) (hv : H s.heap)
    (h : ∀ h', IsEnum h' (s.heap.objs.size + 1) s.heap.objs.size 0 .none → h'.get? s.heap.objs.size = some o → h'.objs.size = s.heap.objs.size + 2 → (∀ b u, s.heap.get? b = some u → h'.get? b = some u) → Q (.ref (s.heap.objs.size + 1)) { s with heap := h' }) :
    wpAny (model prog w) A (call (.type "enumerate") [v]) Q E s := by
  refine callType_new F.called_enumerate (by decide) (F.typeCall_enumerate_1 _) (F.newCall_enumerate_1 _) (fun obj => F.args_object_init_2 obj _) F.entry_enumerate_new (enum_new1 B) ⟨hv, ?_⟩
  have sz : (s.heap.push o).objs.size = s.heap.objs.size + 1 := Heap.size_push ..
  show _ ∧ _
  rw [sz]
  have ie : IsEnum ((s.heap.push o).push { cls := .type "enumerate", data := .fields #[.none, .bool false, .ref s.heap.objs.size, rawInt 0, .none, .none] }) (s.heap.objs.size + 1) s.heap.objs.size 0 .none := by
    have z := Heap.get?_push_size (s.heap.push o) (o := { cls := .type "enumerate", data := .fields #[.none, .bool false, .ref s.heap.objs.size, rawInt 0, .none, .none] }) rfl
    rw [sz] at z
    exact z
  exact ⟨⟨_, ie, rfl⟩, h _ ie (Heap.get?_push_of_some _ (Heap.get?_push_size _ B.free)) (by rw [Heap.size_push, sz]) fun b u x => Heap.get?_push_of_some _ (Heap.get?_push_of_some _ x)⟩
end
def IteT (K : Frag) (a : Addr) : It :=
  ⟨fun i H => ∃ (xs : List V) (x : V), SqT K H a xs ∧ xs[i]? = some x, fun i H v H' => ∃ T x, v = .ref T ∧ H T = none ∧ H' = upd H T (.tup [.int (i : Nat), x]) ∧ ∀ xs, SqT K H a xs → xs[i]? = some x, fun i H => ∃ xs : List V, SqT K H a xs ∧ xs.length ≤ i⟩
theorem turn_enumT {P : Program} {w : World} {K : Frag} {elts : List Expr} {kk : Nat} {tpos : Pos} (a e it : Addr) :
    Turn P w K (.Tuple elts kk tpos) (IteT K a) [e, it] e (fun i h => (∃ old, IsEnum h e it ((i : Nat) : Int) old) ∧ h.IsTupleIter it a i ∧ e ≠ it ∧ a ≠ it ∧ a ≠ e) where
  mem := by simp
  obj := fun i h ⟨⟨old, he⟩, ⟨o, ho, hc, hd⟩, _⟩ b hb => by
    rcases (by simpa using hb : b = e ∨ b = it) with rfl | rfl
    · exact ⟨_, he, fun v q => nomatch q⟩
    · exact ⟨o, ho, fun v q => by rw [hd] at q; cases q⟩
  keep := fun i h h' ⟨⟨old, he⟩, hi, ap⟩ k => ⟨⟨old, k e (by simp) _ he⟩, hi.at fun o q => k it (by simp) o q, ap⟩
  item := by
    rintro X rfl rfl rfl hc i pins s σ H E I hf ⟨⟨old, he⟩, hit, ne, nt, na⟩ ⟨xs, x, hq, hx⟩
    obtain ⟨its, rv, tp, hz⟩ := I.tuple hq
    obtain ⟨u, hu, ru⟩ := rv.get hx
    have le : e < s.heap.objs.size := Heap.lt_size he
    have li : it < s.heap.objs.size := by obtain ⟨_, q, _⟩ := hit; exact Heap.lt_size q
    have hA : X.A.in1.handled = none := by simpa using I.ok.hd hc
    have lt : i < its.toArray.size := by
      rw [List.size_toArray]
      exact (List.getElem?_eq_some_iff.mp hu).1
    refine wpAny_pyNext_enum_itemD (Draws.tuple (prog := X.prog) (w := X.w) hA it a nt its.toArray) he ⟨hit, tp⟩ lt ne (by simp only [List.mem_cons, List.not_mem_nil, or_false, not_or]; exact ⟨ne, Ne.symm na⟩) fun u' h' tk pu ho hst hT hsz hk => ?_
    obtain rfl : u' = u := by
      have : its[i]? = some u' := by simpa using pu
      rw [hu] at this
      exact (Option.some.inj this).symm
    refine ⟨_, rfl, wpAny_letOwnedTupleGo_enum (s := { s with heap := h', toks := tk + 1 }) ho fun h'' he' sb => ?_⟩
    have hT2 : h''.get? s.heap.objs.size = some { cls := .type "tuple", data := .seq #[.int i tk, u'] } := (sb.2 _ (Nat.ne_of_gt le)).trans hT
    have new : ObjOk X.prog X.w (upd H s.heap.objs.size (.tup [.int (i : Nat), x])) h'' s.heap.objs.size (.tup [.int (i : Nat), x]) := ⟨by show 2 ≤ sizeLine; decide, [.int i tk, u'], .cons ⟨_, rfl⟩ (.cons ru .nil), ⟨_, hT2, rfl, _, rfl⟩⟩
    have I1 : Inv X pins σ (upd H s.heap.objs.size (.tup [.int (i : Nat), x])) { s with heap := h'', toks := tk + 1 } :=
      I.turnedNew (ch := [e, it]) (fun b ob hb q => (sb.2 b (fun z => hb (by simp [z]))).trans (hk b ob (fun z => hb (by simp [z])) (fun z => hb (by simp [z])) q)) hf (Nat.le_refl _) new
    refine ⟨.ref s.heap.objs.size, _, I1, rfl, ⟨_, x, rfl, I.hok.fresh (Nat.le_refl _), rfl, fun ys hy => by rw [I.tuple_inj hy hq]; exact hx⟩, ⟨⟨u', ?_⟩, hst.1.at fun o q => (sb.2 it (Ne.symm ne)).trans q, ne, nt, na⟩, fun b hb => ?_⟩
    · rw [show ((i + 1 : Nat) : Int) = (i : Int) + 1 by omega]
      exact he'
    · have lb : b < s.heap.objs.size := by
        rcases (by simpa using hb : b = e ∨ b = it) with rfl | rfl
        · exact le
        · exact li
      rw [upd_ne (Nat.ne_of_lt lb)]
      exact (hf b hb).1
  done := by
    rintro X rfl rfl rfl hc i pins s σ H E I hf ⟨⟨old, he⟩, hit, ne, nt, na⟩ ⟨xs, hq, hx⟩
    obtain ⟨its, rv, tp, hz⟩ := I.tuple hq
    obtain ⟨f0, f1, f2, f3, f4, f5⟩ := hf it (by simp)
    have hA : X.A.in1.handled = none := by simpa using I.ok.hd hc
    have dn : i ≥ its.toArray.size := by
      rw [List.size_toArray, ← rv.length]
      exact hx
    have D := (Draws.tuple (prog := X.prog) (w := X.w) hA it a nt its.toArray)
    have hT : s.TypeIs (.ref e) "enumerate" := ⟨_, he, rfl⟩
    unfold pyNext
    refine wpAny_bind (wpAny_attempt (wpAny_callSpecial?_slot (name := Str.ofString "__next__") hT F.slot_enumerate_next (wpAny_call_entry F.slot_enumerate_next hT F.entry_enumerate_next ?_ (F.args_enumerate_next_1 _))))
    show wpAny _ _ (field (.ref e) 2 >>= _) _ _ _
    refine wpAny_bind (wpAny_field he rfl (x := .ref it) rfl ?_)
    refine wpAny_bind (wpAny_nextOf_tuple_end hA hit tp (by simp; rw [← rv.length]; exact hx) fun h' x he' hx' => ?_)
    obtain ⟨o, ho, hcl⟩ := hx'
    refine wpAny_bind (wpAny_isInstance (T := "StopIteration") (b := true) ⟨o, ho, hcl⟩ isSubtype_stop ?_)
    exact wpAny_pure ⟨rfl, I.turned (t' := s.toks) (fun b o hb q => he' b o hb q) f0 f1 f3 f4 f5⟩
  self := fun A i s Q E ⟨⟨_, he⟩, _⟩ h => wpAny_pyIter_enum he h
def iEnumT (K : Frag) (ta : TA) : TI := fun σ H R => ta σ H fun vs H1 => ∃ a xs, vs = [.ref a] ∧ SqT K H1 a xs ∧ R (IteT K a) H1
theorem pi_enumT {X : Cx} {e : Expr} {ta : TA} {p pos tpos : Pos} {elts : List Expr} {kk : Nat} (hg : Gl X "enumerate") (hm : X.mg "enumerate" = none) (ha : PA X [e] ta) (hs : starEach [e] X.env = [(false, eval e X.env)] := by rfl) :
    PI X (.Tuple elts kk tpos) (.Call (.Name "enumerate" p) [e] [] pos) (iEnumT X.K ta) := by
  refine ⟨fun pins s σ H R I h => Call_ (ld_blt I hg hm (by kernel_rfl : bootBuiltins "enumerate" = some (.type "enumerate")) (callWith_type1 (thn (ha.run pos pins s σ H _ I h) fun us s1 ⟨vs, H1, I1, r1, a, xs, ex, hq, q⟩ => ?_) hs rfl))⟩
  subst ex
  rw [Vals.ref1 r1]
  obtain ⟨its, rv, tp, hz⟩ := I1.tuple hq
  refine call_enum1 (begins_tuple a its.toArray) tp fun h' he hit hsz hk => wpAny_pyIter_enum he ?_
  have I2 : Inv X pins σ H1 { s1 with heap := h' } := I1.kept (t' := s1.toks) hk
  have la : a < s1.heap.objs.size := by obtain ⟨o, ho, _⟩ := tp; exact Heap.lt_size ho
  refine ⟨s1.heap.objs.size + 1, [s1.heap.objs.size + 1, s1.heap.objs.size], _, _, H1, rfl, I2, turn_enumT a (s1.heap.objs.size + 1) s1.heap.objs.size, ⟨⟨.none, he⟩, ⟨_, hit, rfl, rfl⟩, Nat.succ_ne_self _, Nat.ne_of_lt la, Nat.ne_of_lt (Nat.lt_succ_of_lt la)⟩, fun b hb => ?_, q⟩
  have le : s1.heap.objs.size ≤ b := by
    rcases (by simpa using hb : b = s1.heap.objs.size + 1 ∨ b = s1.heap.objs.size) with z | z
    · rw [z]; exact Nat.le_succ _
    · rw [z]; exact Nat.le_refl _
  exact I1.fpOk le (I1.hok.fresh le)
theorem for_enumT {K : Frag} {a : Addr} {xs : List V} {g : TG} {tb : TS} {D : Ends} {σ : St} {H : Hp} (Pv : Nat → St → Hp → Prop) (h0 : Pv 0 σ H) (hl : ∀ i σ H, i ≤ xs.length → Pv i σ H → SqT K H a xs)
    (hs : ∀ i x σ H T, xs[i]? = some x → H T = none → Pv i σ H → g (.ref T) σ (upd H T (.tup [.int (i : Nat), x])) fun σ2 H2 => tb { D with nx := Pv (i + 1), ct := Pv (i + 1), bk := D.nx } σ2 H2) (hd : ∀ σ H, Pv xs.length σ H → D.nx σ H) :
    ∃ W : Nat → Nat → St → Hp → Prop, (∃ m, W 0 m σ H) ∧ ∀ i m σ H, W i m σ H →
      ((IteT K a).stop i H ∧ D.nx σ H) ∨ ((IteT K a).go i H ∧ ∃ N : St → Hp → Prop, (∀ σ' H', N σ' H' → ∃ m', m' < m ∧ W (i + 1) m' σ' H') ∧ ∀ x H', (IteT K a).yld i H x H' → g x σ H' fun σ2 H2 => tb { D with nx := N, ct := N, bk := D.nx } σ2 H2) := by
  refine ⟨fun i m σ H => m + i = xs.length ∧ Pv i σ H, ⟨xs.length, by simp, h0⟩, fun i m σ H ⟨em, pv⟩ => ?_⟩
  have q := hl i σ H (by omega) pv
  by_cases lt : i < xs.length
  · refine .inr ⟨⟨xs, xs[i], q, List.getElem?_eq_getElem lt⟩, Pv (i + 1), fun σ' H' p' => ⟨m - 1, by omega, by omega, p'⟩, fun x H' ⟨T, y, e1, e2, e3, e4⟩ => ?_⟩
    subst e1 e3
    exact hs i y σ H T (e4 xs q) e2 pv
  · have e : i = xs.length := by omega
    subst e
    exact .inl ⟨⟨xs, q, Nat.le_refl _⟩, hd σ H pv⟩
def enumD : Nat → List D → List D
  | _, [] => []
  | i, x :: r => .tup [.int i, x] :: enumD (i + 1) r
theorem enumD_len : ∀ (i : Nat) (xs : List D), (enumD i xs).length = xs.length
  | _, [] => rfl
  | i, x :: r => by rw [enumD, List.length_cons, enumD_len (i + 1) r, List.length_cons]
theorem enumD_get : ∀ (i : Nat) (xs : List D) (j : Nat) (x : D), xs[j]? = some x → (enumD i xs)[j]? = some (.tup [.int ((i + j : Nat) : Int), x])
  | _, [], j, x, h => by simp at h
  | i, y :: r, 0, x, h => by
    simp only [List.getElem?_cons_zero, Option.some.injEq] at h
    subst h
    rfl
  | i, y :: r, j + 1, x, h => by
    rw [enumD, List.getElem?_cons_succ, enumD_get (i + 1) r j x (by simpa using h)]
    rw [show i + 1 + j = i + (j + 1) by omega]
def itE : U → Option (List D)
  | .d (.tup xs) => some (enumD 0 xs)
  | _ => none
section
variable {X : Cx} {ca : Nat → Addr} {W : WX} {pos p1 p2 tpos : Pos} {a : Expr} {elts : List Expr} {kk : Nat} {body : List Stmt} {ma : MD} {g : Mem → U → Env → Option Env} {b : MS} {is : List Nat}
theorem turn_new {D : Ends} {ms0 : Ms} {H0 : Hp} {xs : List Dv.D} {i : Nat} {σ : St} {H : Hp} {x : Dv.D} {v : V} {T : Addr} {o : HO} (a : Ahead X ca W g b D ms0 H0 xs i σ H) (hT : H T = none) (hx : xs[i]? = some x) (hv : ∀ ms, Keep X.K ca ms0 H0 ms H → ¬ ms.In T → Rep X.K ca ms (upd H T o) x v) :
    rdG X.K ca g is v σ (upd H T o) fun σ2 H2 => rdS X.K ca W b { D with nx := Ahead X ca W g b D ms0 H0 xs (i + 1), ct := Ahead X ca W g b D ms0 H0 xs (i + 1), bk := D.nx } σ2 H2 := by
  obtain ⟨ms, ρ, μ, k, e, r, h⟩ := a
  have kx := r.keep_ext (same_new (o := o) hT)
  have rx := r.ext (same_new (o := o) hT) ⟨rfl, rfl⟩
  have hd : xs.drop i = x :: xs.drop (i + 1) := by rw [List.drop_eq_getElem_cons (List.getElem?_eq_some_iff.mp hx).1, (List.getElem?_eq_some_iff.mp hx).2]
  rw [hd] at h
  unfold forL at h
  cases hg : g μ (.d x) ρ with
  | none => rw [hg] at h; exact (show False from h).elim
  | some ρ1 =>
    rw [hg] at h
    have h := AfS.shift h kx
    refine ⟨ms, ρ, μ, .d x, ρ1, e.keep kx, rx, hv ms k (r.out hT), hg, fun σ' e' _ => ⟨ms, ρ1, μ, e', rx, ?_⟩⟩
    cases hb : b ρ1 μ with
    | next ρ2 μ2 => simp only [hb] at h; exact fun σ2 H2 ms2 k2 e2 r2 => ⟨ms2, ρ2, μ2, (k.trans kx).trans k2, e2, r2, AfS.shift h k2⟩
    | cont ρ2 μ2 => simp only [hb] at h; exact fun σ2 H2 ms2 k2 e2 r2 => ⟨ms2, ρ2, μ2, (k.trans kx).trans k2, e2, r2, AfS.shift h k2⟩
    | brk ρ2 μ2 => simp only [hb] at h; exact h
    | ret u μ2 => simp only [hb] at h; exact h
    | exc c fs ρ2 μ2 => simp only [hb] at h; exact h
    | stuck => simp only [hb] at h; exact h
theorem rs_forE (hp : PassesOwn (model X.prog X.w) X.A X.env X.xe) (hc : X.calm = true) (hm : X.mg "enumerate" = none) (ha : PE X a (rdE X.K ca W ma)) (hg : PG X (.Tuple elts kk tpos) (rdG X.K ca g is)) (hb : PSs X body (rdS X.K ca W b)) (gl : Gl X "enumerate" := by rfl) (hs : starEach [a] X.env = (false, eval a X.env) :: starEach [] X.env := by rfl) (hs1 : starEach [a] X.env = [(false, eval a X.env)] := by rfl)
    (hs2 : ∀ x, foldedSetIterable (.Call (.Name "enumerate" p1) [a] [] p2) X.env x = pure x := by intro _; rfl) : PS X (.For (.Tuple elts kk tpos) (.Call (.Name "enumerate" p1) [a] [] p2) body [] pos) (rdS X.K ca W (mForI itE ma g b)) := by
  refine ps_imp (ps_for hp hc (pi_enumT gl hm (pa_cons ha pa_nil hs) hs1) hg hb hs2) fun D σ H kf ⟨ms, ρ, μ, e, r, h⟩ => af_of e r h fun u μ1 v H1 ms1 k1 r1 p1 h1 => ?_
  unfold itE at h1
  split at h1
  · rename_i xs hx
    split at hx
    · rename_i ys
      cases hx
      cases (show Rep X.K ca ms1 H1 (.tup ys) v from p1) with
      | @tup _ vs t st l z =>
        have lr : RepL X.K ca ms1 H1 ys vs := ⟨l, z⟩
        refine ⟨t, vs, rfl, st.sq, for_enumT (xs := vs) (Ahead X ca W g b (kfD X.K D) ms1 H1 (enumD 0 ys)) ⟨ms1, ρ, μ1, Keep.refl, e.keep k1, r1, AfS.kf h1⟩ (fun i σ' H' _ A => ?_) (fun i x σ' H' T hi hT A => ?_) fun σ' H' A => ahead_end A (by rw [enumD_len, l]; exact Nat.le_refl _)⟩
        · obtain ⟨ms2, _, _, k2, _⟩ := A
          exact st.old k2.ol
        · obtain ⟨y, hy, py⟩ := lr.item hi
          refine turn_new A hT (enumD_get 0 ys i y hy) fun ms k out => ?_
          refine .tup (.inl ⟨.inl upd_same, out⟩) rfl fun j d w h3 h4 => ?_
          match j, h3, h4 with
          | 0, h3, h4 =>
            simp only [List.getElem?_cons_zero, Option.some.injEq] at h3 h4
            subst h3; subst h4
            rw [Nat.zero_add]
            exact .int _
          | 1, h3, h4 =>
            simp only [List.getElem?_cons_succ, List.getElem?_cons_zero, Option.some.injEq] at h3 h4
            subst h3; subst h4
            exact (k.rep py).ext (same_new hT)
          | j + 2, h3, h4 => simp at h3
    · cases hx
  · exact (show False from h1).elim
end
end Dv
namespace Dv
open PySem L2 PySem.W
/-! ### comprehensions: over what is a list or a tuple; into a cell -/
section
variable {X : Cx} {ca : Nat → Addr} {W : WX} {g : Mem → U → Env → Option Env} {t : MT} {e : MD} {ρ : Env} {fin : List D → Mem → R U} {σ : St} {is vs : List Nat} {Q : VK}
/-- as AheadF, whatever is made of the list -/
def AheadF (X : Cx) (ca : Nat → Addr) (W : WX) (g : Mem → U → Env → Option Env) (t : MT) (e : MD) (ρ : Env) (fin : List D → Mem → R U) (σ : St) (Q : VK) (ms0 : Ms) (H0 : Hp) (p : Addr) (xs : List D) (i : Nat) (H : Hp) : Prop :=
  ∃ ms μ acc av, Old ms0 H0 ms H ∧ H0 p = none ∧ ms.hid = p :: ms0.hid ∧ (∀ u v, RepU X.K ca ms0 H0 u v → RepU X.K ca ms H u v) ∧ (∀ a, a ∈ ms0.hid → H a = H0 a) ∧ RelM X.K ca μ ms H ∧ H p = some (.lst av) ∧ RepL X.K ca ms H acc av ∧
    Af X.K ca (RepU X.K ca) W σ ms0 H0 ((compL g t e ρ (xs.drop i) μ acc).bind fin) Q
theorem itemF_ok {ms0 : Ms} {H0 H : Hp} {p : Addr} {xs : List D} {i : Nat} {x : D} {v : V} (er : RelE X.K ca ρ ms0 (wipe σ vs) H0) (np : p ∉ ms0.hid) (a : AheadF X ca W g t e ρ fin σ Q ms0 H0 p xs i H) (hx : xs[i]? = some x) (hv : ∀ ms, (∀ u v, RepU X.K ca ms0 H0 u v → RepU X.K ca ms H u v) → Rep X.K ca ms H x v) (hi : ∀ i, i ∈ is → i ∈ vs) :
    rdG X.K ca g is v (wipe σ vs) H fun σ2 H2 => wipe σ2 vs = wipe σ vs ∧ rdT X.K ca W0 t σ2 H2 fun b H3 => if b = true then rdE X.K ca W0 e σ2 H3 fun y H4 => ∃ acc, H4 p = some (.lst acc) ∧ acc.length < sizeLine ∧ AheadF X ca W g t e ρ fin σ Q ms0 H0 p xs (i + 1) (upd H4 p (.lst (acc ++ [y])))
      else AheadF X ca W g t e ρ fin σ Q ms0 H0 p xs (i + 1) H3 := by
  obtain ⟨ms, μ, acc, av, ol, p0, hh, k, ks, r, hp, l, h⟩ := a
  have hd : xs.drop i = x :: xs.drop (i + 1) := by
    have hi := (List.getElem?_eq_some_iff.mp hx).1
    rw [List.drop_eq_getElem_cons hi, (List.getElem?_eq_some_iff.mp hx).2]
  have er' : RelE X.K ca ρ ms (wipe σ vs) H := ⟨er.1, fun i u h => let ⟨v, a, b⟩ := er.2 i u h; ⟨v, a, k u v b⟩⟩
  rw [hd] at h
  unfold compL at h
  cases hg : g μ (.d x) ρ with
  | none => rw [hg] at h; exact (show False from h).elim
  | some ρ1 =>
    rw [hg] at h
    simp only at h
    refine ⟨ms, ρ, μ, .d x, ρ1, er', r, hv ms k, hg, fun σ2 e2 ag => ⟨agree_wipe ag hi, ms, ρ1, μ, e2, r, ?_⟩⟩
    cases ht : t ρ1 μ with
    | stuck => rw [ht] at h; exact (show False from h).elim
    | exc c fs μ1 =>
      rw [ht] at h
      exact (show False from h).elim
    | val b μ1 =>
      rw [ht, calm_val, bind_val] at h
      intro b' H3 ms3 k3 r3 eb
      obtain rfl : b' = b := eb
      have hp3 : H3 p = some (.lst av) := by rw [k3.same p (by rw [hh]; exact List.mem_cons_self)]; exact hp
      cases b' with
      | false =>
        refine ⟨ms3, μ1, acc, av, ol.trans k3.ol, p0, k3.hid.trans hh, fun u v q => k3.all u v (k u v q), fun a q => (k3.same a (by rw [hh]; exact List.mem_cons_of_mem _ q)).trans (ks a q), r3, hp3, k3.list l, ?_⟩
        simpa using h
      | true =>
        rw [if_pos rfl] at h ⊢
        refine ⟨ms3, ρ1, μ1, e2.keep k3, r3, ?_⟩
        cases he : e ρ1 μ1 with
        | stuck => rw [he] at h; exact (show False from h).elim
        | exc c fs μ2 => rw [he] at h; exact (show False from h).elim
        | val u μ2 =>
          rw [he, calm_val, bind_val] at h
          intro y H4 ms4 k4 r4 py
          have hh4 : ms4.hid = p :: ms0.hid := k4.hid.trans (k3.hid.trans hh)
          have hp4 : H4 p = some (.lst av) := by rw [k4.same p (by rw [k3.hid, hh]; exact List.mem_cons_self)]; exact hp3
          split at h
          · rename_i hz
            cases u with
            | cell n => exact (show False from h).elim
            | d z =>
              have l4 := (k3.trans k4).list l
              refine ⟨av, hp4, Nat.lt_of_lt_of_le (by rw [← l4.1]; exact Nat.lt_succ_self _) (sz_ok hz), ?_⟩
              have pin : p ∈ ms4.hid := by rw [hh4]; exact List.mem_cons_self
              obtain ⟨r5, a5⟩ := r4.grow (o := .lst (av ++ [y])) pin
              refine ⟨ms4, μ2, acc ++ [z], av ++ [y], (ol.trans (k3.trans k4).ol).put p0, p0, hh4, fun u v q => a5 u v ((k3.trans k4).all u v (k u v q)), fun a q => ?_, r5, upd_same, ?_, ?_⟩
              · rw [upd_ne]
                · rw [k4.same a (by rw [k3.hid, hh]; exact List.mem_cons_of_mem _ q), k3.same a (by rw [hh]; exact List.mem_cons_of_mem _ q)]
                  exact ks a q
                · intro e'; subst e'; exact np q
              · refine RepL.append ⟨l4.1, fun i x v a b => a5 (.d x) v (l4.2 i x v a b)⟩ ⟨rfl, fun i x v a b => ?_⟩
                cases i with
                | zero =>
                  simp only [List.getElem?_cons_zero, Option.some.injEq] at a b
                  subst a; subst b
                  exact a5 (.d z) y py
                | succ i => simp at a
              · exact h
          · exact (show False from h).elim
theorem doneF_cell {ms0 : Ms} {H0 H : Hp} {p : Addr} {xs : List D} {n : Nat} (a : AheadF X ca W g t e ρ (fun acc μ2 => .val (.cell μ2.length) (μ2 ++ [some (.lst acc)])) σ Q ms0 H0 p xs n H) (hn : xs.length ≤ n) (np : p ∉ ms0.hid) : Q (.ref p) H := by
  obtain ⟨ms, μ, acc, av, ol, p0, hh, k, ks, r, hp, l, h⟩ := a
  rw [List.drop_eq_nil_of_le hn] at h
  have hid : p ∈ ms.hid := by rw [hh]; exact List.mem_cons_self
  have inn : ∀ a, Ms.In ⟨ms.cs ++ [some p], ms0.hid⟩ a → ms.In a := fun a z => by
    rcases z with z | z
    · rcases List.mem_append.mp z with z | z
      · exact .inl z
      · simp only [List.mem_singleton, Option.some.injEq] at z
        subst z
        exact .inr hid
    · exact .inr (by rw [hh]; exact List.mem_cons_of_mem _ z)
  have at_ : ∀ (m : Nat) a, (ms.cs ++ [some p])[m]? = some (some a) → (ms.cs[m]? = some (some a) ∧ m < ms.cs.length) ∨ (m = ms.cs.length ∧ a = p) := fun m a h => by
    by_cases hm : m < ms.cs.length
    · rw [List.getElem?_append_left hm] at h
      exact .inl ⟨h, hm⟩
    · have hm' : m = ms.cs.length := by
        have := (List.getElem?_eq_some_iff.mp h).1
        simp at this
        omega
      subst hm'
      simp only [List.getElem?_concat_length, Option.some.injEq] at h
      exact .inr ⟨rfl, h.symm⟩
  have up : ∀ u v, RepU X.K ca ms H u v → RepU X.K ca ⟨ms.cs ++ [some p], ms0.hid⟩ H u v := fun u v q => by
    cases u with
    | d x => exact Rep.mono q (fun a o z _ => z) fun a z => .inl (inn a z)
    | cell m =>
      obtain ⟨a, e, z⟩ := q
      refine ⟨a, e, z.imp (fun z => ?_) fun z => ?_⟩ <;> (show (ms.cs ++ [some p])[m]? = _; rw [List.getElem?_append_left (List.getElem?_eq_some_iff.mp z).1]; exact z)
  have r2 : RelM X.K ca (μ ++ [some (.lst acc)]) ⟨ms.cs ++ [some p], ms0.hid⟩ H := by
    refine ⟨by simp [r.len], fun m c h => ?_, fun m a h => ?_, fun i j a h1 h2 => ?_, fun a h => r.hidden a (by rw [hh]; exact List.mem_cons_of_mem _ h), fun m a h z => ?_, ⟨rfl, rfl⟩⟩
    · by_cases hm : m < μ.length
      · rw [List.getElem?_append_left hm] at h
        obtain ⟨a, q, z⟩ := r.live m c h
        refine ⟨a, by show (ms.cs ++ [some p])[m]? = _; rw [List.getElem?_append_left (by rw [← r.len]; exact hm)]; exact q, ?_⟩
        cases c with
        | lst ys => obtain ⟨ws, q1, q2⟩ := z; exact ⟨ws, q1, q2.1, fun i x v a b => up (.d x) v (q2.2 i x v a b)⟩
        | obj c fs => obtain ⟨dx, gs, q1, q2, q3⟩ := z; exact ⟨dx, gs, q1, q2, fun i x v a b => up _ _ (q3 i x v a b)⟩
      · have hm' : m = μ.length := by
          have := (List.getElem?_eq_some_iff.mp h).1
          simp at this
          omega
        subst hm'
        simp only [List.getElem?_concat_length, Option.some.injEq] at h
        subst h
        exact ⟨p, by show (ms.cs ++ [some p])[μ.length]? = _; rw [r.len]; simp, av, hp, l.1, fun i x v a b => up (.d x) v (l.2 i x v a b)⟩
    · rcases at_ m a h with ⟨h, hm⟩ | ⟨rfl, rfl⟩
      · obtain ⟨c, q⟩ := r.dead m a h
        exact ⟨c, by rw [List.getElem?_append_left (by rw [r.len]; exact hm)]; exact q⟩
      · exact ⟨.lst acc, by rw [← r.len]; simp⟩
    · rcases at_ i a h1 with ⟨a1, _⟩ | ⟨rfl, e1⟩ <;> rcases at_ j a h2 with ⟨b1, _⟩ | ⟨rfl, e2⟩
      · exact r.apart i j a a1 b1
      · subst e2
        exact absurd hid (r.sep i _ a1)
      · subst e1
        exact absurd hid (r.sep j _ b1)
      · rfl
    · rcases at_ m a h with ⟨h, _⟩ | ⟨rfl, rfl⟩
      · exact r.sep m a h (by rw [hh]; exact List.mem_cons_of_mem _ z)
      · exact np z
  exact h (.ref p) H ⟨ms.cs ++ [some p], ms0.hid⟩ ⟨fun u v q => up u v (k u v q), rfl, ks, ⟨ol.old, fun a z => ol.new a (inn a z)⟩⟩ r2 ⟨p, rfl, .inl (by show (ms.cs ++ [some p])[μ.length]? = _; rw [r.len]; simp)⟩
end
def mLcRC (rg : List U → Option (List D)) (ml : ML) (g : Mem → U → Env → Option Env) (t : MT) (e : MD) (vs : List Nat) : MD := fun ρ μ => (ml ρ μ).bind fun us μ1 => match rg us with
  | some xs => (compL g t e (wipeE ρ vs) xs μ1 []).bind fun acc μ2 => .val (.cell μ2.length) (μ2 ++ [some (.lst acc)])
  | none => .stuck
section
variable {X : Cx} {ca : Nat → Addr} {W : WX} {pos p1 p2 : Pos} {a c tg elt iter : Expr} {ifs : List Expr} {scope : Scope} {own : List (Str × Nat)} {ml : ML} {ma me : MD} {mt : MT} {g : Mem → U → Env → Option Env} {is : List Nat}
def itLT : U → Option (List D)
  | .d (.lst xs) => some xs
  | .d (.tup xs) => some xs
  | _ => none
theorem mLc_or {ρ : Env} {μ : Mem} {vs : List Nat} : mLcI itLT ma g mt me vs ρ μ = mLcI itL ma g mt me vs ρ μ ∨ mLcI itLT ma g mt me vs ρ μ = mLcI itT ma g mt me vs ρ μ := by
  unfold mLcI
  cases ma ρ μ with
  | stuck => exact .inl rfl
  | exc c fs μ1 => exact .inl rfl
  | val u μ1 =>
    cases u with
    | cell n => exact .inl rfl
    | d x => cases x <;> first | exact .inl rfl | exact .inr rfl
theorem re_lcLT (hc : X.calm = true) (nd : X.N.Nodup) (ha : PE X iter (rdE X.K ca W ma)) (ok : BlkOk X.N X.env.scope scope own)
    (hg : ∀ (s : Shared) (H : Hp) (C : Addr) (cl : List (Str × Addr)) (fp : List Addr), PG (X.blk s H scope (compEnvC scope cl C X.env) fp) tg (rdG X.K ca g is)) (ht : ∀ (s : Shared) (H : Hp) (C : Addr) (cl : List (Str × Addr)) (fp : List Addr), PTs (X.blk s H scope (compEnvC scope cl C X.env) fp) ifs (rdT X.K ca W0 mt))
    (he : ∀ (s : Shared) (H : Hp) (C : Addr) (cl : List (Str × Addr)) (fp : List Addr), PE (X.blk s H scope (compEnvC scope cl C X.env) fp) elt (rdE X.K ca W0 me)) (hi : ∀ i, i ∈ is → i ∈ own.map (·.2) := by decide)
    (hs2 : ∀ x, foldedSetIterable iter X.env x = pure x := by intro _; rfl) : PE X (.ListComp elt [⟨tg, iter, ifs, 0⟩] scope pos) (rdE X.K ca W (mLcI itLT ma g mt me (own.map (·.2)))) :=
  ⟨fun pins s σ H Q I ⟨ms, ρ, μ, e, r, h⟩ => by
    rcases mLc_or (ma := ma) (g := g) (mt := mt) (me := me) (ρ := ρ) (μ := μ) (vs := own.map (·.2)) with q | q
    · exact (re_lcL hc nd ha ok hg ht he hi hs2).run pins s σ H Q I ⟨ms, ρ, μ, e, r, by rw [← q]; exact h⟩
    · exact (re_lcT hc nd ha ok hg ht he hi hs2).run pins s σ H Q I ⟨ms, ρ, μ, e, r, by rw [← q]; exact h⟩⟩
end
/-! ### xs.append(x), xs.extend(ys): xs a cell -/
def mApp (ext : Bool) (mo : MD) (ml : ML) : MD := fun ρ μ => (mo ρ μ).bind fun o μ1 => match o with
  | .cell n => match cellL μ1 n with
    | some _ => (ml ρ μ1).bind fun us μ2 => match us, cellL μ2 n with
      | [u], some xs => match (if ext then asL μ2 u else (toD u).map fun x => [x]) with
        | some ys => if szD (xs.length + ys.length) then .val (.d .non) (μ2.set n (some (.lst (xs ++ ys)))) else .stuck
        | none => .stuck
      | _, _ => .stuck
    | none => .stuck
  | _ => .stuck
section
variable {X : Cx} {ca : Nat → Addr} {W : WX} {cpos apos : Pos} {o e : Expr} {mo : MD} {ml : ML}
theorem to_app {ext : Bool} {σ : St} {H : Hp} {Q : VK} (h : rdE X.K ca W (mApp ext mo ml) σ H Q) : tBM X.K "list" (if ext then rExtend else rAppend) (rdE X.K ca W mo) (rdA X.K ca W ml) σ H fun v H' => KF X.K H' → Q v H' := by
  obtain ⟨ms, ρ, μ, en, r, h⟩ := h
  refine af_bind en r h fun u μ1 v H1 ms1 k1 r1 p1 h1 => ?_
  cases u with
  | d x => exact (show False from h1).elim
  | cell n =>
    simp only at h1
    split at h1
    · rename_i xs0 hc0
      obtain ⟨a0, vs0, rfl, s0, l0⟩ := asL_at (u := .cell n) r1 p1 hc0
      refine ⟨by exact .inl ⟨rfl, vs0, .inl (.inl s0)⟩, af_bind (en.keep k1) r1 h1 fun us μ2 vs H2 ms2 k2 r2 p2 h2 => ?_⟩
      split at h2
      · rename_i u xs hc1
        have pc := k2.all _ _ p1
        obtain ⟨a1, vs1, e1, s1, l1⟩ := asL_at (u := .cell n) r2 pc hc1
        cases e1
        obtain ⟨a', ea, qa⟩ := r2.lives pc (cellL_at hc1)
        cases ea
        match vs, p2 with
        | [w], p2 =>
          have pw := p2.2 0 u w rfl rfl
          split at h2
          · rename_i ys hy
            split at h2
            · rename_i hz
              cases ext with
              | true =>
                simp only [if_true] at hy ⊢
                obtain ⟨b, ws, rfl, s2, l2⟩ := asL_at r2 pw hy
                refine ⟨a0, b, vs1, ws, rfl, rfl, s1, s2, by rw [← l1.1, ← l2.1]; exact sz_ok hz, fun kf => ?_⟩
                obtain ⟨k3, r3⟩ := r2.setLst qa kf (l1.append l2)
                exact h2 .non _ ms2 k3 r3 .non
              | false =>
                simp only [Bool.false_eq_true, if_false] at hy ⊢
                cases u with
                | cell m => cases hy
                | d x =>
                  cases hy
                  refine ⟨a0, vs1, w, rfl, rfl, s1, ?_, fun kf => ?_⟩
                  · have := sz_ok hz
                    simp only [List.length_singleton] at this
                    rw [← l1.1]
                    omega
                  · obtain ⟨k3, r3⟩ := r2.setLst qa kf (l1.append (ys := [x]) (ws := [w]) ⟨rfl, fun i y z h3 h4 => by
                      cases i with
                      | zero =>
                        simp only [List.getElem?_cons_zero, Option.some.injEq] at h3 h4
                        subst h3; subst h4
                        exact pw
                      | succ i => simp at h3⟩)
                    exact h2 .non _ ms2 k3 r3 .non
            · exact (show False from h2).elim
          · exact (show False from h2).elim
        | [], p2 => exact absurd p2.1 (by simp)
        | _ :: _ :: _, p2 => exact absurd p2.1 (by simp)
      · exact (show False from h2).elim
    · exact (show False from h1).elim
theorem re_ext (ho : PE X o (rdE X.K ca W mo)) (ha : PA X [e] (rdA X.K ca W ml)) (hbase : attributeBase o "extend" X.env (eval o X.env) = eval o X.env := by rfl)
    (hfew : ((backTo cpos (starEach [e] X.env)).all (fun x => !x.1) && (backToKw cpos (keywordEach [] X.env)).all (fun x => x.1.isSome) && decide ([e].length + ([] : List Keyword).length + (if ([] : List Keyword).isEmpty then 0 else 1) < 30)) = true := by rfl)
    (hline : (apos.endLine == cpos.line) = true := by rfl) (hs : starEach [e] X.env = (false, eval e X.env) :: starEach [] X.env := by rfl) (hplain : (backTo cpos (starEach [] X.env)).any (·.1) = false := by rfl) : PE X (.Call (.Attribute o "extend" apos) [e] [] cpos) (rdE X.K ca W (mApp true mo ml)) :=
  pe_imp (pe_bm PySem.F.plainAttrs_list PySem.F.slot_list_extend PySem.F.type_list_extend mt_extend ho ha hbase hfew hline hs hplain) fun σ H Q kf h => to_app (ext := true) h
theorem re_app (ho : PE X o (rdE X.K ca W mo)) (ha : PA X [e] (rdA X.K ca W ml)) (hbase : attributeBase o "append" X.env (eval o X.env) = eval o X.env := by rfl)
    (hfew : ((backTo cpos (starEach [e] X.env)).all (fun x => !x.1) && (backToKw cpos (keywordEach [] X.env)).all (fun x => x.1.isSome) && decide ([e].length + ([] : List Keyword).length + (if ([] : List Keyword).isEmpty then 0 else 1) < 30)) = true := by rfl)
    (hline : (apos.endLine == cpos.line) = true := by rfl) (hs : starEach [e] X.env = (false, eval e X.env) :: starEach [] X.env := by rfl) (hplain : (backTo cpos (starEach [] X.env)).any (·.1) = false := by rfl) : PE X (.Call (.Attribute o "append" apos) [e] [] cpos) (rdE X.K ca W (mApp false mo ml)) :=
  pe_imp (pe_bm PySem.F.plainAttrs_list PySem.F.slot_list_append PySem.F.type_list_append mt_append ho ha hbase hfew hline hs hplain) fun σ H Q kf h => to_app (ext := false) h
end
end Dv
namespace Dv
open PySem L2 PySem.W
open PyProof.Rows (Call_ callWith_type1 callWith_builtin1 args_cons args_nil rangeSize_nat)
/-! ### list(range(a, b)), ends of any size -/
/-! ### sorted(set(xs)), xs a list of ints -/
section
variable {P : Program} {w : World} {A : Around} {E : Value → Shared → Prop} {s : Shared}
abbrev setO (w : World) : Obj := { cls := .type "set", dict := none, data := .set #[] 0 (.fresh 0 0 (!w.params.followText "set-order")) }
set_option maxHeartbeats 3200000 in
theorem call_set_lst {l : Addr} {its : Array Value} (ns : List Int) {Q : Value → Shared → Prop} (nh : A.handled = none) (il : s.heap.IsList l its) (ii : PyProof.Rows.IntsAre its.toList ns) (bd : ns.length + 1 < scanBound)
    (k : ∀ (h' : Heap) (tk c : Nat), SetR w h' s.heap.objs.size (fun j => decide (j ∈ ns)) c → c ≤ ns.length → (∀ b o, s.heap.get? b = some o → h'.get? b = some o) → Q (.ref s.heap.objs.size) { s with heap := h', toks := tk }) :
    wpAny (model P w) A (call (.type "set") [.ref l]) Q E s := by
  have sz : its.size = ns.length := by
    have q := PyProof.Rows.IntsAre.length ii
    rw [Array.length_toList] at q
    exact q
  obtain ⟨c, tl, m0⟩ := F.called_set.mro
  have m1 := F.called_set.made
  have m2 := F.called_set.sub
  refine wpAny_call (codeAny_of_tree ?_)
  show wpAny _ _ (callAny (.type "set") _) _ _ _
  refine wpAny_pure ⟨Code.quiet_builtin _ (by decide +kernel), codeAny_builtin F.entry_type_call ?_⟩
  rw [Around.under_plain (weight_type_call_type "set" [.ref l] []) rfl]
  have n1 := F.called_set.notType
  have n2 := F.called_set.canCreate
  have n3 := F.typeCall_set_1 (.ref l)
  repeat (any_goals (first | assumption | wp_step))
  refine codeAny_mono (code_set_led1 (.ref l) (E := E) (Q₁ := fun obj s₁ => obj = .ref s.heap.objs.size ∧ s₁ = { s with heap := s.heap.push (setO w) }) ⟨rfl, rfl⟩) fun r s₁ hr => ?_
  cases r with
  | error e => exact hr
  | ok fl =>
    cases fl with
    | ret obj =>
      obtain ⟨rfl, rfl⟩ := hr
      have gS : (s.heap.push (setO w)).get? s.heap.objs.size = some (setO w) := Heap.get?_push_size _ rfl
      have tS : Shared.TypeIs { s with heap := s.heap.push (setO w) } (.ref s.heap.objs.size) "set" := ⟨_, gS, rfl⟩
      have i1 := F.called_set.init.lookup
      have i2 := F.called_set.init.bind (.ref s.heap.objs.size)
      repeat (any_goals (first | assumption | wp_step))
      refine codeAny_mono (codeAny_call_builtin (R := wants (fun r s₂ => r = .none ∧ ∃ h' tk c, s₂ = { s with heap := h', toks := tk } ∧ SetR w h' s.heap.objs.size (fun j => decide (j ∈ ns)) c ∧ c ≤ ns.length ∧ (∀ b o, s.heap.get? b = some o → h'.get? b = some o)) E) F.called_set.init.plain F.entry_set_init (check_set_init_1 tS ?_)) fun r₂ s₂ hr₂ => ?_
      · obtain ⟨⟨c1, c2, c3, c4⟩, g1, hc1, nn, hd1⟩ := il
        simp only at hc1 hd1
        subst hc1; subst hd1
        have g2 : (s.heap.push (setO w)).get? l = some { cls := .type "list", dict := c2, data := .seq its nn, slots := c4 } := Heap.get?_push_of_some _ g1
        have e1 := F.sub_list_set
        have e2 := F.sub_list_frozenset
        have e3 : (Value.type "list" == Value.type "dict") = false := by decide
        have l1 : (s.heap.push (setO w)).IsList l its := ⟨_, g2, rfl, nn, rfl⟩
        unfold Builtin.«set.__init__» noKeywords Builtin.Frozenset.updateFrom
        generalize hPI : pyIter = PI
        wp_walk
        subst hPI
        refine wpAny_pyIter_list l1 (wpAny_bind (wpAny_runValue ?_))
        have ll : l < s.heap.objs.size := Heap.lt_size g1
        have h3 : A.in1.in1.in1.handled = none := by simp [nh]
        have nI : l ≠ (s.heap.push (setO w)).objs.size := by rw [Heap.size_push]; exact Nat.ne_of_lt (Nat.lt_succ_of_lt ll)
        have nS : s.heap.objs.size ∉ [(s.heap.push (setO w)).objs.size, l] := by
          rw [Heap.size_push]; simp only [List.mem_cons, List.not_mem_nil, or_false, not_or]
          exact ⟨Nat.ne_of_lt (Nat.lt_succ_self _), Nat.ne_of_gt ll⟩
        have vl : ∀ (i : Nat) (v : Value), its[i]? = some v → ∃ k t, ns[i]? = some k ∧ v = .int k t := fun i v hv => by
          have hi : i < ns.length := by rw [← sz]; exact (Array.getElem?_eq_some_iff.mp hv).1
          obtain ⟨t, e⟩ := PyProof.Rows.IntsAre.int_at ii i v (by rw [Array.getElem?_toList]; exact hv)
          exact ⟨ns[i], t, List.getElem?_eq_getElem hi, by rw [e, List.getD_eq_getElem?_getD, List.getElem?_eq_getElem hi] <;> rfl⟩
        refine set_update_ints ((Walks.list h3 _ l nI its).toS) s.heap.objs.size nS ns sz bd vl (its.size - 0) 0 _ (by omega) (Nat.zero_le _) ⟨⟨_, Heap.get?_push_size _ rfl, rfl, rfl⟩, (l1.push _)⟩ ?hS0 ?hR
        case hS0 => exact ⟨0, Nat.le_refl 0, setR_new_at (Heap.get?_push_of_some _ gS)⟩
        case hR =>
          intro s' c' mv lc sr
          obtain ⟨h', g2', d', tk', os'⟩ := s'
          obtain rfl : g2' = s.gens := mv.gens
          obtain rfl : d' = s.drawn := mv.drawn
          obtain rfl : os' = s.os := mv.os
          show wpAny _ _ _ _ _ _
          refine wpAny_pure ?_
          show wpAny _ _ (ret Value.none) _ _ _
          rw [sz] at lc
          refine wpAny_pure ⟨rfl, h', tk', c', rfl, sr, lc, fun b o e => ?_⟩
          have b0 : b < s.heap.objs.size := Heap.lt_size e
          refine mv.heap b o ?_ (Heap.get?_push_of_some _ (Heap.get?_push_of_some _ e))
          simp only [List.mem_cons, List.not_mem_nil, or_false, not_or]
          exact ⟨Nat.ne_of_lt b0, by rw [Heap.size_push]; exact Nat.ne_of_lt (Nat.lt_succ_of_lt b0)⟩
      · cases r₂ with
        | error e => exact hr₂
        | ok fl₂ =>
          cases fl₂ with
          | ret rr =>
            obtain ⟨rfl, h', tk, c', rfl, sr, lc, kp⟩ := hr₂
            repeat (any_goals (first | assumption | wp_step))
            exact k _ _ _ sr lc kp
          | _ => exact hr₂.elim
    | _ => exact hr.elim
end
def ssetD (μ : Mem) (u : U) : Option D := (asL μ u).bind fun xs => (intsD xs).bind fun ns => if ns.length < 60 then some (.lst ((srtU ns).map .int)) else none
section
variable {X : Cx} {ca : Nat → Addr} {W : WX} {pos p p1 p2 : Pos} {a : Expr} {ma : MD}
theorem re_sset (hc : X.calm = true) (hm : X.mg "sorted" = none) (hm2 : X.mg "set" = none) (ha : PE X a (rdE X.K ca W ma)) (hg : Gl X "sorted" := by rfl) (hg2 : Gl X "set" := by rfl) (na : starEach [a] X.env = (false, eval a X.env) :: starEach [] X.env := by rfl) :
    PE X (.Call (.Name "sorted" p) [.Call (.Name "set" p1) [a] [] p2] [] pos) (rdE X.K ca W (mUn ssetD ma)) := by
  refine ⟨fun pins s σ H Q I ⟨ms, ρ, μ, en, r, h⟩ => ?_⟩
  have z : rdE X.K ca W ma σ H fun v H1 => ∃ l ns ms1 μ1, v = .ref l ∧ SqL X.K H1 l (ns.map V.int) ∧ ns.length < 60 ∧ RelM X.K ca μ1 ms1 H1 ∧ ∀ v H', Same H1 H' → (KF X.K H' → Rep X.K ca ms1 H' (.lst ((srtU ns).map .int)) v) → KF X.K H' → Q v H' :=
    af_bind en r h fun u μ1 v H1 ms1 k1 r1 p1 h1 => by
      obtain ⟨d, hd, q⟩ := fin_of h1 r1
      unfold ssetD at hd
      cases hx : asL μ1 u with
      | none => rw [hx] at hd; cases hd
      | some ys =>
        rw [hx, Option.bind_some] at hd
        cases hn : intsD ys with
        | none => rw [hn] at hd; cases hd
        | some ns =>
          rw [hn, Option.bind_some] at hd
          split at hd
          · rename_i hz
            cases hd
            obtain ⟨l, vs, rfl, s0, lr⟩ := asL_at r1 p1 hx
            obtain rfl := ints_at lr hn
            exact ⟨l, ns, ms1, μ1, rfl, .inl (.inl s0), hz, r1, q⟩
          · cases hd
  refine Call_ (ld_blt I hg hm (by kernel_rfl : bootBuiltins "sorted" = some (.builtin "sorted")) (callWith_builtin1 (args_cons ?_ rfl) rfl rfl))
  refine Call_ (ld_blt I hg2 hm2 (by kernel_rfl : bootBuiltins "set" = some (.type "set")) (callWith_type1 (args_cons (thn (ha.run pins s σ H _ I z) fun v s1 ⟨x, H1, I1, rx, l, ns, ms1, μ1, ex, sq, hz, r1, q⟩ => args_nil ?_) na) na rfl))
  subst ex
  obtain rfl : v = Value.ref l := rx
  obtain ⟨its, rv, pl, _⟩ := I1.list sq
  refine call_set_lst (w := X.w) ns (I1.ok.hd hc) pl.isList (by simpa using RZ.intsAre_vals rv) (by unfold scanBound; omega) fun h' tk c sr lc kp => args_nil ?_
  have n1 : H1 s1.heap.objs.size = none := I1.hok.fresh (Nat.le_refl _)
  have I2 := I1.laid (t' := tk) kp (Nat.le_refl _) (setO_new (P := X.prog) (H := upd H1 s1.heap.objs.size (SetO X.w s1.heap.objs.size (fun j => decide (j ∈ ns)) c)) sr)
  have sm1 : Same H1 (upd H1 s1.heap.objs.size (SetO X.w s1.heap.objs.size (fun j => decide (j ∈ ns)) c)) := same_new n1
  refine cr_sortedSet hc pins _ σ _ [.ref s1.heap.objs.size] [.ref s1.heap.objs.size] Q I2 (.cons rfl .nil) ⟨_, _, c, rfl, upd_same, by omega, fun ns' pp lt mem ln new => ?_⟩
  obtain rfl : ns' = srtU ns := lt_unique lt (srtU_lt ns) fun k => by rw [mem k, srtU_mem, decide_eq_true_eq]
  have r2 := r1.ext sm1 ⟨rfl, rfl⟩
  exact q _ _ (fun b o z => same_new new b o (sm1 b o z)) (fun _ => rep_new r2 new (repL_ints _)) ⟨rfl, rfl⟩
end
end Dv
namespace Dv
open PySem L2 PySem.W
/-! ### names of constants -/
section
variable {X : Cx} {ca : Nat → Addr} {W : WX} {pos p p2 p3 p4 : Pos} {e : Expr} {me : MD}
theorem re_gl {x : Str} {d : D} {v : V} {u : Value} (hm : X.mg x = some u) (rv : RelV v u) (hp : ∀ ms H, Rep X.K ca ms H d v) (hg : Gl X x := by rfl) (hd : (x == ("__debug__" : Str)) = false := by decide) : PE X (.Name x pos) (rdE X.K ca W (mC d)) := re_c (pe_glob hg hm rv hd) hp
/-! ### isinstance(e, (T1, T2)), built-in types -/
end
/-! ### texts -/
def fmtD (_ : Mem) : U → Option D
  | .d (.str y) => if szD y.length then some (.str y) else none
  | .d (.int i) => if i.natAbs.log2 < 1920 then some (.str (toString i)) else none
  | _ => none
def mJ : List MD → Str → Env → Mem → R Str
  | [], acc, _, μ => .val acc μ
  | m :: r, acc, ρ, μ => (m ρ μ).bind fun u μ1 => match u with
    | .d (.str y) => if szD (acc ++ y).length then mJ r (acc ++ y) ρ μ1 else .stuck
    | _ => .stuck
def mJs (ms : List MD) : MD := fun ρ μ => (mJ ms Str.empty ρ μ).bind fun y μ1 => .val (.d (.str y)) μ1
def strsD : List D → Option (List Str)
  | [] => some []
  | .str i :: r => (strsD r).map (i :: ·)
  | _ :: _ => none
def joinD (a : Str) (μ : Mem) (b : U) : Option D := (itemsU μ b).bind fun xs => (strsD xs).bind fun ys => if (ys.map (·.length)).sum + ys.length * a.length ≤ 16777216 then some (.str (Txt.join a ys)) else none
def mJoin (mo me : MD) : MD := fun ρ μ => (mo ρ μ).bind fun u μ1 => match u with
  | .d (.str a) => mUn (joinD a) me ρ μ1
  | _ => .stuck
section
variable {K : Frag} {ca : Nat → Addr} {ms : Ms} {H : Hp}
theorem strs_at : ∀ {xs : List D} {vs : List V} {ns : List Str}, RepL K ca ms H xs vs → strsD xs = some ns → vs = ns.map V.str
  | [], vs, ns, l, h => by
    cases h
    exact List.length_eq_zero_iff.mp l.1.symm
  | x :: xs, [], _, l, _ => absurd l.1 (by simp)
  | .str i :: xs, v :: vs, ns, l, h => by
    simp only [strsD, Option.map_eq_some_iff] at h
    obtain ⟨ms', h, rfl⟩ := h
    cases (show Rep K ca ms H (.str i) v from l.2 0 _ v rfl rfl)
    rw [strs_at l.tail h]
    rfl
  | .non :: _, _ :: _, _, _, h | .bl _ :: _, _ :: _, _, _, h | .int _ :: _, _ :: _, _, _, h | .tup _ :: _, _ :: _, _, _, h | .lst _ :: _, _ :: _, _, _, h | .scr _ :: _, _ :: _, _, _, h | .dic _ :: _, _ :: _, _, _, h | .obj _ _ :: _, _ :: _, _, _, h | .err _ _ :: _, _ :: _, _, _, h
  | .thing _ :: _, _ :: _, _, _, h | .ty _ :: _, _ :: _, _, _, h | .cls _ :: _, _ :: _, _, _, h => by cases h
end
section
variable {X : Cx} {ca : Nat → Addr} {W : WX} {pos apos : Pos} {e o : Expr} {me mo : MD}
theorem re_fmt (he : PE X e (rdE X.K ca W me)) : PE X (.FormattedValue e (-1) none pos) (rdE X.K ca W (mUn fmtD me)) :=
  pe_imp (pe_fmt he) fun σ H Q kf ⟨ms, ρ, μ, en, r, h⟩ => af_bind en r h fun u μ1 v H1 ms1 k1 r1 p1 h1 => by
    obtain ⟨d, hd, q⟩ := fin_of h1 r1
    unfold fmtD at hd
    split at hd
    · split at hd
      · rename_i hz
        cases hd
        cases p1
        exact .inl ⟨_, rfl, sz_ok hz, q _ _ (Same.refl _) fun _ => .str _⟩
      · cases hd
    · split at hd
      · rename_i hz
        cases hd
        cases p1
        exact .inr ⟨_, rfl, hz, q _ _ (Same.refl _) fun _ => .str _⟩
      · cases hd
    · cases hd
theorem rj_nil : PJ X [] (([] : List MD).map (rdE X.K ca W)) := .nil
theorem rj_cons {es : List Expr} {ms : List MD} (he : PE X e (rdE X.K ca W me)) (hr : PJ X es (ms.map (rdE X.K ca W))) : PJ X (e :: es) ((me :: ms).map (rdE X.K ca W)) := .cons he hr
theorem to_js {σ : St} {Q : Str → Hp → Prop} {Q0 : VK} {f : Str → Mem → R U} : ∀ (l : List MD) (acc : Str) (ms : Ms) (H : Hp) (ρ : Env) (μ : Mem), RelE X.K ca ρ ms σ H → RelM X.K ca μ ms H → Af X.K ca (RepU X.K ca) W σ ms H ((mJ l acc ρ μ).bind f) Q0 →
    (∀ out μ1 H1 ms1, RelM X.K ca μ1 ms1 H1 → Af X.K ca (RepU X.K ca) W σ ms1 H1 (f out μ1) Q0 → Q out H1) → tJs (l.map (rdE X.K ca W)) acc σ H Q
  | [], acc, ms, H, ρ, μ, en, r, h, k => k acc μ H ms r h
  | m :: l, acc, ms, H, ρ, μ, en, r, h, k => by
    unfold mJ at h
    rw [R.assoc] at h
    refine af_bind en r h fun u μ1 v H1 ms1 k1 r1 p1 h1 => ?_
    split at h1
    · rename_i y
      cases p1
      split at h1
      · rename_i hz
        exact ⟨y, rfl, sz_ok hz, to_js l (acc ++ y) ms1 H1 ρ μ1 (en.keep k1) r1 h1 k⟩
      · exact (show False from h1).elim
    · exact (show False from h1).elim
theorem re_js {v1 v2 : Expr} {rest : List Expr} {ms : List MD} (h : PJ X (v1 :: v2 :: rest) (ms.map (rdE X.K ca W))) : PE X (.JoinedStr (v1 :: v2 :: rest) pos) (rdE X.K ca W (mJs ms)) :=
  pe_imp (pe_joined h) fun σ H Q kf ⟨ms', ρ, μ, en, r, h⟩ => to_js ms Str.empty ms' H ρ μ en r h fun out μ1 H1 ms1 r1 h1 _ => Af.at (a := U.d (.str out)) h1 r1 (Rep.str out)
theorem re_js1 (he : PE X e (rdE X.K ca W me)) : PE X (.JoinedStr [e] pos) (rdE X.K ca W me) := pe_joined1 he
theorem re_join (ho : PE X o (rdE X.K ca W mo)) (he : PE X e (rdE X.K ca W me)) (hs : starEach [e] X.env = [(false, eval e X.env)] := by rfl) (hbase : attributeBase o "join" X.env (eval o X.env) = eval o X.env := by rfl) (hline : (apos.endLine == pos.line) = true := by rfl) :
    PE X (.Call (.Attribute o "join" apos) [e] [] pos) (rdE X.K ca W (mJoin mo me)) := by
  refine pe_imp (pe_join ho he hs hbase hline) fun σ H Q kf ⟨ms, ρ, μ, en, r, h⟩ => af_bind en r h fun x μ1 v H1 ms1 k1 r1 p1 h1 => ?_
  split at h1
  · rename_i a
    cases p1
    refine ⟨⟨a, rfl⟩, af_bind (en.keep k1) r1 h1 fun y μ2 w H2 ms2 k2 r2 p2 h2 => ?_⟩
    obtain ⟨d, hd, q⟩ := fin_of h2 r2
    unfold joinD at hd
    cases hx : itemsU μ2 y with
    | none => rw [hx] at hd; cases hd
    | some xs =>
      rw [hx, Option.bind_some] at hd
      cases hn : strsD xs with
      | none => rw [hn] at hd; cases hd
      | some ys =>
        rw [hn, Option.bind_some] at hd
        split at hd
        · rename_i hz
          cases hd
          obtain ⟨p, vs, rfl, sq, l⟩ := items_at r2 p2 hx
          obtain rfl := strs_at l hn
          exact ⟨a, p, ys, rfl, rfl, sq, hz, q _ _ (Same.refl _) fun _ => .str _⟩
        · cases hd
  · exact (show False from h1).elim
end
/-! ### {k: v} -/
end Dv
namespace Dv
open PySem L2 PySem.W PySem.DvX PySem.HandSPX ClX
open PyProof.Rows (envOfC)
/-! ### by position -/
def selP (n : Nat) : Sel := (List.range n).map .inl
theorem sel_go {α : Type} : ∀ (ws : List α), (List.range ws.length).filterMap (fun i => ws[i]?) = ws
  | [] => rfl
  | x :: r => by
    rw [List.length_cons, List.range_succ_eq_map, List.filterMap_cons]
    simp only [List.getElem?_cons_zero, List.filterMap_map]
    congr 1
    exact sel_go r
theorem gS_P {α : Type} (f : D × V × Value → α) {n : Nat} {ws : List α} (h : ws.length = n) : gS f (selP n) ws = ws := by
  subst h
  unfold gS selP
  rw [List.filterMap_map]
  exact sel_go ws
theorem selP_ok {K : Frag} {ca : Nat → Addr} {n : Nat} : SelOk K ca (selP n) n := ⟨fun i h => by
  unfold selP at h
  obtain ⟨j, hj, e⟩ := List.mem_map.mp h
  cases e
  exact List.mem_range.mp hj, fun k h => by
  unfold selP at h
  obtain ⟨j, hj, e⟩ := List.mem_map.mp h
  cases e⟩
theorem selP_len {n : Nat} : (selP n).length = n := by simp [selP]
theorem bd_to {K : Frag} {ca : Nat → Addr} {fd : FuncData} {ps : List Str} {np : Nat} {ks : List Str} (hl : ps.length = np + ks.length) (h : ∀ (s : Shared) (us ws : List Value), K.In s.heap → us.length = np → ws.length = ks.length → BindsTo s fd ⟨us, ks.zip ws⟩ (ps.zip (us ++ ws))) : Bd K ca fd ps np ks (selP ps.length) :=
  ⟨by rw [hl]; exact selP_ok, selP_len, fun s us ws X h1 h2 => by
    rw [show gW (selP ps.length) (us ++ ws) = us ++ ws from gS_P _ (by rw [List.length_append, h1, h2, hl])]
    exact h s us ws X h1 h2⟩
theorem bd_pos {K : Frag} {ca : Nat → Addr} {fd : FuncData} {ps : List Str} (b : Binds K fd ps []) : Bd K ca fd ps ps.length [] (selP ps.length) :=
  bd_to rfl fun s us ws X h1 h2 => by
    have e : ws = [] := List.length_eq_zero_iff.mp h2
    subst e
    have := b s us X (by simpa using h1)
    simpa using this
/-! ### one promise for each way in which a def is reached -/
section
variable {X : Cx} {P : Program} {w : World} {K : Frag} {mg : Str → Option Value} {base : Heap} {ca : Nat → Addr} {j k np n : Nat} {C f : Addr} {m : Str} {ks : List Str} {mf : MF} {sel : Sel} {fd : FuncData} {ps : List Str}
def Is (X : Cx) (P : Program) (w : World) (K : Frag) (mg : Str → Option Value) (base : Heap) : Prop := X.prog = P ∧ X.w = w ∧ X.K = K ∧ X.mg = mg ∧ X.base = base
theorem mtF_of (e : Is X P w K mg base) (cl : Cls K C) (M : Meth K C m f) (F : FnG P w K mg base j f fd ps (spD K ca ps.length mf)) (hj : j ≤ k) (B : Bd K ca fd ps (np + 1) ks sel) : MtF X ca k C m np ks mf sel := by
  obtain ⟨rfl, rfl, rfl, rfl, rfl⟩ := e
  exact ⟨cl, f, fd, ps, M, F.up hj, B⟩
theorem duF_of (e : Is X P w K mg base) (h1 : findIn K (.ref C) m = some (some (.ref f))) (h2 : isFn K (.ref f) = true) (F : FnG P w K mg base j f fd ps (spD K ca ps.length mf)) (hj : j ≤ k) (B : Binds K fd ps []) (hn : ps.length = n) : DuF X ca k C m n mf := by
  obtain ⟨rfl, rfl, rfl, rfl, rfl⟩ := e
  exact ⟨f, fd, ps, h1, h2, F.up hj, B, hn⟩
theorem mkF_of (e : Is X P w K mg base) (M : Mk K C f) (F : FnG P w K mg base k f fd ps (spD K ca ps.length mf)) (B : Bd K ca fd ps (np + 1) ks sel) : MkF X ca k C np ks mf sel := by
  obtain ⟨rfl, rfl, rfl, rfl, rfl⟩ := e
  exact ⟨f, fd, ps, M, F, B⟩
theorem mkPF_of (e : Is X P w K mg base) (M : Mk K C f) (F : FnP P w K mg base ca k f mf) : MkPF X ca k C mf := by
  obtain ⟨rfl, rfl, rfl, rfl, rfl⟩ := e
  exact ⟨f, M, F⟩
theorem o_eq1 {tb : Nat → Option MF} {okT : Nat → String ⊕ Nat → Bool} (T : ∀ c mf, tb c = some mf → DuF X ca k (ca c) "__eq__" 2 mf) (hT : ∀ c t, okT c t = true → notFirst X.K (ca c) (tyV ca t) = true ∧ ∀ c', t = .inr c' → IsO X.K (ca c')) (hr : Room k X.A) (gd : X.A.guards = some []) : OpR X (compareOp .Eq) (rOwn X.K ca (eqO tb okT)) := o_eqO T hT hr gd
end
/-- a table with one entry for all classes of a kind -/
def tbOf {α : Type} (is : Nat → Bool) (a : α) : Nat → Option α := fun c => if is c then some a else none
theorem tbOf_at {α : Type} {is : Nat → Bool} {a b : α} {c : Nat} (h : tbOf is a c = some b) : is c = true ∧ b = a := by
  unfold tbOf at h
  split at h
  · rename_i hc
    cases h
    exact ⟨hc, rfl⟩
  · cases h
/-! ### a def over __class__ -/
structure FunS (K : Frag) (name qual : Str) (st : Stmt) (f cc cda : Addr) (fd : FuncData) (dV : Value) : Prop where
  ex : ∃ (oc : Value) (od : Option Addr) (doc pm : Value) (an : Option Addr) (ct : Value) (osl : Array (Option Value)), fd = ksFn name qual (defArgs st) (defBody st) (defScope st) dV .none doc pm an (.ref cda) ct cc ∧ K.lookup f = some ⟨oc, od, .func fd, osl⟩ ∧ codeIn K (.ref cda) qual = true
section
variable {P : Program} {w : World} {K : Frag} {mg : Str → Option Value} {base : Heap} {ca : Nat → Addr}
theorem fn_okS2 {name qual : Str} {st last : Stmt} {pre : List Stmt} {f cc cda D f2 : Addr} {fd : FuncData} {N ps : List Str} {k : Nat} {mp ml : MS} {mf : MF} {ok : Nat → Bool}
    {dV : Value} (F : FunS K name qual st f cc cda fd dV) (U : SuF K P mg D f f2 cc cda (defScope st) ok ca) (S : ScS N ps (defScope st)) (hb : defBody st = pre ++ [last]) (hmf : ∀ us μ, us.length = ps.length → mf us μ = runB N.length (mSeq mp ml) us μ)
    (hp : ∀ (A : Around) (outer : List PySem.Env) (s : Shared) (H : Hp) (E : XK), Room k (A.deeper (envS qual (defScope st) s.heap.objs.size f (.ref cda) cc)) → A.guards = some [] → PSs (cxS P w K mg base N qual (defScope st) f (.ref cda) cc A outer s H E) pre (rdS K ca (fun cls d _ H' => E cls d H') mp))
    (hl : ∀ (body : List Stmt) (A : Around) (outer : List PySem.Env) (s0 : Shared) (H0 : Hp) (E : XK), Room k (A.deeper (envS qual (defScope st) s0.heap.objs.size f (.ref cda) cc)) → A.guards = some [] → ∀ (s : Shared) (σ : St) (H : Hp) (En : Ends), L2.Inv (cxS P w K mg base N qual (defScope st) f (.ref cda) cc A outer s0 H0 E) [] σ H s →
      rdS K ca (fun cls d _ H' => E cls d H') ml En σ H → PySem.wpAt (model P w) (A.deeper (envS qual (defScope st) s0.heap.objs.size f (.ref cda) cc)) (.func body (envS qual (defScope st) s0.heap.objs.size f (.ref cda) cc)) (exec last (envS qual (defScope st) s0.heap.objs.size f (.ref cda) cc))
        (SP (cxS P w K mg base N qual (defScope st) f (.ref cda) cc A outer s0 H0 E) [] En) (cxS P w K mg base N qual (defScope st) f (.ref cda) cc A outer s0 H0 E).xe s) :
    FnG P w K mg base (k + 1) f fd ps (spD K ca ps.length mf) := by
  obtain ⟨oc, od, doc, pm, an, ct, osl, rfl, lk, cod⟩ := F.ex
  obtain ⟨cl, cld, csl, hce⟩ := U.ce
  rw [hb] at lk ⊢
  exact fn_okS lk cod S hce rfl hmf hp (hl _)
theorem fn_okSV2 {name qual : Str} {st last : Stmt} {pre : List Stmt} {f cc cda D f2 : Addr} {fd : FuncData} {N ps : List Str} {pv : Str} {k : Nat} {mp ml : MS} {mf : MF} {ok : Nat → Bool}
    (F : FunS K name qual st f cc cda fd .none) (U : SuF K P mg D f f2 cc cda (defScope st) ok ca) (S : ScS N (ps ++ [pv]) (defScope st)) (hb : defBody st = pre ++ [last]) (hmf : ∀ us μ, us.length = (ps ++ [pv]).length → mf us μ = runB N.length (mSeq mp ml) us μ)
    (hbd : ∀ (doc pm : Value) (an : Option Addr) (ct : Value) (us rest : List Value), us.length = ps.length → bindArgs (ksFn name qual (defArgs st) (pre ++ [last]) (defScope st) .none .none doc pm an (.ref cda) ct cc) ⟨us ++ rest, []⟩ = (newTuple rest >>= fun t => pure (ps.zip us ++ [(pv, t)])))
    (hp : ∀ (A : Around) (outer : List PySem.Env) (s : Shared) (H : Hp) (E : XK), Room k (A.deeper (envS qual (defScope st) s.heap.objs.size f (.ref cda) cc)) → A.guards = some [] → PSs (cxS P w K mg base N qual (defScope st) f (.ref cda) cc A outer s H E) pre (rdS K ca (fun cls d _ H' => E cls d H') mp))
    (hl : ∀ (body : List Stmt) (A : Around) (outer : List PySem.Env) (s0 : Shared) (H0 : Hp) (E : XK), Room k (A.deeper (envS qual (defScope st) s0.heap.objs.size f (.ref cda) cc)) → A.guards = some [] → ∀ (s : Shared) (σ : St) (H : Hp) (En : Ends), L2.Inv (cxS P w K mg base N qual (defScope st) f (.ref cda) cc A outer s0 H0 E) [] σ H s →
      rdS K ca (fun cls d _ H' => E cls d H') ml En σ H → PySem.wpAt (model P w) (A.deeper (envS qual (defScope st) s0.heap.objs.size f (.ref cda) cc)) (.func body (envS qual (defScope st) s0.heap.objs.size f (.ref cda) cc)) (exec last (envS qual (defScope st) s0.heap.objs.size f (.ref cda) cc))
        (SP (cxS P w K mg base N qual (defScope st) f (.ref cda) cc A outer s0 H0 E) [] En) (cxS P w K mg base N qual (defScope st) f (.ref cda) cc A outer s0 H0 E).xe s) :
    FnP P w K mg base ca (k + 1) f (runV ps.length mf) := by
  obtain ⟨oc, od, doc, pm, an, ct, osl, rfl, lk, cod⟩ := F.ex
  obtain ⟨cl, cld, csl, hce⟩ := U.ce
  rw [hb] at lk
  exact fn_okSV lk cod S hce rfl hmf (hbd doc pm an ct) hp (hl _)
end
end Dv
namespace Dv
open PySem L2 PySem.W PySem.DvX PySem.HandSPX ClX
/-! ### what K says of own classes, by looks -/
abbrev atC (as : List Addr) : Nat → Addr := fun n => as.getD n 0
def ckO (K : Frag) (C : Addr) : Bool := plainGet K C Str.empty && hasDictIn K C && plainOver K C && (findIn K (.ref C) "__setattr__" == some (some (.builtin "object.__setattr__"))) && (findIn K (.ref C) "__class__" == some (some (.builtin "object.__class__"))) && (mroIn K C (.type "object") == some true) &&
  (findIn K (.ref C) "__ne__" == some (some (.builtin "object.__ne__")))
structure OkC (K : Frag) (C : Addr) : Prop where
  cl : Cls K C
  c1 : findIn K (.ref C) "__class__" = some (some (.builtin "object.__class__"))
  ob : mroIn K C (.type "object") = some true
  ne : findIn K (.ref C) "__ne__" = some (some (.builtin "object.__ne__"))
theorem okC {K : Frag} {C : Addr} (h : ckO K C = true) : OkC K C := by
  unfold ckO at h
  simp only [Bool.and_eq_true, beq_iff_eq] at h
  obtain ⟨⟨⟨⟨⟨⟨h1, h2⟩, h3⟩, h4⟩, h5⟩, h6⟩, h7⟩ := h
  exact ⟨⟨h1, h2, h3, h4⟩, h5, h6, h7⟩
theorem okC.iso {K : Frag} {C : Addr} (h : OkC K C) (hn : specialIn K (.builtin "object.__class__") "__get__" = some (some (.builtin "getset_descriptor.__get__"))) (ht : takesIn K (.builtin "object.__class__") = some true) : IsO K C := ⟨h.cl, h.c1, hn, ht, h.ob⟩
def ckMk (K : Frag) (C f : Addr) : Bool := makesIn K C && (findIn K (.ref C) "__init__" == some (some (.ref f))) && isFn K (.ref f) && keepIn K (.ref C)
theorem mk_of {K : Frag} {C f : Addr} (h : ckMk K C f = true) : Mk K C f := by
  unfold ckMk at h
  simp only [Bool.and_eq_true, beq_iff_eq] at h
  exact ⟨h.1.1.1, h.1.1.2, h.1.2, h.2⟩
def ckMe (K : Frag) (C : Addr) (m : Str) (f : Addr) : Bool := (findIn K (.ref C) m == some (some (.ref f))) && isFn K (.ref f) && keepIn K (.ref f)
theorem me_of {K : Frag} {C f : Addr} {m : Str} (h : ckMe K C m f = true) : Meth K C m f := by
  unfold ckMe at h
  simp only [Bool.and_eq_true, beq_iff_eq] at h
  exact ⟨h.1.1, h.1.2, h.2⟩
def ckCo (K : Frag) (C : Addr) (f : Str) (x : Str) : Bool := match findIn K (.ref C) f with
  | some (some (.str y t)) => decide (y = x) && (specialIn K (.str y t) "__get__" == some none)
  | _ => false
theorem con_of {K : Frag} {C : Addr} {f x : Str} (h : ckCo K C f x = true) (hc : copiedNames.contains f = false) : ∃ v u, Con K C f v u ∧ v = .str x := by
  unfold ckCo at h
  split at h
  · rename_i y t hf
    simp only [Bool.and_eq_true, beq_iff_eq, decide_eq_true_eq] at h
    obtain ⟨rfl, h2⟩ := h
    exact ⟨.str y, .str y t, ⟨hf, ⟨t, rfl⟩, h2, hc⟩, rfl⟩
  · cases h
def ckSu (K : Frag) (as : List Addr) (cs : List Nat) (D f2 cc cda : Addr) (file : Str) : Bool :=
  (match K.lookup cda with | some ⟨_, _, .fields vs, _⟩ => (match (vs[2]? : Option Value) with | some (Value.str f _) => f == file | _ => false) | _ => false) &&
  (match K.lookup cc with | some ⟨_, _, .cell (some (.ref D')), _⟩ => D' == D | _ => false) && (clsIn K D).isSome && (typeIn K (.ref f2) == some (.type "function")) && fnIn K f2 &&
  cs.all fun c => (mroIn K (as.getD c 0) (.ref D) == some true) && (ks_superIn K (as.getD c 0) D "__init__" == some (some (.ref f2)))
theorem su_of {K : Frag} {P : Program} {mg : Str → Option Value} {as : List Addr} {cs : List Nat} {D f f2 cc cda : Addr} {name qual : Str} {st : Stmt} {fd : FuncData} {ok : Nat → Bool} {dV : Value} (F : FunS K name qual st f cc cda fd dV) (h : ckSu K as cs D f2 cc cda P.main.file = true) (op : nsIn K cStatics "thirdparty.any" = some none) (sg : mg "super" = none) (top : (P.main.scope.names.lookup ("super" : Str)).isSome = false)
    (hok : ∀ c, ok c = true → c ∈ cs) (hks : (defScope st).names.lookup ("super" : Str) = some .globalImplicit) (hkc : (defScope st).names.lookup clsN = some .free) (hka : (defScope st).names.lookup ("self" : Str) = some .local) (kind : (defScope st).kind = .function) (nocl : (clsN, NameKind.cell) ∉ (defScope st).names)
    (par : ∃ ar, ((defArgs st).posonlyargs ++ (defArgs st).args).head? = some ar ∧ ar.arg = "self") : SuF K P mg D f f2 cc cda (defScope st) ok (atC as) := by
  unfold ckSu at h
  simp only [Bool.and_eq_true, beq_iff_eq] at h
  obtain ⟨⟨⟨⟨⟨h1, h2⟩, h3⟩, h4⟩, h5⟩, h6⟩ := h
  obtain ⟨oc, od, doc, pm, an, ct, osl, rfl, lk, cod⟩ := F.ex
  obtain ⟨ar, p1, p2⟩ := par
  refine ⟨⟨oc, od, osl, _, ar, lk, p1, p2⟩, ?_, ?_, Option.isSome_iff_exists.mp h3, op, sg, top, hks, hkc, hka, kind, h4, nocl, h5, fun c hc => ?_⟩
  · split at h1
    · rename_i ccl cdd vs ccs ho
      split at h1
      · rename_i f tf hv
        exact ⟨ccl, cdd, vs, ccs, f, tf, ho, hv, beq_iff_eq.mpr (beq_iff_eq.mp h1).symm⟩
      · cases h1
    · cases h1
  · split at h2
    · rename_i cl cld D' csl ho
      have e := beq_iff_eq.mp h2
      subst e
      exact ⟨cl, cld, csl, ho⟩
    · cases h2
  · have z := List.all_eq_true.mp h6 c (hok c hc)
    simp only [Bool.and_eq_true, beq_iff_eq] at z
    exact z
theorem all_at {p : Nat → Bool} {cs : List Nat} (h : cs.all p = true) {c : Nat} (hc : cs.contains c = true) : p c = true := List.all_eq_true.mp h c (by simpa using hc)
end Dv
namespace Dv
open PySem L2 PySem.W
/-! ### y = [.. for ..]: the model's other statement -/
section
variable {X : Cx} {ca : Nat → Addr} {W : WX} {pos p1 p2 spos py : Pos} {a c tg elt iter : Expr} {ifs : List Expr} {scope : Scope} {own : List (Str × Nat)} {ml : ML} {ma me : MD} {mt : MT} {g : Mem → U → Env → Option Env} {is : List Nat}
theorem rs_setK {st : Stmt} {i : Nat} {t : TE} {m : MD} (hps : PS X st (tAsg t (gName i))) (k : ∀ σ H Q, KF X.K H → rdE X.K ca W m σ H Q → t σ H fun v H' => KF X.K H' → Q v H') : PS X st (rdS X.K ca W (mSet i m)) :=
  ps_imp hps fun D σ H kf ⟨ms, ρ, μ, e, r, h⟩ => k σ H (fun v H' => D.nx (σ.set i (some v)) H') kf (af_of e r h fun u μ1 v H1 ms1 k1 r1 p1 h1 => by
    unfold putE at h1
    by_cases hi : i < ρ.length
    · rw [if_pos hi] at h1
      exact AfS.nx (r := r1) h1 ((e.keep k1).set hi p1)
    · rw [if_neg hi] at h1
      exact (show False from h1).elim)
theorem to_lcR (hi : ∀ i, i ∈ is → i ∈ own.map (·.2)) (σ : St) (H : Hp) (Q : VK) (kf : KF X.K H) (hq : rdE X.K ca W (mLcR rng1 ml g mt me (own.map (·.2))) σ H Q) : tLc (iRng1 (rdA X.K ca W ml)) (rdG X.K ca g is) (rdT X.K ca W0 mt) (rdE X.K ca W0 me) (own.map (·.2)) σ H fun v H' => KF X.K H' → Q v H' := by
  obtain ⟨ms, ρ, μ, e, r, h⟩ := hq
  refine af_bind e r h fun us μ1 vs H1 ms1 k1 r1 l1 h1 => ?_
  split at h1
  · rename_i xs hr
    unfold rng1 at hr
    split at hr
    · rename_i j
      split at hr
      · rename_i hb'
        cases hr
        unfold rgBounds at hb'
        simp only [Bool.and_eq_true, decide_eq_true_eq] at hb'
        match vs, l1 with
        | [v], l1 =>
          have hv := l1.2 0 _ v rfl rfl
          cases hv
          refine ⟨j, rfl, hb'.1, hb'.2, fun p hp => ?_⟩
          have np : p ∉ ms1.hid := fun z => by
            obtain ⟨o, q⟩ := r1.hidden p z
            rw [hp] at q; cases q
          obtain ⟨r2, a2⟩ := r1.hide (o := .lst []) hp
          refine lc_range (lo := 0) (n := j.toNat) (AheadC X ca W g mt me (wipeE ρ (own.map (·.2))) σ (fun v H' => KF X.K H' → Q v H') ms1 H1 p (rangeD 0 j.toNat)) ⟨ms1.hide p, μ1, [], [], hide_old hp, hp, rfl, a2, fun a q => upd_ne fun z => np (z ▸ q), r2, upd_same, ⟨rfl, fun i x v a => by simp at a⟩, af_kf h1⟩ (fun i H' hi' A => ?_) fun H' A => done_ok A (by simp [rangeD]) nc_of np
          exact item_ok ((e.keep k1).wipe _) np A (range_get hi') (fun ms _ => .int _) hi
        | [], l1 => exact absurd l1.1 (by simp)
        | _ :: _ :: _, l1 => exact absurd l1.1 (by simp)
      · cases hr
    · cases hr
  · exact (show False from h1).elim
theorem rs_lcR (i : Nat) {y : Str} (hc : X.calm = true) (nd : X.N.Nodup) (hm : X.mg "range" = none) (ha : PA X [a] (rdA X.K ca W ml)) (ok : BlkOk X.N X.env.scope scope own)
    (hg : ∀ (s : Shared) (H : Hp) (C : Addr) (cl : List (Str × Addr)) (fp : List Addr), PG (X.blk s H scope (compEnvC scope cl C X.env) fp) tg (rdG X.K ca g is)) (ht : ∀ (s : Shared) (H : Hp) (C : Addr) (cl : List (Str × Addr)) (fp : List Addr), PTs (X.blk s H scope (compEnvC scope cl C X.env) fp) ifs (rdT X.K ca W0 mt)) (he : ∀ (s : Shared) (H : Hp) (C : Addr) (cl : List (Str × Addr)) (fp : List Addr), PE (X.blk s H scope (compEnvC scope cl C X.env) fp) elt (rdE X.K ca W0 me))
    (hi : ∀ i, i ∈ is → i ∈ own.map (·.2) := by decide) (hy : X.N[i]? = some y := by rfl) (hyl : X.env.scope.names.lookup y = some .local := by rfl) (hk : X.env.scope.kind = .function := by rfl) (hl : (py.line == pos.line) = true := by rfl) (hna : (scope.names.any fun (n, k) => n == y && (k == .local || k == .cell)) = false := by rfl) (gl : Gl X "range" := by rfl) (hs : starEach [a] X.env = [(false, eval a X.env)] := by rfl)
    (hs2 : ∀ x, foldedSetIterable (.Call (.Name "range" p1) [a] [] p2) X.env x = pure x := by intro _; rfl) : PS X (.Assign [.Name y py] (.ListComp elt [⟨tg, .Call (.Name "range" p1) [a] [] p2, ifs, 0⟩] scope pos) spos) (rdS X.K ca W (mSet i (mLcR rng1 ml g mt me (own.map (·.2))))) :=
  rs_setK (ps_setLc hc nd hy hyl (sw_true hk hyl hl hna) (pi_range1 gl hm ha hs) ok hg ht he hs2) (to_lcR hi)
theorem to_lcRC (hi : ∀ i, i ∈ is → i ∈ own.map (·.2)) (σ : St) (H : Hp) (Q : VK) (kf : KF X.K H) (hq : rdE X.K ca W (mLcRC rng1 ml g mt me (own.map (·.2))) σ H Q) : tLc (iRng1 (rdA X.K ca W ml)) (rdG X.K ca g is) (rdT X.K ca W0 mt) (rdE X.K ca W0 me) (own.map (·.2)) σ H fun v H' => KF X.K H' → Q v H' := by
  obtain ⟨ms, ρ, μ, e, r, h⟩ := hq
  refine af_bind e r h fun us μ1 vs H1 ms1 k1 r1 l1 h1 => ?_
  split at h1
  · rename_i xs hr
    unfold rng1 at hr
    split at hr
    · rename_i j
      split at hr
      · rename_i hb'
        cases hr
        unfold rgBounds at hb'
        simp only [Bool.and_eq_true, decide_eq_true_eq] at hb'
        match vs, l1 with
        | [v], l1 =>
          have hv := l1.2 0 _ v rfl rfl
          cases hv
          refine ⟨j, rfl, hb'.1, hb'.2, fun p hp => ?_⟩
          have np : p ∉ ms1.hid := fun z => by
            obtain ⟨o, q⟩ := r1.hidden p z
            rw [hp] at q; cases q
          obtain ⟨r2, a2⟩ := r1.hide (o := .lst []) hp
          refine lc_range (lo := 0) (n := j.toNat) (AheadF X ca W g mt me (wipeE ρ (own.map (·.2))) (fun acc μ2 => R.val (U.cell (List.length μ2)) (μ2 ++ [some (Cel.lst acc)])) σ (fun v H' => KF X.K H' → Q v H') ms1 H1 p (rangeD 0 j.toNat)) ⟨ms1.hide p, μ1, [], [], hide_old hp, hp, rfl, a2, fun a q => upd_ne fun z => np (z ▸ q), r2, upd_same, ⟨rfl, fun i x v a => by simp at a⟩, af_kf h1⟩ (fun i H' hi' A => ?_) fun H' A => doneF_cell A (by simp [rangeD]) np
          exact itemF_ok ((e.keep k1).wipe _) np A (range_get hi') (fun ms _ => .int _) hi
        | [], l1 => exact absurd l1.1 (by simp)
        | _ :: _ :: _, l1 => exact absurd l1.1 (by simp)
      · cases hr
    · cases hr
  · exact (show False from h1).elim
theorem rs_lcRC (i : Nat) {y : Str} (hc : X.calm = true) (nd : X.N.Nodup) (hm : X.mg "range" = none) (ha : PA X [a] (rdA X.K ca W ml)) (ok : BlkOk X.N X.env.scope scope own)
    (hg : ∀ (s : Shared) (H : Hp) (C : Addr) (cl : List (Str × Addr)) (fp : List Addr), PG (X.blk s H scope (compEnvC scope cl C X.env) fp) tg (rdG X.K ca g is)) (ht : ∀ (s : Shared) (H : Hp) (C : Addr) (cl : List (Str × Addr)) (fp : List Addr), PTs (X.blk s H scope (compEnvC scope cl C X.env) fp) ifs (rdT X.K ca W0 mt)) (he : ∀ (s : Shared) (H : Hp) (C : Addr) (cl : List (Str × Addr)) (fp : List Addr), PE (X.blk s H scope (compEnvC scope cl C X.env) fp) elt (rdE X.K ca W0 me))
    (hi : ∀ i, i ∈ is → i ∈ own.map (·.2) := by decide) (hy : X.N[i]? = some y := by rfl) (hyl : X.env.scope.names.lookup y = some .local := by rfl) (hk : X.env.scope.kind = .function := by rfl) (hl : (py.line == pos.line) = true := by rfl) (hna : (scope.names.any fun (n, k) => n == y && (k == .local || k == .cell)) = false := by rfl) (gl : Gl X "range" := by rfl) (hs : starEach [a] X.env = [(false, eval a X.env)] := by rfl)
    (hs2 : ∀ x, foldedSetIterable (.Call (.Name "range" p1) [a] [] p2) X.env x = pure x := by intro _; rfl) : PS X (.Assign [.Name y py] (.ListComp elt [⟨tg, .Call (.Name "range" p1) [a] [] p2, ifs, 0⟩] scope pos) spos) (rdS X.K ca W (mSet i (mLcRC rng1 ml g mt me (own.map (·.2))))) :=
  rs_setK (ps_setLc hc nd hy hyl (sw_true hk hyl hl hna) (pi_range1 gl hm ha hs) ok hg ht he hs2) (to_lcRC hi)
theorem to_lcL (hi : ∀ i, i ∈ is → i ∈ own.map (·.2)) (σ : St) (H : Hp) (Q : VK) (kf : KF X.K H) (hq : rdE X.K ca W (mLcI itL ma g mt me (own.map (·.2))) σ H Q) : tLc (iList X.K (rdE X.K ca W ma)) (rdG X.K ca g is) (rdT X.K ca W0 mt) (rdE X.K ca W0 me) (own.map (·.2)) σ H fun v H' => KF X.K H' → Q v H' := by
  obtain ⟨ms, ρ, μ, e, r, h⟩ := hq
  refine af_bind e r h fun u μ1 v H1 ms1 k1 r1 p1 h1 => ?_
  split at h1
  · rename_i xs hx
    obtain ⟨a, vs, rfl, s, n, l⟩ := itL_at p1 hx
    refine ⟨a, rfl, ⟨vs, .inl (.inl s)⟩, fun p hp => ?_⟩
    have np : p ∉ ms1.hid := fun z => by
      obtain ⟨o, q⟩ := r1.hidden p z
      rw [hp] at q; cases q
    obtain ⟨r2, a2⟩ := r1.hide (o := .lst []) hp
    refine lc_list (xs := vs) (AheadC X ca W g mt me (wipeE ρ (own.map (·.2))) σ (fun v H' => KF X.K H' → Q v H') ms1 H1 p xs) ⟨ms1.hide p, μ1, [], [], hide_old hp, hp, rfl, a2, fun a q => upd_ne fun z => np (z ▸ q), r2, upd_same, ⟨rfl, fun i x v a => by simp at a⟩, af_kf h1⟩ (fun i H' _ A => ?_) (fun i x H' hi' A => ?_) fun H' A => done_ok A (by rw [l.1]; exact Nat.le_refl _) nc_of np
    · obtain ⟨ms2, _, _, _, ol, _⟩ := A
      exact .inl (.inl (ol.old _ _ s n))
    · obtain ⟨y, hy, py⟩ := l.item hi'
      exact item_ok ((e.keep k1).wipe _) np A hy (fun ms k => k (.d y) x py) hi
  · exact (show False from h1).elim
theorem rs_lcL (i : Nat) {y : Str} (hc : X.calm = true) (nd : X.N.Nodup) (ha : PE X iter (rdE X.K ca W ma)) (ok : BlkOk X.N X.env.scope scope own)
    (hg : ∀ (s : Shared) (H : Hp) (C : Addr) (cl : List (Str × Addr)) (fp : List Addr), PG (X.blk s H scope (compEnvC scope cl C X.env) fp) tg (rdG X.K ca g is)) (ht : ∀ (s : Shared) (H : Hp) (C : Addr) (cl : List (Str × Addr)) (fp : List Addr), PTs (X.blk s H scope (compEnvC scope cl C X.env) fp) ifs (rdT X.K ca W0 mt)) (he : ∀ (s : Shared) (H : Hp) (C : Addr) (cl : List (Str × Addr)) (fp : List Addr), PE (X.blk s H scope (compEnvC scope cl C X.env) fp) elt (rdE X.K ca W0 me))
    (hi : ∀ i, i ∈ is → i ∈ own.map (·.2) := by decide) (hy : X.N[i]? = some y := by rfl) (hyl : X.env.scope.names.lookup y = some .local := by rfl) (hk : X.env.scope.kind = .function := by rfl) (hl : (py.line == pos.line) = true := by rfl) (hna : (scope.names.any fun (n, k) => n == y && (k == .local || k == .cell)) = false := by rfl) 
    (hs2 : ∀ x, foldedSetIterable (iter) X.env x = pure x := by intro _; rfl) : PS X (.Assign [.Name y py] (.ListComp elt [⟨tg, iter, ifs, 0⟩] scope pos) spos) (rdS X.K ca W (mSet i (mLcI itL ma g mt me (own.map (·.2))))) :=
  rs_setK (ps_setLc hc nd hy hyl (sw_true hk hyl hl hna) (pi_list ha) ok hg ht he hs2) (to_lcL hi)
theorem to_lcT (hi : ∀ i, i ∈ is → i ∈ own.map (·.2)) (σ : St) (H : Hp) (Q : VK) (kf : KF X.K H) (hq : rdE X.K ca W (mLcI itT ma g mt me (own.map (·.2))) σ H Q) : tLc (iTup X.K (rdE X.K ca W ma)) (rdG X.K ca g is) (rdT X.K ca W0 mt) (rdE X.K ca W0 me) (own.map (·.2)) σ H fun v H' => KF X.K H' → Q v H' := by
  obtain ⟨ms, ρ, μ, e, r, h⟩ := hq
  refine af_bind e r h fun u μ1 v H1 ms1 k1 r1 p1 h1 => ?_
  split at h1
  · rename_i xs hx
    obtain ⟨a, vs, rfl, s, l⟩ := itT_at p1 hx
    refine ⟨a, rfl, ⟨vs, s.sq⟩, fun p hp => ?_⟩
    have np : p ∉ ms1.hid := fun z => by
      obtain ⟨o, q⟩ := r1.hidden p z
      rw [hp] at q; cases q
    obtain ⟨r2, a2⟩ := r1.hide (o := .lst []) hp
    refine lc_tup (xs := vs) (AheadC X ca W g mt me (wipeE ρ (own.map (·.2))) σ (fun v H' => KF X.K H' → Q v H') ms1 H1 p xs) ⟨ms1.hide p, μ1, [], [], hide_old hp, hp, rfl, a2, fun a q => upd_ne fun z => np (z ▸ q), r2, upd_same, ⟨rfl, fun i x v a => by simp at a⟩, af_kf h1⟩ (fun i H' _ A => ?_) (fun i x H' hi' A => ?_) fun H' A => done_ok A (by rw [l.1]; exact Nat.le_refl _) nc_of np
    · obtain ⟨ms2, _, _, _, ol, _⟩ := A
      exact s.old ol
    · obtain ⟨y, hy, py⟩ := l.item hi'
      exact item_ok ((e.keep k1).wipe _) np A hy (fun ms k => k (.d y) x py) hi
  · exact (show False from h1).elim
theorem rs_lcT (i : Nat) {y : Str} (hc : X.calm = true) (nd : X.N.Nodup) (ha : PE X iter (rdE X.K ca W ma)) (ok : BlkOk X.N X.env.scope scope own)
    (hg : ∀ (s : Shared) (H : Hp) (C : Addr) (cl : List (Str × Addr)) (fp : List Addr), PG (X.blk s H scope (compEnvC scope cl C X.env) fp) tg (rdG X.K ca g is)) (ht : ∀ (s : Shared) (H : Hp) (C : Addr) (cl : List (Str × Addr)) (fp : List Addr), PTs (X.blk s H scope (compEnvC scope cl C X.env) fp) ifs (rdT X.K ca W0 mt)) (he : ∀ (s : Shared) (H : Hp) (C : Addr) (cl : List (Str × Addr)) (fp : List Addr), PE (X.blk s H scope (compEnvC scope cl C X.env) fp) elt (rdE X.K ca W0 me))
    (hi : ∀ i, i ∈ is → i ∈ own.map (·.2) := by decide) (hy : X.N[i]? = some y := by rfl) (hyl : X.env.scope.names.lookup y = some .local := by rfl) (hk : X.env.scope.kind = .function := by rfl) (hl : (py.line == pos.line) = true := by rfl) (hna : (scope.names.any fun (n, k) => n == y && (k == .local || k == .cell)) = false := by rfl) 
    (hs2 : ∀ x, foldedSetIterable (iter) X.env x = pure x := by intro _; rfl) : PS X (.Assign [.Name y py] (.ListComp elt [⟨tg, iter, ifs, 0⟩] scope pos) spos) (rdS X.K ca W (mSet i (mLcI itT ma g mt me (own.map (·.2))))) :=
  rs_setK (ps_setLc hc nd hy hyl (sw_true hk hyl hl hna) (pi_tup ha) ok hg ht he hs2) (to_lcT hi)
theorem rs_lcLT (i : Nat) {y : Str} (hc : X.calm = true) (nd : X.N.Nodup) (ha : PE X iter (rdE X.K ca W ma)) (ok : BlkOk X.N X.env.scope scope own)
    (hg : ∀ (s : Shared) (H : Hp) (C : Addr) (cl : List (Str × Addr)) (fp : List Addr), PG (X.blk s H scope (compEnvC scope cl C X.env) fp) tg (rdG X.K ca g is)) (ht : ∀ (s : Shared) (H : Hp) (C : Addr) (cl : List (Str × Addr)) (fp : List Addr), PTs (X.blk s H scope (compEnvC scope cl C X.env) fp) ifs (rdT X.K ca W0 mt)) (he : ∀ (s : Shared) (H : Hp) (C : Addr) (cl : List (Str × Addr)) (fp : List Addr), PE (X.blk s H scope (compEnvC scope cl C X.env) fp) elt (rdE X.K ca W0 me))
    (hi : ∀ i, i ∈ is → i ∈ own.map (·.2) := by decide) (hy : X.N[i]? = some y := by rfl) (hyl : X.env.scope.names.lookup y = some .local := by rfl) (hk : X.env.scope.kind = .function := by rfl) (hl : (py.line == pos.line) = true := by rfl) (hna : (scope.names.any fun (n, k) => n == y && (k == .local || k == .cell)) = false := by rfl)
    (hs2 : ∀ x, foldedSetIterable iter X.env x = pure x := by intro _; rfl) : PS X (.Assign [.Name y py] (.ListComp elt [⟨tg, iter, ifs, 0⟩] scope pos) spos) (rdS X.K ca W (mSet i (mLcI itLT ma g mt me (own.map (·.2))))) :=
  ⟨fun pins s σ H D I ⟨ms, ρ, μ, e, r, h⟩ => by
    rcases mLc_or (ma := ma) (g := g) (mt := mt) (me := me) (ρ := ρ) (μ := μ) (vs := own.map (·.2)) with q | q
    · exact (rs_lcL i hc nd ha ok hg ht he hi hy hyl hk hl hna hs2).run pins s σ H D I ⟨ms, ρ, μ, e, r, by unfold mSet at h ⊢; rw [← q]; exact h⟩
    · exact (rs_lcT i hc nd ha ok hg ht he hi hy hyl hk hl hna hs2).run pins s σ H D I ⟨ms, ρ, μ, e, r, by unfold mSet at h ⊢; rw [← q]; exact h⟩⟩
end
end Dv
namespace Dv
open PySem L2 PySem.W
/-! ### a list cell that changes no more is told by its contents -/
section
variable {K : Frag} {ca : Nat → Addr} {ms : Ms} {H : Hp} {μ : Mem}
theorem gone_self {n : Nat} (h : n < ms.cs.length) : (ms.gone n).cs[n]? = some none := by
  show (ms.cs.set n none)[n]? = _
  rw [List.getElem?_set_self h]
theorem RepU.goneA {n : Nat} {u : U} {v : V} (p : RepU K ca ms H u v) (hn : n < ms.cs.length) : RepU K ca (ms.gone n) H u v := by
  cases u with
  | d x => exact Rep.mono p (fun a o q _ => q) fun a z => .inl (gone_in z)
  | cell m =>
    obtain ⟨a, e, q⟩ := p
    refine ⟨a, e, ?_⟩
    by_cases ne : m = n
    · subst ne
      exact .inr (gone_self hn)
    · exact q.imp (gone_of ne) (gone_of ne)
theorem keep_gone {n : Nat} (hn : n < ms.cs.length) : Keep K ca ms H (ms.gone n) H := ⟨fun u v p => RepU.goneA p hn, rfl, fun _ _ => rfl, ⟨fun _ _ h _ => h, fun a z => .inl (gone_in z)⟩⟩
theorem RelM.freezeL {n : Nat} {xs : List D} {a : Addr} (r : RelM K ca μ ms H) (hm : μ[n]? = some (some (.lst xs))) (ha : ms.cs[n]? = some (some a)) : Keep K ca ms H (ms.gone n) H ∧ RelM K ca (μ.set n none) (ms.gone n) H ∧ Rep K ca (ms.gone n) H (.lst xs) (.ref a) := by
  have hn : n < ms.cs.length := (List.getElem?_eq_some_iff.mp ha).1
  have k := keep_gone (K := K) (ca := ca) (H := H) hn
  have out : ¬ (ms.gone n).In a := fun z => by
    rcases z with z | z
    · obtain ⟨i, hi⟩ := List.getElem?_of_mem z
      obtain ⟨ne, q⟩ := gone_at hi
      exact ne (r.apart i n a q ha)
    · exact r.sep n a ha z
  refine ⟨k, ⟨by simp [Ms.gone, r.len], fun m c' h => ?_, fun m b h => ?_, fun i j b h1 h2 => r.apart i j b (gone_at h1).2 (gone_at h2).2, r.hidden, fun m b h => r.sep m b (gone_at h).2, ⟨rfl, rfl⟩⟩, ?_⟩
  · have ne : m ≠ n := by
      rintro rfl
      by_cases hl : m < μ.length
      · rw [List.getElem?_set_self hl] at h; cases h
      · rw [List.getElem?_eq_none (by simpa using hl)] at h; cases h
    rw [List.getElem?_set_ne (Ne.symm ne)] at h
    obtain ⟨b, q, z⟩ := r.live m c' h
    exact ⟨b, gone_of ne q, z.keep k fun _ q => q⟩
  · obtain ⟨ne, q⟩ := gone_at h
    obtain ⟨c', z⟩ := r.dead m b q
    exact ⟨c', by rw [List.getElem?_set_ne (Ne.symm ne)]; exact z⟩
  · obtain ⟨b, e1, vs, s, l⟩ := r.live n _ hm
    rw [ha] at e1
    cases e1
    exact .lst s out l.1 fun i x v h1 h2 => k.rep (l.2 i x v h1 h2)
end
def frzL (u : U) (μ : Mem) : R U := match u with
  | .cell n => match cellL μ n with
    | some xs => .val (.d (.lst xs)) (μ.set n none)
    | none => .stuck
  | .d x => .val (.d x) μ
def mFrzS (i : Nat) : MS := fun ρ μ => match ρ[i]? with
  | some (some u) => RS.of ρ (frzL u μ) fun u' μ1 => match putE i u' ρ with
    | some ρ1 => .next ρ1 μ1
    | none => .stuck
  | _ => .stuck
section
variable {K : Frag} {ca : Nat → Addr} {ms : Ms} {H : Hp} {μ : Mem}
theorem frz_at {u u' : U} {v : V} {μ1 : Mem} (r : RelM K ca μ ms H) (p : RepU K ca ms H u v) (h : frzL u μ = .val u' μ1) : ∃ ms1, Keep K ca ms H ms1 H ∧ RelM K ca μ1 ms1 H ∧ RepU K ca ms1 H u' v := by
  cases u with
  | d x => cases h; exact ⟨ms, Keep.refl, r, p⟩
  | cell n =>
    unfold frzL at h
    simp only at h
    cases hc : cellL μ n with
    | none => rw [hc] at h; cases h
    | some xs =>
      rw [hc] at h
      cases h
      obtain ⟨a, rfl, ha⟩ := r.lives p (cellL_at hc)
      obtain ⟨k, r1, p1⟩ := r.freezeL (cellL_at hc) ha
      exact ⟨_, k, r1, p1⟩
theorem frz_no {u : U} {c : Nat} {fs : List (Str × D)} {μ1 : Mem} (h : frzL u μ = .exc c fs μ1) : False := by
  cases u with
  | d x => cases h
  | cell n =>
    unfold frzL at h
    simp only at h
    cases hc : cellL μ n with
    | none => rw [hc] at h; cases h
    | some xs => rw [hc] at h; cases h
end
section
variable {X : Cx} {ca : Nat → Addr} {W : WX} {pos : Pos} {e : Expr} {me : MD} {st : Stmt} {m : MS}
theorem rs_frz (i : Nat) (hs : PS X st (rdS X.K ca W m)) : PS X st (rdS X.K ca W (mSeq m (mFrzS i))) :=
  ps_imp hs fun D σ H kf ⟨ms, ρ, μ, e, r, h⟩ => by
    refine ⟨ms, ρ, μ, e, r, ?_⟩
    unfold mSeq at h
    cases hm : m ρ μ with
    | next ρ1 μ1 =>
      rw [hm] at h
      intro σ1 H1 ms1 k1 e1 r1 _
      have h := AfS.shift h k1
      rw [then_next] at h
      unfold mFrzS at h
      split at h
      · rename_i u hu
        obtain ⟨v, hv, p⟩ := e1.2 i u hu
        cases hf : frzL u μ1 with
        | stuck => rw [hf] at h; exact (show False from h).elim
        | exc c fs μ2 => exact (frz_no hf).elim
        | val u' μ2 =>
          rw [hf, of_val] at h
          obtain ⟨ms2, k2, r2, p2⟩ := frz_at r1 p hf
          have hi : i < ρ1.length := (List.getElem?_eq_some_iff.mp hu).1
          unfold putE at h
          rw [if_pos hi] at h
          refine h σ1 H1 ms2 k2 ?_ r2
          have z := (e1.keep k2).set hi p2
          have es : σ1.set i (some v) = σ1 := by
            apply List.ext_getElem?
            intro j
            by_cases hj : j = i
            · subst hj
              rw [List.getElem?_set_self (List.getElem?_eq_some_iff.mp hv).1, hv]
            · rw [List.getElem?_set_ne (Ne.symm hj)]
          rw [es] at z
          exact z
      · exact (show False from h).elim
    | brk ρ1 μ1 => rw [hm] at h; exact fun a b c k' e r _ => h a b c k' e r
    | cont ρ1 μ1 => rw [hm] at h; exact fun a b c k' e r _ => h a b c k' e r
    | ret v μ1 => rw [hm] at h; exact fun a b c k' r p _ => h a b c k' r p
    | exc c fs ρ1 μ1 => rw [hm] at h; exact h
    | stuck => rw [hm] at h; exact h
end
/-! ### xs + ys into a cell -/
def mAddC (ma mb : MD) : MD := fun ρ μ => (ma ρ μ).bind fun x μ1 => (mb ρ μ1).bind fun y μ2 => match asL μ2 x, asL μ2 y with
  | some xs, some ys => if szD (xs.length + ys.length) then .val (.cell μ2.length) (μ2 ++ [some (.lst (xs ++ ys))]) else .stuck
  | _, _ => .stuck
section
variable {X : Cx} {ca : Nat → Addr} {W : WX} {pos : Pos} {a b : Expr} {ma mb : MD}
theorem re_addC (ha : PE X a (rdE X.K ca W ma)) (hb : PE X b (rdE X.K ca W mb)) : PE X (.BinOp a .Add b pos) (rdE X.K ca W (mAddC ma mb)) :=
  pe_imp (pe_op op_cat ha hb) fun σ H Q kf ⟨ms, ρ, μ, e, r, h⟩ => af_bind e r h fun x μ1 v H1 ms1 k1 r1 p1 h1 => af_bind (e.keep k1) r1 h1 fun y μ2 u H2 ms2 k2 r2 p2 h2 => by
    split at h2
    · rename_i xs ys hx hy
      split at h2
      · rename_i hz
        obtain ⟨p, vs, rfl, hp, l1⟩ := asL_at r2 (k2.all _ _ p1) hx
        obtain ⟨q, ws, rfl, hq, l2⟩ := asL_at r2 p2 hy
        refine ⟨p, q, vs, ws, rfl, rfl, hp, hq, by rw [← l1.1, ← l2.1]; exact sz_ok hz, fun n hn kf' => ?_⟩
        obtain ⟨k3, r3⟩ := r2.newLst hn kf' (l1.append l2)
        exact h2 (.ref n) _ (ms2.more n) k3 r3 ⟨n, rfl, .inl (by show (ms2.cs ++ [some n])[_]? = _; rw [r2.len]; simp)⟩
      · exact (show False from h2).elim
    · exact (show False from h2).elim
end
/-! ### while -/
def whileL (t : MT) (b : MS) : Nat → MS
  | 0 => fun _ _ => .stuck
  | k + 1 => fun ρ μ => RS.of ρ (t ρ μ) fun c μ1 => if c = true then (match b ρ μ1 with
      | .next ρ2 μ2 => whileL t b k ρ2 μ2
      | .cont ρ2 μ2 => whileL t b k ρ2 μ2
      | .brk ρ2 μ2 => .next ρ2 μ2
      | r => r) else .next ρ μ1
def mWhile (k : Nat) (t : MT) (b : MS) : MS := whileL t b k
section
variable {X : Cx} {ca : Nat → Addr} {W : WX} {pos : Pos} {c : Expr} {body : List Stmt} {t : MT} {b : MS}
def AheadW (X : Cx) (ca : Nat → Addr) (W : WX) (t : MT) (b : MS) (D : Ends) (k : Nat) (σ : St) (H : Hp) : Prop := ∃ ms ρ μ, RelE X.K ca ρ ms σ H ∧ RelM X.K ca μ ms H ∧ AfS X.K ca W ms H (whileL t b k ρ μ) D
theorem rs_while (k : Nat) (hp : PassesOwn (model X.prog X.w) X.A X.env X.xe) (hc : PT X c (rdT X.K ca W t)) (hb : PSs X body (rdS X.K ca W b)) : PS X (.While c body [] pos) (rdS X.K ca W (mWhile k t b)) := by
  refine ps_imp (ps_while hp hc hb) fun D σ H kf ⟨ms, ρ, μ, e, r, h⟩ => ⟨fun k σ H => AheadW X ca W t b (kfD X.K D) k σ H, ⟨k, ms, ρ, μ, e, r, AfS.kf h⟩, fun m σ H A => ?_⟩
  obtain ⟨ms, ρ, μ, e, r, h⟩ := A
  cases m with
  | zero => exact (show False from h).elim
  | succ m =>
    refine af_of e r h fun u μ1 v H1 ms1 k1 r1 p1 h1 => ?_
    obtain rfl : v = u := p1
    cases v with
    | false => exact AfS.nx (r := r1) h1 (e.keep k1)
    | true =>
      rw [if_pos rfl] at h1 ⊢
      refine ⟨AheadW X ca W t b (kfD X.K D) m, fun σ' H' A => ⟨m, Nat.lt_succ_self _, A⟩, ms1, ρ, μ1, e.keep k1, r1, ?_⟩
      cases hq : b ρ μ1 with
      | next ρ2 μ2 => rw [hq] at h1; exact fun σ' H' ms' k' e' r' => ⟨ms', ρ2, μ2, e', r', AfS.shift h1 k'⟩
      | cont ρ2 μ2 => rw [hq] at h1; exact fun σ' H' ms' k' e' r' => ⟨ms', ρ2, μ2, e', r', AfS.shift h1 k'⟩
      | brk ρ2 μ2 => rw [hq] at h1; exact fun σ' H' ms' k' e' r' => h1 σ' H' ms' k' e' r'
      | ret u μ2 => rw [hq] at h1; exact h1
      | exc c fs ρ2 μ2 => rw [hq] at h1; exact h1
      | stuck => rw [hq] at h1; exact (show False from h1).elim
end
end Dv
namespace Dv
open PySem L2
/-! ### repr of any plain thing -/
section
variable {prog : Program} {w : World}
theorem repr_tup {A : Around} {E : Value → Shared → Prop} {s : Shared} {Q : Value → Shared → Prop} {a : Addr} {xs : List PyData} (r : Rz s.heap (.ref a) (.tuple xs)) (hs : PyData.showableAll xs = true) (hg : A.guards = some []) (hu : A.units + (PyData.depthAll xs + 2) < cLine)
    (hz : (tupleText (PyData.shownAll xs)).length ≤ sizeLine) (hQ : ∀ h' u tk, (∀ b o, s.heap.get? b = some o → h'.get? b = some o) → Q (.str (tupleText (PyData.shownAll xs)) u) { s with heap := h', toks := tk }) : wpAny (model prog w) A (call (.builtin "repr") [.ref a]) Q E s := by
  cases r with
  | tup e1 e2 e3 r =>
    rename_i o vs n
    obtain ⟨bs, hb, hk⟩ := RzL.repr (prog := prog) (w := w) r hs fun t ht => Nat.le_trans (tupleText_mem_le ht) hz
    obtain ⟨as, q⟩ := Rz.reads (.tup e1 e2 e3 r)
    have na : a ∉ bs := not_mem_of_deeper q (by simp only [PyData.depth]; omega) hb
    exact call_repr_slot (by omega) ⟨o, e1, e2⟩ F.slot_tuple_repr (call_tuple_reprK e1 e2 e3 na hk hg (fun b _ => Clear.nil b) (by show A.units + 1 + _ < cLine; omega) (fun _ _ e => e) (fun h' u tk k => ⟨_, _, rfl, hQ h' u tk k⟩) hz)
theorem repr_dic0 {A : Around} {E : Value → Shared → Prop} {s : Shared} {Q : Value → Shared → Prop} {a : Addr} (r : Rz s.heap (.ref a) (.dict [])) (hg : A.guards = some []) (hu : A.units + 2 < cLine)
    (hQ : ∀ h' u tk, (∀ b o, s.heap.get? b = some o → h'.get? b = some o) → Q (.str (dictText []) u) { s with heap := h', toks := tk }) : wpAny (model prog w) A (call (.builtin "repr") [.ref a]) Q E s := by
  cases r with
  | dic0 e1 e2 e3 e4 =>
    rename_i o n
    exact call_repr_slot (by omega) ⟨o, e1, e2⟩ F.slot_dict_repr (call_dict_reprK (as := []) (d := 0) e1 e2 e3 e4 (by simp) .nil hg (fun b _ => Clear.nil b) (by show A.units + 1 + _ < cLine; omega) (fun _ _ e => e) (fun h' u tk k => ⟨_, _, rfl, hQ h' u tk k⟩) (by decide +kernel))
end
def reprV (μ : Mem) (u : U) : Option D := match u with
  | .cell n => reprD μ (.cell n)
  | .d x => (pz x).bind fun d => if d.showable && decide (d.depth ≤ 60) && decide (d.shown.length ≤ 1000000) then some (.str d.shown) else none
theorem c_reprV {X : Cx} {ca : Nat → Addr} (hg : X.A.guards = some []) (hu : X.A.units + 64 < cLine) : CallR X (.builtin "repr") (rDn X.K ca (one reprV)) := by
  intro pins s σ H xs us Q I r ⟨ms, μ, as, d, rm, ra, e, q⟩
  obtain ⟨u, v, rfl, rfl, p, e⟩ := one_at ra e
  cases u with
  | cell n => exact c_repr hg hu pins s σ H _ us Q I r ⟨ms, μ, _, d, rm, ra, e, q⟩
  | d x =>
    unfold reprV at e
    simp only at e
    cases h2 : pz x with
    | none => rw [h2] at e; simp at e
    | some pd =>
      rw [h2, Option.bind_some] at e
      split at e
      · rename_i hc
        cases e
        simp only [Bool.and_eq_true, decide_eq_true_eq] at hc
        obtain ⟨⟨c1, c2⟩, c3⟩ := hc
        have c3' : pd.shown.length ≤ sizeLine := Nat.le_trans c3 (by rw [sizeLine_eq]; omega)
        cases r with
        | cons r1 r2 =>
          cases r2
          have z := rz_of I x v _ pd p r1 h2
          cases z with
          | non =>
            simp only [PyData.shown] at q
            exact PySem.P.repr_of_none ⟨.str _, H, I.tok _, ⟨_, rfl⟩, q _ _ (Same.refl H) fun _ => .str _⟩
          | bl b =>
            simp only [PyData.shown] at q
            exact PySem.P.repr_of_bool ⟨.str _, H, I.tok _, ⟨_, rfl⟩, q _ _ (Same.refl H) fun _ => .str _⟩
          | int i t =>
            simp only [PyData.shown] at q
            exact PySem.P.repr_of_int (by simpa [PyData.showable] using c1) ⟨.str _, H, I.tok _, ⟨_, rfl⟩, q _ _ (Same.refl H) fun _ => .str _⟩
          | str y t =>
            simp only [PyData.shown] at q c3'
            exact PySem.P.repr_of_str ⟨.str _, H, I.tok _, ⟨_, rfl⟩, q _ _ (Same.refl H) fun _ => .str _⟩ c3'
          | lst e1 e2 e3 r =>
            simp only [PyData.shown, PyData.showable, PyData.depth] at q c3' c1 c2
            exact repr_lst (.lst e1 e2 e3 r) c1 hg (by omega) c3' fun h' t tk k => ⟨.str _, H, I.kept (t' := tk) k, ⟨t, rfl⟩, q _ _ (Same.refl H) fun _ => .str _⟩
          | tup e1 e2 e3 r =>
            simp only [PyData.shown, PyData.showable, PyData.depth] at q c3' c1 c2
            exact repr_tup (.tup e1 e2 e3 r) c1 hg (by omega) c3' fun h' t tk k => ⟨.str _, H, I.kept (t' := tk) k, ⟨t, rfl⟩, q _ _ (Same.refl H) fun _ => .str _⟩
          | dic0 e1 e2 e3 e4 =>
            simp only [PyData.shown, PyData.shownKv_eq] at q
            exact repr_dic0 (.dic0 e1 e2 e3 e4) hg (by omega) fun h' t tk k => ⟨.str _, H, I.kept (t' := tk) k, ⟨t, rfl⟩, q _ _ (Same.refl H) fun _ => .str _⟩
      · cases e
end Dv
namespace Dv
open PySem L2 PySem.W
/-! ### a, b, .. = x, y, ..: by a tuple (some name is shared with an inner block) -/
def putUs : List Nat → List U → Env → Option Env
  | [], [], ρ => some ρ
  | i :: is, u :: us, ρ => (putE i u ρ).bind (putUs is us)
  | _, _, _ => none
def mParN (is : List Nat) (ml : ML) : MS := fun ρ μ => RS.of ρ (ml ρ μ) fun us μ1 => match putUs is us ρ with
  | some ρ1 => .next ρ1 μ1
  | none => .stuck
def rdGsU (K : Frag) (ca : Nat → Addr) (is : List Nat) : TGs := fun vs σ H Q => ∃ ms ρ us ρ1, RelE K ca ρ ms σ H ∧ RepUL K ca ms H us vs ∧ putUs is us ρ = some ρ1 ∧ ∀ σ', RelE K ca ρ1 ms σ' H → Q σ' H
theorem putUs_len : ∀ {is : List Nat} {us : List U} {ρ ρ1 : Env}, putUs is us ρ = some ρ1 → us.length = is.length
  | [], [], _, _, _ => rfl
  | i :: is, u :: us, ρ, ρ1, h => by
    unfold putUs at h
    cases hp : putE i u ρ with
    | none => rw [hp] at h; cases h
    | some ρ2 => rw [hp, Option.bind_some] at h; simp [putUs_len h]
  | [], _ :: _, _, _, h => by cases h
  | _ :: _, [], _, _, h => by cases h
section
variable {X : Cx} {ca : Nat → Addr} {W : WX} {pos : Pos}
theorem rgu_nil : PGs X [] (rdGsU X.K ca []) := pgs_imp pgs_nil fun vs σ H Q ⟨ms, ρ, us, ρ1, e, l, h, q⟩ => by
  cases us with
  | nil =>
    cases h
    exact ⟨List.length_eq_zero_iff.mp l.1.symm, q σ e⟩
  | cons x xs => cases h
theorem rgu_cons (i : Nat) {x : Str} {es : List Expr} {is : List Nat} (nd : X.N.Nodup) (h2 : PGs X es (rdGsU X.K ca is)) (hi : X.N[i]? = some x := by rfl) (hx : Loc X.env.scope x := by first | exact Or.inl rfl | exact Or.inr rfl) (hf : X.fn x = true ∨ X.env.scope.names.lookup x = some .local := by first | exact .inl rfl | exact .inr rfl | assumption)
    (hs : (assignEach (.Name x pos :: es) X.env).map (·.2) = assign (.Name x pos) X.env :: (assignEach es X.env).map (·.2) := by rfl) : PGs X (.Name x pos :: es) (rdGsU X.K ca (i :: is)) :=
  pgs_imp (pgs_cons (pg_name nd hi hx hf) h2 hs) fun vs σ H Q ⟨ms, ρ, us, ρ1, e, l, h, q⟩ => by
    cases us with
    | nil => cases h
    | cons y ys =>
      cases vs with
      | nil => have := l.1; simp at this
      | cons v vs =>
        unfold putUs at h
        cases hp : putE i y ρ with
        | none => rw [hp] at h; simp at h
        | some ρ2 =>
          rw [hp] at h
          simp only [Option.bind_some] at h
          unfold putE at hp
          split at hp
          · rename_i hi
            cases hp
            exact ⟨v, vs, rfl, ms, _, ys, ρ1, e.set hi (u := y) (l.2 0 y v rfl rfl), ⟨by simpa using l.1, fun i z w a b => l.2 (i + 1) z w (by simpa using a) (by simpa using b)⟩, h, q⟩
          · cases hp
theorem rs_parN {es as : List Expr} {is : List Nat} {n : Nat} {ml : ML} {kt k2 pt pt2} (hc : X.calm = true) (h : PGs X es (rdGsU X.K ca is)) (ha : PA X as (rdA X.K ca W ml)) (hl : is.length = n := by rfl) (hn : (assignEach es X.env).length = n := by rfl) (hst : (assignEach es X.env).findIdx? (·.1) = none := by rfl) (hz : Nat.ble n 1000 = true := by rfl)
    (hs : swapsWithSole [.Tuple es kt pt] (.Tuple as k2 pt2) pos.line X.env = pure false := by rfl) (hw : swappedStores [.Tuple es kt pt] (.Tuple as k2 pt2) X.env = pure none := by rfl) (h1 : (assignEach [.Tuple es kt pt] X.env).map (·.2) = [assign (.Tuple es kt pt) X.env] := by rfl) :
    PS X (.Assign [.Tuple es kt pt] (.Tuple as k2 pt2) pos) (rdS X.K ca W (mParN is ml)) :=
  ps_imp (ps_asg (pe_tup ha) (pg_tup hc h hn hst) hs hw h1) fun D σ H kf ⟨ms, ρ, μ, e, r, h⟩ => af_of e r h fun us μ1 vs H1 ms1 k1 r1 p1 h1 => by
    split at h1
    · rename_i ρ1 hq
      have hv : vs.length = n := by rw [← p1.1, putUs_len hq, hl]
      refine ⟨by rw [hv]; exact Nat.le_trans (Nat.le_of_ble_eq_true hz) (by rw [sizeLine_eq]; omega), fun p hp => ⟨p, vs, rfl, .inl (.inl upd_same), hv, ms1, ρ, us, ρ1, (e.keep k1).keep (r1.keep_ext (same_new hp)), (r1.keep_ext (same_new hp)).ulist p1, hq, fun σ' e' kf' => ?_⟩⟩
      exact h1 σ' _ ms1 (r1.keep_ext (same_new hp)) e' (r1.ext (same_new hp) kf')
    · exact (show False from h1).elim
end
end Dv
namespace Dv
open PySem L2 PySem.W
/-! ### arguments by keyword in any order, and defaults -/
def conB : D × V × Value → Bool
  | (.bl b, .bl c, .bool d) => b == c && c == d
  | (.non, .non, .none) => true
  | _ => false
def selB (sel : Sel) (n : Nat) : Bool := sel.all fun x => match x with
  | .inl i => decide (i < n)
  | .inr k => conB k
theorem conB_at {K : Frag} {ca : Nat → Addr} {k : D × V × Value} (h : conB k = true) : RelV k.2.1 k.2.2 ∧ ∀ ms H, Rep K ca ms H k.1 k.2.1 := by
  unfold conB at h
  split at h
  · simp only [Bool.and_eq_true, beq_iff_eq] at h
    obtain ⟨rfl, rfl⟩ := h
    exact ⟨rfl, fun _ _ => .bl _⟩
  · exact ⟨rfl, fun _ _ => .non⟩
  · cases h
theorem sel_ok {K : Frag} {ca : Nat → Addr} {sel : Sel} {n : Nat} (h : selB sel n = true) : SelOk K ca sel n := by
  unfold selB at h
  exact ⟨fun i hi => by simpa using List.all_eq_true.mp h _ hi, fun k hk => conB_at (List.all_eq_true.mp h _ hk)⟩
theorem bd_sel {K : Frag} {ca : Nat → Addr} {fd : FuncData} {ps : List Str} {np : Nat} {ks : List Str} {sel : Sel} (hb : selB sel (np + ks.length) = true) (hl : sel.length = ps.length) (h : ∀ (s : Shared) (us ws : List Value), K.In s.heap → us.length = np → ws.length = ks.length → BindsTo s fd ⟨us, ks.zip ws⟩ (ps.zip (gW sel (us ++ ws)))) : Bd K ca fd ps np ks sel := ⟨sel_ok hb, hl, h⟩
end Dv
namespace Dv
open PySem L2
def penM (τ : Mem) (cs : List Int) (sp re : Int) : Mem := some (.lst [.lst (cs.map .int), .int sp, .int re]) :: τ
theorem pdL_ints : ∀ cs : List Int, pdL (cs.map .int) = some (cs.map .int)
  | [] => rfl
  | c :: cs => by simp only [List.map_cons, pdL, pd, Option.bind_some, pdL_ints cs]
theorem lay_ints : ∀ cs : List Int, PyData.canLayAll0 (cs.map .int) = true
  | [] => rfl
  | c :: cs => by simp only [List.map_cons, PyData.canLayAll0, PyData.canLay0, Bool.true_and, lay_ints cs]
theorem deep_ints : ∀ cs : List Int, PyData.depthAll (cs.map .int) = 0
  | [] => rfl
  | c :: cs => by simp only [List.map_cons, PyData.depthAll, PyData.depth, deep_ints cs]; rfl
theorem ne_nil (μ : Mem) (cs : List Int) : neU μ (.d (.lst (cs.map .int))) (.d (.lst [])) = some (!cs.isEmpty) := by
  have h1 : SeqAt.shaped (.list (cs.map PyData.int)) = true := by
    unfold SeqAt.shaped
    simp only [PyData.canLay0, lay_ints, PyData.depth, deep_ints]
    decide
  have h2 : SeqAt.shaped (.list []) = true := by decide
  unfold neU eqU
  simp only [scalD]
  unfold eqP
  simp only [pdU, pd, pdL_ints, pdL, Option.map_some, Option.bind_some, h1, h2, Bool.and_self, if_true]
  cases cs with
  | nil => rfl
  | cons c cs => rfl
theorem ix_ints {cs : List Int} {i : Int} (h0 : 0 ≤ i) (h1 : i < cs.length) : ∃ c, atI (cs.map D.int) i = some (.int c) := by
  unfold atI ixN
  have hl : i.toNat < cs.length := by omega
  refine ⟨cs[i.toNat], ?_⟩
  simp [h0, h1, hl]
/-! the words of the mirror, by what they give -/
theorem var_eq {ρ : Env} {i : Nat} {u : U} {μ : Mem} (h : ρ[i]? = some (some u)) : mVar i ρ μ = .val u μ := by
  unfold mVar
  rw [h]
theorem bin_eq {f : Mem → U → U → Option D} {a b : MD} {ρ : Env} {μ : Mem} {x y : U} {d : D} (ha : a ρ μ = .val x μ) (hb : b ρ μ = .val y μ) (hf : f μ x y = some d) : mBin f a b ρ μ = .val (.d d) μ := by
  unfold mBin
  rw [ha, bind_val, hb, bind_val, hf]
  rfl
theorem un_eq {f : Mem → U → Option D} {a : MD} {ρ : Env} {μ : Mem} {x : U} {d : D} (ha : a ρ μ = .val x μ) (hf : f μ x = some d) : mUn f a ρ μ = .val (.d d) μ := by
  unfold mUn
  rw [ha, bind_val, hf]
  rfl
theorem c1_eq {f : Mem → U → Option D} {a : MD} {ρ : Env} {μ : Mem} {x : U} {d : D} (ha : a ρ μ = .val x μ) (hf : f μ x = some d) : mCall (one f) (mCons a mNil) ρ μ = .val (.d d) μ := by
  unfold mCall mCons
  rw [ha]
  simp only [bind_val, mNil, one, hf, ofO_some]
theorem cmp_eq {f : Mem → U → U → Option Bool} {a b : MD} {ρ : Env} {μ : Mem} {x y : U} {d : Bool} (ha : a ρ μ = .val x μ) (hb : b ρ μ = .val y μ) (hf : f μ x y = some d) : mCmpB f a b ρ μ = .val d μ := by
  unfold mCmpB
  rw [ha, bind_val, hb, bind_val, hf]
  rfl
theorem and_eq {a b : MT} {ρ : Env} {μ : Mem} {c d : Bool} (ha : a ρ μ = .val c μ) (hb : c = true → b ρ μ = .val d μ) : mAndT a b ρ μ = .val (c && d) μ := by
  unfold mAndT
  rw [ha, bind_val]
  cases c with
  | true => rw [if_pos rfl, hb rfl]; rfl
  | false => rfl
theorem val_eq {a : MT} {ρ : Env} {μ : Mem} {c : Bool} (ha : a ρ μ = .val c μ) : mVal a ρ μ = .val (.d (.bl c)) μ := by
  unfold mVal
  rw [ha]
  rfl
theorem seq_eq {m n : MS} {ρ ρ1 : Env} {μ μ1 : Mem} {r : RS} (hm : m ρ μ = .next ρ1 μ1) (hn : n ρ1 μ1 = r) : mSeq m n ρ μ = r := by
  unfold mSeq
  rw [hm]
  exact hn
theorem seq_ret {m n : MS} {ρ : Env} {μ μ1 : Mem} {v : U} (hm : m ρ μ = .ret v μ1) : mSeq m n ρ μ = .ret v μ1 := by
  unfold mSeq
  rw [hm]
  rfl
theorem set_eq {m : MD} {ρ : Env} {μ μ1 : Mem} {i : Nat} {u : U} (hm : m ρ μ = .val u μ1) (hi : i < ρ.length) : mSet i m ρ μ = .next (ρ.set i (some u)) μ1 := by
  unfold mSet
  rw [hm]
  simp only [RS.of, putE, if_pos hi]
theorem ret_eq {m : MD} {ρ : Env} {μ μ1 : Mem} {u : U} (hm : m ρ μ = .val u μ1) : mRet m ρ μ = .ret u μ1 := by
  unfold mRet
  rw [hm]
  rfl
theorem if_eq {t : MT} {m n : MS} {ρ : Env} {μ μ1 : Mem} {c : Bool} {r : RS} (ht : t ρ μ = .val c μ1) (h1 : c = true → m ρ μ1 = r) (h2 : c = false → n ρ μ1 = r) : mIf t m n ρ μ = r := by
  unfold mIf
  rw [ht]
  cases c with
  | true => exact h1 rfl
  | false => exact h2 rfl
theorem ix0 {τ : Mem} {cs : List Int} {sp re : Int} : ixD (penM τ cs sp re) (.cell 0) (.d (.int 0)) = some (.lst (cs.map .int)) := rfl
theorem ix1 {τ : Mem} {cs : List Int} {sp re : Int} : ixD (penM τ cs sp re) (.cell 0) (.d (.int 1)) = some (.int sp) := rfl
theorem ix2 {τ : Mem} {cs : List Int} {sp re : Int} : ixD (penM τ cs sp re) (.cell 0) (.d (.int 2)) = some (.int re) := rfl
theorem set1 {τ : Mem} {cs : List Int} {sp re z : Int} : setAt (penM τ cs sp re) (.cell 0) (.d (.int 1)) (.int z) = some (penM τ cs z re) := rfl
theorem set2 {τ : Mem} {cs : List Int} {sp re z : Int} : setAt (penM τ cs sp re) (.cell 0) (.d (.int 2)) (.int z) = some (penM τ cs sp z) := rfl
theorem setIx_eq {me mo mi : MD} {ρ : Env} {μ μ1 : Mem} {x : D} {o i : U} (he : me ρ μ = .val (.d x) μ) (ho : mo ρ μ = .val o μ) (hi : mi ρ μ = .val i μ) (hs : setAt μ o i x = some μ1) : mSetIx me mo mi ρ μ = .next ρ μ1 := by
  unfold mSetIx
  rw [he]
  simp only [RS.of, toD]
  rw [ho]
  simp only [RS.of]
  rw [hi]
  simp only [RS.of, hs]
theorem len_ints {μ : Mem} {cs : List Int} : lenD μ (.d (.lst (cs.map .int))) = some (.int cs.length) := by
  simp [lenD, itemsU, asL]
theorem mod_eq {μ : Mem} {i j : Int} (h : 0 < j) : modD μ (.d (.int i)) (.d (.int j)) = some (.int (i % j)) := by
  simp only [modD, intOp, if_neg (show ¬ j = 0 by omega), Int.fmod_eq_emod_of_nonneg i (show 0 ≤ j by omega)]
theorem div_eq {μ : Mem} {i j : Int} (h : 0 < j) (h2 : j < 1000000000000000000000000000000000) : divD μ (.d (.int i)) (.d (.int j)) = some (.int (i / j)) := by
  have e : (decide (j ≠ 0) && decide (j.natAbs < 1000000000000000000000000000000000)) = true := by
    simp only [Bool.and_eq_true, decide_eq_true_eq]
    omega
  simp only [divD, intOp, e, if_true, Int.fdiv_eq_ediv_of_nonneg i (show 0 ≤ j by omega)]
theorem mul_eq {μ : Mem} {i j : Int} (h : small64 i = true ∨ small64 j = true) : mulD μ (.d (.int i)) (.d (.int j)) = some (.int (i * j)) := by
  have e : (small64 i || small64 j) = true := by simpa using h
  simp only [mulD, intOp, e, if_true]
theorem pow_eq {μ : Mem} {i j : Int} (h : 0 ≤ j) (h1 : j ≤ 1000) (h2 : i.natAbs < 2 ^ 64) : powD μ (.d (.int i)) (.d (.int j)) = some (.int (i ^ j.toNat)) := by
  have e : (decide (0 ≤ j) && decide (j ≤ 1000000) && decide (i.natAbs < 2 ^ 64)) = true := by
    simp only [Bool.and_eq_true, decide_eq_true_eq]
    omega
  simp only [powD, intOp, e, if_true]
theorem sm {i : Int} (h0 : 0 ≤ i) (h1 : i < 2 ^ 64) : small64 i = true := by
  simp only [small64, Bool.and_eq_true, decide_eq_true_eq]
  omega
/-- the draw, its numbers left open -/
def drawM (kA kB kP kC kD kQ kE kF kG kR ke kf kS : Int) : MS := (mSeq (mIf (mCmpB (ltB fun i j => decide (j < i)) (mIx (mVar 0) (mC (.int 2))) (mC (.int 0))) (mSeq (mSet 5 (mBin modD (mCall (one intD) (mCons (mIx (mVar 0) (mC (.int 2))) mNil)) (mVar 1)))
    (mSeq (mSetIx (mBin divD (mCall (one intD) (mCons (mIx (mVar 0) (mC (.int 2))) mNil)) (mVar 1)) (mVar 0) (mC (.int 2)))
    (mRet (mVar 5)))) mNop)
    (mSeq (mSet 2 (mIx (mVar 0) (mC (.int 1))))
    (mSeq (mSetIx (mBin addD (mVar 2) (mC (.int 1))) (mVar 0) (mC (.int 1)))
    (mSeq (mSet 3 (mBin addD (mBin mulD (mC (.int kA)) (mVar 2)) (mC (.int kB))))
    (mSeq (mIf (mCmpB neU (mIx (mVar 0) (mC (.int 0))) (mLst mNil)) (mSet 3 (mIx (mIx (mVar 0) (mC (.int 0))) (mBin modD (mCall (one intD) (mCons (mVar 2) mNil)) (mCall (one lenD) (mCons (mIx (mVar 0) (mC (.int 0))) mNil))))) mNop)
    (mSeq (mIf (mAndT (mCmpB (ltB fun i j => decide (i < j)) (mVar 2) (mCall (one lenD) (mCons (mIx (mVar 0) (mC (.int 0))) mNil))) (mCmpB (ltB fun i j => decide (j ≤ i)) (mCall (one absD) (mCons (mVar 3) mNil)) (mBin powD (mC (.int 10)) (mC (.int 18))))) (mSeq (mSet 6 (mBin addD (mBin mulD (mC (.int 2)) (mBin subD (mCall (one absD) (mCons (mVar 3) mNil)) (mBin powD (mC (.int 10)) (mC (.int 18))))) (mCall (one intD) (mCons (mVal (mCmpB (ltB fun i j => decide (i < j)) (mVar 3) (mC (.int 0)))) mNil))))
    (mSeq (mSetIx (mBin divD (mCall (one intD) (mCons (mVar 6) mNil)) (mVar 1)) (mVar 0) (mC (.int 2)))
    (mRet (mBin modD (mCall (one intD) (mCons (mVar 6) mNil)) (mVar 1))))) mNop)
    (mSeq (mSet 4 (mBin modD (mCall (one intD) (mCons (mBin powD (mBin addD (mBin addD (mBin modD (mCall (one intD) (mCons (mVar 3) mNil)) (mC (.int kP))) (mBin mulD (mC (.int kC)) (mVar 2))) (mC (.int kD))) (mC (.int ke))) mNil)) (mC (.int kQ))))
    (mSeq (mSet 4 (mBin modD (mCall (one intD) (mCons (mBin powD (mBin addD (mBin addD (mBin mulD (mVar 4) (mBin addD (mBin mulD (mC (.int 2)) (mVar 2)) (mC (.int kE)))) (mBin mulD (mBin mulD (mC (.int kF)) (mVar 2)) (mVar 2))) (mC (.int kG))) (mC (.int kf))) mNil)) (mC (.int kR))))
    (mRet (mBin modD (mCall (one intD) (mCons (mBin divD (mVar 4) (mC (.int kS))) mNil)) (mVar 1)))))))))))
theorem run_ret {n : Nat} {m : MS} {us : List U} {μ μ1 : Mem} {v : U} (h : m (us.map some ++ List.replicate (n - us.length) none) μ = .ret v μ1) : runB n m us μ = .val v μ1 := by
  unfold runB
  rw [h]
theorem draw_ok {kA kB kP kC kD kQ kE kF kG kR ke kf kS : Int} (hA : 0 ≤ kA ∧ kA < 2 ^ 31) (hP : 0 < kP ∧ kP < 2 ^ 32) (hC : 0 ≤ kC ∧ kC < 2 ^ 31) (hD : 0 ≤ kD ∧ kD < 2 ^ 31) (hQ : 0 < kQ ∧ kQ < 2 ^ 32) (hE : 0 ≤ kE ∧ kE < 2 ^ 20) (hF : 0 ≤ kF ∧ kF < 2 ^ 31) (hG : 0 ≤ kG ∧ kG < 2 ^ 31) (hR : 0 < kR) (he : 0 ≤ ke ∧ ke ≤ 1000) (hf : 0 ≤ kf ∧ kf ≤ 1000) (hS : 0 < kS ∧ kS < 1000000000000000000000000000000000)
    {τ : Mem} {cs : List Int} {sp re many : Int} (hm : 0 < many ∧ many < 1000000000000000000000000000000000) (hs : 0 ≤ sp ∧ sp ≤ 1000) (hr : 0 ≤ re) :
    ∃ r sp' re', runB 7 (drawM kA kB kP kC kD kQ kE kF kG kR ke kf kS) [.cell 0, .d (.int many)] (penM τ cs sp re) = .val (.d (.int r)) (penM τ cs sp' re') ∧ (0 ≤ r ∧ r < many) ∧ (sp ≤ sp' ∧ sp' ≤ sp + 1) ∧ 0 ≤ re' := by
  have mm : ∀ z : Int, 0 ≤ z % many ∧ z % many < many := fun z => ⟨Int.emod_nonneg z (by omega), Int.emod_lt_of_pos z hm.1⟩
  have i0 : ∀ {ρ : Env} {cs sp re}, ρ[0]? = some (some (U.cell 0)) → mIx (mVar 0) (mC (.int 0)) ρ (penM τ cs sp re) = .val (.d (.lst (cs.map .int))) (penM τ cs sp re) := fun h => bin_eq (var_eq h) rfl ix0
  have i1 : ∀ {ρ : Env} {cs sp re}, ρ[0]? = some (some (U.cell 0)) → mIx (mVar 0) (mC (.int 1)) ρ (penM τ cs sp re) = .val (.d (.int sp)) (penM τ cs sp re) := fun h => bin_eq (var_eq h) rfl ix1
  have i2 : ∀ {ρ : Env} {cs sp re}, ρ[0]? = some (some (U.cell 0)) → mIx (mVar 0) (mC (.int 2)) ρ (penM τ cs sp re) = .val (.d (.int re)) (penM τ cs sp re) := fun h => bin_eq (var_eq h) rfl ix2
  by_cases h0 : 0 < re
  · refine ⟨re % many, sp, re / many, run_ret ?_, mm re, by omega, Int.ediv_nonneg hr (by omega)⟩
    refine seq_ret (if_eq (c := true) (cmp_eq (i2 rfl) rfl (by simp [ltB, h0])) (fun _ => ?_) (fun z => by cases z))
    refine seq_eq (set_eq (bin_eq (c1_eq (i2 rfl) rfl) (var_eq rfl) (mod_eq hm.1)) (by simp)) ?_
    refine seq_eq (setIx_eq (bin_eq (c1_eq (i2 rfl) rfl) (var_eq rfl) (div_eq hm.1 hm.2)) (var_eq rfl) rfl set2) ?_
    exact ret_eq (var_eq rfl)
  · have r0 : re = 0 := by omega
    subst r0
    -- the cell
    obtain ⟨cell, hcell⟩ : ∃ cell : Int, mIf (mCmpB neU (mIx (mVar 0) (mC (.int 0))) (mLst mNil)) (mSet 3 (mIx (mIx (mVar 0) (mC (.int 0))) (mBin modD (mCall (one intD) (mCons (mVar 2) mNil)) (mCall (one lenD) (mCons (mIx (mVar 0) (mC (.int 0))) mNil))))) mNop
        [some (.cell 0), some (.d (.int many)), some (.d (.int sp)), some (.d (.int (kA * sp + kB))), none, none, none] (penM τ cs (sp + 1) 0) = .next [some (.cell 0), some (.d (.int many)), some (.d (.int sp)), some (.d (.int cell)), none, none, none] (penM τ cs (sp + 1) 0) := by
      cases hc : cs.isEmpty with
      | true => exact ⟨_, if_eq (c := false) (cmp_eq (i0 rfl) rfl (by rw [ne_nil, hc]; rfl)) (fun z => by cases z) (fun _ => rfl)⟩
      | false =>
        have hl : 0 < (cs.length : Int) := by
          cases cs with
          | nil => cases hc
          | cons c cs => simp
        obtain ⟨c, e⟩ := ix_ints (cs := cs) (Int.emod_nonneg sp (by omega)) (Int.emod_lt_of_pos sp hl)
        exact ⟨c, if_eq (c := true) (cmp_eq (i0 rfl) rfl (by rw [ne_nil, hc]; rfl)) (fun _ => set_eq (bin_eq (i0 rfl) (bin_eq (c1_eq (var_eq rfl) rfl) (c1_eq (i0 rfl) len_ints) (mod_eq hl)) e) (by simp)) (fun z => by cases z)⟩
    have pre : ∀ {m : MS} {v : U} {μ1 : Mem}, m [some (.cell 0), some (.d (.int many)), some (.d (.int sp)), some (.d (.int cell)), none, none, none] (penM τ cs (sp + 1) 0) = .ret v μ1 →
        mSeq (mIf (mCmpB (ltB fun i j => decide (j < i)) (mIx (mVar 0) (mC (.int 2))) (mC (.int 0))) (mSeq (mSet 5 (mBin modD (mCall (one intD) (mCons (mIx (mVar 0) (mC (.int 2))) mNil)) (mVar 1))) (mSeq (mSetIx (mBin divD (mCall (one intD) (mCons (mIx (mVar 0) (mC (.int 2))) mNil)) (mVar 1)) (mVar 0) (mC (.int 2))) (mRet (mVar 5)))) mNop)
        (mSeq (mSet 2 (mIx (mVar 0) (mC (.int 1)))) (mSeq (mSetIx (mBin addD (mVar 2) (mC (.int 1))) (mVar 0) (mC (.int 1))) (mSeq (mSet 3 (mBin addD (mBin mulD (mC (.int kA)) (mVar 2)) (mC (.int kB))))
        (mSeq (mIf (mCmpB neU (mIx (mVar 0) (mC (.int 0))) (mLst mNil)) (mSet 3 (mIx (mIx (mVar 0) (mC (.int 0))) (mBin modD (mCall (one intD) (mCons (mVar 2) mNil)) (mCall (one lenD) (mCons (mIx (mVar 0) (mC (.int 0))) mNil))))) mNop) m))))
        [some (.cell 0), some (.d (.int many)), none, none, none, none, none] (penM τ cs sp 0) = .ret v μ1 := fun h =>
      seq_eq (if_eq (c := false) (cmp_eq (i2 rfl) rfl (by simp [ltB])) (fun z => by cases z) (fun _ => rfl)) (seq_eq (set_eq (i1 rfl) (by simp)) (seq_eq (setIx_eq (bin_eq (var_eq rfl) rfl rfl) (var_eq rfl) rfl set1) (seq_eq (set_eq (bin_eq (bin_eq rfl (var_eq rfl) (mul_eq (.inl (sm hA.1 (by omega))))) rfl rfl) (by simp)) (seq_eq hcell h))))
    have ct : mAndT (mCmpB (ltB fun i j => decide (i < j)) (mVar 2) (mCall (one lenD) (mCons (mIx (mVar 0) (mC (.int 0))) mNil))) (mCmpB (ltB fun i j => decide (j ≤ i)) (mCall (one absD) (mCons (mVar 3) mNil)) (mBin powD (mC (.int 10)) (mC (.int 18))))
        [some (.cell 0), some (.d (.int many)), some (.d (.int sp)), some (.d (.int cell)), none, none, none] (penM τ cs (sp + 1) 0) = .val (decide (sp < cs.length) && decide ((10 : Int) ^ 18 ≤ if cell < 0 then -cell else cell)) (penM τ cs (sp + 1) 0) :=
      and_eq (cmp_eq (var_eq rfl) (c1_eq (i0 rfl) len_ints) rfl) fun _ => cmp_eq (c1_eq (var_eq rfl) rfl) (bin_eq rfl rfl rfl) rfl
    by_cases hg : (decide (sp < cs.length) && decide ((10 : Int) ^ 18 ≤ if cell < 0 then -cell else cell)) = true
    · have hge : (10 : Int) ^ 18 ≤ if cell < 0 then -cell else cell := by
        simp only [Bool.and_eq_true, decide_eq_true_eq] at hg
        exact hg.2
      generalize hgr : 2 * ((if cell < 0 then -cell else cell) - (10 : Int) ^ 18) + (if decide (cell < 0) = true then 1 else 0) = gr
      have g0 : 0 ≤ gr := by
        rw [← hgr]
        split <;> omega
      refine ⟨gr % many, sp + 1, gr / many, run_ret (pre ?_), mm gr, by omega, Int.ediv_nonneg g0 (by omega)⟩
      refine seq_ret (if_eq ct (fun _ => ?_) (fun z => by rw [hg] at z; cases z))
      refine seq_eq (set_eq (u := .d (.int gr)) (μ1 := penM τ cs (sp + 1) 0) ?_ (by simp)) ?_
      · rw [← hgr]
        exact bin_eq (bin_eq rfl (bin_eq (c1_eq (var_eq rfl) rfl) (bin_eq rfl rfl rfl) rfl) (mul_eq (.inl rfl))) (c1_eq (val_eq (cmp_eq (var_eq rfl) rfl rfl)) rfl) rfl
      refine seq_eq (setIx_eq (bin_eq (c1_eq (var_eq rfl) rfl) (var_eq rfl) (div_eq hm.1 hm.2)) (var_eq rfl) rfl set2) ?_
      exact ret_eq (bin_eq (c1_eq (var_eq rfl) rfl) (var_eq rfl) (mod_eq hm.1))
    · have m0 : 0 ≤ cell % kP ∧ cell % kP < kP := ⟨Int.emod_nonneg _ (by omega), Int.emod_lt_of_pos _ hP.1⟩
      have p1 : 0 ≤ kC * sp ∧ kC * sp ≤ 2 ^ 31 * 1000 := ⟨Int.mul_nonneg hC.1 hs.1, Int.mul_le_mul (by omega) hs.2 hs.1 (by omega)⟩
      generalize hz1 : (cell % kP + kC * sp + kD) ^ ke.toNat % kQ = z1
      have q1 : 0 ≤ z1 ∧ z1 < kQ := by
        rw [← hz1]
        exact ⟨Int.emod_nonneg _ (by omega), Int.emod_lt_of_pos _ hQ.1⟩
      have p2 : 0 ≤ z1 * (2 * sp + kE) ∧ z1 * (2 * sp + kE) ≤ 2 ^ 32 * 2 ^ 21 := ⟨Int.mul_nonneg q1.1 (by omega), Int.mul_le_mul (by omega) (by omega) (by omega) (by omega)⟩
      have p3 : 0 ≤ kF * sp ∧ kF * sp ≤ 2 ^ 31 * 1000 := ⟨Int.mul_nonneg hF.1 hs.1, Int.mul_le_mul (by omega) hs.2 hs.1 (by omega)⟩
      have p4 : 0 ≤ kF * sp * sp ∧ kF * sp * sp ≤ 2 ^ 31 * 1000 * 1000 := ⟨Int.mul_nonneg p3.1 hs.1, Int.mul_le_mul p3.2 hs.2 hs.1 (by omega)⟩
      generalize hz2 : (z1 * (2 * sp + kE) + kF * sp * sp + kG) ^ kf.toNat % kR = z2
      refine ⟨(z2 / kS) % many, sp + 1, 0, run_ret (pre ?_), mm _, by omega, by omega⟩
      refine seq_eq (if_eq ct (fun z => absurd z hg) (fun _ => rfl)) ?_
      refine seq_eq (set_eq (u := .d (.int z1)) (μ1 := penM τ cs (sp + 1) 0) ?_ (by simp)) ?_
      · rw [← hz1]
        exact bin_eq (c1_eq (bin_eq (bin_eq (bin_eq (bin_eq (c1_eq (var_eq rfl) rfl) rfl (mod_eq hP.1)) (bin_eq rfl (var_eq rfl) (mul_eq (.inl (sm hC.1 (by omega))))) rfl) rfl rfl) rfl (pow_eq he.1 he.2 (by omega))) rfl) rfl (mod_eq hQ.1)
      refine seq_eq (set_eq (u := .d (.int z2)) (μ1 := penM τ cs (sp + 1) 0) ?_ (by simp)) ?_
      · rw [← hz2]
        exact bin_eq (c1_eq (bin_eq (bin_eq (bin_eq (bin_eq (var_eq rfl) (bin_eq (bin_eq rfl (var_eq rfl) (mul_eq (.inl rfl))) rfl rfl) (mul_eq (.inl (sm q1.1 (by omega))))) (bin_eq (bin_eq rfl (var_eq rfl) (mul_eq (.inl (sm hF.1 (by omega))))) (var_eq rfl) (mul_eq (.inl (sm p3.1 (by omega))))) rfl) rfl rfl) rfl (pow_eq hf.1 hf.2 (by omega))) rfl) rfl (mod_eq hR)
      exact ret_eq (bin_eq (c1_eq (bin_eq (var_eq rfl) rfl (div_eq hS.1 hS.2)) rfl) (var_eq rfl) (mod_eq hm.1))
end Dv
namespace Dv
open PySem L2 PySem.W PySem.HandSPX PySem.DvX ClX
namespace K02
def top (i : Nat) : Stmt := (PySem.Challenge.pw_headskip_k02_tolds_made.main.body).getD i (.Pass ⟨0, 0, 0, 0⟩)
abbrev s_Told___eq__ : Stmt := inClass (top 24) 12
abbrev s_is_integer : Stmt := top 8
abbrev s_need_span : Stmt := top 39
abbrev s_Told___init__ : Stmt := inClass (top 24) 1
abbrev s_Span___init__ : Stmt := inClass (top 28) 0
abbrev s_Listed___init__ : Stmt := inClass (top 29) 0
abbrev s_Blank___init__ : Stmt := inClass (top 36) 1
abbrev s__law_bare : Stmt := top 53
abbrev s__law_some : Stmt := top 58
abbrev s__law_stands : Stmt := top 54
abbrev s__law_draw : Stmt := top 49
abbrev s__law_pick : Stmt := top 50
abbrev s__law_number : Stmt := top 55
abbrev s__law_list_right : Stmt := top 59
abbrev s__law_span : Stmt := top 51
abbrev s__law_unlike : Stmt := top 56
abbrev s_Span_in_words : Stmt := inClass (top 28) 1
abbrev s_Listed_in_words : Stmt := inClass (top 29) 1
abbrev s_Told_in_words : Stmt := inClass (top 24) 2
abbrev s_Told___str__ : Stmt := inClass (top 24) 13
abbrev s__law_named : Stmt := top 52
abbrev s__law_span_right : Stmt := top 57
abbrev s__law_pen : Stmt := top 48
abbrev s_law : Stmt := top 60
abbrev s_BadTold : Stmt := inClass (top 4) 0
abbrev s_TooMany : Stmt := inClass (top 6) 0
def is_Sp (c : Nat) : Bool := ([12, 13, 14] : List Nat).contains c
def is_Li (c : Nat) : Bool := ([15, 16, 17] : List Nat).contains c
def is_Bl (c : Nat) : Bool := ([18] : List Nat).contains c
def isT (c : Nat) : Bool := ([12, 13, 14, 15, 16, 17, 18] : List Nat).contains c
theorem is_Sp_T {c : Nat} (h : is_Sp c = true) : isT c = true := by
  unfold is_Sp at h
  unfold isT
  simp only [List.contains_eq_mem, List.mem_cons, List.not_mem_nil, or_false, decide_eq_true_eq] at h ⊢
  omega
theorem is_Li_T {c : Nat} (h : is_Li c = true) : isT c = true := by
  unfold is_Li at h
  unfold isT
  simp only [List.contains_eq_mem, List.mem_cons, List.not_mem_nil, or_false, decide_eq_true_eq] at h ⊢
  omega
theorem is_Bl_T {c : Nat} (h : is_Bl c = true) : isT c = true := by
  unfold is_Bl at h
  unfold isT
  simp only [List.contains_eq_mem, List.mem_cons, List.not_mem_nil, or_false, decide_eq_true_eq] at h ⊢
  omega
def okF (f : Str) (c : Nat) : Bool := isT c && (["low", "high", "wants", "shape", "low_reached", "high_reached", "listed"] : List Str).contains f
def tb_NULLS : Nat → Option D
  | 12 => some (.str "full")
  | 13 => some (.str "holed")
  | 14 => some (.str "open")
  | 15 => some (.str "full")
  | 16 => some (.str "holed")
  | 17 => some (.str "open")
  | 18 => some (.str "blank")
  | _ => none
def bases : List Nat := [6, 10, 11, 7, 8, 9]
def above : Nat → List Nat
  | 12 => [6, 10, 7]
  | 13 => [6, 10, 8]
  | 14 => [6, 10, 9]
  | 15 => [6, 11, 7]
  | 16 => [6, 11, 8]
  | 17 => [6, 11, 9]
  | 18 => [6]
  | _ => []
def tys : List String := ["NoneType", "bool", "int", "str", "tuple", "list", "dict"]
def tyB (n : String) : D → Option Bool
  | .ty t => if tys.contains n && ["int", "bool"].contains t then some (n == t || (n == "bool" && t == "int")) else none
  | .cls k => if tys.contains n && bases.contains k then some false else none
  | _ => none
def clB (c : Nat) : D → Option Bool
  | .ty t => if isT c && ["int", "bool"].contains t then some false else none
  | .cls k => if isT c && bases.contains k then some ((above c).contains k) else none
  | _ => none
def ty2 (n : String) : Option Bool := if tys.contains n then some (n == "list" || n == "tuple") else none
def cl2 (c : Nat) : Option Bool := if isT c then some false else none
def okT (c : Nat) (t : String ⊕ Nat) : Bool := isT c && (match t with | .inl n => tys.contains n | .inr k => isT k)
/-! the mirror -/
def m_Told___eq__ : MS := (mRet (mAndV (mCall (isiV tyB clB) (mCons (mVar 1) (mCons (mC (.cls 6)) mNil))) (mVal (mCmpB eqU (mFld (okF "shape") "shape" (mVar 0)) (mFld (okF "shape") "shape" (mVar 1))))))
def mf_Told___eq__ : MF := runB 2 m_Told___eq__
def td___eq__ : Nat → Option MF := tbOf isT mf_Told___eq__
def m_is_integer : MS := (mRet (mAndV (mCall (isiV tyB clB) (mCons (mVar 0) (mCons (mC (.ty "int")) mNil))) (mNotV (mCall (isiV tyB clB) (mCons (mVar 0) (mCons (mC (.ty "bool")) mNil))))))
def mf_is_integer : MF := runB 1 m_is_integer
def m_need_span : MS := (mSeq (mIf (mNotT (mTest (mFn mf_is_integer (mCons (mVar 0) mNil)))) (mRaise 2 ["part"] false (mCons (mC (.str "low")) mNil)) mNop)
    (mSeq (mIf (mNotT (mTest (mFn mf_is_integer (mCons (mVar 1) mNil)))) (mRaise 2 ["part"] false (mCons (mC (.str "high")) mNil)) mNop)
    (mSeq (mIf (mCmpB (ltB fun i j => decide (j < i)) (mVar 0) (mVar 1)) (mRaise 2 ["part"] false (mCons (mC (.str "order")) mNil)) mNop)
    (mSeq (mIf (mNotT (mTest (mCall (isiV tyB clB) (mCons (mVar 2) (mCons (mC (.ty "bool")) mNil))))) (mRaise 2 ["part"] false (mCons (mC (.str "low_reached")) mNil)) mNop)
    (mIf (mNotT (mTest (mCall (isiV tyB clB) (mCons (mVar 3) (mCons (mC (.ty "bool")) mNil))))) (mRaise 2 ["part"] false (mCons (mC (.str "high_reached")) mNil)) mNop)))))
def mf_need_span : MF := runB 4 m_need_span
def m_Told___init__ : MS := (mSeq (mSetF (okF "low") "low" (mVar 0) (mVar 1))
    (mSeq (mSetF (okF "high") "high" (mVar 0) (mVar 2))
    (mSeq (mSetF (okF "wants") "wants" (mVar 0) (mIfE (mCmpB (inU false) (mCon tb_NULLS "NULLS" (mVar 0)) (mTup (mCons (mC (.str "holed")) (mCons (mC (.str "blank")) mNil)))) (mTup (mStar (mVar 4) (mCons (mC .non) mNil))) (mVar 4)))
    (mSetF (okF "shape") "shape" (mVar 0) (mTup (mCons (mCon tb_NULLS "NULLS" (mVar 0)) (mCons (mVar 1) (mCons (mVar 2) (mCons (mVar 3) (mCons (mFld (okF "wants") "wants" (mVar 0)) mNil))))))))))
def mf_Told___init__ : MF := runB 5 m_Told___init__
def m_Span___init__ : MS := (mSeq (mExp (mFn mf_need_span (mCons (mVar 1) (mCons (mVar 2) (mCons (mVar 3) (mCons (mVar 4) mNil))))))
    (mSeq (mSetF (okF "low_reached") "low_reached" (mVar 0) (mOrV (mVar 3) (mAndV (mVal (mCmpB eqU (mVar 1) (mVar 2))) (mVar 4))))
    (mSeq (mSetF (okF "high_reached") "high_reached" (mVar 0) (mOrV (mVar 4) (mAndV (mVal (mCmpB eqU (mVar 1) (mVar 2))) (mVar 3))))
    (mSeq (mSet 5 (mLcRC rng1 (mCons (mCall (one intD) (mCons (mFld (okF "low_reached") "low_reached" (mVar 0)) mNil)) mNil) (gNameE 6) mYes (mVar 1) [6]))
    (mExp (mApp true (mVar 5) (mCons (mLcR rng1 (mCons (mCall (one intD) (mCons (mAndV (mFld (okF "high_reached") "high_reached" (mVar 0)) (mVal (mCmpB (ltB fun i j => decide (i < j)) (mVar 1) (mVar 2)))) mNil)) mNil) (gNameE 6) mYes (mVar 2) [6]) mNil)))))))
def ms_Span___init__ : MS := mSup is_Sp mf_Told___init__ (selP 5) (mCons (mVar 1) (mCons (mVar 2) (mCons (mC .non) (mCons (mCall (one tupD) (mCons (mVar 5) mNil)) mNil))))
def mf_Span___init__ : MF := runB 7 (mSeq m_Span___init__ ms_Span___init__)
def m_Listed___init__ : MS := (mSeq (mForI itE (mVar 1) (gTupE [2, 3]) (mIf (mNotT (mTest (mFn mf_is_integer (mCons (mVar 3) mNil)))) (mRaise 2 ["part"] false (mCons (mVar 2) mNil)) mNop))
    (mSeq (mSetF (okF "listed") "listed" (mVar 0) (mCall (one tupD) (mCons (mUn ssetD (mLcI itLT (mVar 1) (gNameE 3) mYes (mCall (one intD) (mCons (mVar 3) mNil)) [3])) mNil)))
    (mSeq (mIf (mOrT (mCmpB eqU (mCall (one lenD) (mCons (mVar 1) mNil)) (mC (.int 0))) (mCmpB (ltB fun i j => decide (i < j)) (mCall (one lenD) (mCons (mFld (okF "listed") "listed" (mVar 0)) mNil)) (mCall (one lenD) (mCons (mVar 1) mNil)))) (mRaise 2 ["part"] false (mCons (mC (.str "values")) mNil)) mNop)
    (mIf (mCmpB (ltB fun i j => decide (j < i)) (mCall (one lenD) (mCons (mVar 1) mNil)) (mC (.int 9))) (mRaise 4 ["what", "most"] false (mCons (mC (.str "values")) (mCons (mC (.int 9)) mNil))) mNop))))
def ms_Listed___init__ : MS := mSup is_Li mf_Told___init__ (selP 5) (mCons (mIx (mFld (okF "listed") "listed" (mVar 0)) (mC (.int 0))) (mCons (mIx (mFld (okF "listed") "listed" (mVar 0)) (mUn negD (mC (.int 1)))) (mCons (mFld (okF "listed") "listed" (mVar 0)) (mCons (mFld (okF "listed") "listed" (mVar 0)) mNil))))
def mf_Listed___init__ : MF := runB 4 (mSeq m_Listed___init__ ms_Listed___init__)
def mv_Listed___init__ : MF := runV 1 mf_Listed___init__
def m_Blank___init__ : MS := mNop
def ms_Blank___init__ : MS := mSup is_Bl mf_Told___init__ (selP 5) (mCons (mC .non) (mCons (mC .non) (mCons (mTup mNil) (mCons (mTup mNil) mNil))))
def mf_Blank___init__ : MF := runB 1 (mSeq m_Blank___init__ ms_Blank___init__)
def m__law_bare : MS := (mSeq (mIf (mCmpB eqU (mVar 0) (mC (.str "full"))) (mRet (mMk 12 true mf_Span___init__ ([.inl 0, .inl 1, .inl 2, .inr (.bl true, .bl true, .bool true), .inr (.bl true, .bl true, .bool true)] : Sel) (mCons (mVar 1) (mCons (mVar 2) mNil)))) mNop)
    (mRet (mIfE (mCmpB eqU (mVar 0) (mC (.str "holed"))) (mMk 13 true mf_Span___init__ ([.inl 0, .inl 1, .inl 2, .inr (.bl true, .bl true, .bool true), .inr (.bl true, .bl true, .bool true)] : Sel) (mCons (mVar 1) (mCons (mVar 2) mNil))) (mMk 14 true mf_Span___init__ ([.inl 0, .inl 1, .inl 2, .inr (.bl true, .bl true, .bool true), .inr (.bl true, .bl true, .bool true)] : Sel) (mCons (mVar 1) (mCons (mVar 2) mNil))))))
def mf__law_bare : MF := runB 3 m__law_bare
def m__law_some : MS := (mSeq (mIf (mCmpB eqU (mCall (one lenD) (mCons (mVar 1) mNil)) (mC (.int 1))) (mRet (mIx (mLst (mCons (mMkP 15 true mv_Listed___init__ (mCons (mIx (mVar 1) (mC (.int 0))) mNil)) (mCons (mMkP 16 true mv_Listed___init__ (mCons (mIx (mVar 1) (mC (.int 0))) mNil)) (mCons (mMkP 17 true mv_Listed___init__ (mCons (mIx (mVar 1) (mC (.int 0))) mNil)) mNil)))) (mVar 0))) mNop)
    (mSeq (mIf (mCmpB eqU (mCall (one lenD) (mCons (mVar 1) mNil)) (mC (.int 2))) (mRet (mIx (mLst (mCons (mMkP 15 true mv_Listed___init__ (mCons (mIx (mVar 1) (mC (.int 0))) (mCons (mIx (mVar 1) (mC (.int 1))) mNil))) (mCons (mMkP 16 true mv_Listed___init__ (mCons (mIx (mVar 1) (mC (.int 0))) (mCons (mIx (mVar 1) (mC (.int 1))) mNil))) (mCons (mMkP 17 true mv_Listed___init__ (mCons (mIx (mVar 1) (mC (.int 0))) (mCons (mIx (mVar 1) (mC (.int 1))) mNil))) mNil)))) (mVar 0))) mNop)
    (mSeq (mAsg (gTupE [2, 3, 4]) (mSl (mVar 1) mNoPart (mPart (mC (.int 3)))))
    (mSeq (mIf (mCmpB eqU (mCall (one lenD) (mCons (mVar 1) mNil)) (mC (.int 3))) (mRet (mIx (mLst (mCons (mMkP 15 true mv_Listed___init__ (mCons (mVar 2) (mCons (mVar 3) (mCons (mVar 4) mNil)))) (mCons (mMkP 16 true mv_Listed___init__ (mCons (mVar 2) (mCons (mVar 3) (mCons (mVar 4) mNil)))) (mCons (mMkP 17 true mv_Listed___init__ (mCons (mVar 2) (mCons (mVar 3) (mCons (mVar 4) mNil)))) mNil)))) (mVar 0))) mNop)
    (mSeq (mAsg (gTupE [5, 6, 7, 8, 9, 10]) (mSl (mVar 1) (mPart (mC (.int 3))) mNoPart))
    (mSeq (mIf (mCmpB eqU (mVar 0) (mC (.int 0))) (mRet (mMkP 15 true mv_Listed___init__ (mCons (mVar 2) (mCons (mVar 3) (mCons (mVar 4) (mCons (mVar 5) (mCons (mVar 6) (mCons (mVar 7) (mCons (mVar 8) (mCons (mVar 9) (mCons (mVar 10) mNil))))))))))) mNop)
    (mRet (mIfE (mCmpB eqU (mVar 0) (mC (.int 1))) (mMkP 16 true mv_Listed___init__ (mCons (mVar 2) (mCons (mVar 3) (mCons (mVar 4) (mCons (mVar 5) (mCons (mVar 6) (mCons (mVar 7) (mCons (mVar 8) (mCons (mVar 9) (mCons (mVar 10) mNil)))))))))) (mMkP 17 true mv_Listed___init__ (mCons (mVar 2) (mCons (mVar 3) (mCons (mVar 4) (mCons (mVar 5) (mCons (mVar 6) (mCons (mVar 7) (mCons (mVar 8) (mCons (mVar 9) (mCons (mVar 10) mNil))))))))))))))))))
def mf__law_some : MF := runB 11 m__law_some
def m__law_stands : MS := (mSeq (mSet 3 (mLst (mCons (mCall (isiV tyB clB) (mCons (mVar 0) (mCons (mC (.cls 6)) mNil))) (mCons (mCall (isiV tyB clB) (mCons (mVar 0) (mCons (mC (.cls 10)) mNil))) (mCons (mCall (isiV tyB clB) (mCons (mVar 0) (mCons (mC (.cls 11)) mNil))) mNil)))))
    (mSeq (mSet 3 (mBin addD (mVar 3) (mLst (mCons (mCall (isiV tyB clB) (mCons (mVar 0) (mCons (mC (.cls 7)) mNil))) (mCons (mCall (isiV tyB clB) (mCons (mVar 0) (mCons (mC (.cls 8)) mNil))) (mCons (mCall (isiV tyB clB) (mCons (mVar 0) (mCons (mC (.cls 9)) mNil))) mNil))))))
    (mSeq (mSet 4 (mLst (mCons (mC (.bl true)) (mCons (mVar 2) (mCons (mNotV (mVar 2)) (mCons (mVal (mCmpB eqU (mVar 1) (mC (.str "full")))) (mCons (mVal (mCmpB eqU (mVar 1) (mC (.str "holed")))) (mCons (mVal (mCmpB eqU (mVar 1) (mC (.str "open")))) mNil))))))))
    (mRet (mAndV (mVal (mCmpB eqU (mVar 3) (mVar 4))) (mVal (mCmpB eqU (mCon tb_NULLS "NULLS" (mVar 0)) (mVar 1))))))))
def mf__law_stands : MF := runB 5 m__law_stands
def m__law_draw : MS := (mSeq (mIf (mCmpB (ltB fun i j => decide (j < i)) (mIx (mVar 0) (mC (.int 2))) (mC (.int 0))) (mSeq (mSet 5 (mBin modD (mCall (one intD) (mCons (mIx (mVar 0) (mC (.int 2))) mNil)) (mVar 1)))
    (mSeq (mSetIx (mBin divD (mCall (one intD) (mCons (mIx (mVar 0) (mC (.int 2))) mNil)) (mVar 1)) (mVar 0) (mC (.int 2)))
    (mRet (mVar 5)))) mNop)
    (mSeq (mSet 2 (mIx (mVar 0) (mC (.int 1))))
    (mSeq (mSetIx (mBin addD (mVar 2) (mC (.int 1))) (mVar 0) (mC (.int 1)))
    (mSeq (mSet 3 (mBin addD (mBin mulD (mC (.int 41220)) (mVar 2)) (mC (.int 866))))
    (mSeq (mIf (mCmpB neU (mIx (mVar 0) (mC (.int 0))) (mLst mNil)) (mSet 3 (mIx (mIx (mVar 0) (mC (.int 0))) (mBin modD (mCall (one intD) (mCons (mVar 2) mNil)) (mCall (one lenD) (mCons (mIx (mVar 0) (mC (.int 0))) mNil))))) mNop)
    (mSeq (mIf (mAndT (mCmpB (ltB fun i j => decide (i < j)) (mVar 2) (mCall (one lenD) (mCons (mIx (mVar 0) (mC (.int 0))) mNil))) (mCmpB (ltB fun i j => decide (j ≤ i)) (mCall (one absD) (mCons (mVar 3) mNil)) (mBin powD (mC (.int 10)) (mC (.int 18))))) (mSeq (mSet 6 (mBin addD (mBin mulD (mC (.int 2)) (mBin subD (mCall (one absD) (mCons (mVar 3) mNil)) (mBin powD (mC (.int 10)) (mC (.int 18))))) (mCall (one intD) (mCons (mVal (mCmpB (ltB fun i j => decide (i < j)) (mVar 3) (mC (.int 0)))) mNil))))
    (mSeq (mSetIx (mBin divD (mCall (one intD) (mCons (mVar 6) mNil)) (mVar 1)) (mVar 0) (mC (.int 2)))
    (mRet (mBin modD (mCall (one intD) (mCons (mVar 6) mNil)) (mVar 1))))) mNop)
    (mSeq (mSet 4 (mBin modD (mCall (one intD) (mCons (mBin powD (mBin addD (mBin addD (mBin modD (mCall (one intD) (mCons (mVar 3) mNil)) (mC (.int 2147483549))) (mBin mulD (mC (.int 66168)) (mVar 2))) (mC (.int 1074))) (mC (.int 5))) mNil)) (mC (.int 2147483477))))
    (mSeq (mSet 4 (mBin modD (mCall (one intD) (mCons (mBin powD (mBin addD (mBin addD (mBin mulD (mVar 4) (mBin addD (mBin mulD (mC (.int 2)) (mVar 2)) (mC (.int 528)))) (mBin mulD (mBin mulD (mC (.int 72636)) (mVar 2)) (mVar 2))) (mC (.int 1152))) (mC (.int 3))) mNil)) (mC (.int 2147483587))))
    (mRet (mBin modD (mCall (one intD) (mCons (mBin divD (mVar 4) (mC (.int 32))) mNil)) (mVar 1)))))))))))
def mf__law_draw : MF := runB 7 m__law_draw
def m__law_pick : MS := (mRet (mIx (mVar 1) (mFn mf__law_draw (mCons (mVar 0) (mCons (mCall (one lenD) (mCons (mVar 1) mNil)) mNil)))))
def mf__law_pick : MF := runB 2 m__law_pick
def m__law_number : MS := (mSeq (mSet 1 (mFn mf__law_pick (mCons (mVar 0) (mCons (mLst (mCons (mC (.int 3)) (mCons (mC (.int 10)) (mCons (mC (.int 1000)) (mCons (mBin powD (mC (.int 10)) (mC (.int 29))) mNil))))) mNil))))
    (mSeq (mSet 2 (mFn mf__law_draw (mCons (mVar 0) (mCons (mVar 1) mNil))))
    (mRet (mIfE (mCmpB eqU (mFn mf__law_draw (mCons (mVar 0) (mCons (mC (.int 2)) mNil))) (mC (.int 0))) (mVar 2) (mBin subD (mC (.int 0)) (mVar 2))))))
def mf__law_number : MF := runB 3 m__law_number
def m__law_list_right : MS := (mSeq (mParN [3, 4] (mCons (mFn mf__law_draw (mCons (mVar 0) (mCons (mC (.int 3)) mNil))) (mCons (mLstC mNil) mNil)))
    (mSeq (mSeq (mForR rng1 (mCons (mFn mf__law_pick (mCons (mVar 0) (mCons (mLst (mCons (mC (.int 1)) (mCons (mC (.int 2)) (mCons (mC (.int 3)) (mCons (mC (.int 9)) mNil))))) mNil))) mNil) (gNameE 1) (mSeq (mSet 5 (mFn mf__law_number (mCons (mVar 0) mNil)))
    (mSeq (mWhile 1000 (mCmpB (inU false) (mVar 5) (mVar 4)) (mSet 5 (mBin addD (mVar 5) (mC (.int 1)))))
    (mExp (mApp false (mVar 4) (mCons (mVar 5) mNil)))))) (mFrzS 4))
    (mSeq (mPar 6 7 (mCons (mIx (mLst (mCons (mC (.str "full")) (mCons (mC (.str "holed")) (mCons (mC (.str "open")) mNil)))) (mVar 3)) (mCons (mCall (one sortedD) (mCons (mLcI itLT (mVar 4) (gNameE 5) mYes (mCall (one intD) (mCons (mVar 5) mNil)) [5]) mNil)) mNil)))
    (mSeq (mParN [8, 9] (mCons (mFn mf__law_some (mCons (mVar 3) (mCons (mVar 4) mNil))) (mCons (mFn mf__law_some (mCons (mVar 3) (mCons (mRev (mVar 4)) mNil))) mNil)))
    (mSeq (mIf (mCmpB neU (mCall (one reprV) (mCons (mLst (mCons (mFld (okF "low") "low" (mVar 8)) (mCons (mFld (okF "high") "high" (mVar 8)) (mCons (mFld (okF "listed") "listed" (mVar 8)) mNil)))) mNil)) (mCall (one reprV) (mCons (mLst (mCons (mIx (mVar 7) (mC (.int 0))) (mCons (mIx (mVar 7) (mUn negD (mC (.int 1)))) (mCons (mCall (one tupD) (mCons (mVar 7) mNil)) mNil)))) mNil))) (mRet (mC (.bl false))) mNop)
    (mSeq (mIf (mOrT (mCmpB neU (mCall (one reprV) (mCons (mFld (okF "wants") "wants" (mVar 8)) mNil)) (mCall (one reprV) (mCons (mCall (one tupD) (mCons (mBin addD (mVar 7) (mBin repD (mLst (mCons (mC .non) mNil)) (mCall (one intD) (mCons (mVal (mCmpB eqU (mVar 6) (mC (.str "holed")))) mNil)))) mNil)) mNil))) (mNotT (mTest (mFn mf__law_stands (mCons (mVar 8) (mCons (mVar 6) (mCons (mC (.bl false)) mNil))))))) (mRet (mC (.bl false))) mNop)
    (mSeq (mSet 2 (mLcR rng1 (mCons (mC (.int 3)) mNil) (gNameE 10) (mCmpB neU (mVar 10) (mVar 3)) (mFn mf__law_some (mCons (mVar 10) (mCons (mVar 4) mNil))) [10]))
    (mSeq (mSet 2 (mAddC (mVar 2) (mLst (mCons (mFn mf__law_some (mCons (mVar 3) (mCons (mBin addD (mSl (mVar 4) mNoPart (mPart (mUn negD (mC (.int 1))))) (mLst (mCons (mBin addD (mIx (mVar 7) (mUn negD (mC (.int 1)))) (mC (.int 1))) mNil))) mNil))) (mCons (mC .non) (mCons (mVar 7) (mCons (mCall (one tupD) (mCons (mVar 7) mNil)) mNil)))))))
    (mSeq (mSeq (mExp (mApp false (mVar 2) (mCons (mFn mf__law_bare (mCons (mVar 6) (mCons (mIx (mVar 7) (mC (.int 0))) (mCons (mIx (mVar 7) (mUn negD (mC (.int 1)))) mNil)))) mNil))) (mFrzS 2))
    (mRet (mAndV (mVal (mOwn (eqO td___eq__ okT) (mVar 8) (mVar 9))) (mVal (mCmpB eqU (mLcI itLT (mVar 2) (gNameE 11) (mOrT (mOwn (eqO td___eq__ okT) (mVar 8) (mVar 11)) (mNotT (mOwn (neO td___eq__ okT) (mVar 8) (mVar 11)))) (mVar 11) [11]) (mLst mNil))))))))))))))
def mf__law_list_right : MF := runB 12 m__law_list_right
def m__law_span : MS := (mSeq (mIf (mCmpB eqU (mVar 0) (mC (.str "full"))) (mRet (mMk 12 true mf_Span___init__ (selP 5) (mCons (mVar 1) (mCons (mVar 2) (mCons (mVar 3) (mCons (mVar 4) mNil)))))) mNop)
    (mRet (mIfE (mCmpB eqU (mVar 0) (mC (.str "holed"))) (mMk 13 true mf_Span___init__ (selP 5) (mCons (mVar 1) (mCons (mVar 2) (mCons (mVar 3) (mCons (mVar 4) mNil))))) (mMk 14 true mf_Span___init__ (selP 5) (mCons (mVar 1) (mCons (mVar 2) (mCons (mVar 3) (mCons (mVar 4) mNil))))))))
def mf__law_span : MF := runB 5 m__law_span
def m__law_unlike : MS := (mSeq (mSet 3 (mLcI itLT (mLst (mCons (mC (.str "full")) (mCons (mC (.str "holed")) (mCons (mC (.str "open")) mNil)))) (gNameE 5) (mCmpB neU (mVar 5) (mVar 0)) (mVar 5) [5]))
    (mSeq (mSet 4 (mLcI itLT (mVar 3) (gNameE 5) mYes (mFn mf__law_span (mCons (mVar 5) (mCons (mIx (mVar 1) (mC (.int 0))) (mCons (mIx (mVar 1) (mC (.int 1))) (mCons (mIx (mVar 2) (mC (.int 0))) (mCons (mIx (mVar 2) (mC (.int 1))) mNil)))))) [5]))
    (mSeq (mSet 4 (mAddC (mVar 4) (mLst (mCons (mFn mf__law_span (mCons (mVar 0) (mCons (mBin subD (mIx (mVar 1) (mC (.int 0))) (mC (.int 1))) (mCons (mIx (mVar 1) (mC (.int 1))) (mCons (mIx (mVar 2) (mC (.int 0))) (mCons (mIx (mVar 2) (mC (.int 1))) mNil)))))) (mCons (mC .non) (mCons (mCall (one tupD) (mCons (mVar 1) mNil)) (mCons (mMk 18 true mf_Blank___init__ (selP 1) mNil) mNil)))))))
    (mSeq (mExp (mApp false (mVar 4) (mCons (mFn mf__law_span (mCons (mVar 0) (mCons (mIx (mVar 1) (mC (.int 0))) (mCons (mBin addD (mIx (mVar 1) (mC (.int 1))) (mC (.int 1))) (mCons (mIx (mVar 2) (mC (.int 0))) (mCons (mIx (mVar 2) (mC (.int 1))) mNil)))))) mNil)))
    (mSeq (mSeq (mIf (mCmpB (ltB fun i j => decide (i < j)) (mIx (mVar 1) (mC (.int 0))) (mIx (mVar 1) (mC (.int 1)))) (mSeq (mExp (mApp false (mVar 4) (mCons (mFn mf__law_span (mCons (mVar 0) (mCons (mIx (mVar 1) (mC (.int 0))) (mCons (mIx (mVar 1) (mC (.int 1))) (mCons (mIx (mVar 2) (mC (.int 0))) (mCons (mNotV (mIx (mVar 2) (mC (.int 1)))) mNil)))))) mNil)))
    (mExp (mApp false (mVar 4) (mCons (mFn mf__law_span (mCons (mVar 0) (mCons (mIx (mVar 1) (mC (.int 0))) (mCons (mIx (mVar 1) (mC (.int 1))) (mCons (mNotV (mIx (mVar 2) (mC (.int 0)))) (mCons (mIx (mVar 2) (mC (.int 1))) mNil)))))) mNil)))) mNop) (mFrzS 4))
    (mRet (mVar 4)))))))
def mf__law_unlike : MF := runB 6 m__law_unlike
def m_Span_in_words : MS := (mSeq (mSet 1 (mLcI itLT (mTup (mCons (mFld (okF "low_reached") "low_reached" (mVar 0)) (mCons (mFld (okF "high_reached") "high_reached" (mVar 0)) mNil))) (gNameE 2) mYes (mIfE (mTest (mVar 2)) (mC (.str "")) (mC (.str "~"))) [2]))
    (mRet (mLst (mCons (mJs [(mUn fmtD (mIx (mVar 1) (mC (.int 0)))), (mUn fmtD (mFld (okF "low") "low" (mVar 0)))]) (mCons (mC (.str "to")) (mCons (mJs [(mUn fmtD (mIx (mVar 1) (mC (.int 1)))), (mUn fmtD (mFld (okF "high") "high" (mVar 0)))]) mNil))))))
def mf_Span_in_words : MF := runB 3 m_Span_in_words
def m_Listed_in_words : MS := (mRet (mLst (mCons (mC (.str "list")) (mStar (mLcI itLT (mFld (okF "listed") "listed" (mVar 0)) (gNameE 1) mYes (mUn fmtD (mVar 1)) [1]) mNil))))
def mf_Listed_in_words : MF := runB 2 m_Listed_in_words
def m_Told_in_words : MS := (mRet (mLst (mCons (mC (.str "blank")) mNil)))
def mf_Told_in_words : MF := runB 1 m_Told_in_words
def tm_in_words (c : Nat) : Option (MF × Sel) := if is_Sp c then some (mf_Span_in_words, selP 1) else if is_Li c then some (mf_Listed_in_words, selP 1) else if is_Bl c then some (mf_Told_in_words, selP 1) else none
theorem tm_in_words_at {c : Nat} {mf : MF} {sel : Sel} (h : tm_in_words c = some (mf, sel)) : (is_Sp c = true ∧ (mf_Span_in_words, selP 1) = (mf, sel)) ∨ (is_Li c = true ∧ (mf_Listed_in_words, selP 1) = (mf, sel)) ∨ (is_Bl c = true ∧ (mf_Told_in_words, selP 1) = (mf, sel)) := by
  unfold tm_in_words at h
  repeat (first | (split at h; (first | (rename_i hc; exact Or.inl ⟨hc, Option.some.inj h⟩) | (rename_i hc; exact Or.inr (Or.inl ⟨hc, Option.some.inj h⟩)) | (rename_i hc; exact Or.inr (Or.inr ⟨hc, Option.some.inj h⟩)) | (rename_i hc; exact ⟨hc, Option.some.inj h⟩))) | cases h)
def m_Told___str__ : MS := (mRet (mJoin (mC (.str " ")) (mLst (mStar (mMt "in_words" tm_in_words (mVar 0) mNil) (mStar (mLcI itLT (mTup (mCons (mC (.str "holed")) (mCons (mC (.str "open")) mNil))) (gNameE 1) (mCmpB eqU (mVar 1) (mCon tb_NULLS "NULLS" (mVar 0))) (mVar 1) [1]) mNil)))))
def mf_Told___str__ : MF := runB 2 m_Told___str__
def td___str__ : Nat → Option MF := tbOf isT mf_Told___str__
def m__law_named : MS := (mSeq (mIf (mCmpB eqU (mVar 0) (mC (.str "full"))) (mRet (mMk 12 true mf_Span___init__ ([.inl 0, .inl 4, .inl 3, .inl 2, .inl 1] : Sel) (mCons (mVar 4) (mCons (mVar 3) (mCons (mVar 2) (mCons (mVar 1) mNil)))))) mNop)
    (mSeq (mIf (mCmpB eqU (mVar 0) (mC (.str "holed"))) (mRet (mMk 13 true mf_Span___init__ ([.inl 0, .inl 1, .inl 2, .inl 3, .inl 4] : Sel) (mCons (mVar 1) (mCons (mVar 2) (mCons (mVar 3) (mCons (mVar 4) mNil)))))) mNop)
    (mRet (mMk 14 true mf_Span___init__ ([.inl 0, .inl 2, .inl 1, .inl 4, .inl 3] : Sel) (mCons (mVar 2) (mCons (mVar 1) (mCons (mVar 4) (mCons (mVar 3) mNil))))))))
def mf__law_named : MF := runB 5 m__law_named
def m__law_span_right : MS := (mSeq (mPar 7 8 (mCons (mFn mf__law_pick (mCons (mVar 0) (mCons (mLst (mCons (mC (.str "full")) (mCons (mC (.str "holed")) (mCons (mC (.str "open")) mNil)))) mNil))) (mCons (mFn mf__law_number (mCons (mVar 0) mNil)) mNil)))
    (mSeq (mSet 1 (mCall (one sortedD) (mCons (mLst (mCons (mCall (one intD) (mCons (mVar 8) mNil)) (mCons (mCall (one intD) (mCons (mFn mf__law_pick (mCons (mVar 0) (mCons (mLst (mCons (mVar 8) (mCons (mBin addD (mVar 8) (mC (.int 1))) (mCons (mFn mf__law_number (mCons (mVar 0) mNil)) mNil)))) mNil))) mNil)) mNil))) mNil)))
    (mSeq (mSet 2 (mLst (mCons (mVal (mCmpB eqU (mFn mf__law_draw (mCons (mVar 0) (mCons (mC (.int 2)) mNil))) (mC (.int 0)))) (mCons (mVal (mCmpB eqU (mFn mf__law_draw (mCons (mVar 0) (mCons (mC (.int 2)) mNil))) (mC (.int 0)))) mNil))))
    (mSeq (mSet 3 (mFn mf__law_span (mCons (mVar 7) (mCons (mIx (mVar 1) (mC (.int 0))) (mCons (mIx (mVar 1) (mC (.int 1))) (mCons (mIx (mVar 2) (mC (.int 0))) (mCons (mIx (mVar 2) (mC (.int 1))) mNil)))))))
    (mSeq (mPar 9 10 (mCons (mFn mf__law_named (mCons (mVar 7) (mCons (mIx (mVar 1) (mC (.int 0))) (mCons (mIx (mVar 1) (mC (.int 1))) (mCons (mIx (mVar 2) (mC (.int 0))) (mCons (mIx (mVar 2) (mC (.int 1))) mNil)))))) (mCons (mCall (one listD) (mCons (mVar 2) mNil)) mNil)))
    (mSeq (mIf (mCmpB eqU (mIx (mVar 1) (mC (.int 0))) (mIx (mVar 1) (mC (.int 1)))) (mSet 10 (mLst (mCons (mVal (mCmpB (inU false) (mC (.bl true)) (mVar 2))) (mCons (mVal (mCmpB (inU false) (mC (.bl true)) (mVar 2))) mNil)))) mNop)
    (mSeq (mSet 4 (mBin addD (mBin addD (mBin repD (mLst (mCons (mIx (mVar 1) (mC (.int 0))) mNil)) (mCall (one intD) (mCons (mIx (mVar 10) (mC (.int 0))) mNil))) (mBin repD (mLst (mCons (mIx (mVar 1) (mC (.int 1))) mNil)) (mCall (one intD) (mCons (mAndV (mIx (mVar 10) (mC (.int 1))) (mVal (mCmpB (ltB fun i j => decide (i < j)) (mIx (mVar 1) (mC (.int 0))) (mIx (mVar 1) (mC (.int 1)))))) mNil)))) (mBin repD (mLst (mCons (mC .non) mNil)) (mCall (one intD) (mCons (mVal (mCmpB eqU (mVar 7) (mC (.str "holed")))) mNil)))))
    (mSeq (mIf (mCmpB neU (mCall (one reprV) (mCons (mLst (mCons (mFld (okF "low") "low" (mVar 3)) (mCons (mFld (okF "high") "high" (mVar 3)) (mCons (mFld (okF "low_reached") "low_reached" (mVar 3)) (mCons (mFld (okF "high_reached") "high_reached" (mVar 3)) mNil))))) mNil)) (mCall (one reprV) (mCons (mBin addD (mVar 1) (mVar 10)) mNil))) (mRet (mC (.bl false))) mNop)
    (mSeq (mIf (mOrT (mCmpB neU (mCall (one reprV) (mCons (mFld (okF "wants") "wants" (mVar 3)) mNil)) (mCall (one reprV) (mCons (mCall (one tupD) (mCons (mVar 4) mNil)) mNil))) (mOrT (mNotT (mTest (mFn mf__law_stands (mCons (mVar 3) (mCons (mVar 7) (mCons (mC (.bl true)) mNil)))))) (mOwn (neO td___eq__ okT) (mVar 3) (mVar 9)))) (mRet (mC (.bl false))) mNop)
    (mSeq (mSet 5 (mFn mf__law_bare (mCons (mVar 7) (mCons (mIx (mVar 1) (mC (.int 0))) (mCons (mIx (mVar 1) (mC (.int 1))) mNil)))))
    (mSeq (mIf (mOrT (mOwn (neO td___eq__ okT) (mVar 5) (mFn mf__law_span (mCons (mVar 7) (mCons (mIx (mVar 1) (mC (.int 0))) (mCons (mIx (mVar 1) (mC (.int 1))) (mCons (mC (.bl true)) (mCons (mC (.bl true)) mNil))))))) (mCmpB neU (mVal (mOwn (eqO td___eq__ okT) (mVar 5) (mVar 3))) (mVal (mCmpB eqU (mVar 10) (mLst (mCons (mC (.bl true)) (mCons (mC (.bl true)) mNil))))))) (mRet (mC (.bl false))) mNop)
    (mSeq (mSet 6 (mBin addD (mFn mf__law_unlike (mCons (mVar 7) (mCons (mVar 1) (mCons (mVar 2) mNil)))) (mLst (mCons (mStrO td___str__ (mVar 3)) mNil))))
    (mRet (mVal (mCmpB eqU (mLcI itLT (mVar 6) (gNameE 11) (mOrT (mOwn (eqO td___eq__ okT) (mVar 3) (mVar 11)) (mNotT (mOwn (neO td___eq__ okT) (mVar 3) (mVar 11)))) (mVar 11) [11]) (mLst mNil))))))))))))))))
def mf__law_span_right : MF := runB 12 m__law_span_right
def m__law_pen : MS := (mRet (mLstC (mCons (mCall (one listD) (mCons (mSl (mVar 0) mNoPart (mPart (mC (.int 63)))) mNil)) (mCons (mC (.int 0)) (mCons (mC (.int 0)) mNil)))))
def mf__law_pen : MF := runB 1 m__law_pen
def m_law : MS := (mSeq (mSet 1 (mFn mf__law_pen (mCons (mVar 0) mNil)))
    (mSeq (mForR rng1 (mCons (mC (.int 7)) mNil) (gNameE 2) (mIf (mOrT (mNotT (mTest (mFn mf__law_span_right (mCons (mVar 1) mNil)))) (mNotT (mTest (mFn mf__law_list_right (mCons (mVar 1) mNil))))) (mRet (mC (.bl false))) mNop))
    (mSeq (mSet 3 (mMk 18 true mf_Blank___init__ (selP 1) mNil))
    (mSeq (mIf (mOrT (mCmpB neU (mCall (one reprV) (mCons (mLst (mCons (mFld (okF "low") "low" (mVar 3)) (mCons (mFld (okF "high") "high" (mVar 3)) (mCons (mFld (okF "wants") "wants" (mVar 3)) (mCons (mCon tb_NULLS "NULLS" (mVar 3)) mNil))))) mNil)) (mC (.str "[None, None, (None,), 'blank']"))) (mOwn (neO td___eq__ okT) (mVar 3) (mMk 18 true mf_Blank___init__ (selP 1) mNil))) (mRet (mC (.bl false))) mNop)
    (mSeq (mSet 4 (mLst (mCons (mCall (isiV tyB clB) (mCons (mVar 3) (mCons (mC (.cls 6)) mNil))) (mCons (mCall (isiV tyB clB) (mCons (mVar 3) (mCons (mC (.cls 10)) mNil))) (mCons (mCall (isiV tyB clB) (mCons (mVar 3) (mCons (mC (.cls 11)) mNil))) (mCons (mCall (isiV tyB clB) (mCons (mVar 3) (mCons (mC (.cls 7)) mNil))) mNil))))))
    (mSeq (mSet 4 (mBin addD (mVar 4) (mLst (mCons (mCall (isiV tyB clB) (mCons (mVar 3) (mCons (mC (.cls 8)) mNil))) (mCons (mCall (isiV tyB clB) (mCons (mVar 3) (mCons (mC (.cls 9)) mNil))) mNil)))))
    (mRet (mAndV (mVal (mCmpB eqU (mVar 4) (mBin addD (mLst (mCons (mC (.bl true)) mNil)) (mBin repD (mLst (mCons (mC (.bl false)) mNil)) (mC (.int 5)))))) (mVal (mOwn (neO td___eq__ okT) (mMk 12 true mf_Span___init__ ([.inl 0, .inl 1, .inl 2, .inr (.bl true, .bl true, .bool true), .inr (.bl true, .bl true, .bool true)] : Sel) (mCons (mC (.int 3)) (mCons (mC (.int 4)) mNil))) (mMkP 15 true mv_Listed___init__ (mCons (mC (.int 3)) (mCons (mC (.int 4)) mNil)))))))))))))
def mf_law : MF := runB 5 m_law
/-! what the written part says -/
structure Txt (K : Frag) (P : Program) (mg : Str → Option Value) (ca : Nat → Addr) (f_Told___eq__ : Addr) (d_Told___eq__ : FuncData) (f_is_integer : Addr) (d_is_integer : FuncData) (f_need_span : Addr) (d_need_span : FuncData) (f_Told___init__ : Addr) (d_Told___init__ : FuncData) (f_Span___init__ : Addr) (d_Span___init__ : FuncData) (cc_Span___init__ cd_Span___init__ : Addr) (t_Span___init__ : Addr) (f_Listed___init__ : Addr) (d_Listed___init__ : FuncData) (cc_Listed___init__ cd_Listed___init__ : Addr) (f_Blank___init__ : Addr) (d_Blank___init__ : FuncData) (cc_Blank___init__ cd_Blank___init__ : Addr) (f__law_bare : Addr) (d__law_bare : FuncData) (f__law_some : Addr) (d__law_some : FuncData) (f__law_stands : Addr) (d__law_stands : FuncData) (f__law_draw : Addr) (d__law_draw : FuncData) (f__law_pick : Addr) (d__law_pick : FuncData) (f__law_number : Addr) (d__law_number : FuncData) (f__law_list_right : Addr) (d__law_list_right : FuncData) (f__law_span : Addr) (d__law_span : FuncData) (f__law_unlike : Addr) (d__law_unlike : FuncData) (f_Span_in_words : Addr) (d_Span_in_words : FuncData) (f_Listed_in_words : Addr) (d_Listed_in_words : FuncData) (f_Told_in_words : Addr) (d_Told_in_words : FuncData) (f_Told___str__ : Addr) (d_Told___str__ : FuncData) (f__law_named : Addr) (d__law_named : FuncData) (f__law_span_right : Addr) (d__law_span_right : FuncData) (f__law_pen : Addr) (d__law_pen : FuncData) (f_law : Addr) (d_law : FuncData) : Prop where
  n_abs : mg "abs" = none
  n_bool : mg "bool" = none
  n_enumerate : mg "enumerate" = none
  n_int : mg "int" = none
  n_isinstance : mg "isinstance" = none
  n_len : mg "len" = none
  n_list : mg "list" = none
  n_range : mg "range" = none
  n_repr : mg "repr" = none
  n_set : mg "set" = none
  n_sorted : mg "sorted" = none
  n_str : mg "str" = none
  n_tuple : mg "tuple" = none
  c_MOST_VALUES : ∃ u, mg "MOST_VALUES" = some u ∧ RelV (.int 9) u
  e_BadTold : ErF K P mg (ca 2) "BadTold" ["part"]
  e_TooMany : ErF K P mg (ca 4) "TooMany" ["what", "most"]
  g_Blank : mg "Blank" = some (.ref (ca 18))
  g_Full : mg "Full" = some (.ref (ca 7))
  g_FullList : mg "FullList" = some (.ref (ca 15))
  g_FullSpan : mg "FullSpan" = some (.ref (ca 12))
  g_Holed : mg "Holed" = some (.ref (ca 8))
  g_HoledList : mg "HoledList" = some (.ref (ca 16))
  g_HoledSpan : mg "HoledSpan" = some (.ref (ca 13))
  g_Listed : mg "Listed" = some (.ref (ca 11))
  g_Open : mg "Open" = some (.ref (ca 9))
  g_OpenList : mg "OpenList" = some (.ref (ca 17))
  g_OpenSpan : mg "OpenSpan" = some (.ref (ca 14))
  g_Span : mg "Span" = some (.ref (ca 10))
  g_Told : mg "Told" = some (.ref (ca 6))
  mk_Blank : Mk K (ca 18) f_Blank___init__
  kc_Blank : keepIn K (.ref (ca 18)) = true
  mk_FullList : Mk K (ca 15) f_Listed___init__
  kc_FullList : keepIn K (.ref (ca 15)) = true
  mk_FullSpan : Mk K (ca 12) f_Span___init__
  kc_FullSpan : keepIn K (.ref (ca 12)) = true
  mk_HoledList : Mk K (ca 16) f_Listed___init__
  kc_HoledList : keepIn K (.ref (ca 16)) = true
  mk_HoledSpan : Mk K (ca 13) f_Span___init__
  kc_HoledSpan : keepIn K (.ref (ca 13)) = true
  mk_OpenList : Mk K (ca 17) f_Listed___init__
  kc_OpenList : keepIn K (.ref (ca 17)) = true
  mk_OpenSpan : Mk K (ca 14) f_Span___init__
  kc_OpenSpan : keepIn K (.ref (ca 14)) = true
  cl : ∀ c, isT c = true → Cls K (ca c)
  fld : ∀ f c, okF f c = true → Cls K (ca c) ∧ NoAttr K (ca c) f
  con_NULLS : ∀ c d, tb_NULLS c = some d → Cls K (ca c) ∧ ∃ v u, Con K (ca c) "NULLS" v u ∧ ∀ ms H, Rep K ca ms H d v
  isn : ∀ n k b, tyB n k = some b → ∃ v, clsV ca k = some v ∧ kitOne K (.type n) v = some b
  isc : ∀ c k b, clB c k = some b → IsO K (ca c) ∧ ∃ v, clsV ca k = some v ∧ kitOne K (.ref (ca c)) v = some b
  is2n : ∀ n b, ty2 n = some b → kitAny K (.type n) [.type "list", .type "tuple"] = some b
  is2c : ∀ c b, cl2 c = some b → IsO K (ca c) ∧ kitAny K (.ref (ca c)) [.type "list", .type "tuple"] = some b
  ne : ∀ c, isT c = true → NeF K (ca c)
  eqT : ∀ c t, okT c t = true → notFirst K (ca c) (tyV ca t) = true ∧ ∀ c', t = .inr c' → IsO K (ca c')
  mt_in_words_Sp : ∀ c, is_Sp c = true → Meth K (ca c) "in_words" f_Span_in_words
  mt_in_words_Li : ∀ c, is_Li c = true → Meth K (ca c) "in_words" f_Listed_in_words
  mt_in_words_Bl : ∀ c, is_Bl c = true → Meth K (ca c) "in_words" f_Told_in_words
  du___eq__ : ∀ c, isT c = true → findIn K (.ref (ca c)) "__eq__" = some (some (.ref f_Told___eq__)) ∧ isFn K (.ref f_Told___eq__) = true
  du___str__ : ∀ c, isT c = true → findIn K (.ref (ca c)) "__str__" = some (some (.ref f_Told___str__)) ∧ isFn K (.ref f_Told___str__) = true
  u_Told___eq__ : L2.Fun K "__eq__" "Told.__eq__" s_Told___eq__ f_Told___eq__ d_Told___eq__
  b_Told___eq__ : Binds K d_Told___eq__ ["self", "other"] []
  u_is_integer : L2.Fun K "is_integer" "is_integer" s_is_integer f_is_integer d_is_integer
  g_is_integer : mg "is_integer" = some (.ref f_is_integer)
  k_is_integer : keepIn K (.ref f_is_integer) = true
  b_is_integer : Binds K d_is_integer ["value"] []
  u_need_span : L2.Fun K "need_span" "need_span" s_need_span f_need_span d_need_span
  g_need_span : mg "need_span" = some (.ref f_need_span)
  k_need_span : keepIn K (.ref f_need_span) = true
  b_need_span : Binds K d_need_span ["low", "high", "low_reached", "high_reached"] []
  u_Told___init__ : L2.Fun K "__init__" "Told.__init__" s_Told___init__ f_Told___init__ d_Told___init__
  b_Told___init__ : Binds K d_Told___init__ ["self", "low", "high", "listed", "sure"] []
  us_Span___init__ : FunS K "__init__" "Span.__init__" s_Span___init__ f_Span___init__ cc_Span___init__ cd_Span___init__ d_Span___init__ (.ref t_Span___init__)
  su_Span___init__ : SuF K P mg (ca 10) f_Span___init__ f_Told___init__ cc_Span___init__ cd_Span___init__ (defScope s_Span___init__) is_Sp ca
  us_Listed___init__ : FunS K "__init__" "Listed.__init__" s_Listed___init__ f_Listed___init__ cc_Listed___init__ cd_Listed___init__ d_Listed___init__ .none
  su_Listed___init__ : SuF K P mg (ca 11) f_Listed___init__ f_Told___init__ cc_Listed___init__ cd_Listed___init__ (defScope s_Listed___init__) is_Li ca
  us_Blank___init__ : FunS K "__init__" "Blank.__init__" s_Blank___init__ f_Blank___init__ cc_Blank___init__ cd_Blank___init__ d_Blank___init__ .none
  su_Blank___init__ : SuF K P mg (ca 18) f_Blank___init__ f_Told___init__ cc_Blank___init__ cd_Blank___init__ (defScope s_Blank___init__) is_Bl ca
  u__law_bare : L2.Fun K "_law_bare" "_law_bare" s__law_bare f__law_bare d__law_bare
  g__law_bare : mg "_law_bare" = some (.ref f__law_bare)
  k__law_bare : keepIn K (.ref f__law_bare) = true
  b__law_bare : Binds K d__law_bare ["_law_nulls", "_law_first", "_law_last"] []
  u__law_some : L2.Fun K "_law_some" "_law_some" s__law_some f__law_some d__law_some
  g__law_some : mg "_law_some" = some (.ref f__law_some)
  k__law_some : keepIn K (.ref f__law_some) = true
  b__law_some : Binds K d__law_some ["_law_way", "_law_some_here"] []
  u__law_stands : L2.Fun K "_law_stands" "_law_stands" s__law_stands f__law_stands d__law_stands
  g__law_stands : mg "_law_stands" = some (.ref f__law_stands)
  k__law_stands : keepIn K (.ref f__law_stands) = true
  b__law_stands : Binds K d__law_stands ["_law_thing", "_law_nulls", "_law_is_span"] []
  u__law_draw : L2.Fun K "_law_draw" "_law_draw" s__law_draw f__law_draw d__law_draw
  g__law_draw : mg "_law_draw" = some (.ref f__law_draw)
  k__law_draw : keepIn K (.ref f__law_draw) = true
  b__law_draw : Binds K d__law_draw ["_law_pen_here", "_law_many"] []
  u__law_pick : L2.Fun K "_law_pick" "_law_pick" s__law_pick f__law_pick d__law_pick
  g__law_pick : mg "_law_pick" = some (.ref f__law_pick)
  k__law_pick : keepIn K (.ref f__law_pick) = true
  b__law_pick : Binds K d__law_pick ["_law_pen_here", "_law_some_here"] []
  u__law_number : L2.Fun K "_law_number" "_law_number" s__law_number f__law_number d__law_number
  g__law_number : mg "_law_number" = some (.ref f__law_number)
  k__law_number : keepIn K (.ref f__law_number) = true
  b__law_number : Binds K d__law_number ["_law_pen_here"] []
  u__law_list_right : L2.Fun K "_law_list_right" "_law_list_right" s__law_list_right f__law_list_right d__law_list_right
  g__law_list_right : mg "_law_list_right" = some (.ref f__law_list_right)
  k__law_list_right : keepIn K (.ref f__law_list_right) = true
  b__law_list_right : Binds K d__law_list_right ["_law_pen_here"] []
  u__law_span : L2.Fun K "_law_span" "_law_span" s__law_span f__law_span d__law_span
  g__law_span : mg "_law_span" = some (.ref f__law_span)
  k__law_span : keepIn K (.ref f__law_span) = true
  b__law_span : Binds K d__law_span ["_law_nulls", "_law_first", "_law_last", "_law_one", "_law_two"] []
  u__law_unlike : L2.Fun K "_law_unlike" "_law_unlike" s__law_unlike f__law_unlike d__law_unlike
  g__law_unlike : mg "_law_unlike" = some (.ref f__law_unlike)
  k__law_unlike : keepIn K (.ref f__law_unlike) = true
  b__law_unlike : Binds K d__law_unlike ["_law_nulls", "_law_ends", "_law_flags"] []
  u_Span_in_words : L2.Fun K "in_words" "Span.in_words" s_Span_in_words f_Span_in_words d_Span_in_words
  b_Span_in_words : Binds K d_Span_in_words ["self"] []
  u_Listed_in_words : L2.Fun K "in_words" "Listed.in_words" s_Listed_in_words f_Listed_in_words d_Listed_in_words
  b_Listed_in_words : Binds K d_Listed_in_words ["self"] []
  u_Told_in_words : L2.Fun K "in_words" "Told.in_words" s_Told_in_words f_Told_in_words d_Told_in_words
  b_Told_in_words : Binds K d_Told_in_words ["self"] []
  u_Told___str__ : L2.Fun K "__str__" "Told.__str__" s_Told___str__ f_Told___str__ d_Told___str__
  b_Told___str__ : Binds K d_Told___str__ ["self"] []
  u__law_named : L2.Fun K "_law_named" "_law_named" s__law_named f__law_named d__law_named
  g__law_named : mg "_law_named" = some (.ref f__law_named)
  k__law_named : keepIn K (.ref f__law_named) = true
  b__law_named : Binds K d__law_named ["_law_nulls", "_law_first", "_law_last", "_law_one", "_law_two"] []
  u__law_span_right : L2.Fun K "_law_span_right" "_law_span_right" s__law_span_right f__law_span_right d__law_span_right
  g__law_span_right : mg "_law_span_right" = some (.ref f__law_span_right)
  k__law_span_right : keepIn K (.ref f__law_span_right) = true
  b__law_span_right : Binds K d__law_span_right ["_law_pen_here"] []
  u__law_pen : L2.Fun K "_law_pen" "_law_pen" s__law_pen f__law_pen d__law_pen
  g__law_pen : mg "_law_pen" = some (.ref f__law_pen)
  k__law_pen : keepIn K (.ref f__law_pen) = true
  b__law_pen : Binds K d__law_pen ["_law_script"] []
  u_law : L2.Fun K "law" "law" s_law f_law d_law
  g_law : mg "law" = some (.ref f_law)
  k_law : keepIn K (.ref f_law) = true
  b_law : Binds K d_law ["_law_script"] []
  bd_Blank___init___1_ : Bd K ca d_Blank___init__ ["self"] 1 [] (selP 1)
  bd_Listed_in_words_1_ : Bd K ca d_Listed_in_words ["self"] 1 [] (selP 1)
  bd_Span___init___1_high_low_high_reached_low_reached : Bd K ca d_Span___init__ ["self", "low", "high", "low_reached", "high_reached"] 1 ["high", "low", "high_reached", "low_reached"] ([.inl 0, .inl 2, .inl 1, .inl 4, .inl 3] : Sel)
  bd_Span___init___1_high_reached_low_reached_high_low : Bd K ca d_Span___init__ ["self", "low", "high", "low_reached", "high_reached"] 1 ["high_reached", "low_reached", "high", "low"] ([.inl 0, .inl 4, .inl 3, .inl 2, .inl 1] : Sel)
  bd_Span___init___1_low_high_low_reached_high_reached : Bd K ca d_Span___init__ ["self", "low", "high", "low_reached", "high_reached"] 1 ["low", "high", "low_reached", "high_reached"] ([.inl 0, .inl 1, .inl 2, .inl 3, .inl 4] : Sel)
  bd_Span___init___3_ : Bd K ca d_Span___init__ ["self", "low", "high", "low_reached", "high_reached"] 3 [] ([.inl 0, .inl 1, .inl 2, .inr (.bl true, .bl true, .bool true), .inr (.bl true, .bl true, .bool true)] : Sel)
  bd_Span___init___5_ : Bd K ca d_Span___init__ ["self", "low", "high", "low_reached", "high_reached"] 5 [] (selP 5)
  bd_Span_in_words_1_ : Bd K ca d_Span_in_words ["self"] 1 [] (selP 1)
  bd_Told___init___5_ : Bd K ca d_Told___init__ ["self", "low", "high", "listed", "sure"] 5 [] (selP 5)
  bd_Told_in_words_1_ : Bd K ca d_Told_in_words ["self"] 1 [] (selP 1)
/-! the walk -/
section
variable {P : Program} {w : World} {K : Frag} {mg : Str → Option Value} {base : Heap} {ca : Nat → Addr} {f_Told___eq__ : Addr} {d_Told___eq__ : FuncData} {f_is_integer : Addr} {d_is_integer : FuncData} {f_need_span : Addr} {d_need_span : FuncData} {f_Told___init__ : Addr} {d_Told___init__ : FuncData} {f_Span___init__ : Addr} {d_Span___init__ : FuncData} {cc_Span___init__ cd_Span___init__ : Addr} {t_Span___init__ : Addr} {f_Listed___init__ : Addr} {d_Listed___init__ : FuncData} {cc_Listed___init__ cd_Listed___init__ : Addr} {f_Blank___init__ : Addr} {d_Blank___init__ : FuncData} {cc_Blank___init__ cd_Blank___init__ : Addr} {f__law_bare : Addr} {d__law_bare : FuncData} {f__law_some : Addr} {d__law_some : FuncData} {f__law_stands : Addr} {d__law_stands : FuncData} {f__law_draw : Addr} {d__law_draw : FuncData} {f__law_pick : Addr} {d__law_pick : FuncData} {f__law_number : Addr} {d__law_number : FuncData} {f__law_list_right : Addr} {d__law_list_right : FuncData} {f__law_span : Addr} {d__law_span : FuncData} {f__law_unlike : Addr} {d__law_unlike : FuncData} {f_Span_in_words : Addr} {d_Span_in_words : FuncData} {f_Listed_in_words : Addr} {d_Listed_in_words : FuncData} {f_Told_in_words : Addr} {d_Told_in_words : FuncData} {f_Told___str__ : Addr} {d_Told___str__ : FuncData} {f__law_named : Addr} {d__law_named : FuncData} {f__law_span_right : Addr} {d__law_span_right : FuncData} {f__law_pen : Addr} {d__law_pen : FuncData} {f_law : Addr} {d_law : FuncData}
theorem bb_abs : bootBuiltins "abs" = some (.builtin "abs") := by kernel_rfl
theorem bb_isinstance : bootBuiltins "isinstance" = some (.builtin "isinstance") := by kernel_rfl
theorem bb_len : bootBuiltins "len" = some (.builtin "len") := by kernel_rfl
theorem bb_repr : bootBuiltins "repr" = some (.builtin "repr") := by kernel_rfl
theorem bb_sorted : bootBuiltins "sorted" = some (.builtin "sorted") := by kernel_rfl
theorem bb_bool : bootBuiltins "bool" = some (.type "bool") := by kernel_rfl
theorem bb_int : bootBuiltins "int" = some (.type "int") := by kernel_rfl
theorem bb_list : bootBuiltins "list" = some (.type "list") := by kernel_rfl
theorem bb_tuple : bootBuiltins "tuple" = some (.type "tuple") := by kernel_rfl
theorem sc_Told___eq__ : FnScope ["self", "other"] ["self", "other"] (defScope s_Told___eq__) := ⟨rfl, rfl, rfl, by decide +kernel, rfl, by decide +kernel, by decide +kernel⟩
theorem ok_Told___eq__ (T : Txt K P mg ca f_Told___eq__ d_Told___eq__ f_is_integer d_is_integer f_need_span d_need_span f_Told___init__ d_Told___init__ f_Span___init__ d_Span___init__ cc_Span___init__ cd_Span___init__ t_Span___init__ f_Listed___init__ d_Listed___init__ cc_Listed___init__ cd_Listed___init__ f_Blank___init__ d_Blank___init__ cc_Blank___init__ cd_Blank___init__ f__law_bare d__law_bare f__law_some d__law_some f__law_stands d__law_stands f__law_draw d__law_draw f__law_pick d__law_pick f__law_number d__law_number f__law_list_right d__law_list_right f__law_span d__law_span f__law_unlike d__law_unlike f_Span_in_words d_Span_in_words f_Listed_in_words d_Listed_in_words f_Told_in_words d_Told_in_words f_Told___str__ d_Told___str__ f__law_named d__law_named f__law_span_right d__law_span_right f__law_pen d__law_pen f_law d_law)  : FnG P w K mg base 1 f_Told___eq__ d_Told___eq__ ["self", "other"] (spD K ca 2 mf_Told___eq__) := by
  refine fn_ok (m := m_Told___eq__) T.u_Told___eq__ sc_Told___eq__ (fun us μ h => rfl) fun cdv A outer s H E hr gd => ?_
  have tk := takes_of (X := cxOf (L2.CX P w) P w K mg base ["self", "other"] "Told.__eq__" (defScope s_Told___eq__) f_Told___eq__ cdv A outer s H E) (E := E) (E₁ := _) rfl rfl rfl rfl
  have S := sc_Told___eq__
  exact (rss_one (rs_ret (re_and (re_callB (c_isiV T.isn T.isc) rfl T.n_isinstance bb_isinstance (ra_cons (re_var 1) (ra_cons (re_cls 6 T.g_Told) ra_nil))) (re_one (re_cmp (o_eq hr.units) (re_fld (T.fld "shape") (re_var 0)) (re_fld (T.fld "shape") (re_var 1)))))))
theorem sc_is_integer : FnScope ["value"] ["value"] (defScope s_is_integer) := ⟨rfl, rfl, rfl, by decide +kernel, rfl, by decide +kernel, by decide +kernel⟩
theorem ok_is_integer (T : Txt K P mg ca f_Told___eq__ d_Told___eq__ f_is_integer d_is_integer f_need_span d_need_span f_Told___init__ d_Told___init__ f_Span___init__ d_Span___init__ cc_Span___init__ cd_Span___init__ t_Span___init__ f_Listed___init__ d_Listed___init__ cc_Listed___init__ cd_Listed___init__ f_Blank___init__ d_Blank___init__ cc_Blank___init__ cd_Blank___init__ f__law_bare d__law_bare f__law_some d__law_some f__law_stands d__law_stands f__law_draw d__law_draw f__law_pick d__law_pick f__law_number d__law_number f__law_list_right d__law_list_right f__law_span d__law_span f__law_unlike d__law_unlike f_Span_in_words d_Span_in_words f_Listed_in_words d_Listed_in_words f_Told_in_words d_Told_in_words f_Told___str__ d_Told___str__ f__law_named d__law_named f__law_span_right d__law_span_right f__law_pen d__law_pen f_law d_law)  : FnG P w K mg base 1 f_is_integer d_is_integer ["value"] (spD K ca 1 mf_is_integer) := by
  refine fn_ok (m := m_is_integer) T.u_is_integer sc_is_integer (fun us μ h => rfl) fun cdv A outer s H E hr gd => ?_
  have tk := takes_of (X := cxOf (L2.CX P w) P w K mg base ["value"] "is_integer" (defScope s_is_integer) f_is_integer cdv A outer s H E) (E := E) (E₁ := _) rfl rfl rfl rfl
  have S := sc_is_integer
  exact (rss_one (rs_ret (re_and (re_callB (c_isiV T.isn T.isc) rfl T.n_isinstance bb_isinstance (ra_cons (re_var 0) (ra_cons (re_ty T.n_int bb_int) ra_nil))) (re_one (re_not (re_callB (c_isiV T.isn T.isc) rfl T.n_isinstance bb_isinstance (ra_cons (re_var 0) (ra_cons (re_ty T.n_bool bb_bool) ra_nil))))))))
theorem sc_need_span : FnScope ["low", "high", "low_reached", "high_reached"] ["low", "high", "low_reached", "high_reached"] (defScope s_need_span) := ⟨rfl, rfl, rfl, by decide +kernel, rfl, by decide +kernel, by decide +kernel⟩
theorem ok_need_span (T : Txt K P mg ca f_Told___eq__ d_Told___eq__ f_is_integer d_is_integer f_need_span d_need_span f_Told___init__ d_Told___init__ f_Span___init__ d_Span___init__ cc_Span___init__ cd_Span___init__ t_Span___init__ f_Listed___init__ d_Listed___init__ cc_Listed___init__ cd_Listed___init__ f_Blank___init__ d_Blank___init__ cc_Blank___init__ cd_Blank___init__ f__law_bare d__law_bare f__law_some d__law_some f__law_stands d__law_stands f__law_draw d__law_draw f__law_pick d__law_pick f__law_number d__law_number f__law_list_right d__law_list_right f__law_span d__law_span f__law_unlike d__law_unlike f_Span_in_words d_Span_in_words f_Listed_in_words d_Listed_in_words f_Told_in_words d_Told_in_words f_Told___str__ d_Told___str__ f__law_named d__law_named f__law_span_right d__law_span_right f__law_pen d__law_pen f_law d_law) (F_is_integer : FnG P w K mg base 1 f_is_integer d_is_integer ["value"] (spD K ca 1 mf_is_integer)) : FnG P w K mg base 2 f_need_span d_need_span ["low", "high", "low_reached", "high_reached"] (spD K ca 4 mf_need_span) := by
  refine fn_ok (m := m_need_span) T.u_need_span sc_need_span (fun us μ h => rfl) fun cdv A outer s H E hr gd => ?_
  have tk := takes_of (X := cxOf (L2.CX P w) P w K mg base ["low", "high", "low_reached", "high_reached"] "need_span" (defScope s_need_span) f_need_span cdv A outer s H E) (E := E) (E₁ := _) rfl rfl rfl rfl
  have S := sc_need_span
  exact (rss_cons (rs_if (rt_not (rt_val (re_fn F_is_integer (hr.mono (by decide)) gd tk T.g_is_integer T.k_is_integer T.b_is_integer (ra_cons (re_var 0) ra_nil)))) (rss_one (rs_raise T.e_BadTold hr rfl tk (ra_cons re_str ra_nil))) rss_nil)
    (rss_cons (rs_if (rt_not (rt_val (re_fn F_is_integer (hr.mono (by decide)) gd tk T.g_is_integer T.k_is_integer T.b_is_integer (ra_cons (re_var 1) ra_nil)))) (rss_one (rs_raise T.e_BadTold hr rfl tk (ra_cons re_str ra_nil))) rss_nil)
    (rss_cons (rs_if (rt_cmp o_gt (re_var 0) (re_var 1)) (rss_one (rs_raise T.e_BadTold hr rfl tk (ra_cons re_str ra_nil))) rss_nil)
    (rss_cons (rs_if (rt_not (rt_val (re_callB (c_isiV T.isn T.isc) rfl T.n_isinstance bb_isinstance (ra_cons (re_var 2) (ra_cons (re_ty T.n_bool bb_bool) ra_nil))))) (rss_one (rs_raise T.e_BadTold hr rfl tk (ra_cons re_str ra_nil))) rss_nil)
    (rss_one (rs_if (rt_not (rt_val (re_callB (c_isiV T.isn T.isc) rfl T.n_isinstance bb_isinstance (ra_cons (re_var 3) (ra_cons (re_ty T.n_bool bb_bool) ra_nil))))) (rss_one (rs_raise T.e_BadTold hr rfl tk (ra_cons re_str ra_nil))) rss_nil))))))
theorem sc_Told___init__ : FnScope ["self", "low", "high", "listed", "sure"] ["self", "low", "high", "listed", "sure"] (defScope s_Told___init__) := ⟨rfl, rfl, rfl, by decide +kernel, rfl, by decide +kernel, by decide +kernel⟩
theorem ok_Told___init__ (T : Txt K P mg ca f_Told___eq__ d_Told___eq__ f_is_integer d_is_integer f_need_span d_need_span f_Told___init__ d_Told___init__ f_Span___init__ d_Span___init__ cc_Span___init__ cd_Span___init__ t_Span___init__ f_Listed___init__ d_Listed___init__ cc_Listed___init__ cd_Listed___init__ f_Blank___init__ d_Blank___init__ cc_Blank___init__ cd_Blank___init__ f__law_bare d__law_bare f__law_some d__law_some f__law_stands d__law_stands f__law_draw d__law_draw f__law_pick d__law_pick f__law_number d__law_number f__law_list_right d__law_list_right f__law_span d__law_span f__law_unlike d__law_unlike f_Span_in_words d_Span_in_words f_Listed_in_words d_Listed_in_words f_Told_in_words d_Told_in_words f_Told___str__ d_Told___str__ f__law_named d__law_named f__law_span_right d__law_span_right f__law_pen d__law_pen f_law d_law)  : FnG P w K mg base 1 f_Told___init__ d_Told___init__ ["self", "low", "high", "listed", "sure"] (spD K ca 5 mf_Told___init__) := by
  refine fn_ok (m := m_Told___init__) T.u_Told___init__ sc_Told___init__ (fun us μ h => rfl) fun cdv A outer s H E hr gd => ?_
  have tk := takes_of (X := cxOf (L2.CX P w) P w K mg base ["self", "low", "high", "listed", "sure"] "Told.__init__" (defScope s_Told___init__) f_Told___init__ cdv A outer s H E) (E := E) (E₁ := _) rfl rfl rfl rfl
  have S := sc_Told___init__
  exact (rss_cons (rs_setF (T.fld "low") (re_var 0) (re_var 1))
    (rss_cons (rs_setF (T.fld "high") (re_var 0) (re_var 2))
    (rss_cons (rs_setF (T.fld "wants") (re_var 0) (re_if (rt_cmp o_in (re_con T.con_NULLS (re_var 0)) (re_tup (ra_cons re_str (ra_cons re_str ra_nil)))) (re_tup (ra_star (re_var 4) (ra_cons re_non ra_nil))) (re_var 4)))
    (rss_one (rs_setF (T.fld "shape") (re_var 0) (re_tup (ra_cons (re_con T.con_NULLS (re_var 0)) (ra_cons (re_var 1) (ra_cons (re_var 2) (ra_cons (re_var 3) (ra_cons (re_fld (T.fld "wants") (re_var 0)) ra_nil)))))))))))
theorem sc_Span___init__ : ScS ["self", "low", "high", "low_reached", "high_reached", "ends", "turn"] ["self", "low", "high", "low_reached", "high_reached"] (defScope s_Span___init__) := ⟨rfl, rfl, rfl, by decide +kernel, rfl, by decide +kernel, by decide +kernel, rfl, by decide +kernel, by decide +kernel⟩
theorem ok_Span___init__ (T : Txt K P mg ca f_Told___eq__ d_Told___eq__ f_is_integer d_is_integer f_need_span d_need_span f_Told___init__ d_Told___init__ f_Span___init__ d_Span___init__ cc_Span___init__ cd_Span___init__ t_Span___init__ f_Listed___init__ d_Listed___init__ cc_Listed___init__ cd_Listed___init__ f_Blank___init__ d_Blank___init__ cc_Blank___init__ cd_Blank___init__ f__law_bare d__law_bare f__law_some d__law_some f__law_stands d__law_stands f__law_draw d__law_draw f__law_pick d__law_pick f__law_number d__law_number f__law_list_right d__law_list_right f__law_span d__law_span f__law_unlike d__law_unlike f_Span_in_words d_Span_in_words f_Listed_in_words d_Listed_in_words f_Told_in_words d_Told_in_words f_Told___str__ d_Told___str__ f__law_named d__law_named f__law_span_right d__law_span_right f__law_pen d__law_pen f_law d_law) (F_need_span : FnG P w K mg base 2 f_need_span d_need_span ["low", "high", "low_reached", "high_reached"] (spD K ca 4 mf_need_span)) (F_Told___init__ : FnG P w K mg base 1 f_Told___init__ d_Told___init__ ["self", "low", "high", "listed", "sure"] (spD K ca 5 mf_Told___init__)) : FnG P w K mg base 3 f_Span___init__ d_Span___init__ ["self", "low", "high", "low_reached", "high_reached"] (spD K ca 5 mf_Span___init__) := by
  refine fn_okS2 (pre := (defBody s_Span___init__).take 5) (last := (defBody s_Span___init__).getD 5 (.Pass ⟨0, 0, 0, 0⟩)) (mp := m_Span___init__) (ml := ms_Span___init__) T.us_Span___init__ T.su_Span___init__ sc_Span___init__ rfl (fun us μ h => rfl) (fun A outer s H E hr gd => ?_) (fun body A outer s0 H0 E hr gd s σ H En I h => ?_)
  · have tk := takes_of (X := cxS P w K mg base ["self", "low", "high", "low_reached", "high_reached", "ends", "turn"] "Span.__init__" (defScope s_Span___init__) f_Span___init__ (.ref cd_Span___init__) cc_Span___init__ A outer s H E) (E := E) (E₁ := _) rfl rfl rfl rfl
    have S := sc_Span___init__
    exact (rss_cons (rs_exp (re_fn F_need_span (hr.mono (by decide)) gd tk T.g_need_span T.k_need_span T.b_need_span (ra_cons (re_var 1) (ra_cons (re_var 2) (ra_cons (re_var 3) (ra_cons (re_var 4) ra_nil))))))
    (rss_cons (rs_setF (T.fld "low_reached") (re_var 0) (re_or (re_var 3) (re_one (re_and (re_cmp (o_eq hr.units) (re_var 1) (re_var 2)) (re_one (re_var 4))))))
    (rss_cons (rs_setF (T.fld "high_reached") (re_var 0) (re_or (re_var 4) (re_one (re_and (re_cmp (o_eq hr.units) (re_var 1) (re_var 2)) (re_one (re_var 3))))))
    (rss_cons (rs_lcRC 5 (own := [("turn", 6)]) rfl S.nd T.n_range (ra_cons (re_callTy c_int rfl T.n_int bb_int (ra_cons (re_fld (T.fld "low_reached") (re_var 0)) ra_nil)) ra_nil) ⟨rfl, of_decide_eq_true rfl, of_decide_eq_true rfl, of_decide_eq_true rfl, of_decide_eq_true rfl⟩ (fun _ _ _ _ _ => rg_name 6 S.nd) (fun _ _ _ _ _ => rts_nil) (fun _ _ _ _ _ => (re_var 1)))
    (rss_one (rs_exp (re_ext (re_var 5) (ra_cons (re_lcR (own := [("turn", 6)]) rfl S.nd T.n_range (ra_cons (re_callTy c_int rfl T.n_int bb_int (ra_cons (re_and (re_fld (T.fld "high_reached") (re_var 0)) (re_one (re_cmp o_lt (re_var 1) (re_var 2)))) ra_nil)) ra_nil) ⟨rfl, of_decide_eq_true rfl, of_decide_eq_true rfl, of_decide_eq_true rfl, of_decide_eq_true rfl⟩ (fun _ _ _ _ _ => rg_name 6 S.nd) (fun _ _ _ _ _ => rts_nil) (fun _ _ _ _ _ => (re_var 2))) ra_nil))))))))
  · have tk := takes_of (X := cxS P w K mg base ["self", "low", "high", "low_reached", "high_reached", "ends", "turn"] "Span.__init__" (defScope s_Span___init__) f_Span___init__ (.ref cd_Span___init__) cc_Span___init__ A outer s0 H0 E) (E := E) (E₁ := _) rfl rfl rfl rfl
    have S := sc_Span___init__
    exact sup_own (np := 4) T.su_Span___init__ F_Told___init__ T.bd_Told___init___5_ (hr.mono (by decide)) gd tk rfl (ra_cons (re_var 1) (ra_cons (re_var 2) (ra_cons re_non (ra_cons (re_callTy c_tuple rfl T.n_tuple bb_tuple (ra_cons (re_var 5) ra_nil)) ra_nil)))) (by repeat' first | exact len_nil | refine len_cons ?_) ⟨_, rfl⟩ rfl rfl I h
theorem sc_Listed___init__ : ScS ["self", "values", "at", "value"] ["self", "values"] (defScope s_Listed___init__) := ⟨rfl, rfl, rfl, by decide +kernel, rfl, by decide +kernel, by decide +kernel, rfl, by decide +kernel, by decide +kernel⟩
theorem ok_Listed___init__ (T : Txt K P mg ca f_Told___eq__ d_Told___eq__ f_is_integer d_is_integer f_need_span d_need_span f_Told___init__ d_Told___init__ f_Span___init__ d_Span___init__ cc_Span___init__ cd_Span___init__ t_Span___init__ f_Listed___init__ d_Listed___init__ cc_Listed___init__ cd_Listed___init__ f_Blank___init__ d_Blank___init__ cc_Blank___init__ cd_Blank___init__ f__law_bare d__law_bare f__law_some d__law_some f__law_stands d__law_stands f__law_draw d__law_draw f__law_pick d__law_pick f__law_number d__law_number f__law_list_right d__law_list_right f__law_span d__law_span f__law_unlike d__law_unlike f_Span_in_words d_Span_in_words f_Listed_in_words d_Listed_in_words f_Told_in_words d_Told_in_words f_Told___str__ d_Told___str__ f__law_named d__law_named f__law_span_right d__law_span_right f__law_pen d__law_pen f_law d_law) (F_is_integer : FnG P w K mg base 1 f_is_integer d_is_integer ["value"] (spD K ca 1 mf_is_integer)) (F_Told___init__ : FnG P w K mg base 1 f_Told___init__ d_Told___init__ ["self", "low", "high", "listed", "sure"] (spD K ca 5 mf_Told___init__)) : FnP P w K mg base ca 2 f_Listed___init__ mv_Listed___init__ := by
  refine fn_okSV2 (ps := ["self"]) (pv := "values") (pre := (defBody s_Listed___init__).take 4) (last := (defBody s_Listed___init__).getD 4 (.Pass ⟨0, 0, 0, 0⟩)) (mp := m_Listed___init__) (ml := ms_Listed___init__) T.us_Listed___init__ T.su_Listed___init__ sc_Listed___init__ rfl (fun us μ h => rfl) (fun doc pm an ct us rest h => StX.bind_star1 (B := fun l => bindArgs (ksFn "__init__" "Listed.__init__" (defArgs s_Listed___init__) _ (defScope s_Listed___init__) .none .none doc pm an (.ref cd_Listed___init__) ct cc_Listed___init__) ⟨l, []⟩) (fun _ => by first | rfl | kernel_rfl) (fun _ _ _ => by first | rfl | kernel_rfl) us rest h) (fun A outer s H E hr gd => ?_) (fun body A outer s0 H0 E hr gd s σ H En I h => ?_)
  · have tk := takes_of (X := cxS P w K mg base ["self", "values", "at", "value"] "Listed.__init__" (defScope s_Listed___init__) f_Listed___init__ (.ref cd_Listed___init__) cc_Listed___init__ A outer s H E) (E := E) (E₁ := _) rfl rfl rfl rfl
    have S := sc_Listed___init__
    exact (rss_cons (rs_forE (passes_of rfl) rfl T.n_enumerate (re_var 1) (rg_tup rfl (rgs_cons 2 S.nd (rgs_cons 3 S.nd rgs_nil))) (rss_one (rs_if (rt_not (rt_val (re_fn F_is_integer (hr.mono (by decide)) gd tk T.g_is_integer T.k_is_integer T.b_is_integer (ra_cons (re_var 3) ra_nil)))) (rss_one (rs_raise T.e_BadTold hr rfl tk (ra_cons (re_var 2) ra_nil))) rss_nil)))
    (rss_cons (rs_setF (T.fld "listed") (re_var 0) (re_callTy c_tuple rfl T.n_tuple bb_tuple (ra_cons (re_sset rfl T.n_sorted T.n_set (re_lcLT (own := [("value", 3)]) rfl S.nd (re_var 1) ⟨rfl, of_decide_eq_true rfl, of_decide_eq_true rfl, of_decide_eq_true rfl, of_decide_eq_true rfl⟩ (fun _ _ _ _ _ => rg_name 3 S.nd) (fun _ _ _ _ _ => rts_nil) (fun _ _ _ _ _ => (re_callTy c_int rfl T.n_int bb_int (ra_cons (re_var 3) ra_nil))))) ra_nil)))
    (rss_cons (rs_if (PW.pt (rw_or (rt_cmp (o_eq hr.units) (re_callB c_len rfl T.n_len bb_len (ra_cons (re_var 1) ra_nil)) re_int) (rw_or1 (rt_cmp o_lt (re_callB c_len rfl T.n_len bb_len (ra_cons (re_fld (T.fld "listed") (re_var 0)) ra_nil)) (re_callB c_len rfl T.n_len bb_len (ra_cons (re_var 1) ra_nil)))))) (rss_one (rs_raise T.e_BadTold hr rfl tk (ra_cons re_str ra_nil))) rss_nil)
    (rss_one (rs_if (rt_cmp o_gt (re_callB c_len rfl T.n_len bb_len (ra_cons (re_var 1) ra_nil)) (let ⟨_, h1, h2⟩ := T.c_MOST_VALUES; re_gl h1 h2 (fun _ _ => by constructor))) (rss_one (rs_raise T.e_TooMany hr rfl tk (ra_cons re_str (ra_cons (let ⟨_, h1, h2⟩ := T.c_MOST_VALUES; re_gl h1 h2 (fun _ _ => by constructor)) ra_nil)))) rss_nil)))))
  · have tk := takes_of (X := cxS P w K mg base ["self", "values", "at", "value"] "Listed.__init__" (defScope s_Listed___init__) f_Listed___init__ (.ref cd_Listed___init__) cc_Listed___init__ A outer s0 H0 E) (E := E) (E₁ := _) rfl rfl rfl rfl
    have S := sc_Listed___init__
    exact sup_own (np := 4) T.su_Listed___init__ F_Told___init__ T.bd_Told___init___5_ (hr.mono (by decide)) gd tk rfl (ra_cons (re_ix (re_fld (T.fld "listed") (re_var 0)) re_int) (ra_cons (re_ix (re_fld (T.fld "listed") (re_var 0)) (re_un o_neg re_int)) (ra_cons (re_fld (T.fld "listed") (re_var 0)) (ra_cons (re_fld (T.fld "listed") (re_var 0)) ra_nil)))) (by repeat' first | exact len_nil | refine len_cons ?_) ⟨_, rfl⟩ rfl rfl I h
theorem sc_Blank___init__ : ScS ["self"] ["self"] (defScope s_Blank___init__) := ⟨rfl, rfl, rfl, by decide +kernel, rfl, by decide +kernel, by decide +kernel, rfl, by decide +kernel, by decide +kernel⟩
theorem ok_Blank___init__ (T : Txt K P mg ca f_Told___eq__ d_Told___eq__ f_is_integer d_is_integer f_need_span d_need_span f_Told___init__ d_Told___init__ f_Span___init__ d_Span___init__ cc_Span___init__ cd_Span___init__ t_Span___init__ f_Listed___init__ d_Listed___init__ cc_Listed___init__ cd_Listed___init__ f_Blank___init__ d_Blank___init__ cc_Blank___init__ cd_Blank___init__ f__law_bare d__law_bare f__law_some d__law_some f__law_stands d__law_stands f__law_draw d__law_draw f__law_pick d__law_pick f__law_number d__law_number f__law_list_right d__law_list_right f__law_span d__law_span f__law_unlike d__law_unlike f_Span_in_words d_Span_in_words f_Listed_in_words d_Listed_in_words f_Told_in_words d_Told_in_words f_Told___str__ d_Told___str__ f__law_named d__law_named f__law_span_right d__law_span_right f__law_pen d__law_pen f_law d_law) (F_Told___init__ : FnG P w K mg base 1 f_Told___init__ d_Told___init__ ["self", "low", "high", "listed", "sure"] (spD K ca 5 mf_Told___init__)) : FnG P w K mg base 2 f_Blank___init__ d_Blank___init__ ["self"] (spD K ca 1 mf_Blank___init__) := by
  refine fn_okS2 (pre := (defBody s_Blank___init__).take 0) (last := (defBody s_Blank___init__).getD 0 (.Pass ⟨0, 0, 0, 0⟩)) (mp := m_Blank___init__) (ml := ms_Blank___init__) T.us_Blank___init__ T.su_Blank___init__ sc_Blank___init__ rfl (fun us μ h => rfl) (fun A outer s H E hr gd => ?_) (fun body A outer s0 H0 E hr gd s σ H En I h => ?_)
  · have tk := takes_of (X := cxS P w K mg base ["self"] "Blank.__init__" (defScope s_Blank___init__) f_Blank___init__ (.ref cd_Blank___init__) cc_Blank___init__ A outer s H E) (E := E) (E₁ := _) rfl rfl rfl rfl
    have S := sc_Blank___init__
    exact rss_nil
  · have tk := takes_of (X := cxS P w K mg base ["self"] "Blank.__init__" (defScope s_Blank___init__) f_Blank___init__ (.ref cd_Blank___init__) cc_Blank___init__ A outer s0 H0 E) (E := E) (E₁ := _) rfl rfl rfl rfl
    have S := sc_Blank___init__
    exact sup_own (np := 4) T.su_Blank___init__ F_Told___init__ T.bd_Told___init___5_ (hr.mono (by decide)) gd tk rfl (ra_cons re_non (ra_cons re_non (ra_cons (re_tup ra_nil) (ra_cons (re_tup ra_nil) ra_nil)))) (by repeat' first | exact len_nil | refine len_cons ?_) ⟨_, rfl⟩ rfl rfl I h
theorem sc__law_bare : FnScope ["_law_nulls", "_law_first", "_law_last"] ["_law_nulls", "_law_first", "_law_last"] (defScope s__law_bare) := ⟨rfl, rfl, rfl, by decide +kernel, rfl, by decide +kernel, by decide +kernel⟩
theorem ok__law_bare (T : Txt K P mg ca f_Told___eq__ d_Told___eq__ f_is_integer d_is_integer f_need_span d_need_span f_Told___init__ d_Told___init__ f_Span___init__ d_Span___init__ cc_Span___init__ cd_Span___init__ t_Span___init__ f_Listed___init__ d_Listed___init__ cc_Listed___init__ cd_Listed___init__ f_Blank___init__ d_Blank___init__ cc_Blank___init__ cd_Blank___init__ f__law_bare d__law_bare f__law_some d__law_some f__law_stands d__law_stands f__law_draw d__law_draw f__law_pick d__law_pick f__law_number d__law_number f__law_list_right d__law_list_right f__law_span d__law_span f__law_unlike d__law_unlike f_Span_in_words d_Span_in_words f_Listed_in_words d_Listed_in_words f_Told_in_words d_Told_in_words f_Told___str__ d_Told___str__ f__law_named d__law_named f__law_span_right d__law_span_right f__law_pen d__law_pen f_law d_law) (F_Span___init__ : FnG P w K mg base 3 f_Span___init__ d_Span___init__ ["self", "low", "high", "low_reached", "high_reached"] (spD K ca 5 mf_Span___init__)) : FnG P w K mg base 5 f__law_bare d__law_bare ["_law_nulls", "_law_first", "_law_last"] (spD K ca 3 mf__law_bare) := by
  refine fn_ok (m := m__law_bare) T.u__law_bare sc__law_bare (fun us μ h => rfl) fun cdv A outer s H E hr gd => ?_
  have tk := takes_of (X := cxOf (L2.CX P w) P w K mg base ["_law_nulls", "_law_first", "_law_last"] "_law_bare" (defScope s__law_bare) f__law_bare cdv A outer s H E) (E := E) (E₁ := _) rfl rfl rfl rfl
  have S := sc__law_bare
  exact (rss_cons (rs_if (rt_cmp (o_eq hr.units) (re_var 0) re_str) (rss_one (rs_ret (re_mk (mkF_of ⟨rfl, rfl, rfl, rfl, rfl⟩ T.mk_FullSpan F_Span___init__ T.bd_Span___init___3_) (hr.mono (by decide)) gd tk T.g_FullSpan T.kc_FullSpan (pc_pos (ra_cons (re_var 1) (ra_cons (re_var 2) ra_nil)))))) rss_nil)
    (rss_one (rs_ret (re_if (rt_cmp (o_eq hr.units) (re_var 0) re_str) (re_mk (mkF_of ⟨rfl, rfl, rfl, rfl, rfl⟩ T.mk_HoledSpan F_Span___init__ T.bd_Span___init___3_) (hr.mono (by decide)) gd tk T.g_HoledSpan T.kc_HoledSpan (pc_pos (ra_cons (re_var 1) (ra_cons (re_var 2) ra_nil)))) (re_mk (mkF_of ⟨rfl, rfl, rfl, rfl, rfl⟩ T.mk_OpenSpan F_Span___init__ T.bd_Span___init___3_) (hr.mono (by decide)) gd tk T.g_OpenSpan T.kc_OpenSpan (pc_pos (ra_cons (re_var 1) (ra_cons (re_var 2) ra_nil))))))))
theorem sc__law_some : FnScope ["_law_way", "_law_some_here", "_law_a", "_law_b", "_law_c", "_law_d", "_law_e", "_law_f", "_law_g", "_law_h", "_law_i"] ["_law_way", "_law_some_here"] (defScope s__law_some) := ⟨rfl, rfl, rfl, by decide +kernel, rfl, by decide +kernel, by decide +kernel⟩
theorem ok__law_some (T : Txt K P mg ca f_Told___eq__ d_Told___eq__ f_is_integer d_is_integer f_need_span d_need_span f_Told___init__ d_Told___init__ f_Span___init__ d_Span___init__ cc_Span___init__ cd_Span___init__ t_Span___init__ f_Listed___init__ d_Listed___init__ cc_Listed___init__ cd_Listed___init__ f_Blank___init__ d_Blank___init__ cc_Blank___init__ cd_Blank___init__ f__law_bare d__law_bare f__law_some d__law_some f__law_stands d__law_stands f__law_draw d__law_draw f__law_pick d__law_pick f__law_number d__law_number f__law_list_right d__law_list_right f__law_span d__law_span f__law_unlike d__law_unlike f_Span_in_words d_Span_in_words f_Listed_in_words d_Listed_in_words f_Told_in_words d_Told_in_words f_Told___str__ d_Told___str__ f__law_named d__law_named f__law_span_right d__law_span_right f__law_pen d__law_pen f_law d_law) (F_Listed___init__ : FnP P w K mg base ca 2 f_Listed___init__ mv_Listed___init__) : FnG P w K mg base 4 f__law_some d__law_some ["_law_way", "_law_some_here"] (spD K ca 2 mf__law_some) := by
  refine fn_ok (m := m__law_some) T.u__law_some sc__law_some (fun us μ h => rfl) fun cdv A outer s H E hr gd => ?_
  have tk := takes_of (X := cxOf (L2.CX P w) P w K mg base ["_law_way", "_law_some_here", "_law_a", "_law_b", "_law_c", "_law_d", "_law_e", "_law_f", "_law_g", "_law_h", "_law_i"] "_law_some" (defScope s__law_some) f__law_some cdv A outer s H E) (E := E) (E₁ := _) rfl rfl rfl rfl
  have S := sc__law_some
  exact (rss_cons (rs_if (rt_cmp (o_eq hr.units) (re_callB c_len rfl T.n_len bb_len (ra_cons (re_var 1) ra_nil)) re_int) (rss_one (rs_ret (re_ix (re_lst (ra_cons (re_mkP (mkPF_of ⟨rfl, rfl, rfl, rfl, rfl⟩ T.mk_FullList F_Listed___init__) (hr.mono (by decide)) gd tk T.g_FullList T.kc_FullList (pv_pos (ra_cons (re_ix (re_var 1) re_int) ra_nil))) (ra_cons (re_mkP (mkPF_of ⟨rfl, rfl, rfl, rfl, rfl⟩ T.mk_HoledList F_Listed___init__) (hr.mono (by decide)) gd tk T.g_HoledList T.kc_HoledList (pv_pos (ra_cons (re_ix (re_var 1) re_int) ra_nil))) (ra_cons (re_mkP (mkPF_of ⟨rfl, rfl, rfl, rfl, rfl⟩ T.mk_OpenList F_Listed___init__) (hr.mono (by decide)) gd tk T.g_OpenList T.kc_OpenList (pv_pos (ra_cons (re_ix (re_var 1) re_int) ra_nil))) ra_nil)))) (re_var 0)))) rss_nil)
    (rss_cons (rs_if (rt_cmp (o_eq hr.units) (re_callB c_len rfl T.n_len bb_len (ra_cons (re_var 1) ra_nil)) re_int) (rss_one (rs_ret (re_ix (re_lst (ra_cons (re_mkP (mkPF_of ⟨rfl, rfl, rfl, rfl, rfl⟩ T.mk_FullList F_Listed___init__) (hr.mono (by decide)) gd tk T.g_FullList T.kc_FullList (pv_pos (ra_cons (re_ix (re_var 1) re_int) (ra_cons (re_ix (re_var 1) re_int) ra_nil)))) (ra_cons (re_mkP (mkPF_of ⟨rfl, rfl, rfl, rfl, rfl⟩ T.mk_HoledList F_Listed___init__) (hr.mono (by decide)) gd tk T.g_HoledList T.kc_HoledList (pv_pos (ra_cons (re_ix (re_var 1) re_int) (ra_cons (re_ix (re_var 1) re_int) ra_nil)))) (ra_cons (re_mkP (mkPF_of ⟨rfl, rfl, rfl, rfl, rfl⟩ T.mk_OpenList F_Listed___init__) (hr.mono (by decide)) gd tk T.g_OpenList T.kc_OpenList (pv_pos (ra_cons (re_ix (re_var 1) re_int) (ra_cons (re_ix (re_var 1) re_int) ra_nil)))) ra_nil)))) (re_var 0)))) rss_nil)
    (rss_cons (rs_asg (rg_tup rfl (rgs_cons 2 S.nd (rgs_cons 3 S.nd (rgs_cons 4 S.nd rgs_nil)))) (re_slice (re_var 1) ro_none (ro_some re_int)))
    (rss_cons (rs_if (rt_cmp (o_eq hr.units) (re_callB c_len rfl T.n_len bb_len (ra_cons (re_var 1) ra_nil)) re_int) (rss_one (rs_ret (re_ix (re_lst (ra_cons (re_mkP (mkPF_of ⟨rfl, rfl, rfl, rfl, rfl⟩ T.mk_FullList F_Listed___init__) (hr.mono (by decide)) gd tk T.g_FullList T.kc_FullList (pv_pos (ra_cons (re_var 2) (ra_cons (re_var 3) (ra_cons (re_var 4) ra_nil))))) (ra_cons (re_mkP (mkPF_of ⟨rfl, rfl, rfl, rfl, rfl⟩ T.mk_HoledList F_Listed___init__) (hr.mono (by decide)) gd tk T.g_HoledList T.kc_HoledList (pv_pos (ra_cons (re_var 2) (ra_cons (re_var 3) (ra_cons (re_var 4) ra_nil))))) (ra_cons (re_mkP (mkPF_of ⟨rfl, rfl, rfl, rfl, rfl⟩ T.mk_OpenList F_Listed___init__) (hr.mono (by decide)) gd tk T.g_OpenList T.kc_OpenList (pv_pos (ra_cons (re_var 2) (ra_cons (re_var 3) (ra_cons (re_var 4) ra_nil))))) ra_nil)))) (re_var 0)))) rss_nil)
    (rss_cons (rs_asg (rg_tup rfl (rgs_cons 5 S.nd (rgs_cons 6 S.nd (rgs_cons 7 S.nd (rgs_cons 8 S.nd (rgs_cons 9 S.nd (rgs_cons 10 S.nd rgs_nil))))))) (re_slice (re_var 1) (ro_some re_int) ro_none))
    (rss_cons (rs_if (rt_cmp (o_eq hr.units) (re_var 0) re_int) (rss_one (rs_ret (re_mkP (mkPF_of ⟨rfl, rfl, rfl, rfl, rfl⟩ T.mk_FullList F_Listed___init__) (hr.mono (by decide)) gd tk T.g_FullList T.kc_FullList (pv_pos (ra_cons (re_var 2) (ra_cons (re_var 3) (ra_cons (re_var 4) (ra_cons (re_var 5) (ra_cons (re_var 6) (ra_cons (re_var 7) (ra_cons (re_var 8) (ra_cons (re_var 9) (ra_cons (re_var 10) ra_nil))))))))))))) rss_nil)
    (rss_one (rs_ret (re_if (rt_cmp (o_eq hr.units) (re_var 0) re_int) (re_mkP (mkPF_of ⟨rfl, rfl, rfl, rfl, rfl⟩ T.mk_HoledList F_Listed___init__) (hr.mono (by decide)) gd tk T.g_HoledList T.kc_HoledList (pv_pos (ra_cons (re_var 2) (ra_cons (re_var 3) (ra_cons (re_var 4) (ra_cons (re_var 5) (ra_cons (re_var 6) (ra_cons (re_var 7) (ra_cons (re_var 8) (ra_cons (re_var 9) (ra_cons (re_var 10) ra_nil))))))))))) (re_mkP (mkPF_of ⟨rfl, rfl, rfl, rfl, rfl⟩ T.mk_OpenList F_Listed___init__) (hr.mono (by decide)) gd tk T.g_OpenList T.kc_OpenList (pv_pos (ra_cons (re_var 2) (ra_cons (re_var 3) (ra_cons (re_var 4) (ra_cons (re_var 5) (ra_cons (re_var 6) (ra_cons (re_var 7) (ra_cons (re_var 8) (ra_cons (re_var 9) (ra_cons (re_var 10) ra_nil))))))))))))))))))))
theorem sc__law_stands : FnScope ["_law_thing", "_law_nulls", "_law_is_span", "_law_found", "_law_due"] ["_law_thing", "_law_nulls", "_law_is_span"] (defScope s__law_stands) := ⟨rfl, rfl, rfl, by decide +kernel, rfl, by decide +kernel, by decide +kernel⟩
theorem ok__law_stands (T : Txt K P mg ca f_Told___eq__ d_Told___eq__ f_is_integer d_is_integer f_need_span d_need_span f_Told___init__ d_Told___init__ f_Span___init__ d_Span___init__ cc_Span___init__ cd_Span___init__ t_Span___init__ f_Listed___init__ d_Listed___init__ cc_Listed___init__ cd_Listed___init__ f_Blank___init__ d_Blank___init__ cc_Blank___init__ cd_Blank___init__ f__law_bare d__law_bare f__law_some d__law_some f__law_stands d__law_stands f__law_draw d__law_draw f__law_pick d__law_pick f__law_number d__law_number f__law_list_right d__law_list_right f__law_span d__law_span f__law_unlike d__law_unlike f_Span_in_words d_Span_in_words f_Listed_in_words d_Listed_in_words f_Told_in_words d_Told_in_words f_Told___str__ d_Told___str__ f__law_named d__law_named f__law_span_right d__law_span_right f__law_pen d__law_pen f_law d_law)  : FnG P w K mg base 1 f__law_stands d__law_stands ["_law_thing", "_law_nulls", "_law_is_span"] (spD K ca 3 mf__law_stands) := by
  refine fn_ok (m := m__law_stands) T.u__law_stands sc__law_stands (fun us μ h => rfl) fun cdv A outer s H E hr gd => ?_
  have tk := takes_of (X := cxOf (L2.CX P w) P w K mg base ["_law_thing", "_law_nulls", "_law_is_span", "_law_found", "_law_due"] "_law_stands" (defScope s__law_stands) f__law_stands cdv A outer s H E) (E := E) (E₁ := _) rfl rfl rfl rfl
  have S := sc__law_stands
  exact (rss_cons (rs_set 3 S.nd (re_lst (ra_cons (re_callB (c_isiV T.isn T.isc) rfl T.n_isinstance bb_isinstance (ra_cons (re_var 0) (ra_cons (re_cls 6 T.g_Told) ra_nil))) (ra_cons (re_callB (c_isiV T.isn T.isc) rfl T.n_isinstance bb_isinstance (ra_cons (re_var 0) (ra_cons (re_cls 10 T.g_Span) ra_nil))) (ra_cons (re_callB (c_isiV T.isn T.isc) rfl T.n_isinstance bb_isinstance (ra_cons (re_var 0) (ra_cons (re_cls 11 T.g_Listed) ra_nil))) ra_nil)))))
    (rss_cons (rs_set 3 S.nd (re_bin o_add (re_var 3) (re_lst (ra_cons (re_callB (c_isiV T.isn T.isc) rfl T.n_isinstance bb_isinstance (ra_cons (re_var 0) (ra_cons (re_cls 7 T.g_Full) ra_nil))) (ra_cons (re_callB (c_isiV T.isn T.isc) rfl T.n_isinstance bb_isinstance (ra_cons (re_var 0) (ra_cons (re_cls 8 T.g_Holed) ra_nil))) (ra_cons (re_callB (c_isiV T.isn T.isc) rfl T.n_isinstance bb_isinstance (ra_cons (re_var 0) (ra_cons (re_cls 9 T.g_Open) ra_nil))) ra_nil))))))
    (rss_cons (rs_set 4 S.nd (re_lst (ra_cons re_bl (ra_cons (re_var 2) (ra_cons (re_not (re_var 2)) (ra_cons (re_cmp (o_eq hr.units) (re_var 1) re_str) (ra_cons (re_cmp (o_eq hr.units) (re_var 1) re_str) (ra_cons (re_cmp (o_eq hr.units) (re_var 1) re_str) ra_nil))))))))
    (rss_one (rs_ret (re_and (re_cmp (o_eq hr.units) (re_var 3) (re_var 4)) (re_one (re_cmp (o_eq hr.units) (re_con T.con_NULLS (re_var 0)) (re_var 1)))))))))
theorem sc__law_draw : FnScope ["_law_pen_here", "_law_many", "_law_turn", "_law_drawn", "_law_mixed", "_law_digit", "_law_great"] ["_law_pen_here", "_law_many"] (defScope s__law_draw) := ⟨rfl, rfl, rfl, by decide +kernel, rfl, by decide +kernel, by decide +kernel⟩
theorem ok__law_draw (T : Txt K P mg ca f_Told___eq__ d_Told___eq__ f_is_integer d_is_integer f_need_span d_need_span f_Told___init__ d_Told___init__ f_Span___init__ d_Span___init__ cc_Span___init__ cd_Span___init__ t_Span___init__ f_Listed___init__ d_Listed___init__ cc_Listed___init__ cd_Listed___init__ f_Blank___init__ d_Blank___init__ cc_Blank___init__ cd_Blank___init__ f__law_bare d__law_bare f__law_some d__law_some f__law_stands d__law_stands f__law_draw d__law_draw f__law_pick d__law_pick f__law_number d__law_number f__law_list_right d__law_list_right f__law_span d__law_span f__law_unlike d__law_unlike f_Span_in_words d_Span_in_words f_Listed_in_words d_Listed_in_words f_Told_in_words d_Told_in_words f_Told___str__ d_Told___str__ f__law_named d__law_named f__law_span_right d__law_span_right f__law_pen d__law_pen f_law d_law)  : FnG P w K mg base 1 f__law_draw d__law_draw ["_law_pen_here", "_law_many"] (spD K ca 2 mf__law_draw) := by
  refine fn_ok (m := m__law_draw) T.u__law_draw sc__law_draw (fun us μ h => rfl) fun cdv A outer s H E hr gd => ?_
  have tk := takes_of (X := cxOf (L2.CX P w) P w K mg base ["_law_pen_here", "_law_many", "_law_turn", "_law_drawn", "_law_mixed", "_law_digit", "_law_great"] "_law_draw" (defScope s__law_draw) f__law_draw cdv A outer s H E) (E := E) (E₁ := _) rfl rfl rfl rfl
  have S := sc__law_draw
  exact (rss_cons (rs_if (rt_cmp o_gt (re_ix (re_var 0) re_int) re_int) (rss_cons (rs_set 5 S.nd (re_bin o_mod (re_callTy c_int rfl T.n_int bb_int (ra_cons (re_ix (re_var 0) re_int) ra_nil)) (re_var 1)))
    (rss_cons (rs_setIx (re_bin o_div (re_callTy c_int rfl T.n_int bb_int (ra_cons (re_ix (re_var 0) re_int) ra_nil)) (re_var 1)) (re_var 0) re_int (pg_sub (re_var 0) re_int set_list))
    (rss_one (rs_ret (re_var 5))))) rss_nil)
    (rss_cons (rs_set 2 S.nd (re_ix (re_var 0) re_int))
    (rss_cons (rs_setIx (re_bin o_add (re_var 2) re_int) (re_var 0) re_int (pg_sub (re_var 0) re_int set_list))
    (rss_cons (rs_set 3 S.nd (re_bin o_add (re_bin o_mul re_int (re_var 2)) re_int))
    (rss_cons (rs_if (rt_cmp (o_ne hr.units) (re_ix (re_var 0) re_int) (re_lst ra_nil)) (rss_one (rs_set 3 S.nd (re_ix (re_ix (re_var 0) re_int) (re_bin o_mod (re_callTy c_int rfl T.n_int bb_int (ra_cons (re_var 2) ra_nil)) (re_callB c_len rfl T.n_len bb_len (ra_cons (re_ix (re_var 0) re_int) ra_nil)))))) rss_nil)
    (rss_cons (rs_if (PW.pt (rw_and (rt_cmp o_lt (re_var 2) (re_callB c_len rfl T.n_len bb_len (ra_cons (re_ix (re_var 0) re_int) ra_nil))) (rw_and1 (rt_cmp o_ge (re_callB c_abs rfl T.n_abs bb_abs (ra_cons (re_var 3) ra_nil)) (re_bin o_pow re_int re_int))))) (rss_cons (rs_set 6 S.nd (re_bin o_add (re_bin o_mul re_int (re_bin o_sub (re_callB c_abs rfl T.n_abs bb_abs (ra_cons (re_var 3) ra_nil)) (re_bin o_pow re_int re_int))) (re_callTy c_int rfl T.n_int bb_int (ra_cons (re_cmp o_lt (re_var 3) re_int) ra_nil))))
    (rss_cons (rs_setIx (re_bin o_div (re_callTy c_int rfl T.n_int bb_int (ra_cons (re_var 6) ra_nil)) (re_var 1)) (re_var 0) re_int (pg_sub (re_var 0) re_int set_list))
    (rss_one (rs_ret (re_bin o_mod (re_callTy c_int rfl T.n_int bb_int (ra_cons (re_var 6) ra_nil)) (re_var 1)))))) rss_nil)
    (rss_cons (rs_set 4 S.nd (re_bin o_mod (re_callTy c_int rfl T.n_int bb_int (ra_cons (re_bin o_pow (re_bin o_add (re_bin o_add (re_bin o_mod (re_callTy c_int rfl T.n_int bb_int (ra_cons (re_var 3) ra_nil)) re_int) (re_bin o_mul re_int (re_var 2))) re_int) re_int) ra_nil)) re_int))
    (rss_cons (rs_set 4 S.nd (re_bin o_mod (re_callTy c_int rfl T.n_int bb_int (ra_cons (re_bin o_pow (re_bin o_add (re_bin o_add (re_bin o_mul (re_var 4) (re_bin o_add (re_bin o_mul re_int (re_var 2)) re_int)) (re_bin o_mul (re_bin o_mul re_int (re_var 2)) (re_var 2))) re_int) re_int) ra_nil)) re_int))
    (rss_one (rs_ret (re_bin o_mod (re_callTy c_int rfl T.n_int bb_int (ra_cons (re_bin o_div (re_var 4) re_int) ra_nil)) (re_var 1))))))))))))
theorem sc__law_pick : FnScope ["_law_pen_here", "_law_some_here"] ["_law_pen_here", "_law_some_here"] (defScope s__law_pick) := ⟨rfl, rfl, rfl, by decide +kernel, rfl, by decide +kernel, by decide +kernel⟩
theorem ok__law_pick (T : Txt K P mg ca f_Told___eq__ d_Told___eq__ f_is_integer d_is_integer f_need_span d_need_span f_Told___init__ d_Told___init__ f_Span___init__ d_Span___init__ cc_Span___init__ cd_Span___init__ t_Span___init__ f_Listed___init__ d_Listed___init__ cc_Listed___init__ cd_Listed___init__ f_Blank___init__ d_Blank___init__ cc_Blank___init__ cd_Blank___init__ f__law_bare d__law_bare f__law_some d__law_some f__law_stands d__law_stands f__law_draw d__law_draw f__law_pick d__law_pick f__law_number d__law_number f__law_list_right d__law_list_right f__law_span d__law_span f__law_unlike d__law_unlike f_Span_in_words d_Span_in_words f_Listed_in_words d_Listed_in_words f_Told_in_words d_Told_in_words f_Told___str__ d_Told___str__ f__law_named d__law_named f__law_span_right d__law_span_right f__law_pen d__law_pen f_law d_law) (F__law_draw : FnG P w K mg base 1 f__law_draw d__law_draw ["_law_pen_here", "_law_many"] (spD K ca 2 mf__law_draw)) : FnG P w K mg base 2 f__law_pick d__law_pick ["_law_pen_here", "_law_some_here"] (spD K ca 2 mf__law_pick) := by
  refine fn_ok (m := m__law_pick) T.u__law_pick sc__law_pick (fun us μ h => rfl) fun cdv A outer s H E hr gd => ?_
  have tk := takes_of (X := cxOf (L2.CX P w) P w K mg base ["_law_pen_here", "_law_some_here"] "_law_pick" (defScope s__law_pick) f__law_pick cdv A outer s H E) (E := E) (E₁ := _) rfl rfl rfl rfl
  have S := sc__law_pick
  exact (rss_one (rs_ret (re_ix (re_var 1) (re_fn F__law_draw (hr.mono (by decide)) gd tk T.g__law_draw T.k__law_draw T.b__law_draw (ra_cons (re_var 0) (ra_cons (re_callB c_len rfl T.n_len bb_len (ra_cons (re_var 1) ra_nil)) ra_nil))))))
theorem sc__law_number : FnScope ["_law_pen_here", "_law_size", "_law_found"] ["_law_pen_here"] (defScope s__law_number) := ⟨rfl, rfl, rfl, by decide +kernel, rfl, by decide +kernel, by decide +kernel⟩
theorem ok__law_number (T : Txt K P mg ca f_Told___eq__ d_Told___eq__ f_is_integer d_is_integer f_need_span d_need_span f_Told___init__ d_Told___init__ f_Span___init__ d_Span___init__ cc_Span___init__ cd_Span___init__ t_Span___init__ f_Listed___init__ d_Listed___init__ cc_Listed___init__ cd_Listed___init__ f_Blank___init__ d_Blank___init__ cc_Blank___init__ cd_Blank___init__ f__law_bare d__law_bare f__law_some d__law_some f__law_stands d__law_stands f__law_draw d__law_draw f__law_pick d__law_pick f__law_number d__law_number f__law_list_right d__law_list_right f__law_span d__law_span f__law_unlike d__law_unlike f_Span_in_words d_Span_in_words f_Listed_in_words d_Listed_in_words f_Told_in_words d_Told_in_words f_Told___str__ d_Told___str__ f__law_named d__law_named f__law_span_right d__law_span_right f__law_pen d__law_pen f_law d_law) (F__law_draw : FnG P w K mg base 1 f__law_draw d__law_draw ["_law_pen_here", "_law_many"] (spD K ca 2 mf__law_draw)) (F__law_pick : FnG P w K mg base 2 f__law_pick d__law_pick ["_law_pen_here", "_law_some_here"] (spD K ca 2 mf__law_pick)) : FnG P w K mg base 3 f__law_number d__law_number ["_law_pen_here"] (spD K ca 1 mf__law_number) := by
  refine fn_ok (m := m__law_number) T.u__law_number sc__law_number (fun us μ h => rfl) fun cdv A outer s H E hr gd => ?_
  have tk := takes_of (X := cxOf (L2.CX P w) P w K mg base ["_law_pen_here", "_law_size", "_law_found"] "_law_number" (defScope s__law_number) f__law_number cdv A outer s H E) (E := E) (E₁ := _) rfl rfl rfl rfl
  have S := sc__law_number
  exact (rss_cons (rs_set 1 S.nd (re_fn F__law_pick (hr.mono (by decide)) gd tk T.g__law_pick T.k__law_pick T.b__law_pick (ra_cons (re_var 0) (ra_cons (re_lst (ra_cons re_int (ra_cons re_int (ra_cons re_int (ra_cons (re_bin o_pow re_int re_int) ra_nil))))) ra_nil))))
    (rss_cons (rs_set 2 S.nd (re_fn F__law_draw (hr.mono (by decide)) gd tk T.g__law_draw T.k__law_draw T.b__law_draw (ra_cons (re_var 0) (ra_cons (re_var 1) ra_nil))))
    (rss_one (rs_ret (re_if (rt_cmp (o_eq hr.units) (re_fn F__law_draw (hr.mono (by decide)) gd tk T.g__law_draw T.k__law_draw T.b__law_draw (ra_cons (re_var 0) (ra_cons re_int ra_nil))) re_int) (re_var 2) (re_bin o_sub re_int (re_var 2)))))))
theorem sc__law_list_right : FnScope ["_law_pen_here", "_law_turn", "_law_others", "_law_way", "_law_some_here", "_law_one", "_law_nulls", "_law_due", "_law_thing", "_law_twin", "_law_more", "_law_other"] ["_law_pen_here"] (defScope s__law_list_right) := ⟨rfl, rfl, rfl, by decide +kernel, rfl, by decide +kernel, by decide +kernel⟩
theorem ok__law_list_right (T : Txt K P mg ca f_Told___eq__ d_Told___eq__ f_is_integer d_is_integer f_need_span d_need_span f_Told___init__ d_Told___init__ f_Span___init__ d_Span___init__ cc_Span___init__ cd_Span___init__ t_Span___init__ f_Listed___init__ d_Listed___init__ cc_Listed___init__ cd_Listed___init__ f_Blank___init__ d_Blank___init__ cc_Blank___init__ cd_Blank___init__ f__law_bare d__law_bare f__law_some d__law_some f__law_stands d__law_stands f__law_draw d__law_draw f__law_pick d__law_pick f__law_number d__law_number f__law_list_right d__law_list_right f__law_span d__law_span f__law_unlike d__law_unlike f_Span_in_words d_Span_in_words f_Listed_in_words d_Listed_in_words f_Told_in_words d_Told_in_words f_Told___str__ d_Told___str__ f__law_named d__law_named f__law_span_right d__law_span_right f__law_pen d__law_pen f_law d_law) (F_Told___eq__ : FnG P w K mg base 1 f_Told___eq__ d_Told___eq__ ["self", "other"] (spD K ca 2 mf_Told___eq__)) (F__law_bare : FnG P w K mg base 5 f__law_bare d__law_bare ["_law_nulls", "_law_first", "_law_last"] (spD K ca 3 mf__law_bare)) (F__law_some : FnG P w K mg base 4 f__law_some d__law_some ["_law_way", "_law_some_here"] (spD K ca 2 mf__law_some)) (F__law_stands : FnG P w K mg base 1 f__law_stands d__law_stands ["_law_thing", "_law_nulls", "_law_is_span"] (spD K ca 3 mf__law_stands)) (F__law_pick : FnG P w K mg base 2 f__law_pick d__law_pick ["_law_pen_here", "_law_some_here"] (spD K ca 2 mf__law_pick)) (F__law_number : FnG P w K mg base 3 f__law_number d__law_number ["_law_pen_here"] (spD K ca 1 mf__law_number)) (F__law_draw : FnG P w K mg base 1 f__law_draw d__law_draw ["_law_pen_here", "_law_many"] (spD K ca 2 mf__law_draw)) : FnG P w K mg base 6 f__law_list_right d__law_list_right ["_law_pen_here"] (spD K ca 1 mf__law_list_right) := by
  refine fn_ok (m := m__law_list_right) T.u__law_list_right sc__law_list_right (fun us μ h => rfl) fun cdv A outer s H E hr gd => ?_
  have tk := takes_of (X := cxOf (L2.CX P w) P w K mg base ["_law_pen_here", "_law_turn", "_law_others", "_law_way", "_law_some_here", "_law_one", "_law_nulls", "_law_due", "_law_thing", "_law_twin", "_law_more", "_law_other"] "_law_list_right" (defScope s__law_list_right) f__law_list_right cdv A outer s H E) (E := E) (E₁ := _) rfl rfl rfl rfl
  have S := sc__law_list_right
  exact (rss_cons (rs_parN rfl (rgu_cons 3 S.nd (rgu_cons 4 S.nd rgu_nil)) (ra_cons (re_fn F__law_draw (hr.mono (by decide)) gd tk T.g__law_draw T.k__law_draw T.b__law_draw (ra_cons (re_var 0) (ra_cons re_int ra_nil))) (ra_cons (re_lstC ra_nil) ra_nil)))
    (rss_cons (rs_frz 4 (rs_forR1 (passes_of rfl) rfl T.n_range (ra_cons (re_fn F__law_pick (hr.mono (by decide)) gd tk T.g__law_pick T.k__law_pick T.b__law_pick (ra_cons (re_var 0) (ra_cons (re_lst (ra_cons re_int (ra_cons re_int (ra_cons re_int (ra_cons re_int ra_nil))))) ra_nil))) ra_nil) (rg_name 1 S.nd) (rss_cons (rs_set 5 S.nd (re_fn F__law_number (hr.mono (by decide)) gd tk T.g__law_number T.k__law_number T.b__law_number (ra_cons (re_var 0) ra_nil)))
    (rss_cons (rs_while 1000 (passes_of rfl) (rt_cmp o_in (re_var 5) (re_var 4)) (rss_one (rs_set 5 S.nd (re_bin o_add (re_var 5) re_int))))
    (rss_one (rs_exp (re_app (re_var 4) (ra_cons (re_var 5) ra_nil))))))))
    (rss_cons (rs_par (i := 6) (j := 7) S.nd rfl (ra_cons (re_ix (re_lst (ra_cons re_str (ra_cons re_str (ra_cons re_str ra_nil)))) (re_var 3)) (ra_cons (re_callB c_sorted rfl T.n_sorted bb_sorted (ra_cons (re_lcLT (own := [("_law_one", 5)]) rfl S.nd (re_var 4) ⟨rfl, of_decide_eq_true rfl, of_decide_eq_true rfl, of_decide_eq_true rfl, of_decide_eq_true rfl⟩ (fun _ _ _ _ _ => rg_name 5 S.nd) (fun _ _ _ _ _ => rts_nil) (fun _ _ _ _ _ => (re_callTy c_int rfl T.n_int bb_int (ra_cons (re_var 5) ra_nil)))) ra_nil)) ra_nil)))
    (rss_cons (rs_parN rfl (rgu_cons 8 S.nd (rgu_cons 9 S.nd rgu_nil)) (ra_cons (re_fn F__law_some (hr.mono (by decide)) gd tk T.g__law_some T.k__law_some T.b__law_some (ra_cons (re_var 3) (ra_cons (re_var 4) ra_nil))) (ra_cons (re_fn F__law_some (hr.mono (by decide)) gd tk T.g__law_some T.k__law_some T.b__law_some (ra_cons (re_var 3) (ra_cons (re_rev (re_var 4)) ra_nil))) ra_nil)))
    (rss_cons (rs_if (rt_cmp (o_ne hr.units) (re_callB (c_reprV gd hr.units) rfl T.n_repr bb_repr (ra_cons (re_lst (ra_cons (re_fld (T.fld "low") (re_var 8)) (ra_cons (re_fld (T.fld "high") (re_var 8)) (ra_cons (re_fld (T.fld "listed") (re_var 8)) ra_nil)))) ra_nil)) (re_callB (c_reprV gd hr.units) rfl T.n_repr bb_repr (ra_cons (re_lst (ra_cons (re_ix (re_var 7) re_int) (ra_cons (re_ix (re_var 7) (re_un o_neg re_int)) (ra_cons (re_callTy c_tuple rfl T.n_tuple bb_tuple (ra_cons (re_var 7) ra_nil)) ra_nil)))) ra_nil))) (rss_one (rs_ret re_bl)) rss_nil)
    (rss_cons (rs_if (PW.pt (rw_or (rt_cmp (o_ne hr.units) (re_callB (c_reprV gd hr.units) rfl T.n_repr bb_repr (ra_cons (re_fld (T.fld "wants") (re_var 8)) ra_nil)) (re_callB (c_reprV gd hr.units) rfl T.n_repr bb_repr (ra_cons (re_callTy c_tuple rfl T.n_tuple bb_tuple (ra_cons (re_bin o_add (re_var 7) (re_bin o_rep (re_lst (ra_cons re_non ra_nil)) (re_callTy c_int rfl T.n_int bb_int (ra_cons (re_cmp (o_eq hr.units) (re_var 6) re_str) ra_nil)))) ra_nil)) ra_nil))) (rw_or1 (rt_not (rt_val (re_fn F__law_stands (hr.mono (by decide)) gd tk T.g__law_stands T.k__law_stands T.b__law_stands (ra_cons (re_var 8) (ra_cons (re_var 6) (ra_cons re_bl ra_nil))))))))) (rss_one (rs_ret re_bl)) rss_nil)
    (rss_cons (rs_lcR 2 (own := [("_law_more", 10)]) rfl S.nd T.n_range (ra_cons re_int ra_nil) ⟨rfl, of_decide_eq_true rfl, of_decide_eq_true rfl, of_decide_eq_true rfl, of_decide_eq_true rfl⟩ (fun _ _ _ _ _ => rg_name 10 S.nd) (fun _ _ _ _ _ => (rts_one (rt_cmp (o_ne hr.units) (re_var 10) (re_var 3)))) (fun _ _ _ _ _ => (re_fn F__law_some (hr.mono (by decide)) gd takesF T.g__law_some T.k__law_some T.b__law_some (ra_cons (re_var 10) (ra_cons (re_var 4) ra_nil)))))
    (rss_cons (rs_set 2 S.nd (re_addC (re_var 2) (re_lst (ra_cons (re_fn F__law_some (hr.mono (by decide)) gd tk T.g__law_some T.k__law_some T.b__law_some (ra_cons (re_var 3) (ra_cons (re_bin o_add (re_slice (re_var 4) ro_none (ro_some (re_un o_neg re_int))) (re_lst (ra_cons (re_bin o_add (re_ix (re_var 7) (re_un o_neg re_int)) re_int) ra_nil))) ra_nil))) (ra_cons re_non (ra_cons (re_var 7) (ra_cons (re_callTy c_tuple rfl T.n_tuple bb_tuple (ra_cons (re_var 7) ra_nil)) ra_nil)))))))
    (rss_cons (rs_frz 2 (rs_exp (re_app (re_var 2) (ra_cons (re_fn F__law_bare (hr.mono (by decide)) gd tk T.g__law_bare T.k__law_bare T.b__law_bare (ra_cons (re_var 6) (ra_cons (re_ix (re_var 7) re_int) (ra_cons (re_ix (re_var 7) (re_un o_neg re_int)) ra_nil)))) ra_nil))))
    (rss_one (rs_ret (re_and (re_own (o_eq1 (tb := td___eq__) (okT := okT) (fun c mf h => by obtain ⟨h1, h2⟩ := tbOf_at h; subst h2; exact duF_of ⟨rfl, rfl, rfl, rfl, rfl⟩ (T.du___eq__ c h1).1 (T.du___eq__ c h1).2 F_Told___eq__ (Nat.le_refl _) T.b_Told___eq__ rfl) T.eqT (hr.mono (by decide)) gd) nx_eqO (re_var 8) (re_var 9)) (re_one (re_cmp (o_eq hr.units) (re_lcLT (own := [("_law_other", 11)]) rfl S.nd (re_var 2) ⟨rfl, of_decide_eq_true rfl, of_decide_eq_true rfl, of_decide_eq_true rfl, of_decide_eq_true rfl⟩ (fun _ _ _ _ _ => rg_name 11 S.nd) (fun _ _ _ _ _ => (rts_one (PW.pt (rw_or (rt_own (o_eq1 (tb := td___eq__) (okT := okT) (fun c mf h => by obtain ⟨h1, h2⟩ := tbOf_at h; subst h2; exact duF_of ⟨rfl, rfl, rfl, rfl, rfl⟩ (T.du___eq__ c h1).1 (T.du___eq__ c h1).2 F_Told___eq__ (Nat.le_refl _) T.b_Told___eq__ rfl) T.eqT (hr.mono (by decide)) gd) nx_eqO (re_var 8) (re_var 11)) (rw_or1 (rt_not (rt_own (o_neO (tb := td___eq__) (okT := okT) (fun c mf h => by obtain ⟨h1, h2⟩ := tbOf_at h; subst h2; exact ⟨duF_of ⟨rfl, rfl, rfl, rfl, rfl⟩ (T.du___eq__ c h1).1 (T.du___eq__ c h1).2 F_Told___eq__ (Nat.le_refl _) T.b_Told___eq__ rfl, T.ne c h1⟩) T.eqT (hr.mono (by decide)) gd) nx_neO (re_var 8) (re_var 11)))))))) (fun _ _ _ _ _ => (re_var 11))) (re_lst ra_nil)))))))))))))))
theorem sc__law_span : FnScope ["_law_nulls", "_law_first", "_law_last", "_law_one", "_law_two"] ["_law_nulls", "_law_first", "_law_last", "_law_one", "_law_two"] (defScope s__law_span) := ⟨rfl, rfl, rfl, by decide +kernel, rfl, by decide +kernel, by decide +kernel⟩
theorem ok__law_span (T : Txt K P mg ca f_Told___eq__ d_Told___eq__ f_is_integer d_is_integer f_need_span d_need_span f_Told___init__ d_Told___init__ f_Span___init__ d_Span___init__ cc_Span___init__ cd_Span___init__ t_Span___init__ f_Listed___init__ d_Listed___init__ cc_Listed___init__ cd_Listed___init__ f_Blank___init__ d_Blank___init__ cc_Blank___init__ cd_Blank___init__ f__law_bare d__law_bare f__law_some d__law_some f__law_stands d__law_stands f__law_draw d__law_draw f__law_pick d__law_pick f__law_number d__law_number f__law_list_right d__law_list_right f__law_span d__law_span f__law_unlike d__law_unlike f_Span_in_words d_Span_in_words f_Listed_in_words d_Listed_in_words f_Told_in_words d_Told_in_words f_Told___str__ d_Told___str__ f__law_named d__law_named f__law_span_right d__law_span_right f__law_pen d__law_pen f_law d_law) (F_Span___init__ : FnG P w K mg base 3 f_Span___init__ d_Span___init__ ["self", "low", "high", "low_reached", "high_reached"] (spD K ca 5 mf_Span___init__)) : FnG P w K mg base 5 f__law_span d__law_span ["_law_nulls", "_law_first", "_law_last", "_law_one", "_law_two"] (spD K ca 5 mf__law_span) := by
  refine fn_ok (m := m__law_span) T.u__law_span sc__law_span (fun us μ h => rfl) fun cdv A outer s H E hr gd => ?_
  have tk := takes_of (X := cxOf (L2.CX P w) P w K mg base ["_law_nulls", "_law_first", "_law_last", "_law_one", "_law_two"] "_law_span" (defScope s__law_span) f__law_span cdv A outer s H E) (E := E) (E₁ := _) rfl rfl rfl rfl
  have S := sc__law_span
  exact (rss_cons (rs_if (rt_cmp (o_eq hr.units) (re_var 0) re_str) (rss_one (rs_ret (re_mk (mkF_of ⟨rfl, rfl, rfl, rfl, rfl⟩ T.mk_FullSpan F_Span___init__ T.bd_Span___init___5_) (hr.mono (by decide)) gd tk T.g_FullSpan T.kc_FullSpan (pc_pos (ra_cons (re_var 1) (ra_cons (re_var 2) (ra_cons (re_var 3) (ra_cons (re_var 4) ra_nil)))))))) rss_nil)
    (rss_one (rs_ret (re_if (rt_cmp (o_eq hr.units) (re_var 0) re_str) (re_mk (mkF_of ⟨rfl, rfl, rfl, rfl, rfl⟩ T.mk_HoledSpan F_Span___init__ T.bd_Span___init___5_) (hr.mono (by decide)) gd tk T.g_HoledSpan T.kc_HoledSpan (pc_pos (ra_cons (re_var 1) (ra_cons (re_var 2) (ra_cons (re_var 3) (ra_cons (re_var 4) ra_nil)))))) (re_mk (mkF_of ⟨rfl, rfl, rfl, rfl, rfl⟩ T.mk_OpenSpan F_Span___init__ T.bd_Span___init___5_) (hr.mono (by decide)) gd tk T.g_OpenSpan T.kc_OpenSpan (pc_pos (ra_cons (re_var 1) (ra_cons (re_var 2) (ra_cons (re_var 3) (ra_cons (re_var 4) ra_nil))))))))))
theorem sc__law_unlike : FnScope ["_law_nulls", "_law_ends", "_law_flags", "_law_words", "_law_found", "_law_word"] ["_law_nulls", "_law_ends", "_law_flags"] (defScope s__law_unlike) := ⟨rfl, rfl, rfl, by decide +kernel, rfl, by decide +kernel, by decide +kernel⟩
theorem ok__law_unlike (T : Txt K P mg ca f_Told___eq__ d_Told___eq__ f_is_integer d_is_integer f_need_span d_need_span f_Told___init__ d_Told___init__ f_Span___init__ d_Span___init__ cc_Span___init__ cd_Span___init__ t_Span___init__ f_Listed___init__ d_Listed___init__ cc_Listed___init__ cd_Listed___init__ f_Blank___init__ d_Blank___init__ cc_Blank___init__ cd_Blank___init__ f__law_bare d__law_bare f__law_some d__law_some f__law_stands d__law_stands f__law_draw d__law_draw f__law_pick d__law_pick f__law_number d__law_number f__law_list_right d__law_list_right f__law_span d__law_span f__law_unlike d__law_unlike f_Span_in_words d_Span_in_words f_Listed_in_words d_Listed_in_words f_Told_in_words d_Told_in_words f_Told___str__ d_Told___str__ f__law_named d__law_named f__law_span_right d__law_span_right f__law_pen d__law_pen f_law d_law) (F__law_span : FnG P w K mg base 5 f__law_span d__law_span ["_law_nulls", "_law_first", "_law_last", "_law_one", "_law_two"] (spD K ca 5 mf__law_span)) (F_Blank___init__ : FnG P w K mg base 2 f_Blank___init__ d_Blank___init__ ["self"] (spD K ca 1 mf_Blank___init__)) : FnG P w K mg base 6 f__law_unlike d__law_unlike ["_law_nulls", "_law_ends", "_law_flags"] (spD K ca 3 mf__law_unlike) := by
  refine fn_ok (m := m__law_unlike) T.u__law_unlike sc__law_unlike (fun us μ h => rfl) fun cdv A outer s H E hr gd => ?_
  have tk := takes_of (X := cxOf (L2.CX P w) P w K mg base ["_law_nulls", "_law_ends", "_law_flags", "_law_words", "_law_found", "_law_word"] "_law_unlike" (defScope s__law_unlike) f__law_unlike cdv A outer s H E) (E := E) (E₁ := _) rfl rfl rfl rfl
  have S := sc__law_unlike
  exact (rss_cons (rs_lcLT 3 (own := [("_law_word", 5)]) rfl S.nd (re_lst (ra_cons re_str (ra_cons re_str (ra_cons re_str ra_nil)))) ⟨rfl, of_decide_eq_true rfl, of_decide_eq_true rfl, of_decide_eq_true rfl, of_decide_eq_true rfl⟩ (fun _ _ _ _ _ => rg_name 5 S.nd) (fun _ _ _ _ _ => (rts_one (rt_cmp (o_ne hr.units) (re_var 5) (re_var 0)))) (fun _ _ _ _ _ => (re_var 5)))
    (rss_cons (rs_lcLT 4 (own := [("_law_word", 5)]) rfl S.nd (re_var 3) ⟨rfl, of_decide_eq_true rfl, of_decide_eq_true rfl, of_decide_eq_true rfl, of_decide_eq_true rfl⟩ (fun _ _ _ _ _ => rg_name 5 S.nd) (fun _ _ _ _ _ => rts_nil) (fun _ _ _ _ _ => (re_fn F__law_span (hr.mono (by decide)) gd takesF T.g__law_span T.k__law_span T.b__law_span (ra_cons (re_var 5) (ra_cons (re_ix (re_var 1) re_int) (ra_cons (re_ix (re_var 1) re_int) (ra_cons (re_ix (re_var 2) re_int) (ra_cons (re_ix (re_var 2) re_int) ra_nil))))))))
    (rss_cons (rs_set 4 S.nd (re_addC (re_var 4) (re_lst (ra_cons (re_fn F__law_span (hr.mono (by decide)) gd tk T.g__law_span T.k__law_span T.b__law_span (ra_cons (re_var 0) (ra_cons (re_bin o_sub (re_ix (re_var 1) re_int) re_int) (ra_cons (re_ix (re_var 1) re_int) (ra_cons (re_ix (re_var 2) re_int) (ra_cons (re_ix (re_var 2) re_int) ra_nil)))))) (ra_cons re_non (ra_cons (re_callTy c_tuple rfl T.n_tuple bb_tuple (ra_cons (re_var 1) ra_nil)) (ra_cons (re_mk (mkF_of ⟨rfl, rfl, rfl, rfl, rfl⟩ T.mk_Blank F_Blank___init__ T.bd_Blank___init___1_) (hr.mono (by decide)) gd tk T.g_Blank T.kc_Blank pc_nil) ra_nil)))))))
    (rss_cons (rs_exp (re_app (re_var 4) (ra_cons (re_fn F__law_span (hr.mono (by decide)) gd tk T.g__law_span T.k__law_span T.b__law_span (ra_cons (re_var 0) (ra_cons (re_ix (re_var 1) re_int) (ra_cons (re_bin o_add (re_ix (re_var 1) re_int) re_int) (ra_cons (re_ix (re_var 2) re_int) (ra_cons (re_ix (re_var 2) re_int) ra_nil)))))) ra_nil)))
    (rss_cons (rs_frz 4 (rs_if (rt_cmp o_lt (re_ix (re_var 1) re_int) (re_ix (re_var 1) re_int)) (rss_cons (rs_exp (re_app (re_var 4) (ra_cons (re_fn F__law_span (hr.mono (by decide)) gd tk T.g__law_span T.k__law_span T.b__law_span (ra_cons (re_var 0) (ra_cons (re_ix (re_var 1) re_int) (ra_cons (re_ix (re_var 1) re_int) (ra_cons (re_ix (re_var 2) re_int) (ra_cons (re_not (re_ix (re_var 2) re_int)) ra_nil)))))) ra_nil)))
    (rss_one (rs_exp (re_app (re_var 4) (ra_cons (re_fn F__law_span (hr.mono (by decide)) gd tk T.g__law_span T.k__law_span T.b__law_span (ra_cons (re_var 0) (ra_cons (re_ix (re_var 1) re_int) (ra_cons (re_ix (re_var 1) re_int) (ra_cons (re_not (re_ix (re_var 2) re_int)) (ra_cons (re_ix (re_var 2) re_int) ra_nil)))))) ra_nil))))) rss_nil))
    (rss_one (rs_ret (re_var 4))))))))
theorem sc_Span_in_words : FnScope ["self", "marks", "is_reached"] ["self"] (defScope s_Span_in_words) := ⟨rfl, rfl, rfl, by decide +kernel, rfl, by decide +kernel, by decide +kernel⟩
theorem ok_Span_in_words (T : Txt K P mg ca f_Told___eq__ d_Told___eq__ f_is_integer d_is_integer f_need_span d_need_span f_Told___init__ d_Told___init__ f_Span___init__ d_Span___init__ cc_Span___init__ cd_Span___init__ t_Span___init__ f_Listed___init__ d_Listed___init__ cc_Listed___init__ cd_Listed___init__ f_Blank___init__ d_Blank___init__ cc_Blank___init__ cd_Blank___init__ f__law_bare d__law_bare f__law_some d__law_some f__law_stands d__law_stands f__law_draw d__law_draw f__law_pick d__law_pick f__law_number d__law_number f__law_list_right d__law_list_right f__law_span d__law_span f__law_unlike d__law_unlike f_Span_in_words d_Span_in_words f_Listed_in_words d_Listed_in_words f_Told_in_words d_Told_in_words f_Told___str__ d_Told___str__ f__law_named d__law_named f__law_span_right d__law_span_right f__law_pen d__law_pen f_law d_law)  : FnG P w K mg base 1 f_Span_in_words d_Span_in_words ["self"] (spD K ca 1 mf_Span_in_words) := by
  refine fn_ok (m := m_Span_in_words) T.u_Span_in_words sc_Span_in_words (fun us μ h => rfl) fun cdv A outer s H E hr gd => ?_
  have tk := takes_of (X := cxOf (L2.CX P w) P w K mg base ["self", "marks", "is_reached"] "Span.in_words" (defScope s_Span_in_words) f_Span_in_words cdv A outer s H E) (E := E) (E₁ := _) rfl rfl rfl rfl
  have S := sc_Span_in_words
  exact (rss_cons (rs_lcLT 1 (own := [("is_reached", 2)]) rfl S.nd (re_tup (ra_cons (re_fld (T.fld "low_reached") (re_var 0)) (ra_cons (re_fld (T.fld "high_reached") (re_var 0)) ra_nil))) ⟨rfl, of_decide_eq_true rfl, of_decide_eq_true rfl, of_decide_eq_true rfl, of_decide_eq_true rfl⟩ (fun _ _ _ _ _ => rg_name 2 S.nd) (fun _ _ _ _ _ => rts_nil) (fun _ _ _ _ _ => (re_if (rt_val (re_var 2)) re_str re_str)))
    (rss_one (rs_ret (re_lst (ra_cons (re_js (rj_cons (re_fmt (re_ix (re_var 1) re_int)) (rj_cons (re_fmt (re_fld (T.fld "low") (re_var 0))) rj_nil))) (ra_cons re_str (ra_cons (re_js (rj_cons (re_fmt (re_ix (re_var 1) re_int)) (rj_cons (re_fmt (re_fld (T.fld "high") (re_var 0))) rj_nil))) ra_nil)))))))
theorem sc_Listed_in_words : FnScope ["self", "value"] ["self"] (defScope s_Listed_in_words) := ⟨rfl, rfl, rfl, by decide +kernel, rfl, by decide +kernel, by decide +kernel⟩
theorem ok_Listed_in_words (T : Txt K P mg ca f_Told___eq__ d_Told___eq__ f_is_integer d_is_integer f_need_span d_need_span f_Told___init__ d_Told___init__ f_Span___init__ d_Span___init__ cc_Span___init__ cd_Span___init__ t_Span___init__ f_Listed___init__ d_Listed___init__ cc_Listed___init__ cd_Listed___init__ f_Blank___init__ d_Blank___init__ cc_Blank___init__ cd_Blank___init__ f__law_bare d__law_bare f__law_some d__law_some f__law_stands d__law_stands f__law_draw d__law_draw f__law_pick d__law_pick f__law_number d__law_number f__law_list_right d__law_list_right f__law_span d__law_span f__law_unlike d__law_unlike f_Span_in_words d_Span_in_words f_Listed_in_words d_Listed_in_words f_Told_in_words d_Told_in_words f_Told___str__ d_Told___str__ f__law_named d__law_named f__law_span_right d__law_span_right f__law_pen d__law_pen f_law d_law)  : FnG P w K mg base 1 f_Listed_in_words d_Listed_in_words ["self"] (spD K ca 1 mf_Listed_in_words) := by
  refine fn_ok (m := m_Listed_in_words) T.u_Listed_in_words sc_Listed_in_words (fun us μ h => rfl) fun cdv A outer s H E hr gd => ?_
  have tk := takes_of (X := cxOf (L2.CX P w) P w K mg base ["self", "value"] "Listed.in_words" (defScope s_Listed_in_words) f_Listed_in_words cdv A outer s H E) (E := E) (E₁ := _) rfl rfl rfl rfl
  have S := sc_Listed_in_words
  exact (rss_one (rs_ret (re_lst (ra_cons re_str (ra_star (re_lcLT (own := [("value", 1)]) rfl S.nd (re_fld (T.fld "listed") (re_var 0)) ⟨rfl, of_decide_eq_true rfl, of_decide_eq_true rfl, of_decide_eq_true rfl, of_decide_eq_true rfl⟩ (fun _ _ _ _ _ => rg_name 1 S.nd) (fun _ _ _ _ _ => rts_nil) (fun _ _ _ _ _ => (re_js1 (re_fmt (re_var 1))))) ra_nil)))))
theorem sc_Told_in_words : FnScope ["self"] ["self"] (defScope s_Told_in_words) := ⟨rfl, rfl, rfl, by decide +kernel, rfl, by decide +kernel, by decide +kernel⟩
theorem ok_Told_in_words (T : Txt K P mg ca f_Told___eq__ d_Told___eq__ f_is_integer d_is_integer f_need_span d_need_span f_Told___init__ d_Told___init__ f_Span___init__ d_Span___init__ cc_Span___init__ cd_Span___init__ t_Span___init__ f_Listed___init__ d_Listed___init__ cc_Listed___init__ cd_Listed___init__ f_Blank___init__ d_Blank___init__ cc_Blank___init__ cd_Blank___init__ f__law_bare d__law_bare f__law_some d__law_some f__law_stands d__law_stands f__law_draw d__law_draw f__law_pick d__law_pick f__law_number d__law_number f__law_list_right d__law_list_right f__law_span d__law_span f__law_unlike d__law_unlike f_Span_in_words d_Span_in_words f_Listed_in_words d_Listed_in_words f_Told_in_words d_Told_in_words f_Told___str__ d_Told___str__ f__law_named d__law_named f__law_span_right d__law_span_right f__law_pen d__law_pen f_law d_law)  : FnG P w K mg base 1 f_Told_in_words d_Told_in_words ["self"] (spD K ca 1 mf_Told_in_words) := by
  refine fn_ok (m := m_Told_in_words) T.u_Told_in_words sc_Told_in_words (fun us μ h => rfl) fun cdv A outer s H E hr gd => ?_
  have tk := takes_of (X := cxOf (L2.CX P w) P w K mg base ["self"] "Told.in_words" (defScope s_Told_in_words) f_Told_in_words cdv A outer s H E) (E := E) (E₁ := _) rfl rfl rfl rfl
  have S := sc_Told_in_words
  exact (rss_one (rs_ret (re_lst (ra_cons re_str ra_nil))))
theorem sc_Told___str__ : FnScope ["self", "word"] ["self"] (defScope s_Told___str__) := ⟨rfl, rfl, rfl, by decide +kernel, rfl, by decide +kernel, by decide +kernel⟩
theorem ok_Told___str__ (T : Txt K P mg ca f_Told___eq__ d_Told___eq__ f_is_integer d_is_integer f_need_span d_need_span f_Told___init__ d_Told___init__ f_Span___init__ d_Span___init__ cc_Span___init__ cd_Span___init__ t_Span___init__ f_Listed___init__ d_Listed___init__ cc_Listed___init__ cd_Listed___init__ f_Blank___init__ d_Blank___init__ cc_Blank___init__ cd_Blank___init__ f__law_bare d__law_bare f__law_some d__law_some f__law_stands d__law_stands f__law_draw d__law_draw f__law_pick d__law_pick f__law_number d__law_number f__law_list_right d__law_list_right f__law_span d__law_span f__law_unlike d__law_unlike f_Span_in_words d_Span_in_words f_Listed_in_words d_Listed_in_words f_Told_in_words d_Told_in_words f_Told___str__ d_Told___str__ f__law_named d__law_named f__law_span_right d__law_span_right f__law_pen d__law_pen f_law d_law) (F_Span_in_words : FnG P w K mg base 1 f_Span_in_words d_Span_in_words ["self"] (spD K ca 1 mf_Span_in_words)) (F_Listed_in_words : FnG P w K mg base 1 f_Listed_in_words d_Listed_in_words ["self"] (spD K ca 1 mf_Listed_in_words)) (F_Told_in_words : FnG P w K mg base 1 f_Told_in_words d_Told_in_words ["self"] (spD K ca 1 mf_Told_in_words)) : FnG P w K mg base 2 f_Told___str__ d_Told___str__ ["self"] (spD K ca 1 mf_Told___str__) := by
  refine fn_ok (m := m_Told___str__) T.u_Told___str__ sc_Told___str__ (fun us μ h => rfl) fun cdv A outer s H E hr gd => ?_
  have tk := takes_of (X := cxOf (L2.CX P w) P w K mg base ["self", "word"] "Told.__str__" (defScope s_Told___str__) f_Told___str__ cdv A outer s H E) (E := E) (E₁ := _) rfl rfl rfl rfl
  have S := sc_Told___str__
  exact (rss_one (rs_ret (re_join re_str (re_lst (ra_star (re_mt (k := 1) (tb := tm_in_words) (fun c mf sel h => by rcases tm_in_words_at h with h | h | h <;> first | (obtain ⟨h1, h2⟩ := h; cases h2; exact mtF_of ⟨rfl, rfl, rfl, rfl, rfl⟩ (T.cl c (is_Sp_T h1)) (T.mt_in_words_Sp c h1) F_Span_in_words (by decide) T.bd_Span_in_words_1_) | (obtain ⟨h1, h2⟩ := h; cases h2; exact mtF_of ⟨rfl, rfl, rfl, rfl, rfl⟩ (T.cl c (is_Li_T h1)) (T.mt_in_words_Li c h1) F_Listed_in_words (by decide) T.bd_Listed_in_words_1_) | (obtain ⟨h1, h2⟩ := h; cases h2; exact mtF_of ⟨rfl, rfl, rfl, rfl, rfl⟩ (T.cl c (is_Bl_T h1)) (T.mt_in_words_Bl c h1) F_Told_in_words (by decide) T.bd_Told_in_words_1_)) (hr.mono (by decide)) gd tk (re_var 0) pc_nil) (ra_star (re_lcLT (own := [("word", 1)]) rfl S.nd (re_tup (ra_cons re_str (ra_cons re_str ra_nil))) ⟨rfl, of_decide_eq_true rfl, of_decide_eq_true rfl, of_decide_eq_true rfl, of_decide_eq_true rfl⟩ (fun _ _ _ _ _ => rg_name 1 S.nd) (fun _ _ _ _ _ => (rts_one (rt_cmp (o_eq hr.units) (re_var 1) (re_con T.con_NULLS (re_var 0))))) (fun _ _ _ _ _ => (re_var 1))) ra_nil))))))
theorem sc__law_named : FnScope ["_law_nulls", "_law_first", "_law_last", "_law_one", "_law_two"] ["_law_nulls", "_law_first", "_law_last", "_law_one", "_law_two"] (defScope s__law_named) := ⟨rfl, rfl, rfl, by decide +kernel, rfl, by decide +kernel, by decide +kernel⟩
theorem ok__law_named (T : Txt K P mg ca f_Told___eq__ d_Told___eq__ f_is_integer d_is_integer f_need_span d_need_span f_Told___init__ d_Told___init__ f_Span___init__ d_Span___init__ cc_Span___init__ cd_Span___init__ t_Span___init__ f_Listed___init__ d_Listed___init__ cc_Listed___init__ cd_Listed___init__ f_Blank___init__ d_Blank___init__ cc_Blank___init__ cd_Blank___init__ f__law_bare d__law_bare f__law_some d__law_some f__law_stands d__law_stands f__law_draw d__law_draw f__law_pick d__law_pick f__law_number d__law_number f__law_list_right d__law_list_right f__law_span d__law_span f__law_unlike d__law_unlike f_Span_in_words d_Span_in_words f_Listed_in_words d_Listed_in_words f_Told_in_words d_Told_in_words f_Told___str__ d_Told___str__ f__law_named d__law_named f__law_span_right d__law_span_right f__law_pen d__law_pen f_law d_law) (F_Span___init__ : FnG P w K mg base 3 f_Span___init__ d_Span___init__ ["self", "low", "high", "low_reached", "high_reached"] (spD K ca 5 mf_Span___init__)) : FnG P w K mg base 5 f__law_named d__law_named ["_law_nulls", "_law_first", "_law_last", "_law_one", "_law_two"] (spD K ca 5 mf__law_named) := by
  refine fn_ok (m := m__law_named) T.u__law_named sc__law_named (fun us μ h => rfl) fun cdv A outer s H E hr gd => ?_
  have tk := takes_of (X := cxOf (L2.CX P w) P w K mg base ["_law_nulls", "_law_first", "_law_last", "_law_one", "_law_two"] "_law_named" (defScope s__law_named) f__law_named cdv A outer s H E) (E := E) (E₁ := _) rfl rfl rfl rfl
  have S := sc__law_named
  exact (rss_cons (rs_if (rt_cmp (o_eq hr.units) (re_var 0) re_str) (rss_one (rs_ret (re_mk (mkF_of ⟨rfl, rfl, rfl, rfl, rfl⟩ T.mk_FullSpan F_Span___init__ T.bd_Span___init___1_high_reached_low_reached_high_low) (hr.mono (by decide)) gd tk T.g_FullSpan T.kc_FullSpan (pc_kw (ks := ["high_reached", "low_reached", "high", "low"]) (rk_cons (re_var 4) (rk_cons (re_var 3) (rk_cons (re_var 2) (rk_cons (re_var 1) rk_nil)))))))) rss_nil)
    (rss_cons (rs_if (rt_cmp (o_eq hr.units) (re_var 0) re_str) (rss_one (rs_ret (re_mk (mkF_of ⟨rfl, rfl, rfl, rfl, rfl⟩ T.mk_HoledSpan F_Span___init__ T.bd_Span___init___1_low_high_low_reached_high_reached) (hr.mono (by decide)) gd tk T.g_HoledSpan T.kc_HoledSpan (pc_kw (ks := ["low", "high", "low_reached", "high_reached"]) (rk_cons (re_var 1) (rk_cons (re_var 2) (rk_cons (re_var 3) (rk_cons (re_var 4) rk_nil)))))))) rss_nil)
    (rss_one (rs_ret (re_mk (mkF_of ⟨rfl, rfl, rfl, rfl, rfl⟩ T.mk_OpenSpan F_Span___init__ T.bd_Span___init___1_high_low_high_reached_low_reached) (hr.mono (by decide)) gd tk T.g_OpenSpan T.kc_OpenSpan (pc_kw (ks := ["high", "low", "high_reached", "low_reached"]) (rk_cons (re_var 2) (rk_cons (re_var 1) (rk_cons (re_var 4) (rk_cons (re_var 3) rk_nil))))))))))
theorem sc__law_span_right : FnScope ["_law_pen_here", "_law_ends", "_law_flags", "_law_thing", "_law_wants_so", "_law_bare_here", "_law_others", "_law_nulls", "_law_one", "_law_twin", "_law_due", "_law_other"] ["_law_pen_here"] (defScope s__law_span_right) := ⟨rfl, rfl, rfl, by decide +kernel, rfl, by decide +kernel, by decide +kernel⟩
theorem ok__law_span_right (T : Txt K P mg ca f_Told___eq__ d_Told___eq__ f_is_integer d_is_integer f_need_span d_need_span f_Told___init__ d_Told___init__ f_Span___init__ d_Span___init__ cc_Span___init__ cd_Span___init__ t_Span___init__ f_Listed___init__ d_Listed___init__ cc_Listed___init__ cd_Listed___init__ f_Blank___init__ d_Blank___init__ cc_Blank___init__ cd_Blank___init__ f__law_bare d__law_bare f__law_some d__law_some f__law_stands d__law_stands f__law_draw d__law_draw f__law_pick d__law_pick f__law_number d__law_number f__law_list_right d__law_list_right f__law_span d__law_span f__law_unlike d__law_unlike f_Span_in_words d_Span_in_words f_Listed_in_words d_Listed_in_words f_Told_in_words d_Told_in_words f_Told___str__ d_Told___str__ f__law_named d__law_named f__law_span_right d__law_span_right f__law_pen d__law_pen f_law d_law) (F_Told___eq__ : FnG P w K mg base 1 f_Told___eq__ d_Told___eq__ ["self", "other"] (spD K ca 2 mf_Told___eq__)) (F__law_unlike : FnG P w K mg base 6 f__law_unlike d__law_unlike ["_law_nulls", "_law_ends", "_law_flags"] (spD K ca 3 mf__law_unlike)) (F_Told___str__ : FnG P w K mg base 2 f_Told___str__ d_Told___str__ ["self"] (spD K ca 1 mf_Told___str__)) (F__law_span : FnG P w K mg base 5 f__law_span d__law_span ["_law_nulls", "_law_first", "_law_last", "_law_one", "_law_two"] (spD K ca 5 mf__law_span)) (F__law_bare : FnG P w K mg base 5 f__law_bare d__law_bare ["_law_nulls", "_law_first", "_law_last"] (spD K ca 3 mf__law_bare)) (F__law_stands : FnG P w K mg base 1 f__law_stands d__law_stands ["_law_thing", "_law_nulls", "_law_is_span"] (spD K ca 3 mf__law_stands)) (F__law_named : FnG P w K mg base 5 f__law_named d__law_named ["_law_nulls", "_law_first", "_law_last", "_law_one", "_law_two"] (spD K ca 5 mf__law_named)) (F__law_draw : FnG P w K mg base 1 f__law_draw d__law_draw ["_law_pen_here", "_law_many"] (spD K ca 2 mf__law_draw)) (F__law_pick : FnG P w K mg base 2 f__law_pick d__law_pick ["_law_pen_here", "_law_some_here"] (spD K ca 2 mf__law_pick)) (F__law_number : FnG P w K mg base 3 f__law_number d__law_number ["_law_pen_here"] (spD K ca 1 mf__law_number)) : FnG P w K mg base 7 f__law_span_right d__law_span_right ["_law_pen_here"] (spD K ca 1 mf__law_span_right) := by
  refine fn_ok (m := m__law_span_right) T.u__law_span_right sc__law_span_right (fun us μ h => rfl) fun cdv A outer s H E hr gd => ?_
  have tk := takes_of (X := cxOf (L2.CX P w) P w K mg base ["_law_pen_here", "_law_ends", "_law_flags", "_law_thing", "_law_wants_so", "_law_bare_here", "_law_others", "_law_nulls", "_law_one", "_law_twin", "_law_due", "_law_other"] "_law_span_right" (defScope s__law_span_right) f__law_span_right cdv A outer s H E) (E := E) (E₁ := _) rfl rfl rfl rfl
  have S := sc__law_span_right
  exact (rss_cons (rs_par (i := 7) (j := 8) S.nd rfl (ra_cons (re_fn F__law_pick (hr.mono (by decide)) gd tk T.g__law_pick T.k__law_pick T.b__law_pick (ra_cons (re_var 0) (ra_cons (re_lst (ra_cons re_str (ra_cons re_str (ra_cons re_str ra_nil)))) ra_nil))) (ra_cons (re_fn F__law_number (hr.mono (by decide)) gd tk T.g__law_number T.k__law_number T.b__law_number (ra_cons (re_var 0) ra_nil)) ra_nil)))
    (rss_cons (rs_set 1 S.nd (re_callB c_sorted rfl T.n_sorted bb_sorted (ra_cons (re_lst (ra_cons (re_callTy c_int rfl T.n_int bb_int (ra_cons (re_var 8) ra_nil)) (ra_cons (re_callTy c_int rfl T.n_int bb_int (ra_cons (re_fn F__law_pick (hr.mono (by decide)) gd tk T.g__law_pick T.k__law_pick T.b__law_pick (ra_cons (re_var 0) (ra_cons (re_lst (ra_cons (re_var 8) (ra_cons (re_bin o_add (re_var 8) re_int) (ra_cons (re_fn F__law_number (hr.mono (by decide)) gd tk T.g__law_number T.k__law_number T.b__law_number (ra_cons (re_var 0) ra_nil)) ra_nil)))) ra_nil))) ra_nil)) ra_nil))) ra_nil)))
    (rss_cons (rs_set 2 S.nd (re_lst (ra_cons (re_cmp (o_eq hr.units) (re_fn F__law_draw (hr.mono (by decide)) gd tk T.g__law_draw T.k__law_draw T.b__law_draw (ra_cons (re_var 0) (ra_cons re_int ra_nil))) re_int) (ra_cons (re_cmp (o_eq hr.units) (re_fn F__law_draw (hr.mono (by decide)) gd tk T.g__law_draw T.k__law_draw T.b__law_draw (ra_cons (re_var 0) (ra_cons re_int ra_nil))) re_int) ra_nil))))
    (rss_cons (rs_set 3 S.nd (re_fn F__law_span (hr.mono (by decide)) gd tk T.g__law_span T.k__law_span T.b__law_span (ra_cons (re_var 7) (ra_cons (re_ix (re_var 1) re_int) (ra_cons (re_ix (re_var 1) re_int) (ra_cons (re_ix (re_var 2) re_int) (ra_cons (re_ix (re_var 2) re_int) ra_nil)))))))
    (rss_cons (rs_par (i := 9) (j := 10) S.nd rfl (ra_cons (re_fn F__law_named (hr.mono (by decide)) gd tk T.g__law_named T.k__law_named T.b__law_named (ra_cons (re_var 7) (ra_cons (re_ix (re_var 1) re_int) (ra_cons (re_ix (re_var 1) re_int) (ra_cons (re_ix (re_var 2) re_int) (ra_cons (re_ix (re_var 2) re_int) ra_nil)))))) (ra_cons (re_callTy c_list rfl T.n_list bb_list (ra_cons (re_var 2) ra_nil)) ra_nil)))
    (rss_cons (rs_if (rt_cmp (o_eq hr.units) (re_ix (re_var 1) re_int) (re_ix (re_var 1) re_int)) (rss_one (rs_set 10 S.nd (re_lst (ra_cons (re_cmp o_in re_bl (re_var 2)) (ra_cons (re_cmp o_in re_bl (re_var 2)) ra_nil))))) rss_nil)
    (rss_cons (rs_set 4 S.nd (re_bin o_add (re_bin o_add (re_bin o_rep (re_lst (ra_cons (re_ix (re_var 1) re_int) ra_nil)) (re_callTy c_int rfl T.n_int bb_int (ra_cons (re_ix (re_var 10) re_int) ra_nil))) (re_bin o_rep (re_lst (ra_cons (re_ix (re_var 1) re_int) ra_nil)) (re_callTy c_int rfl T.n_int bb_int (ra_cons (re_and (re_ix (re_var 10) re_int) (re_one (re_cmp o_lt (re_ix (re_var 1) re_int) (re_ix (re_var 1) re_int)))) ra_nil)))) (re_bin o_rep (re_lst (ra_cons re_non ra_nil)) (re_callTy c_int rfl T.n_int bb_int (ra_cons (re_cmp (o_eq hr.units) (re_var 7) re_str) ra_nil)))))
    (rss_cons (rs_if (rt_cmp (o_ne hr.units) (re_callB (c_reprV gd hr.units) rfl T.n_repr bb_repr (ra_cons (re_lst (ra_cons (re_fld (T.fld "low") (re_var 3)) (ra_cons (re_fld (T.fld "high") (re_var 3)) (ra_cons (re_fld (T.fld "low_reached") (re_var 3)) (ra_cons (re_fld (T.fld "high_reached") (re_var 3)) ra_nil))))) ra_nil)) (re_callB (c_reprV gd hr.units) rfl T.n_repr bb_repr (ra_cons (re_bin o_add (re_var 1) (re_var 10)) ra_nil))) (rss_one (rs_ret re_bl)) rss_nil)
    (rss_cons (rs_if (PW.pt (rw_or (rt_cmp (o_ne hr.units) (re_callB (c_reprV gd hr.units) rfl T.n_repr bb_repr (ra_cons (re_fld (T.fld "wants") (re_var 3)) ra_nil)) (re_callB (c_reprV gd hr.units) rfl T.n_repr bb_repr (ra_cons (re_callTy c_tuple rfl T.n_tuple bb_tuple (ra_cons (re_var 4) ra_nil)) ra_nil))) (rw_or (rt_not (rt_val (re_fn F__law_stands (hr.mono (by decide)) gd tk T.g__law_stands T.k__law_stands T.b__law_stands (ra_cons (re_var 3) (ra_cons (re_var 7) (ra_cons re_bl ra_nil)))))) (rw_or1 (rt_own (o_neO (tb := td___eq__) (okT := okT) (fun c mf h => by obtain ⟨h1, h2⟩ := tbOf_at h; subst h2; exact ⟨duF_of ⟨rfl, rfl, rfl, rfl, rfl⟩ (T.du___eq__ c h1).1 (T.du___eq__ c h1).2 F_Told___eq__ (Nat.le_refl _) T.b_Told___eq__ rfl, T.ne c h1⟩) T.eqT (hr.mono (by decide)) gd) nx_neO (re_var 3) (re_var 9)))))) (rss_one (rs_ret re_bl)) rss_nil)
    (rss_cons (rs_set 5 S.nd (re_fn F__law_bare (hr.mono (by decide)) gd tk T.g__law_bare T.k__law_bare T.b__law_bare (ra_cons (re_var 7) (ra_cons (re_ix (re_var 1) re_int) (ra_cons (re_ix (re_var 1) re_int) ra_nil)))))
    (rss_cons (rs_if (PW.pt (rw_or (rt_own (o_neO (tb := td___eq__) (okT := okT) (fun c mf h => by obtain ⟨h1, h2⟩ := tbOf_at h; subst h2; exact ⟨duF_of ⟨rfl, rfl, rfl, rfl, rfl⟩ (T.du___eq__ c h1).1 (T.du___eq__ c h1).2 F_Told___eq__ (Nat.le_refl _) T.b_Told___eq__ rfl, T.ne c h1⟩) T.eqT (hr.mono (by decide)) gd) nx_neO (re_var 5) (re_fn F__law_span (hr.mono (by decide)) gd tk T.g__law_span T.k__law_span T.b__law_span (ra_cons (re_var 7) (ra_cons (re_ix (re_var 1) re_int) (ra_cons (re_ix (re_var 1) re_int) (ra_cons re_bl (ra_cons re_bl ra_nil))))))) (rw_or1 (rt_cmp (o_ne hr.units) (re_own (o_eq1 (tb := td___eq__) (okT := okT) (fun c mf h => by obtain ⟨h1, h2⟩ := tbOf_at h; subst h2; exact duF_of ⟨rfl, rfl, rfl, rfl, rfl⟩ (T.du___eq__ c h1).1 (T.du___eq__ c h1).2 F_Told___eq__ (Nat.le_refl _) T.b_Told___eq__ rfl) T.eqT (hr.mono (by decide)) gd) nx_eqO (re_var 5) (re_var 3)) (re_cmp (o_eq hr.units) (re_var 10) (re_lst (ra_cons re_bl (ra_cons re_bl ra_nil)))))))) (rss_one (rs_ret re_bl)) rss_nil)
    (rss_cons (rs_set 6 S.nd (re_bin o_add (re_fn F__law_unlike (hr.mono (by decide)) gd tk T.g__law_unlike T.k__law_unlike T.b__law_unlike (ra_cons (re_var 7) (ra_cons (re_var 1) (ra_cons (re_var 2) ra_nil)))) (re_lst (ra_cons (re_strO (tb := td___str__) (fun c mf h => by obtain ⟨h1, h2⟩ := tbOf_at h; subst h2; exact duF_of ⟨rfl, rfl, rfl, rfl, rfl⟩ (T.du___str__ c h1).1 (T.du___str__ c h1).2 F_Told___str__ (Nat.le_refl _) T.b_Told___str__ rfl) (hr.mono (by decide)) gd T.n_str (re_var 3)) ra_nil))))
    (rss_one (rs_ret (re_cmp (o_eq hr.units) (re_lcLT (own := [("_law_other", 11)]) rfl S.nd (re_var 6) ⟨rfl, of_decide_eq_true rfl, of_decide_eq_true rfl, of_decide_eq_true rfl, of_decide_eq_true rfl⟩ (fun _ _ _ _ _ => rg_name 11 S.nd) (fun _ _ _ _ _ => (rts_one (PW.pt (rw_or (rt_own (o_eq1 (tb := td___eq__) (okT := okT) (fun c mf h => by obtain ⟨h1, h2⟩ := tbOf_at h; subst h2; exact duF_of ⟨rfl, rfl, rfl, rfl, rfl⟩ (T.du___eq__ c h1).1 (T.du___eq__ c h1).2 F_Told___eq__ (Nat.le_refl _) T.b_Told___eq__ rfl) T.eqT (hr.mono (by decide)) gd) nx_eqO (re_var 3) (re_var 11)) (rw_or1 (rt_not (rt_own (o_neO (tb := td___eq__) (okT := okT) (fun c mf h => by obtain ⟨h1, h2⟩ := tbOf_at h; subst h2; exact ⟨duF_of ⟨rfl, rfl, rfl, rfl, rfl⟩ (T.du___eq__ c h1).1 (T.du___eq__ c h1).2 F_Told___eq__ (Nat.le_refl _) T.b_Told___eq__ rfl, T.ne c h1⟩) T.eqT (hr.mono (by decide)) gd) nx_neO (re_var 3) (re_var 11)))))))) (fun _ _ _ _ _ => (re_var 11))) (re_lst ra_nil))))))))))))))))
theorem sc__law_pen : FnScope ["_law_script"] ["_law_script"] (defScope s__law_pen) := ⟨rfl, rfl, rfl, by decide +kernel, rfl, by decide +kernel, by decide +kernel⟩
theorem ok__law_pen (T : Txt K P mg ca f_Told___eq__ d_Told___eq__ f_is_integer d_is_integer f_need_span d_need_span f_Told___init__ d_Told___init__ f_Span___init__ d_Span___init__ cc_Span___init__ cd_Span___init__ t_Span___init__ f_Listed___init__ d_Listed___init__ cc_Listed___init__ cd_Listed___init__ f_Blank___init__ d_Blank___init__ cc_Blank___init__ cd_Blank___init__ f__law_bare d__law_bare f__law_some d__law_some f__law_stands d__law_stands f__law_draw d__law_draw f__law_pick d__law_pick f__law_number d__law_number f__law_list_right d__law_list_right f__law_span d__law_span f__law_unlike d__law_unlike f_Span_in_words d_Span_in_words f_Listed_in_words d_Listed_in_words f_Told_in_words d_Told_in_words f_Told___str__ d_Told___str__ f__law_named d__law_named f__law_span_right d__law_span_right f__law_pen d__law_pen f_law d_law)  : FnG P w K mg base 1 f__law_pen d__law_pen ["_law_script"] (spD K ca 1 mf__law_pen) := by
  refine fn_ok (m := m__law_pen) T.u__law_pen sc__law_pen (fun us μ h => rfl) fun cdv A outer s H E hr gd => ?_
  have tk := takes_of (X := cxOf (L2.CX P w) P w K mg base ["_law_script"] "_law_pen" (defScope s__law_pen) f__law_pen cdv A outer s H E) (E := E) (E₁ := _) rfl rfl rfl rfl
  have S := sc__law_pen
  exact (rss_one (rs_ret (re_lstC (ra_cons (re_callTy c_list rfl T.n_list bb_list (ra_cons (re_slice (re_var 0) ro_none (ro_some re_int)) ra_nil)) (ra_cons re_int (ra_cons re_int ra_nil))))))
theorem sc_law : FnScope ["_law_script", "_law_pen_here", "_law_turn", "_law_blank", "_law_found"] ["_law_script"] (defScope s_law) := ⟨rfl, rfl, rfl, by decide +kernel, rfl, by decide +kernel, by decide +kernel⟩
theorem ok_law (T : Txt K P mg ca f_Told___eq__ d_Told___eq__ f_is_integer d_is_integer f_need_span d_need_span f_Told___init__ d_Told___init__ f_Span___init__ d_Span___init__ cc_Span___init__ cd_Span___init__ t_Span___init__ f_Listed___init__ d_Listed___init__ cc_Listed___init__ cd_Listed___init__ f_Blank___init__ d_Blank___init__ cc_Blank___init__ cd_Blank___init__ f__law_bare d__law_bare f__law_some d__law_some f__law_stands d__law_stands f__law_draw d__law_draw f__law_pick d__law_pick f__law_number d__law_number f__law_list_right d__law_list_right f__law_span d__law_span f__law_unlike d__law_unlike f_Span_in_words d_Span_in_words f_Listed_in_words d_Listed_in_words f_Told_in_words d_Told_in_words f_Told___str__ d_Told___str__ f__law_named d__law_named f__law_span_right d__law_span_right f__law_pen d__law_pen f_law d_law) (F_Told___eq__ : FnG P w K mg base 1 f_Told___eq__ d_Told___eq__ ["self", "other"] (spD K ca 2 mf_Told___eq__)) (F_Span___init__ : FnG P w K mg base 3 f_Span___init__ d_Span___init__ ["self", "low", "high", "low_reached", "high_reached"] (spD K ca 5 mf_Span___init__)) (F_Listed___init__ : FnP P w K mg base ca 2 f_Listed___init__ mv_Listed___init__) (F_Blank___init__ : FnG P w K mg base 2 f_Blank___init__ d_Blank___init__ ["self"] (spD K ca 1 mf_Blank___init__)) (F__law_list_right : FnG P w K mg base 6 f__law_list_right d__law_list_right ["_law_pen_here"] (spD K ca 1 mf__law_list_right)) (F__law_span_right : FnG P w K mg base 7 f__law_span_right d__law_span_right ["_law_pen_here"] (spD K ca 1 mf__law_span_right)) (F__law_pen : FnG P w K mg base 1 f__law_pen d__law_pen ["_law_script"] (spD K ca 1 mf__law_pen)) : FnG P w K mg base 8 f_law d_law ["_law_script"] (spD K ca 1 mf_law) := by
  refine fn_ok (m := m_law) T.u_law sc_law (fun us μ h => rfl) fun cdv A outer s H E hr gd => ?_
  have tk := takes_of (X := cxOf (L2.CX P w) P w K mg base ["_law_script", "_law_pen_here", "_law_turn", "_law_blank", "_law_found"] "law" (defScope s_law) f_law cdv A outer s H E) (E := E) (E₁ := _) rfl rfl rfl rfl
  have S := sc_law
  exact (rss_cons (rs_set 1 S.nd (re_fn F__law_pen (hr.mono (by decide)) gd tk T.g__law_pen T.k__law_pen T.b__law_pen (ra_cons (re_var 0) ra_nil)))
    (rss_cons (rs_forR1 (passes_of rfl) rfl T.n_range (ra_cons re_int ra_nil) (rg_name 2 S.nd) (rss_one (rs_if (PW.pt (rw_or (rt_not (rt_val (re_fn F__law_span_right (hr.mono (by decide)) gd tk T.g__law_span_right T.k__law_span_right T.b__law_span_right (ra_cons (re_var 1) ra_nil)))) (rw_or1 (rt_not (rt_val (re_fn F__law_list_right (hr.mono (by decide)) gd tk T.g__law_list_right T.k__law_list_right T.b__law_list_right (ra_cons (re_var 1) ra_nil))))))) (rss_one (rs_ret re_bl)) rss_nil)))
    (rss_cons (rs_set 3 S.nd (re_mk (mkF_of ⟨rfl, rfl, rfl, rfl, rfl⟩ T.mk_Blank F_Blank___init__ T.bd_Blank___init___1_) (hr.mono (by decide)) gd tk T.g_Blank T.kc_Blank pc_nil))
    (rss_cons (rs_if (PW.pt (rw_or (rt_cmp (o_ne hr.units) (re_callB (c_reprV gd hr.units) rfl T.n_repr bb_repr (ra_cons (re_lst (ra_cons (re_fld (T.fld "low") (re_var 3)) (ra_cons (re_fld (T.fld "high") (re_var 3)) (ra_cons (re_fld (T.fld "wants") (re_var 3)) (ra_cons (re_con T.con_NULLS (re_var 3)) ra_nil))))) ra_nil)) re_str) (rw_or1 (rt_own (o_neO (tb := td___eq__) (okT := okT) (fun c mf h => by obtain ⟨h1, h2⟩ := tbOf_at h; subst h2; exact ⟨duF_of ⟨rfl, rfl, rfl, rfl, rfl⟩ (T.du___eq__ c h1).1 (T.du___eq__ c h1).2 F_Told___eq__ (Nat.le_refl _) T.b_Told___eq__ rfl, T.ne c h1⟩) T.eqT (hr.mono (by decide)) gd) nx_neO (re_var 3) (re_mk (mkF_of ⟨rfl, rfl, rfl, rfl, rfl⟩ T.mk_Blank F_Blank___init__ T.bd_Blank___init___1_) (hr.mono (by decide)) gd tk T.g_Blank T.kc_Blank pc_nil))))) (rss_one (rs_ret re_bl)) rss_nil)
    (rss_cons (rs_set 4 S.nd (re_lst (ra_cons (re_callB (c_isiV T.isn T.isc) rfl T.n_isinstance bb_isinstance (ra_cons (re_var 3) (ra_cons (re_cls 6 T.g_Told) ra_nil))) (ra_cons (re_callB (c_isiV T.isn T.isc) rfl T.n_isinstance bb_isinstance (ra_cons (re_var 3) (ra_cons (re_cls 10 T.g_Span) ra_nil))) (ra_cons (re_callB (c_isiV T.isn T.isc) rfl T.n_isinstance bb_isinstance (ra_cons (re_var 3) (ra_cons (re_cls 11 T.g_Listed) ra_nil))) (ra_cons (re_callB (c_isiV T.isn T.isc) rfl T.n_isinstance bb_isinstance (ra_cons (re_var 3) (ra_cons (re_cls 7 T.g_Full) ra_nil))) ra_nil))))))
    (rss_cons (rs_set 4 S.nd (re_bin o_add (re_var 4) (re_lst (ra_cons (re_callB (c_isiV T.isn T.isc) rfl T.n_isinstance bb_isinstance (ra_cons (re_var 3) (ra_cons (re_cls 8 T.g_Holed) ra_nil))) (ra_cons (re_callB (c_isiV T.isn T.isc) rfl T.n_isinstance bb_isinstance (ra_cons (re_var 3) (ra_cons (re_cls 9 T.g_Open) ra_nil))) ra_nil)))))
    (rss_one (rs_ret (re_and (re_cmp (o_eq hr.units) (re_var 4) (re_bin o_add (re_lst (ra_cons re_bl ra_nil)) (re_bin o_rep (re_lst (ra_cons re_bl ra_nil)) re_int))) (re_one (re_own (o_neO (tb := td___eq__) (okT := okT) (fun c mf h => by obtain ⟨h1, h2⟩ := tbOf_at h; subst h2; exact ⟨duF_of ⟨rfl, rfl, rfl, rfl, rfl⟩ (T.du___eq__ c h1).1 (T.du___eq__ c h1).2 F_Told___eq__ (Nat.le_refl _) T.b_Told___eq__ rfl, T.ne c h1⟩) T.eqT (hr.mono (by decide)) gd) nx_neO (re_mk (mkF_of ⟨rfl, rfl, rfl, rfl, rfl⟩ T.mk_FullSpan F_Span___init__ T.bd_Span___init___3_) (hr.mono (by decide)) gd tk T.g_FullSpan T.kc_FullSpan (pc_pos (ra_cons re_int (ra_cons re_int ra_nil)))) (re_mkP (mkPF_of ⟨rfl, rfl, rfl, rfl, rfl⟩ T.mk_FullList F_Listed___init__) (hr.mono (by decide)) gd tk T.g_FullList T.kc_FullList (pv_pos (ra_cons re_int (ra_cons re_int ra_nil)))))))))))))))
end
end K02
end Dv
namespace Dv
open PySem L2
/-! ### ints and None -/
def sd : Option Int → D
  | none => .non
  | some i => .int i
abbrev sds (xs : List (Option Int)) : List D := xs.map sd
def sV : Option Int → V
  | none => .non
  | some i => .int i
theorem scal_sd (v : Option Int) : scalD (.d (sd v)) = some (sV v) := by cases v <;> rfl
theorem scalL_sds : ∀ xs : List (Option Int), scalL (sds xs) = some (xs.map sV)
  | [] => rfl
  | x :: r => by
    show (scalD (.d (sd x))).bind (fun v => (scalL (sds r)).bind fun vs => some (v :: vs)) = _
    rw [scal_sd, scalL_sds r]
    rfl
theorem eqV_sd (v x : Option Int) : eqV (sV x) (sV v) = decide (x = v) := by
  cases v <;> cases x <;> simp [sV, eqV]
  rename_i a b
  exact Bool.beq_eq_decide_eq b a
theorem inV_sds (v : Option Int) (xs : List (Option Int)) : inV (sV v) (xs.map sV) = decide (v ∈ xs) := by
  unfold inV
  induction xs with
  | nil => rfl
  | cons x r ih =>
    rw [List.map_cons, List.any_cons, ih, eqV_sd]
    by_cases h : x = v
    · subst h; simp
    · have h' : ¬ v = x := fun e => h e.symm
      simp [h, h']
theorem in_sds (μ : Mem) (v : Option Int) (xs : List (Option Int)) (neg : Bool) : inU neg μ (.d (sd v)) (.d (.lst (sds xs))) = some (if neg then !decide (v ∈ xs) else decide (v ∈ xs)) := by
  unfold inU
  rw [scal_sd]
  show (scalL (sds xs)).bind _ = _
  rw [scalL_sds, Option.bind_some, inV_sds]
def pD : Option Int → PyData
  | none => .none
  | some i => .int i
theorem pd_sd (v : Option Int) : pd (sd v) = some (pD v) := by cases v <;> rfl
theorem pdL_sds : ∀ xs : List (Option Int), pdL (sds xs) = some (xs.map pD)
  | [] => rfl
  | x :: r => by
    show (pd (sd x)).bind (fun d => (pdL (sds r)).bind fun ds => some (d :: ds)) = _
    rw [pd_sd, pdL_sds r]
    rfl
theorem lay_sds : ∀ xs : List (Option Int), PyData.canLayAll0 (xs.map pD) = true
  | [] => rfl
  | none :: r => by show (true && PyData.canLayAll0 (r.map pD)) = true; rw [lay_sds r]; rfl
  | some i :: r => by show (true && PyData.canLayAll0 (r.map pD)) = true; rw [lay_sds r]; rfl
theorem deep_sds : ∀ xs : List (Option Int), PyData.depthAll (xs.map pD) = 0
  | [] => rfl
  | none :: r => by show max 0 (PyData.depthAll (r.map pD)) = 0; rw [deep_sds r]; rfl
  | some i :: r => by show max 0 (PyData.depthAll (r.map pD)) = 0; rw [deep_sds r]; rfl
/-! ### comprehensions whose items change nothing -/
theorem comp_pure {i : Nat} {t : MT} {e : MD} {ρ : Env} {μ : Mem} (hi : i < ρ.length) (f : D → Bool) (h : D → D) : ∀ (xs acc : List D), acc.length + xs.length ≤ 100000 →
    (∀ x ∈ xs, t (ρ.set i (some (.d x))) μ = .val (f x) μ ∧ (f x = true → e (ρ.set i (some (.d x))) μ = .val (.d (h x)) μ)) → compL (gNameE i) t e ρ xs μ acc = .val (acc ++ (xs.filter f).map h) μ
  | [], acc, _, _ => by simp [compL]
  | x :: xs, acc, hl, k => by
    obtain ⟨k1, k2⟩ := k x List.mem_cons_self
    have kr : ∀ y ∈ xs, _ := fun y hy => k y (List.mem_cons_of_mem _ hy)
    have ll : acc.length + 1 + xs.length ≤ 100000 := by
      have : acc.length + (xs.length + 1) ≤ 100000 := hl
      omega
    unfold compL
    have g : gNameE i μ (.d x) ρ = some (ρ.set i (some (.d x))) := by
      unfold gNameE putE
      rw [if_pos hi]
    rw [g]
    simp only [k1, calm_val, bind_val]
    cases hf : f x with
    | true =>
      simp only [if_true, k2 hf, calm_val, bind_val]
      rw [if_pos (show szD (acc.length + 1) = true from decide_eq_true (by omega))]
      simp only [toD, ofO_some, bind_val]
      rw [comp_pure hi f h xs (acc ++ [h x]) (by simp; omega) kr, List.filter_cons_of_pos hf]
      simp
    | false =>
      simp only [Bool.false_eq_true, if_false]
      rw [comp_pure hi f h xs acc (by omega) kr, List.filter_cons_of_neg (by simp [hf])]
theorem lcI_eq {ma : MD} {i : Nat} {t : MT} {e : MD} {ρ : Env} {μ : Mem} {xs : List D} {u : U} (hm : ma ρ μ = .val u μ) (hu : itLT u = some xs) (hi : i < ρ.length) (hl : xs.length ≤ 100000) (f : D → Bool) (h : D → D)
    (k : ∀ x ∈ xs, t ((ρ.set i none).set i (some (.d x))) μ = .val (f x) μ ∧ (f x = true → e ((ρ.set i none).set i (some (.d x))) μ = .val (.d (h x)) μ)) : mLcI itLT ma (gNameE i) t e [i] ρ μ = .val (.d (.lst ((xs.filter f).map h))) μ := by
  unfold mLcI
  rw [hm]
  simp only [bind_val, hu]
  show (compL (gNameE i) t e (ρ.set i none) xs μ []).bind _ = _
  rw [comp_pure (by simpa using hi) f h xs [] (by simpa using hl) k]
  rfl
end Dv
namespace Dv
namespace K02
open PySem L2
inductive Nu where | full | holed | opn
deriving DecidableEq
def Nu.s : Nu → Str
  | .full => "full"
  | .holed => "holed"
  | .opn => "open"
inductive Pl where
  | blank | list (xs : List Int) (n : Nu) | span (a b : Int) (o t : Bool) (n : Nu)
def nul (c : Bool) : List (Option Int) := if c then [none] else []
def endsI (a b : Int) (o t : Bool) : List (Option Int) := (if o then [some a] else []) ++ (if t && decide (a < b) then [some b] else [])
def wants : Pl → List (Option Int)
  | .blank => [none]
  | .list xs n => xs.map some ++ nul (n == .holed)
  | .span a b o t n => endsI a b o t ++ nul (n == .holed)
def shape : Pl → Dv.D
  | .blank => .tup [.str "blank", .non, .non, .tup [], .tup (sds [none])]
  | .list xs n => .tup [.str n.s, .int (xs.headD 0), .int (xs.getLastD 0), .tup (xs.map .int), .tup (sds (wants (.list xs n)))]
  | .span a b o t n => .tup [.str n.s, .int a, .int b, .non, .tup (sds (wants (.span a b o t n)))]
def clsN : Pl → Nat
  | .blank => 18
  | .list _ n => match n with | .full => 15 | .holed => 16 | .opn => 17
  | .span _ _ _ _ n => match n with | .full => 12 | .holed => 13 | .opn => 14
def flds : Pl → List (Str × Dv.D)
  | .blank => [("low", .non), ("high", .non), ("wants", .tup (sds [none])), ("shape", shape .blank)]
  | .list xs n => [("listed", .tup (xs.map .int)), ("low", .int (xs.headD 0)), ("high", .int (xs.getLastD 0)), ("wants", .tup (sds (wants (.list xs n)))), ("shape", shape (.list xs n))]
  | .span a b o t n => [("low_reached", .bl o), ("high_reached", .bl t), ("low", .int a), ("high", .int b), ("wants", .tup (sds (wants (.span a b o t n)))), ("shape", shape (.span a b o t n))]
def obj (p : Pl) : Dv.D := .obj (clsN p) (flds p)
structure Ok (p : Pl) : Prop where
  li : ∀ xs n, p = .list xs n → xs.length ≤ 9 ∧ ∀ x ∈ xs, -(10 ^ 30) < x ∧ x < 10 ^ 30
  sp : ∀ a b o t n, p = .span a b o t n → (-(10 ^ 30) < a ∧ a < 10 ^ 30) ∧ (-(10 ^ 30) < b ∧ b < 10 ^ 30)
/-! ### is_integer, is_let -/
theorem ifE_t {t : MT} {a b : MD} {ρ : Env} {μ μ1 : Mem} {r : R U} (ht : t ρ μ = .val true μ1) (ha : a ρ μ1 = r) : mIfE t a b ρ μ = r := by
  unfold mIfE
  rw [ht]
  exact ha
theorem ifE_f {t : MT} {a b : MD} {ρ : Env} {μ μ1 : Mem} {r : R U} (ht : t ρ μ = .val false μ1) (hb : b ρ μ1 = r) : mIfE t a b ρ μ = r := by
  unfold mIfE
  rw [ht]
  exact hb
theorem ints_sds (xs : List Int) : sds (xs.map some) = xs.map .int := by
  unfold sds
  rw [List.map_map]
  rfl
end K02
end Dv
namespace Dv
open PySem L2
theorem fn_eq {mf : MF} {ml : ML} {ρ : Env} {μ μ1 : Mem} {us : List U} (h : ml ρ μ = .val us μ1) : mFn mf ml ρ μ = mf us μ1 := by
  unfold mFn
  rw [h]
  rfl
theorem cons_eq {a : MD} {r : ML} {ρ : Env} {μ μ1 μ2 : Mem} {x : U} {xs : List U} (ha : a ρ μ = .val x μ1) (hr : r ρ μ1 = .val xs μ2) : mCons a r ρ μ = .val (x :: xs) μ2 := by
  unfold mCons
  rw [ha, bind_val, hr]
  rfl
theorem or_eq {a b : MT} {ρ : Env} {μ : Mem} {c d : Bool} (ha : a ρ μ = .val c μ) (hb : c = false → b ρ μ = .val d μ) : mOrT a b ρ μ = .val (c || d) μ := by
  unfold mOrT
  rw [ha, bind_val]
  cases c with
  | true => rfl
  | false => rw [if_neg Bool.false_ne_true, hb rfl]; rfl
theorem not_eq {a : MT} {ρ : Env} {μ μ1 : Mem} {c : Bool} (ha : a ρ μ = .val c μ1) : mNotT a ρ μ = .val (!c) μ1 := by
  unfold mNotT
  rw [ha]
  rfl
theorem test_eq {a : MD} {ρ : Env} {μ μ1 : Mem} {c : Bool} (ha : a ρ μ = .val (.d (.bl c)) μ1) : mTest a ρ μ = .val c μ1 := by
  unfold mTest
  rw [ha]
  rfl
theorem andV_eq {a b : MD} {ρ : Env} {μ : Mem} {c d : Bool} (ha : a ρ μ = .val (.d (.bl c)) μ) (hb : c = true → b ρ μ = .val (.d (.bl d)) μ) : mAndV a b ρ μ = .val (.d (.bl (c && d))) μ := by
  unfold mAndV
  rw [test_eq ha, bind_val]
  cases c with
  | true => rw [if_pos rfl, hb rfl]; rfl
  | false => rfl
theorem eq_int (μ : Mem) (i j : Int) : eqU μ (.d (.int i)) (.d (.int j)) = some (decide (i = j)) := by
  show some (decide (V.int i = V.int j)) = _
  congr 1
  by_cases h : i = j
  · subst h; simp
  · simp [h]
theorem len_lst (μ : Mem) (xs : List D) : lenD μ (.d (.lst xs)) = some (.int xs.length) := rfl
theorem len_tup (μ : Mem) (xs : List D) : lenD μ (.d (.tup xs)) = some (.int xs.length) := rfl
namespace K02
theorem fld_shape (p : Pl) (r : Env) (μ : Mem) : mFld (okF "shape") "shape" (mVar 0) (some (.d (obj p)) :: r) μ = .val (.d (shape p)) μ := by
  cases p with
  | blank => kernel_rfl
  | list xs n => cases n <;> kernel_rfl
  | span a b o t n => cases n <;> kernel_rfl
theorem fld_wants (p : Pl) {m : MD} {ρ : Env} (μ : Mem) (h : m ρ μ = .val (.d (obj p)) μ) : mFld (okF "wants") "wants" m ρ μ = .val (.d (.tup (sds (wants p)))) μ := by
  unfold mFld
  rw [h, bind_val]
  cases p with
  | blank => kernel_rfl
  | list xs n => cases n <;> kernel_rfl
  | span a b o t n => cases n <;> kernel_rfl
end K02
end Dv
namespace Dv
open PySem L2
/-! ### a new cell behind the others -/
theorem mem_at (μ : Mem) (c : Option Cel) (r : Mem) : (μ ++ c :: r)[μ.length]? = some c := by
  rw [List.getElem?_append_right (Nat.le_refl _), Nat.sub_self]
  rfl
theorem mem_set (μ : Mem) (c d : Option Cel) (r : Mem) : (μ ++ c :: r).set μ.length d = μ ++ d :: r := by
  rw [List.set_append_right _ _ (Nat.le_refl _), Nat.sub_self]
  rfl
theorem run_next {n : Nat} {m : MS} {us : List U} {μ μ1 : Mem} {ρ1 : Env} (h : m (us.map some ++ List.replicate (n - us.length) none) μ = .next ρ1 μ1) : runB n m us μ = .val (.d .non) μ1 := by
  unfold runB
  rw [h]
theorem setF_eq {ok : Nat → Bool} {f : Str} {mo me : MD} {ρ : Env} {μ r : Mem} {u : U} {c : Nat} {fs : List (Str × U)} (he : me ρ (μ ++ some (.obj c fs) :: r) = .val u (μ ++ some (.obj c fs) :: r)) (ho : mo ρ (μ ++ some (.obj c fs) :: r) = .val (.cell μ.length) (μ ++ some (.obj c fs) :: r)) (hc : ok c = true) (hl : fs.length < 100) :
    mSetF ok f mo me ρ (μ ++ some (.obj c fs) :: r) = .next ρ (μ ++ some (.obj c (putU f u fs)) :: r) := by
  unfold mSetF
  rw [he]
  simp only [RS.of]
  rw [ho]
  simp only [RS.of]
  rw [mem_at]
  simp only [hc, hl, decide_true, Bool.and_self, if_true]
  rw [mem_set]
theorem con_eq {tb : Nat → Option D} {f : Str} {mo : MD} {ρ : Env} {μ r : Mem} {c : Nat} {fs : List (Str × U)} {d : D} (ho : mo ρ (μ ++ some (.obj c fs) :: r) = .val (.cell μ.length) (μ ++ some (.obj c fs) :: r)) (hl : fs.lookup f = none) (ht : tb c = some d) :
    mCon tb f mo ρ (μ ++ some (.obj c fs) :: r) = .val (.d d) (μ ++ some (.obj c fs) :: r) := by
  unfold mCon
  rw [ho, bind_val]
  simp only [objAt, mem_at, hl, ht]
theorem fld_eq {ok : Nat → Bool} {f : Str} {mo : MD} {ρ : Env} {μ r : Mem} {c : Nat} {fs : List (Str × U)} {u : U} (ho : mo ρ (μ ++ some (.obj c fs) :: r) = .val (.cell μ.length) (μ ++ some (.obj c fs) :: r)) (hc : ok c = true) (hl : fs.lookup f = some u) :
    mFld ok f mo ρ (μ ++ some (.obj c fs) :: r) = .val u (μ ++ some (.obj c fs) :: r) := by
  unfold mFld
  rw [ho, bind_val]
  simp only [objAt, mem_at, hc, if_true, hl, ofO_some]
theorem tup_eq {ml : ML} {ρ : Env} {μ μ1 : Mem} {us : List U} {xs : List D} (h : ml ρ μ = .val us μ1) (hx : toDs us = some xs) (hl : us.length ≤ 1000) : mTup ml ρ μ = .val (.d (.tup xs)) μ1 := by
  unfold mTup mCall mkTup
  rw [h, bind_val]
  dsimp only
  rw [if_pos (show szD us.length = true from decide_eq_true (by omega)), hx]
  rfl
theorem lst_eq {ml : ML} {ρ : Env} {μ μ1 : Mem} {us : List U} {xs : List D} (h : ml ρ μ = .val us μ1) (hx : toDs us = some xs) (hl : us.length ≤ 1000) : mLst ml ρ μ = .val (.d (.lst xs)) μ1 := by
  unfold mLst mCall mkLst
  rw [h, bind_val]
  dsimp only
  rw [if_pos (show szD us.length = true from decide_eq_true (by omega)), hx]
  rfl
theorem star_eq {ma : MD} {mr : ML} {ρ : Env} {μ μ1 μ2 : Mem} {u : U} {xs : List D} {us : List U} (ha : ma ρ μ = .val u μ1) (hu : itemsU μ1 u = some xs) (hr : mr ρ μ1 = .val us μ2) : mStar ma mr ρ μ = .val (xs.map .d ++ us) μ2 := by
  unfold mStar
  rw [ha, bind_val, hu]
  show (mr ρ μ1).bind _ = _
  rw [hr]
  rfl
theorem toDs_map : ∀ xs : List D, toDs (xs.map .d) = some xs
  | [] => rfl
  | x :: r => by
    show (toDs (r.map .d)).bind _ = _
    rw [toDs_map r]
    rfl
theorem toDs_app : ∀ (xs : List D) (us : List U) (ys : List D), toDs us = some ys → toDs (xs.map .d ++ us) = some (xs ++ ys)
  | [], us, ys, h => h
  | x :: r, us, ys, h => by
    show (toDs (r.map .d ++ us)).bind _ = _
    rw [toDs_app r us ys h]
    rfl
namespace K02
/-! ### Told.__init__ -/
theorem told_init {μ r : Mem} {c : Nat} {fs : List (Str × U)} {n : Str} {lo hi li : Dv.D} {xs ws : List Dv.D} {b : Bool} (hc : isT c = true) (hn : tb_NULLS c = some (.str n)) (hb : inU false [] (.d (.str n)) (.d (.tup [.str "holed", .str "blank"])) = some b) (hw : ws = if b then xs ++ [.non] else xs) (hx : xs.length ≤ 900)
    (hl : fs.length ≤ 4) (h1 : (putU "high" (.d hi) (putU "low" (.d lo) fs)).lookup ("NULLS" : Str) = none) (h2 : (putU "wants" (.d (.tup ws)) (putU "high" (.d hi) (putU "low" (.d lo) fs))).lookup ("NULLS" : Str) = none) (h3 : (putU "wants" (.d (.tup ws)) (putU "high" (.d hi) (putU "low" (.d lo) fs))).lookup ("wants" : Str) = some (.d (.tup ws))) (hq : ∀ f : Str, ∀ u : U, ∀ gs : List (Str × U), (putU f u gs).length ≤ gs.length + 1) :
    mf_Told___init__ [.cell μ.length, .d lo, .d hi, .d li, .d (.tup xs)] (μ ++ some (.obj c fs) :: r) = .val (.d .non) (μ ++ some (.obj c (putU "shape" (.d (.tup [.str n, lo, hi, li, .tup ws])) (putU "wants" (.d (.tup ws)) (putU "high" (.d hi) (putU "low" (.d lo) fs))))) :: r) := by
  have ok : ∀ f ∈ (["low", "high", "wants", "shape"] : List Str), okF f c = true := fun f hf => by
    unfold okF
    rw [hc]
    simp only [List.mem_cons, List.not_mem_nil, or_false] at hf
    rcases hf with rfl | rfl | rfl | rfl <;> decide +kernel
  have l1 := hq "low" (.d lo) fs
  have l2 := hq "high" (.d hi) (putU "low" (.d lo) fs)
  have l3 := hq "wants" (.d (.tup ws)) (putU "high" (.d hi) (putU "low" (.d lo) fs))
  have ib : ∀ μ : Mem, inU false μ (.d (.str n)) (.d (.tup [.str "holed", .str "blank"])) = some b := fun μ => hb
  refine run_next (ρ1 := [some (.cell μ.length), some (.d lo), some (.d hi), some (.d li), some (.d (.tup xs))]) (seq_eq (setF_eq (var_eq rfl) (var_eq rfl) (ok _ (by simp)) (by omega)) (seq_eq (setF_eq (var_eq rfl) (var_eq rfl) (ok _ (by simp)) (by omega)) (seq_eq (setF_eq (u := .d (.tup ws)) ?_ (var_eq rfl) (ok _ (by simp)) (by omega)) (setF_eq (u := .d (.tup [.str n, lo, hi, li, .tup ws])) ?_ (var_eq rfl) (ok _ (by simp)) (by omega)))))
  · have t := cmp_eq (f := inU false) (a := mCon tb_NULLS "NULLS" (mVar 0)) (b := mTup (mCons (mC (.str "holed")) (mCons (mC (.str "blank")) mNil))) (ρ := [some (.cell μ.length), some (.d lo), some (.d hi), some (.d li), some (.d (.tup xs))]) (con_eq (μ := μ) (r := r) (c := c) (fs := putU "high" (.d hi) (putU "low" (.d lo) fs)) (var_eq rfl) h1 hn) rfl (ib _)
    subst hw
    cases b with
    | true => exact ifE_t t (tup_eq (star_eq (var_eq rfl) rfl (cons_eq rfl rfl)) (toDs_app xs _ _ rfl) (by simp; omega))
    | false => exact ifE_f t (var_eq rfl)
  · exact tup_eq (cons_eq (con_eq (var_eq rfl) h2 hn) (cons_eq (var_eq rfl) (cons_eq (var_eq rfl) (cons_eq (var_eq rfl) (cons_eq (fld_eq (var_eq rfl) (ok _ (by simp)) h3) rfl))))) rfl (by simp)
theorem putU_len (f : Str) (u : U) : ∀ gs : List (Str × U), (putU f u gs).length ≤ gs.length + 1
  | [] => Nat.le_refl _
  | (g, x) :: r => by
    unfold putU
    split
    · simp
    · have := putU_len f u r
      simp
      omega
def noObj (μ : Mem) : Bool := μ.all fun c => match c with
  | some (.obj _ _) => false
  | _ => true
theorem noRef_of {μ : Mem} (n : Nat) (h : noObj μ = true) : noRef n μ = true := by
  unfold noRef
  refine List.all_eq_true.mpr fun c hc => ?_
  have z := List.all_eq_true.mp h c hc
  cases c with
  | none => rfl
  | some d =>
    cases d with
    | lst xs => rfl
    | obj k fs => cases z
theorem noObj_app {μ ν : Mem} : noObj (μ ++ ν) = (noObj μ && noObj ν) := List.all_append
/-- the instance is made: it changes no more -/
theorem frz_eq {μ r : Mem} {c : Nat} {fs : List (Str × U)} {ds : List (Str × Dv.D)} (hd : downF fs = some ds) (h1 : noObj μ = true) (h2 : noObj r = true) : frzU μ.length (μ ++ some (.obj c fs) :: r) = .val (.d (.obj c ds)) (μ ++ none :: r) := by
  unfold frzU
  rw [mem_at]
  simp only [hd]
  have z : noRef μ.length (μ ++ some (.obj c fs) :: r) = true := by
    unfold noRef
    rw [List.all_append, List.all_cons]
    have a := noRef_of μ.length h1
    have b := noRef_of μ.length h2
    unfold noRef at a b
    rw [a, b, Bool.and_true, Bool.true_and]
    refine List.all_eq_true.mpr fun p hp => ?_
    rw [downF_at hd] at hp
    obtain ⟨q, _, rfl⟩ := List.mem_map.mp hp
    rfl
  rw [if_pos z, mem_set]
theorem blank1 {μ : Mem} (h : noObj μ = true) (ρ : Env) : mMk 18 true mf_Blank___init__ (selP 1) mNil ρ μ = .val (.d (obj .blank)) (μ ++ [none]) := by
  have i : mf_Blank___init__ [.cell μ.length] (μ ++ [some (.obj 18 [])]) = .val (.d .non) (μ ++ [some (.obj 18 [("low", .d .non), ("high", .d .non), ("wants", .d (.tup (sds [none]))), ("shape", .d (shape .blank))])]) := by
    refine run_next (ρ1 := [some (.cell μ.length)]) (seq_eq (ρ1 := [some (.cell μ.length)]) rfl ?_)
    have t := told_init (μ := μ) (r := []) (c := 18) (fs := []) (n := "blank") (lo := .non) (hi := .non) (li := .tup []) (xs := []) (ws := [.non]) (b := true) rfl rfl (by kernel_rfl) rfl (by simp) (by simp) (by kernel_rfl) (by kernel_rfl) (by kernel_rfl) putU_len
    unfold ms_Blank___init__ mSup
    show (match objAt (μ ++ [some (.obj 18 [])]) (.cell μ.length) with | some (c, _) => if is_Bl c then RS.of _ _ _ else .stuck | none => .stuck) = _
    simp only [objAt, mem_at]
    show RS.of _ (mf_Told___init__ [.cell μ.length, .d .non, .d .non, .d (.tup []), .d (.tup [])] (μ ++ [some (.obj 18 [])])) _ = _
    rw [t]
    kernel_rfl
  unfold mMk
  show mkU 18 true mf_Blank___init__ (selP 1) [] μ = _
  unfold mkU
  show (match mf_Blank___init__ [.cell μ.length] (μ ++ [some (.obj 18 [])]) with | .val (.d .non) μ2 => _ | .exc k fs μ2 => _ | _ => _) = _
  rw [i]
  exact frz_eq (r := []) (by kernel_rfl) h rfl
end K02
end Dv
namespace Dv
open PySem L2
theorem orV_eq {a b : MD} {ρ : Env} {μ : Mem} {c d : Bool} (ha : a ρ μ = .val (.d (.bl c)) μ) (hb : c = false → b ρ μ = .val (.d (.bl d)) μ) : mOrV a b ρ μ = .val (.d (.bl (c || d))) μ := by
  unfold mOrV
  rw [test_eq ha, bind_val]
  cases c with
  | true => rfl
  | false => rw [if_neg Bool.false_ne_true, hb rfl]; rfl
theorem exp_eq {m : MD} {ρ : Env} {μ μ1 : Mem} {u : U} (h : m ρ μ = .val u μ1) : mExp m ρ μ = .next ρ μ1 := by
  unfold mExp
  rw [h]
  rfl
theorem lcRC_eq {ml : ML} {i : Nat} {t : MT} {e : MD} {ρ : Env} {μ : Mem} {us : List U} {xs acc : List D} (h : ml ρ μ = .val us μ) (hr : rng1 us = some xs) (hc : compL (gNameE i) t e (ρ.set i none) xs μ [] = .val acc μ) : mLcRC rng1 ml (gNameE i) t e [i] ρ μ = .val (.cell (List.length μ)) (μ ++ [some (.lst acc)]) := by
  unfold mLcRC
  rw [h, bind_val]
  simp only [hr]
  show (compL (gNameE i) t e (ρ.set i none) xs μ []).bind _ = _
  rw [hc]
  rfl
theorem lcR_eq {rg : List U → Option (List D)} {ml : ML} {i : Nat} {t : MT} {e : MD} {ρ : Env} {μ μ1 μ2 : Mem} {us : List U} {xs acc : List D} (h : ml ρ μ = .val us μ1) (hr : rg us = some xs) (hc : compL (gNameE i) t e (ρ.set i none) xs μ1 [] = .val acc μ2) : mLcR rg ml (gNameE i) t e [i] ρ μ = .val (.d (.lst acc)) μ2 := by
  unfold mLcR
  rw [h, bind_val]
  simp only [hr]
  show (compL (gNameE i) t e (ρ.set i none) xs μ1 []).bind _ = _
  rw [hc]
  rfl
theorem cell_at (μ : Mem) (xs : List D) (r : Mem) : cellL (μ ++ some (.lst xs) :: r) μ.length = some xs := by
  unfold cellL
  rw [mem_at]
theorem app_eq {mo : MD} {ml : ML} {ρ : Env} {μ r : Mem} {xs ys : List D} (ho : mo ρ (μ ++ some (.lst xs) :: r) = .val (.cell μ.length) (μ ++ some (.lst xs) :: r)) (hl : ml ρ (μ ++ some (.lst xs) :: r) = .val [.d (.lst ys)] (μ ++ some (.lst xs) :: r)) (hz : xs.length + ys.length ≤ 1000) : mApp true mo ml ρ (μ ++ some (.lst xs) :: r) = .val (.d .non) (μ ++ some (.lst (xs ++ ys)) :: r) := by
  unfold mApp
  rw [ho, bind_val]
  simp only [cell_at]
  rw [hl, bind_val]
  simp only [cell_at, if_true, asL]
  rw [if_pos (show szD (xs.length + ys.length) = true from decide_eq_true (by omega)), mem_set]
namespace K02
theorem need1 {a b : Int} {o t : Bool} (h : a ≤ b) (μ : Mem) : mf_need_span [.d (.int a), .d (.int b), .d (.bl o), .d (.bl t)] μ = .val (.d .non) μ := by
  refine run_next (ρ1 := [some (.d (.int a)), some (.d (.int b)), some (.d (.bl o)), some (.d (.bl t))]) (seq_eq (ρ1 := [some (.d (.int a)), some (.d (.int b)), some (.d (.bl o)), some (.d (.bl t))]) (μ1 := μ) (by kernel_rfl) (seq_eq (ρ1 := [some (.d (.int a)), some (.d (.int b)), some (.d (.bl o)), some (.d (.bl t))]) (μ1 := μ) (by kernel_rfl) ?_))
  refine seq_eq (if_eq (c := false) (cmp_eq (var_eq rfl) (var_eq rfl) (by simp [ltB]; omega)) (fun z => by cases z) (fun _ => rfl)) (seq_eq (ρ1 := [some (.d (.int a)), some (.d (.int b)), some (.d (.bl o)), some (.d (.bl t))]) (μ1 := μ) (by kernel_rfl) (by kernel_rfl))
theorem sup_eq {ok : Nat → Bool} {mf : MF} {n : Nat} {ml : ML} {o : U} {ρ : Env} {μ μ1 : Mem} {c : Nat} {fs : List (Str × U)} {us : List U} (ho : objAt μ o = some (c, fs)) (hc : ok c = true) (hl : ml (some o :: ρ) μ = .val us μ) (hn : (o :: us).length = n) (hf : mf (o :: us) μ = .val (.d .non) μ1) : mSup ok mf (selP n) ml (some o :: ρ) μ = .next (some o :: ρ) μ1 := by
  unfold mSup
  show (match objAt μ o with | some (c, _) => if ok c then RS.of (some o :: ρ) (ml (some o :: ρ) μ) (fun us μ1 => RS.of (some o :: ρ) (mf (gU (selP n) (o :: us)) μ1) fun _ μ2 => .next (some o :: ρ) μ2) else .stuck | none => .stuck) = _
  rw [ho]
  simp only [hc, if_true]
  rw [hl]
  simp only [RS.of]
  rw [show gU (selP n) (o :: us) = o :: us from gS_P _ hn, hf]
theorem sp_T {c : Nat} (h : is_Sp c = true) (f : Str) (hf : ([ "low_reached", "high_reached"] : List Str).contains f = true) : okF f c = true := by
  unfold okF
  rw [is_Sp_T h]
  have : f = "low_reached" ∨ f = "high_reached" := by simpa using hf
  rcases this with rfl | rfl <;> decide +kernel
theorem span_init {μ : Mem} {c : Nat} {n : Nu} {a b : Int} {o t O T : Bool} (hc : is_Sp c = true) (hn : tb_NULLS c = some (.str n.s)) (hab : a ≤ b) (eo : (o || (decide (a = b) && t)) = O) (et : (t || (decide (a = b) && o)) = T) :
    mf_Span___init__ [.cell μ.length, .d (.int a), .d (.int b), .d (.bl o), .d (.bl t)] (μ ++ [some (.obj c [])]) = .val (.d .non) (μ ++ some (.obj c (upF (flds (.span a b O T n)))) :: [some (.lst (sds (endsI a b O T)))]) := by
  let ρ0 : Env := [some (.cell μ.length), some (.d (.int a)), some (.d (.int b)), some (.d (.bl o)), some (.d (.bl t)), none, none]
  let ρ1 : Env := [some (.cell μ.length), some (.d (.int a)), some (.d (.int b)), some (.d (.bl o)), some (.d (.bl t)), some (.cell (μ.length + 1)), none]
  let fs2 : List (Str × U) := [("low_reached", .d (.bl O)), ("high_reached", .d (.bl T))]
  let E1 : List Dv.D := if O then [.int a] else []
  let E2 : List Dv.D := if T && decide (a < b) then [.int b] else []
  have ee : E1 ++ E2 = sds (endsI a b O T) := by
    show (if O then [Dv.D.int a] else []) ++ (if T && decide (a < b) then [Dv.D.int b] else []) = _
    unfold endsI
    cases O <;> cases (T && decide (a < b)) <;> rfl
  have s1 : mExp (mFn mf_need_span (mCons (mVar 1) (mCons (mVar 2) (mCons (mVar 3) (mCons (mVar 4) mNil))))) ρ0 (μ ++ [some (.obj c [])]) = .next ρ0 (μ ++ [some (.obj c [])]) := exp_eq ((fn_eq (cons_eq (var_eq rfl) (cons_eq (var_eq rfl) (cons_eq (var_eq rfl) (cons_eq (var_eq rfl) rfl))))).trans (need1 hab _))
  have s2 := setF_eq (ok := okF "low_reached") (f := "low_reached") (mo := mVar 0) (me := mOrV (mVar 3) (mAndV (mVal (mCmpB eqU (mVar 1) (mVar 2))) (mVar 4))) (ρ := ρ0) (μ := μ) (r := []) (u := .d (.bl O)) (c := c) (fs := []) (by
    have z := orV_eq (a := mVar 3) (b := mAndV (mVal (mCmpB eqU (mVar 1) (mVar 2))) (mVar 4)) (ρ := ρ0) (μ := μ ++ [some (.obj c [])]) (c := o) (d := decide (a = b) && t) (var_eq rfl) fun _ => andV_eq (val_eq (cmp_eq (var_eq rfl) (var_eq rfl) (eq_int _ _ _))) fun _ => var_eq rfl
    rw [eo] at z
    exact z) (var_eq rfl) (sp_T hc _ (by decide +kernel)) (by simp)
  have s3 := setF_eq (ok := okF "high_reached") (f := "high_reached") (mo := mVar 0) (me := mOrV (mVar 4) (mAndV (mVal (mCmpB eqU (mVar 1) (mVar 2))) (mVar 3))) (ρ := ρ0) (μ := μ) (r := []) (u := .d (.bl T)) (c := c) (fs := [("low_reached", .d (.bl O))]) (by
    have z := orV_eq (a := mVar 4) (b := mAndV (mVal (mCmpB eqU (mVar 1) (mVar 2))) (mVar 3)) (ρ := ρ0) (μ := μ ++ [some (.obj c [("low_reached", .d (.bl O))])]) (c := t) (d := decide (a = b) && o) (var_eq rfl) fun _ => andV_eq (val_eq (cmp_eq (var_eq rfl) (var_eq rfl) (eq_int _ _ _))) fun _ => var_eq rfl
    rw [et] at z
    exact z) (var_eq rfl) (sp_T hc _ (by decide +kernel)) (by simp)
  have s3' : mSetF (okF "high_reached") "high_reached" (mVar 0) (mOrV (mVar 4) (mAndV (mVal (mCmpB eqU (mVar 1) (mVar 2))) (mVar 3))) ρ0 (μ ++ [some (.obj c [("low_reached", .d (.bl O))])]) = .next ρ0 (μ ++ [some (.obj c fs2)]) := s3
  have len1 : (μ ++ [some (Cel.obj c fs2)]).length = μ.length + 1 := by simp
  have f1 : mFld (okF "low_reached") "low_reached" (mVar 0) ρ0 (μ ++ [some (.obj c fs2)]) = .val (.d (.bl O)) (μ ++ [some (.obj c fs2)]) := fld_eq (r := []) (var_eq rfl) (sp_T hc _ (by decide +kernel)) (by kernel_rfl)
  have s4 : mSet 5 (mLcRC rng1 (mCons (mCall (one intD) (mCons (mFld (okF "low_reached") "low_reached" (mVar 0)) mNil)) mNil) (gNameE 6) mYes (mVar 1) [6]) ρ0 (μ ++ [some (.obj c fs2)]) = .next ρ1 (μ ++ [some (.obj c fs2)] ++ [some (.lst E1)]) := by
    have z := lcRC_eq (ml := mCons (mCall (one intD) (mCons (mFld (okF "low_reached") "low_reached" (mVar 0)) mNil)) mNil) (i := 6) (t := mYes) (e := mVar 1) (ρ := ρ0) (μ := μ ++ [some (.obj c fs2)]) (us := [.d (.int (if O then 1 else 0))]) (xs := if O then [.int 0] else []) (acc := E1) (cons_eq (c1_eq f1 rfl) rfl) (by cases O <;> kernel_rfl) (by show compL _ _ _ _ (if O then [Dv.D.int 0] else []) _ _ = R.val (if O then [Dv.D.int a] else []) _; cases O <;> kernel_rfl)
    rw [len1] at z
    exact set_eq z (by simp [ρ0])
  have s5 : mExp (mApp true (mVar 5) (mCons (mLcR rng1 (mCons (mCall (one intD) (mCons (mAndV (mFld (okF "high_reached") "high_reached" (mVar 0)) (mVal (mCmpB (ltB fun i j => decide (i < j)) (mVar 1) (mVar 2)))) mNil)) mNil) (gNameE 6) mYes (mVar 2) [6]) mNil)) ρ1 (μ ++ [some (.obj c fs2)] ++ [some (.lst E1)]) = .next ρ1 (μ ++ [some (.obj c fs2)] ++ [some (.lst (E1 ++ E2))]) := by
    have f2 : mFld (okF "high_reached") "high_reached" (mVar 0) ρ1 (μ ++ [some (.obj c fs2)] ++ [some (.lst E1)]) = .val (.d (.bl T)) (μ ++ [some (.obj c fs2)] ++ [some (.lst E1)]) := by
      rw [List.append_assoc]
      exact fld_eq (r := [some (.lst E1)]) (var_eq rfl) (sp_T hc _ (by decide +kernel)) (by kernel_rfl)
    have g : mCall (one intD) (mCons (mAndV (mFld (okF "high_reached") "high_reached" (mVar 0)) (mVal (mCmpB (ltB fun i j => decide (i < j)) (mVar 1) (mVar 2)))) mNil) ρ1 (μ ++ [some (.obj c fs2)] ++ [some (.lst E1)]) = .val (.d (.int (if (T && decide (a < b)) = true then 1 else 0))) (μ ++ [some (.obj c fs2)] ++ [some (.lst E1)]) :=
      c1_eq (andV_eq f2 fun _ => val_eq (cmp_eq (var_eq rfl) (var_eq rfl) rfl)) rfl
    have l : mLcR rng1 (mCons (mCall (one intD) (mCons (mAndV (mFld (okF "high_reached") "high_reached" (mVar 0)) (mVal (mCmpB (ltB fun i j => decide (i < j)) (mVar 1) (mVar 2)))) mNil)) mNil) (gNameE 6) mYes (mVar 2) [6] ρ1 (μ ++ [some (.obj c fs2)] ++ [some (.lst E1)]) = .val (.d (.lst E2)) (μ ++ [some (.obj c fs2)] ++ [some (.lst E1)]) := by
      refine lcR_eq (us := [.d (.int (if (T && decide (a < b)) = true then 1 else 0))]) (xs := if (T && decide (a < b)) = true then [.int 0] else []) (cons_eq g rfl) ?_ ?_
      · cases (T && decide (a < b)) <;> kernel_rfl
      · show compL _ _ _ _ (if (T && decide (a < b)) = true then [Dv.D.int 0] else []) _ _ = R.val (if (T && decide (a < b)) = true then [Dv.D.int b] else []) _
        cases (T && decide (a < b)) <;> kernel_rfl
    have v : mVar 5 ρ1 (μ ++ [some (.obj c fs2)] ++ [some (.lst E1)]) = .val (.cell (μ ++ [some (Cel.obj c fs2)]).length) (μ ++ [some (.obj c fs2)] ++ [some (.lst E1)]) := by
      rw [len1]
      exact var_eq rfl
    refine exp_eq (app_eq v (cons_eq l rfl) ?_)
    show (if O then [Dv.D.int a] else []).length + (if T && decide (a < b) then [Dv.D.int b] else []).length ≤ 1000
    cases O <;> cases (T && decide (a < b)) <;> simp
  have tu : mCall (one tupD) (mCons (mVar 5) mNil) ρ1 (μ ++ [some (.obj c fs2)] ++ [some (.lst (E1 ++ E2))]) = .val (.d (.tup (E1 ++ E2))) (μ ++ [some (.obj c fs2)] ++ [some (.lst (E1 ++ E2))]) := by
    refine c1_eq (x := .cell (μ.length + 1)) (var_eq rfl) ?_
    show (cellL (μ ++ [some (.obj c fs2)] ++ [some (.lst (E1 ++ E2))]) (μ.length + 1)).bind _ = _
    rw [← len1, cell_at]
    rfl
  have hb : ∀ m : Nu, inU false [] (.d (.str m.s)) (.d (.tup [.str "holed", .str "blank"])) = some (m == .holed) := fun m => by cases m <;> kernel_rfl
  have ti := told_init (μ := μ) (r := [some (.lst (E1 ++ E2))]) (c := c) (fs := fs2) (n := n.s) (lo := .int a) (hi := .int b) (li := .non) (xs := E1 ++ E2) (ws := sds (wants (.span a b O T n))) (b := n == .holed) (is_Sp_T hc) hn (hb n) (by
    rw [ee]
    show sds (endsI a b O T ++ nul (n == .holed)) = _
    unfold sds
    rw [List.map_append]
    cases (n == .holed) <;> simp [nul, sd]) (by
      show ((if O then [Dv.D.int a] else []) ++ (if T && decide (a < b) then [Dv.D.int b] else [])).length ≤ 900
      cases O <;> cases (T && decide (a < b)) <;> simp) (by simp [fs2]) (by kernel_rfl) (by kernel_rfl) (by kernel_rfl) putU_len
  refine run_next (ρ1 := ρ1) (seq_eq (m := m_Span___init__) (ρ1 := ρ1) (μ1 := μ ++ [some (.obj c fs2)] ++ [some (.lst (E1 ++ E2))]) (seq_eq s1 (seq_eq s2 (seq_eq s3' (seq_eq s4 s5)))) ?_)
  have z := sup_eq (ok := is_Sp) (mf := mf_Told___init__) (n := 5) (ml := mCons (mVar 1) (mCons (mVar 2) (mCons (mC .non) (mCons (mCall (one tupD) (mCons (mVar 5) mNil)) mNil)))) (o := .cell μ.length) (ρ := [some (.d (.int a)), some (.d (.int b)), some (.d (.bl o)), some (.d (.bl t)), some (.cell (μ.length + 1)), none]) (μ := μ ++ [some (.obj c fs2)] ++ [some (.lst (E1 ++ E2))]) (c := c) (fs := fs2) (us := [.d (.int a), .d (.int b), .d .non, .d (.tup (E1 ++ E2))])
    (by rw [List.append_assoc]; simp only [objAt, List.cons_append, List.nil_append, mem_at]) hc (cons_eq (var_eq rfl) (cons_eq (var_eq rfl) (cons_eq rfl (cons_eq tu rfl)))) rfl (by rw [List.append_assoc]; exact ti)
  refine z.trans ?_
  rw [ee]
  rfl
theorem span1 {μ : Mem} (h : noObj μ = true) {ml : ML} {ρ : Env} {sel : Sel} {us : List U} {a b : Int} {o t O T : Bool} (n : Nu) (hl : ml ρ μ = .val us μ) (hu : gU sel (.cell μ.length :: us) = [.cell μ.length, .d (.int a), .d (.int b), .d (.bl o), .d (.bl t)]) (hab : a ≤ b) (eo : (o || (decide (a = b) && t)) = O) (et : (t || (decide (a = b) && o)) = T) : mMk (clsN (.span a b O T n)) true mf_Span___init__ sel ml ρ μ = .val (.d (obj (.span a b O T n))) (μ ++ [none, some (.lst (sds (endsI a b O T)))]) := by
  unfold mMk
  rw [hl, bind_val]
  have i := span_init (μ := μ) (c := clsN (.span a b O T n)) (n := n) (a := a) (b := b) (o := o) (t := t) (by cases n <;> rfl) (by cases n <;> rfl) hab eo et
  unfold mkU
  rw [hu, i]
  show frzU μ.length _ = _
  exact frz_eq (r := [some (.lst (sds (endsI a b O T)))]) (by kernel_rfl) h rfl
end K02
end Dv
namespace Dv
open PySem L2
theorem intsD_map : ∀ ys : List Int, intsD (ys.map .int) = some ys
  | [] => rfl
  | y :: r => by
    show (intsD (r.map .int)).map (y :: ·) = _
    rw [intsD_map r]
    rfl
theorem atI_head {xs : List Int} (h : xs ≠ []) : atI (xs.map D.int) 0 = some (.int (xs.headD 0)) := by
  cases xs with
  | nil => exact absurd rfl h
  | cons x r => exact atI_nat (j := 0) rfl
theorem for_cons {g : Mem → U → Env → Option Env} {b : MS} {x : D} {xs : List D} {ρ ρ1 ρ2 : Env} {μ μ2 : Mem} {r : RS} (hg : g μ (.d x) ρ = some ρ1) (hb : b ρ1 μ = .next ρ2 μ2) (hr : forL g b xs ρ2 μ2 = r) : forL g b (x :: xs) ρ μ = r := by
  unfold forL
  rw [hg]
  simp only [hb]
  exact hr
theorem atI_lastD {xs : List Int} (h : xs ≠ []) : atI (xs.map D.int) (-1) = some (.int (xs.getLastD 0)) := by
  have e : xs = xs.dropLast ++ [xs.getLast h] := (List.dropLast_concat_getLast h).symm
  have e2 : xs.getLastD 0 = xs.getLast h := by
    rw [List.getLastD_eq_getLast?, List.getLast?_eq_some_getLast h]
    rfl
  rw [e2]
  conv => lhs; rw [e]
  rw [List.map_append]
  exact atI_last _ _
namespace K02
theorem loop1 {s v : Option U} {μ : Mem} : ∀ (ys : List Int) (k : Nat) (x y : Option U), ∃ x' y', forL (gTupE [2, 3]) (mIf (mNotT (mTest (mFn mf_is_integer (mCons (mVar 3) mNil)))) (mRaise 2 ["part"] false (mCons (mVar 2) mNil)) mNop) (enumD k (ys.map .int)) [s, v, x, y] μ = .next [s, v, x', y'] μ
  | [], k, x, y => ⟨x, y, rfl⟩
  | i :: r, k, x, y => by
    obtain ⟨x', y', e⟩ := loop1 (s := s) (v := v) (μ := μ) r (k + 1) (some (.d (.int k))) (some (.d (.int i)))
    refine ⟨x', y', ?_⟩
    have b : mIf (mNotT (mTest (mFn mf_is_integer (mCons (mVar 3) mNil)))) (mRaise 2 ["part"] false (mCons (mVar 2) mNil)) mNop [s, v, some (.d (.int k)), some (.d (.int i))] μ = .next [s, v, some (.d (.int k)), some (.d (.int i))] μ := by kernel_rfl
    exact for_cons (ρ1 := [s, v, some (.d (.int k)), some (.d (.int i))]) rfl b e
theorem li_T {c : Nat} (h : is_Li c = true) : okF "listed" c = true := by
  unfold okF
  rw [is_Li_T h]
  decide +kernel
theorem list_init {μ : Mem} {c : Nat} {n : Nu} {ys xs : List Int} (hc : is_Li c = true) (hn : tb_NULLS c = some (.str n.s)) (hs : srtU ys = xs) (hl : ys.length = xs.length) (h0 : xs ≠ []) (h9 : xs.length ≤ 9) :
    mv_Listed___init__ (.cell μ.length :: ys.map fun i => .d (.int i)) (μ ++ [some (.obj c [])]) = .val (.d .non) (μ ++ [some (.obj c (upF (flds (.list xs n))))]) := by
  have lx : 0 < xs.length := List.length_pos_iff.mpr h0
  have va : vaU 1 (U.cell μ.length :: ys.map fun i => U.d (.int i)) = some [.cell μ.length, .d (.tup (ys.map .int))] := by
    unfold vaU
    rw [if_pos (by simp [szD]; omega)]
    have e : (ys.map fun i => U.d (.int i)) = (ys.map D.int).map U.d := by rw [List.map_map]; rfl
    show (toDs (ys.map fun i => U.d (.int i))).map _ = _
    rw [e, toDs_map]
    rfl
  have go : mf_Listed___init__ [.cell μ.length, .d (.tup (ys.map .int))] (μ ++ [some (.obj c [])]) = .val (.d .non) (μ ++ [some (.obj c (upF (flds (.list xs n))))]) := by
    obtain ⟨x', y', lp⟩ := loop1 (s := some (.cell μ.length)) (v := some (.d (.tup (ys.map .int)))) (μ := μ ++ [some (.obj c [])]) ys 0 none none
    let ρ : Env := [some (.cell μ.length), some (.d (.tup (ys.map .int))), x', y']
    let fs1 : List (Str × U) := [("listed", .d (.tup (xs.map .int)))]
    have s1 : mForI itE (mVar 1) (gTupE [2, 3]) (mIf (mNotT (mTest (mFn mf_is_integer (mCons (mVar 3) mNil)))) (mRaise 2 ["part"] false (mCons (mVar 2) mNil)) mNop) [some (.cell μ.length), some (.d (.tup (ys.map .int))), none, none] (μ ++ [some (.obj c [])]) = .next ρ (μ ++ [some (.obj c [])]) := lp
    have cm := lcI_eq (ma := mVar 1) (i := 3) (t := mYes) (e := mCall (one intD) (mCons (mVar 3) mNil)) (ρ := ρ) (μ := μ ++ [some (.obj c [])]) (xs := ys.map .int) (u := .d (.tup (ys.map .int))) (var_eq rfl) rfl (by simp [ρ]) (by simp; omega) (fun _ => true) (fun x => x) fun x hx => ⟨rfl, fun _ => by
      obtain ⟨i, _, rfl⟩ := List.mem_map.mp hx
      exact c1_eq (var_eq rfl) rfl⟩
    rw [List.filter_eq_self.mpr (fun _ _ => rfl), List.map_id'] at cm
    have ss : mUn ssetD (mLcI itLT (mVar 1) (gNameE 3) mYes (mCall (one intD) (mCons (mVar 3) mNil)) [3]) ρ (μ ++ [some (.obj c [])]) = .val (.d (.lst (xs.map .int))) (μ ++ [some (.obj c [])]) := by
      refine un_eq cm ?_
      show (intsD (ys.map .int)).bind _ = _
      rw [intsD_map, Option.bind_some, if_pos (by omega), hs]
    have s2 := setF_eq (ok := okF "listed") (f := "listed") (mo := mVar 0) (me := mCall (one tupD) (mCons (mUn ssetD (mLcI itLT (mVar 1) (gNameE 3) mYes (mCall (one intD) (mCons (mVar 3) mNil)) [3])) mNil)) (ρ := ρ) (μ := μ) (r := []) (u := .d (.tup (xs.map .int))) (c := c) (fs := []) (c1_eq ss rfl) (var_eq rfl) (li_T hc) (by simp)
    have fl : mFld (okF "listed") "listed" (mVar 0) ρ (μ ++ [some (.obj c fs1)]) = .val (.d (.tup (xs.map .int))) (μ ++ [some (.obj c fs1)]) := fld_eq (r := []) (var_eq rfl) (li_T hc) (by kernel_rfl)
    have s3 : mIf (mOrT (mCmpB eqU (mCall (one lenD) (mCons (mVar 1) mNil)) (mC (.int 0))) (mCmpB (ltB fun i j => decide (i < j)) (mCall (one lenD) (mCons (mFld (okF "listed") "listed" (mVar 0)) mNil)) (mCall (one lenD) (mCons (mVar 1) mNil)))) (mRaise 2 ["part"] false (mCons (mC (.str "values")) mNil)) mNop ρ (μ ++ [some (.obj c fs1)]) = .next ρ (μ ++ [some (.obj c fs1)]) := by
      refine if_eq (or_eq (cmp_eq (c1_eq (var_eq rfl) (len_tup _ _)) rfl (eq_int _ _ _)) fun _ => cmp_eq (c1_eq fl (len_tup _ _)) (c1_eq (var_eq rfl) (len_tup _ _)) rfl) (fun z => ?_) fun _ => rfl
      exfalso
      simp only [List.length_map, Bool.or_eq_true, decide_eq_true_eq] at z
      omega
    have s4 : mIf (mCmpB (ltB fun i j => decide (j < i)) (mCall (one lenD) (mCons (mVar 1) mNil)) (mC (.int 9))) (mRaise 4 ["what", "most"] false (mCons (mC (.str "values")) (mCons (mC (.int 9)) mNil))) mNop ρ (μ ++ [some (.obj c fs1)]) = .next ρ (μ ++ [some (.obj c fs1)]) := by
      refine if_eq (cmp_eq (c1_eq (var_eq rfl) (len_tup _ _)) rfl rfl) (fun z => ?_) fun _ => rfl
      exfalso
      simp only [List.length_map, decide_eq_true_eq] at z
      omega
    have hb : ∀ m : Nu, inU false [] (.d (.str m.s)) (.d (.tup [.str "holed", .str "blank"])) = some (m == .holed) := fun m => by cases m <;> kernel_rfl
    have ti := told_init (μ := μ) (r := []) (c := c) (fs := fs1) (n := n.s) (lo := .int (xs.headD 0)) (hi := .int (xs.getLastD 0)) (li := .tup (xs.map .int)) (xs := xs.map .int) (ws := sds (wants (.list xs n))) (b := n == .holed) (is_Li_T hc) hn (hb n) (by
      show sds (xs.map some ++ nul (n == .holed)) = _
      unfold sds
      rw [List.map_append]
      have e : (xs.map some).map sd = xs.map .int := ints_sds xs
      rw [e]
      cases (n == .holed) <;> simp [nul, sd]) (by simp; omega) (by simp [fs1]) (by kernel_rfl) (by kernel_rfl) (by kernel_rfl) putU_len
    refine run_next (ρ1 := ρ) (seq_eq (m := m_Listed___init__) (ρ1 := ρ) (μ1 := μ ++ [some (.obj c fs1)]) (seq_eq s1 (seq_eq s2 (seq_eq s3 s4))) ?_)
    have z := sup_eq (ok := is_Li) (mf := mf_Told___init__) (n := 5) (ml := mCons (mIx (mFld (okF "listed") "listed" (mVar 0)) (mC (.int 0))) (mCons (mIx (mFld (okF "listed") "listed" (mVar 0)) (mUn negD (mC (.int 1)))) (mCons (mFld (okF "listed") "listed" (mVar 0)) (mCons (mFld (okF "listed") "listed" (mVar 0)) mNil)))) (o := .cell μ.length) (ρ := [some (.d (.tup (ys.map .int))), x', y']) (μ := μ ++ [some (.obj c fs1)]) (c := c) (fs := fs1) (us := [.d (.int (xs.headD 0)), .d (.int (xs.getLastD 0)), .d (.tup (xs.map .int)), .d (.tup (xs.map .int))])
      (by simp only [objAt, mem_at]) hc (cons_eq (bin_eq (f := ixD) (x := .d (.tup (xs.map .int))) (y := .d (.int 0)) fl rfl (atI_head h0)) (cons_eq (bin_eq (f := ixD) (x := .d (.tup (xs.map .int))) (y := .d (.int (-1))) fl (un_eq rfl rfl) (atI_lastD h0)) (cons_eq fl (cons_eq fl rfl)))) rfl ti
    exact z
  show runV 1 mf_Listed___init__ _ _ = _
  unfold runV
  rw [va]
  exact go
theorem list1 {μ : Mem} (h : noObj μ = true) {ml : ML} {ρ : Env} {ys xs : List Int} (n : Nu) (hl : ml ρ μ = .val (ys.map fun i => .d (.int i)) μ) (hs : srtU ys = xs) (hle : ys.length = xs.length) (h0 : xs ≠ []) (h9 : xs.length ≤ 9) : mMkP (clsN (.list xs n)) true mv_Listed___init__ ml ρ μ = .val (.d (obj (.list xs n))) (μ ++ [none]) := by
  unfold mMkP
  rw [hl, bind_val]
  have i := list_init (μ := μ) (c := clsN (.list xs n)) (n := n) (ys := ys) (xs := xs) (by cases n <;> rfl) (by cases n <;> rfl) hs hle h0 h9
  unfold mkP
  rw [i]
  show frzU μ.length _ = _
  exact frz_eq (r := []) (by kernel_rfl) h rfl
end K02
end Dv
namespace Dv
open PySem L2
theorem strsD_map : ∀ ws : List Str, strsD (ws.map .str) = some ws
  | [] => rfl
  | w :: r => by
    show (strsD (r.map .str)).map (w :: ·) = _
    rw [strsD_map r]
    rfl
theorem sum_len : ∀ ws : List Str, (∀ w ∈ ws, w.length ≤ 4000) → (ws.map (·.length)).sum ≤ ws.length * 4000
  | [], _ => Nat.le_refl _
  | w :: r, h => by
    have := sum_len r fun x hx => h x (List.mem_cons_of_mem _ hx)
    have := h w List.mem_cons_self
    simp only [List.map_cons, List.sum_cons, List.length_cons]
    omega
theorem log_of {i : Int} (h : -(10 ^ 30) < i ∧ i < 10 ^ 30) : i.natAbs.log2 < 1920 := by
  by_cases h0 : i.natAbs = 0
  · rw [h0]
    decide
  · refine (Nat.log2_lt h0).mpr ?_
    have : i.natAbs < 2 ^ 100 := by omega
    exact Nat.lt_of_lt_of_le this (Nat.pow_le_pow_right (by decide) (by decide))
theorem fmt_int (μ : Mem) {i : Int} (h : -(10 ^ 30) < i ∧ i < 10 ^ 30) : fmtD μ (.d (.int i)) = some (.str (toString i)) := by
  show (if i.natAbs.log2 < 1920 then some (D.str (toString i)) else none) = _
  rw [if_pos (log_of h)]
theorem txt_len {i : Int} (h : -(10 ^ 30) < i ∧ i < 10 ^ 30) : (Str.ofString (toString i)).length ≤ 1921 := PyProof.Rows.int_text_len_1921 (log_of h)
theorem js2 {m1 m2 : MD} {ρ : Env} {μ : Mem} {x y : Str} (h1 : m1 ρ μ = .val (.d (.str x)) μ) (h2 : m2 ρ μ = .val (.d (.str y)) μ) (hx : x.length ≤ 10) (hy : y.length ≤ 2000) : ∃ z : Str, mJs [m1, m2] ρ μ = .val (.d (.str z)) μ ∧ z.length ≤ 4000 := by
  have l1 : (Str.empty ++ x).length = 0 + x.length := strLen_append ..
  have l2 : (Str.empty ++ x ++ y).length = (Str.empty ++ x).length + y.length := strLen_append ..
  refine ⟨Str.empty ++ x ++ y, ?_, by omega⟩
  unfold mJs mJ
  rw [h1, bind_val]
  simp only
  rw [if_pos (show szD (Str.empty ++ x).length = true from decide_eq_true (by omega))]
  unfold mJ
  rw [h2, bind_val]
  simp only
  rw [if_pos (show szD (Str.empty ++ x ++ y).length = true from decide_eq_true (by omega))]
  rfl
namespace K02
theorem words1 (p : Pl) (hp : Ok p) {ρ : Env} {μ : Mem} (ho : mVar 0 ρ μ = .val (.d (obj p)) μ) : ∃ ws : List Str, mMt "in_words" tm_in_words (mVar 0) mNil ρ μ = .val (.d (.lst (ws.map .str))) μ ∧ ws.length ≤ 10 ∧ ∀ w ∈ ws, w.length ≤ 4000 := by
  cases p with
  | blank =>
    refine ⟨["blank"], ?_, by simp, fun w hw => by simp at hw; subst hw; decide⟩
    unfold mMt
    rw [ho, bind_val]
    kernel_rfl
  | list xs n =>
    obtain ⟨h9, bd⟩ := hp.li xs n rfl
    have z : mMt "in_words" tm_in_words (mVar 0) mNil ρ μ = mf_Listed_in_words [.d (obj (.list xs n))] μ := by
      unfold mMt
      rw [ho, bind_val]
      cases n <;> kernel_rfl
    have fl : mFld (okF "listed") "listed" (mVar 0) [some (.d (obj (.list xs n))), none] μ = .val (.d (.tup (xs.map .int))) μ := by cases n <;> kernel_rfl
    have c := lcI_eq (ma := mFld (okF "listed") "listed" (mVar 0)) (i := 1) (t := mYes) (e := mUn fmtD (mVar 1)) (ρ := [some (.d (obj (.list xs n))), none]) (μ := μ) (xs := xs.map .int) (u := .d (.tup (xs.map .int))) fl rfl (by simp) (by simp; omega) (fun _ => true) (fun x => match x with | .int i => .str (toString i) | x => x) fun x hx => ⟨rfl, fun _ => by
      obtain ⟨i, hi, rfl⟩ := List.mem_map.mp hx
      exact un_eq (var_eq rfl) (fmt_int μ (bd i hi))⟩
    rw [List.filter_eq_self.mpr (fun _ _ => rfl), List.map_map] at c
    refine ⟨"list" :: xs.map fun i => Str.ofString (toString i), ?_, by simp; omega, fun w hw => ?_⟩
    · rw [z]
      refine run_ret (ret_eq (lst_eq (cons_eq rfl (star_eq c rfl rfl)) (xs := .str "list" :: (xs.map fun i => Dv.D.str (toString i))) ?_ (by simp; omega)) |>.trans ?_)
      · rw [List.append_nil]
        show (toDs ((xs.map _).map U.d)).bind _ = _
        rw [toDs_map]
        rfl
      · show RS.ret (.d (.lst (.str "list" :: (xs.map fun i => Dv.D.str (toString i))))) μ = RS.ret (.d (.lst (.str "list" :: (xs.map fun i => Str.ofString (toString i)).map .str))) μ
        rw [List.map_map]
        rfl
    · rcases List.mem_cons.mp hw with rfl | hw
      · decide
      · obtain ⟨i, hi, rfl⟩ := List.mem_map.mp hw
        have := txt_len (bd i hi)
        omega
  | span a b o t n =>
    obtain ⟨ba, bb⟩ := hp.sp a b o t n rfl
    have z : mMt "in_words" tm_in_words (mVar 0) mNil ρ μ = mf_Span_in_words [.d (obj (.span a b o t n))] μ := by
      unfold mMt
      rw [ho, bind_val]
      cases n <;> kernel_rfl
    let q : Bool → Str := fun c => if c then "" else "~"
    let ρ1 : Env := [some (.d (obj (.span a b o t n))), some (.d (.lst [.str (q o), .str (q t)])), none]
    have s1 : mSet 1 (mLcI itLT (mTup (mCons (mFld (okF "low_reached") "low_reached" (mVar 0)) (mCons (mFld (okF "high_reached") "high_reached" (mVar 0)) mNil))) (gNameE 2) mYes (mIfE (mTest (mVar 2)) (mC (.str "")) (mC (.str "~"))) [2]) [some (.d (obj (.span a b o t n))), none, none] μ = .next ρ1 μ := by cases n <;> cases o <;> cases t <;> kernel_rfl
    have ql : ∀ c, (q c).length ≤ 10 := fun c => by cases c <;> decide
    obtain ⟨z1, e1, l1⟩ := js2 (m1 := mUn fmtD (mIx (mVar 1) (mC (.int 0)))) (m2 := mUn fmtD (mFld (okF "low") "low" (mVar 0))) (ρ := ρ1) (μ := μ) (x := q o) (y := toString a) (by cases o <;> kernel_rfl) (un_eq (x := .d (.int a)) (by cases n <;> kernel_rfl) (fmt_int μ ba)) (ql o) (by have := txt_len ba; exact Nat.le_trans this (by decide))
    obtain ⟨z2, e2, l2⟩ := js2 (m1 := mUn fmtD (mIx (mVar 1) (mC (.int 1)))) (m2 := mUn fmtD (mFld (okF "high") "high" (mVar 0))) (ρ := ρ1) (μ := μ) (x := q t) (y := toString b) (by cases t <;> kernel_rfl) (un_eq (x := .d (.int b)) (by cases n <;> kernel_rfl) (fmt_int μ bb)) (ql t) (by have := txt_len bb; exact Nat.le_trans this (by decide))
    refine ⟨[z1, "to", z2], ?_, by simp, fun w hw => ?_⟩
    · rw [z]
      exact run_ret (seq_eq s1 (ret_eq (lst_eq (cons_eq e1 (cons_eq rfl (cons_eq e2 rfl))) rfl (by simp))))
    · simp only [List.mem_cons, List.not_mem_nil, or_false] at hw
      rcases hw with rfl | rfl | rfl
      · exact l1
      · decide
      · exact l2
theorem str1 (p : Pl) (hp : Ok p) {m : MD} {ρ : Env} {μ : Mem} (ho : m ρ μ = .val (.d (obj p)) μ) : ∃ y : Str, mStrO td___str__ m ρ μ = .val (.d (.str y)) μ := by
  obtain ⟨ws, e, hl, hw⟩ := words1 p hp (ρ := [some (.d (obj p)), none]) (μ := μ) (var_eq rfl)
  obtain ⟨vs, e2, hl2, hw2⟩ : ∃ vs : List Str, mLcI itLT (mTup (mCons (mC (.str "holed")) (mCons (mC (.str "open")) mNil))) (gNameE 1) (mCmpB eqU (mVar 1) (mCon tb_NULLS "NULLS" (mVar 0))) (mVar 1) [1] [some (.d (obj p)), none] μ = .val (.d (.lst (vs.map .str))) μ ∧ vs.length ≤ 1 ∧ ∀ w ∈ vs, w.length ≤ 4000 := by
    have n0 : ∀ w ∈ ([] : List Str), w.length ≤ 4000 := fun w hw => by cases hw
    have n1 : ∀ w ∈ (["holed"] : List Str), w.length ≤ 4000 := fun w hw => by simp at hw; subst hw; decide
    have n2 : ∀ w ∈ (["open"] : List Str), w.length ≤ 4000 := fun w hw => by simp at hw; subst hw; decide
    cases p with
    | blank => exact ⟨[], by kernel_rfl, by simp, n0⟩
    | list xs n =>
      cases n with
      | full => exact ⟨[], by kernel_rfl, by simp, n0⟩
      | holed => exact ⟨["holed"], by kernel_rfl, by simp, n1⟩
      | opn => exact ⟨["open"], by kernel_rfl, by simp, n2⟩
    | span a b o t n =>
      cases n with
      | full => exact ⟨[], by kernel_rfl, by simp, n0⟩
      | holed => exact ⟨["holed"], by kernel_rfl, by simp, n1⟩
      | opn => exact ⟨["open"], by kernel_rfl, by simp, n2⟩
  have l := lst_eq (star_eq e rfl (star_eq (mr := mNil) e2 rfl rfl)) (xs := (ws ++ vs).map .str) (by rw [List.append_nil, List.map_append]; exact toDs_app _ _ _ (toDs_map _)) (by simp; omega)
  have sl : ((ws ++ vs).map (·.length)).sum + (ws ++ vs).length * (" " : Str).length ≤ 16777216 := by
    have := sum_len (ws ++ vs) fun w hx => (List.mem_append.mp hx).elim (hw w) (hw2 w)
    have e3 : (" " : Str).length = 1 := rfl
    rw [e3]
    simp only [List.length_append] at this ⊢
    omega
  have j : mf_Told___str__ [.d (obj p)] μ = .val (.d (.str (Txt.join " " (ws ++ vs)))) μ := by
    refine run_ret (ret_eq ?_)
    unfold mJoin
    show mUn (joinD " ") _ _ μ = _
    refine un_eq l ?_
    show (strsD ((ws ++ vs).map .str)).bind _ = _
    rw [strsD_map, Option.bind_some, if_pos sl]
  refine ⟨Txt.join " " (ws ++ vs), ?_⟩
  unfold mStrO
  rw [ho, bind_val]
  have z : strO td___str__ (.d (obj p)) μ = (mf_Told___str__ [.d (obj p)] μ).calm.bind fun r μ2 => match r with
      | .d (.str y) => .val (.d (.str y)) μ2
      | _ => .stuck := by
    cases p with
    | blank => kernel_rfl
    | list xs n => cases n <;> kernel_rfl
    | span a b o t n => cases n <;> kernel_rfl
  rw [z, j]
  rfl
end K02
end Dv
namespace Dv
open PySem L2
namespace K02
/-! ### the pen -/
structure PenS (k : Nat) (μ : Mem) : Prop where
  ex : ∃ τ cs sp re, μ = penM τ cs sp re ∧ noObj τ = true ∧ 0 ≤ sp ∧ sp ≤ (k : Int) ∧ 0 ≤ re
theorem PenS.no {k : Nat} {μ : Mem} (h : PenS k μ) : noObj μ = true := by
  obtain ⟨τ, cs, sp, re, rfl, h1, _⟩ := h.ex
  exact h1
theorem PenS.app {k : Nat} {μ ν : Mem} (h : PenS k μ) (hn : noObj ν = true) : PenS k (μ ++ ν) := by
  obtain ⟨τ, cs, sp, re, rfl, h1, h2⟩ := h.ex
  exact ⟨τ ++ ν, cs, sp, re, rfl, by rw [noObj_app, h1, hn]; rfl, h2⟩
theorem PenS.up {j k : Nat} {μ : Mem} (h : PenS j μ) (hj : j ≤ k) : PenS k μ := by
  obtain ⟨τ, cs, sp, re, e, h1, h2, h3, h4⟩ := h.ex
  exact ⟨τ, cs, sp, re, e, h1, h2, by omega, h4⟩
theorem atI_mem {xs : List Dv.D} {i : Int} (h0 : 0 ≤ i) (h1 : i < xs.length) : ∃ x, x ∈ xs ∧ atI xs i = some x := by
  have hl : i.toNat < xs.length := by omega
  have e : ((i.toNat : Nat) : Int) = i := by omega
  refine ⟨xs[i.toNat], List.getElem_mem hl, ?_⟩
  have z := atI_nat (xs := xs) (j := i.toNat) (List.getElem?_eq_getElem hl)
  rw [e] at z
  exact z
end K02
end Dv
namespace Dv
open PySem L2
namespace K02
/-! ### equality -/
def nS : Pl → Str
  | .blank => "blank"
  | .list _ n => n.s
  | .span _ _ _ _ n => n.s
def lo : Pl → Option Int
  | .blank => none
  | .list xs _ => some (xs.headD 0)
  | .span a _ _ _ _ => some a
def hi : Pl → Option Int
  | .blank => none
  | .list xs _ => some (xs.getLastD 0)
  | .span _ b _ _ _ => some b
def lis : Pl → Option (List (Option Int))
  | .blank => some []
  | .list xs _ => some (xs.map some)
  | .span _ _ _ _ _ => none
def lsD : Option (List (Option Int)) → PyData
  | none => .none
  | some xs => .tuple (xs.map pD)
def shD (p : Pl) : PyData := .tuple [.str (nS p), pD (lo p), pD (hi p), lsD (lis p), .tuple ((wants p).map pD)]
theorem pd_shape (p : Pl) : pd (shape p) = some (shD p) := by
  have k : ∀ ws : List (Option Int), pd (.tup (sds ws)) = some (.tuple (ws.map pD)) := fun ws => by simp only [pd, pdL_sds, Option.map_some]
  cases p with
  | blank => rfl
  | list xs n =>
    have pl : pd (.tup (xs.map .int)) = some (.tuple ((xs.map some).map pD)) := by rw [← ints_sds]; exact k _
    simp only [shape, pd, pdL, Option.bind_some, Option.map_some] at pl k ⊢
    rw [pl, k]
    rfl
  | span a b o t n =>
    simp only [shape, pd, pdL, Option.bind_some, Option.map_some] at k ⊢
    rw [k]
    rfl
theorem nu_ok (n : Nu) : PyData.strOk n.s = true := by cases n <;> decide +kernel
theorem nS_ok (p : Pl) : PyData.strOk (nS p) = true := by
  cases p with
  | blank => decide +kernel
  | list xs n => exact nu_ok n
  | span a b o t n => exact nu_ok n
theorem sh_shaped (p : Pl) : SeqAt.shaped (shD p) = true := by
  have c1 : ∀ v, (pD v).canLay0 = true := fun v => by cases v <;> rfl
  have c2 : ∀ v, (pD v).depth = 0 := fun v => by cases v <;> rfl
  have c3 : (lsD (lis p)).canLay0 = true := by cases p <;> simp only [lis, lsD, PyData.canLay0, lay_sds] <;> rfl
  have c4 : (lsD (lis p)).depth ≤ 1 := by cases p <;> simp only [lis, lsD, PyData.depth, deep_sds] <;> decide
  unfold SeqAt.shaped shD
  have cl : PyData.canLay0 (.tuple [.str (nS p), pD (lo p), pD (hi p), lsD (lis p), .tuple ((wants p).map pD)]) = true := by
    simp only [PyData.canLay0, PyData.canLayAll0, nS_ok, c1, c3, lay_sds, Bool.and_self]
  rw [cl, Bool.true_and]
  simp only [PyData.depth, PyData.depthAll, deep_sds, c2]
  exact decide_eq_true (by omega)
theorem eqv_pD (x y : Option Int) : PyData.eqv (pD x) (pD y) = decide (x = y) := by
  cases x <;> cases y <;> simp [pD, PyData.eqv]
  rw [Bool.eq_iff_iff]
  simp
theorem eqvAll_pD : ∀ xs ys : List (Option Int), PyData.eqvAll (xs.map pD) (ys.map pD) = decide (xs = ys)
  | [], [] => by simp [PyData.eqvAll]
  | [], _ :: _ => by simp [PyData.eqvAll]
  | _ :: _, [] => by simp [PyData.eqvAll]
  | x :: xs, y :: ys => by
    simp only [List.map_cons, PyData.eqvAll, eqv_pD, eqvAll_pD xs ys, List.cons.injEq]
    by_cases h1 : x = y <;> by_cases h2 : xs = ys <;> simp [h1, h2]
theorem eqv_lsD (x y : Option (List (Option Int))) : PyData.eqv (lsD x) (lsD y) = decide (x = y) := by
  cases x with
  | none => cases y <;> simp [lsD, PyData.eqv]
  | some xs =>
    cases y with
    | none => simp [lsD, PyData.eqv]
    | some ys => simp only [lsD, PyData.eqv, eqvAll_pD, Option.some.injEq]
def eqSh (p q : Pl) : Bool := (nS p == nS q) && (decide (lo p = lo q) && (decide (hi p = hi q) && (decide (lis p = lis q) && decide (wants p = wants q))))
theorem eqv_sh (p q : Pl) : PyData.eqv (shD p) (shD q) = eqSh p q := by
  unfold shD eqSh
  simp only [PyData.eqv, PyData.eqvAll, eqv_pD, eqv_lsD, eqvAll_pD, Bool.and_true]
theorem eq_shape (p q : Pl) (μ : Mem) : eqU μ (.d (shape p)) (.d (shape q)) = some (eqSh p q) := by
  have key : ∀ x y : Dv.D, (∃ xs, x = .tup xs) → ∀ d e, pd x = some d → pd y = some e → SeqAt.shaped d = true → SeqAt.shaped e = true → eqU μ (.d x) (.d y) = some (PyData.eqv d e) := by
    rintro x y ⟨xs, rfl⟩ d e h1 h2 h3 h4
    unfold eqU
    simp only [scalD]
    unfold eqP
    simp only [pdU, h1, h2, Option.bind_some, h3, h4, Bool.and_self, if_true]
  rw [key (shape p) (shape q) (by cases p <;> exact ⟨_, rfl⟩) _ _ (pd_shape p) (pd_shape q) (sh_shaped p) (sh_shaped q), eqv_sh]
theorem isi_told (p : Pl) {m : MD} {ρ : Env} {μ : Mem} (h : m ρ μ = .val (.d (obj p)) μ) : mCall (isiV tyB clB) (mCons m (mCons (mC (.cls 6)) mNil)) ρ μ = .val (.d (.bl true)) μ := by
  unfold mCall mCons
  rw [h, bind_val]
  cases p with
  | blank => kernel_rfl
  | list xs n => cases n <;> kernel_rfl
  | span a b o t n => cases n <;> kernel_rfl
theorem fld_shape1 (p q : Pl) (μ : Mem) : mFld (okF "shape") "shape" (mVar 1) [some (.d (obj p)), some (.d (obj q))] μ = .val (.d (shape q)) μ := by
  cases q with
  | blank => kernel_rfl
  | list xs n => cases n <;> kernel_rfl
  | span a b o t n => cases n <;> kernel_rfl
theorem told_eq (p q : Pl) (μ : Mem) : mf_Told___eq__ [.d (obj p), .d (obj q)] μ = .val (.d (.bl (eqSh p q))) μ :=
  run_ret (ret_eq (andV_eq (c := true) (d := eqSh p q) (isi_told q (var_eq rfl)) fun _ => val_eq (cmp_eq (fld_shape p _ μ) (fld_shape1 p q μ) (eq_shape p q μ))))
/-- how a column head is held against a thing -/
structure CmpO (p : Pl) (x : Dv.D) (r : Bool) : Prop where
  eq : ∀ μ, eqO td___eq__ okT (.d (obj p)) (.d x) μ = .val r μ
  ne : ∀ μ, neO td___eq__ okT (.d (obj p)) (.d x) μ = .val (!r) μ
def rdB (r : R U) : R Bool := r.calm.bind fun u μ2 => (match u with
      | .d (.bl t) => .val t μ2
      | _ => .stuck : R Bool)
theorem cmp_of {p : Pl} {x : Dv.D} {r : Bool} (h : ∀ μ, mf_Told___eq__ [.d (obj p), .d x] μ = .val (.d (.bl r)) μ) (h1 : ∀ μ, eqO td___eq__ okT (.d (obj p)) (.d x) μ = rdB (mf_Told___eq__ [.d (obj p), .d x] μ)) (h2 : ∀ μ, neO td___eq__ okT (.d (obj p)) (.d x) μ = (rdB (mf_Told___eq__ [.d (obj p), .d x] μ)).bind fun t μ2 => .val (!t) μ2) : CmpO p x r :=
  ⟨fun μ => by rw [h1, h]; rfl, fun μ => by rw [h2, h]; rfl⟩
theorem clsN_T (p : Pl) : isT (clsN p) = true := by
  cases p with
  | blank => rfl
  | list xs n => cases n <;> rfl
  | span a b o t n => cases n <;> rfl
theorem td_at (p : Pl) : td___eq__ (clsN p) = some mf_Told___eq__ := by
  show tbOf isT mf_Told___eq__ (clsN p) = _
  unfold tbOf
  rw [clsN_T]
  rfl
theorem eqO_at (p : Pl) {x : Dv.D} {t : String ⊕ Nat} (ht : ∀ μ, tyU μ (.d x) = some t) (hk : okT (clsN p) t = true) (μ : Mem) : eqO td___eq__ okT (.d (obj p)) (.d x) μ = rdB (mf_Told___eq__ [.d (obj p), .d x] μ) := by
  unfold eqO
  rw [ht]
  show (match td___eq__ (clsN p) with | some mf => _ | none => _) = _
  rw [td_at]
  simp only [hk, if_true]
  rfl
theorem neO_at (p : Pl) {x : Dv.D} {t : String ⊕ Nat} (ht : ∀ μ, tyU μ (.d x) = some t) (hk : okT (clsN p) t = true) (μ : Mem) : neO td___eq__ okT (.d (obj p)) (.d x) μ = (rdB (mf_Told___eq__ [.d (obj p), .d x] μ)).bind fun t μ2 => .val (!t) μ2 := by
  unfold neO
  rw [eqO_at p ht hk]
theorem cmp_told (p q : Pl) : CmpO p (obj q) (eqSh p q) := by
  have ht : ∀ μ, tyU μ (.d (obj q)) = some (.inr (clsN q)) := fun μ => rfl
  have hk : okT (clsN p) (.inr (clsN q)) = true := by show (isT (clsN p) && isT (clsN q)) = true; rw [clsN_T, clsN_T]; rfl
  exact cmp_of (told_eq p q) (eqO_at p ht hk) (neO_at p ht hk)
theorem cmp_plain (p : Pl) {x : Dv.D} (hx : x = .non ∨ (∃ xs, x = .tup xs) ∨ (∃ xs, x = .lst xs) ∨ ∃ y, x = .str y) : CmpO p x false := by
  have ok : ∀ n, tys.contains n = true → okT (clsN p) (.inl n) = true := fun n h => by show (isT (clsN p) && tys.contains n) = true; rw [clsN_T, h]; rfl
  have e : ∀ μ, mf_Told___eq__ [.d (obj p), .d x] μ = .val (.d (.bl false)) μ := fun μ =>
    run_ret (ret_eq (andV_eq (c := false) (d := true) (by rcases hx with rfl | ⟨xs, rfl⟩ | ⟨xs, rfl⟩ | ⟨y, rfl⟩ <;> kernel_rfl) fun h => by cases h))
  rcases hx with rfl | ⟨xs, rfl⟩ | ⟨xs, rfl⟩ | ⟨y, rfl⟩
  · exact cmp_of e (eqO_at p (t := .inl "NoneType") (fun _ => rfl) (ok _ (by decide +kernel))) (neO_at p (t := .inl "NoneType") (fun _ => rfl) (ok _ (by decide +kernel)))
  · exact cmp_of e (eqO_at p (t := .inl "tuple") (fun _ => rfl) (ok _ (by decide +kernel))) (neO_at p (t := .inl "tuple") (fun _ => rfl) (ok _ (by decide +kernel)))
  · exact cmp_of e (eqO_at p (t := .inl "list") (fun _ => rfl) (ok _ (by decide +kernel))) (neO_at p (t := .inl "list") (fun _ => rfl) (ok _ (by decide +kernel)))
  · exact cmp_of e (eqO_at p (t := .inl "str") (fun _ => rfl) (ok _ (by decide +kernel))) (neO_at p (t := .inl "str") (fun _ => rfl) (ok _ (by decide +kernel)))
theorem eqSh_refl (p : Pl) : eqSh p p = true := by simp [eqSh]
/-- nothing of some things is like the column head -/
theorem none_like (p : Pl) {i j : Nat} {ma : MD} {ρ : Env} {μ : Mem} {xs : List Dv.D} (hm : ma ρ μ = .val (.d (.lst xs)) μ) (hi : i < ρ.length) (hij : j ≠ i) (ho : ρ[j]? = some (some (.d (obj p)))) (hl : xs.length ≤ 1000) (hx : ∀ x ∈ xs, CmpO p x false) :
    mVal (mCmpB eqU (mLcI itLT ma (gNameE i) (mOrT (mOwn (eqO td___eq__ okT) (mVar j) (mVar i)) (mNotT (mOwn (neO td___eq__ okT) (mVar j) (mVar i)))) (mVar i) [i]) (mLst mNil)) ρ μ = .val (.d (.bl true)) μ := by
  have c := lcI_eq (ma := ma) (i := i) (t := mOrT (mOwn (eqO td___eq__ okT) (mVar j) (mVar i)) (mNotT (mOwn (neO td___eq__ okT) (mVar j) (mVar i)))) (e := mVar i) (ρ := ρ) (μ := μ) (xs := xs) (u := .d (.lst xs)) hm rfl hi (by omega) (fun _ => false) (fun x => x) fun x hx' => ⟨by
    have vj : mVar j ((ρ.set i none).set i (some (.d x))) μ = .val (.d (obj p)) μ := var_eq (by rw [List.getElem?_set_ne (Ne.symm hij), List.getElem?_set_ne (Ne.symm hij)]; exact ho)
    have vi : mVar i ((ρ.set i none).set i (some (.d x))) μ = .val (.d x) μ := var_eq (List.getElem?_set_self (by simpa using hi))
    have o1 : mOwn (eqO td___eq__ okT) (mVar j) (mVar i) ((ρ.set i none).set i (some (.d x))) μ = .val false μ := by
      unfold mOwn
      rw [vj, bind_val, vi, bind_val, (hx x hx').eq]
    have o2 : mOwn (neO td___eq__ okT) (mVar j) (mVar i) ((ρ.set i none).set i (some (.d x))) μ = .val true μ := by
      unfold mOwn
      rw [vj, bind_val, vi, bind_val, (hx x hx').ne]
      rfl
    exact or_eq (d := false) o1 fun _ => not_eq o2, fun h => by cases h⟩
  rw [List.filter_eq_nil_iff.mpr (fun _ _ => by simp)] at c
  exact val_eq (cmp_eq c rfl rfl)
/-! ### repr -/
structure Sm (x : Dv.D) (l : Nat) : Prop where
  ex : ∃ d, pz x = some d ∧ d.showable = true ∧ d.depth ≤ 3 ∧ d.shown.length ≤ l
theorem sm_non : Sm .non 2000 := ⟨.none, rfl, rfl, by decide, by decide⟩
theorem sm_bl (b : Bool) : Sm (.bl b) 2000 := ⟨.bool b, rfl, rfl, Nat.zero_le _, by cases b <;> decide⟩
theorem sm_int {i : Int} (h : -(10 ^ 30) < i ∧ i < 10 ^ 30) : Sm (.int i) 2000 := ⟨.int i, rfl, by simpa [PyData.showable] using log_of h, Nat.zero_le _, by
  have := txt_len h
  simp only [PyData.shown]
  omega⟩
theorem sm_all {l : Nat} : ∀ {xs : List Dv.D}, (∀ x ∈ xs, Sm x l) → ∃ ds, pzL xs = some ds ∧ PyData.showableAll ds = true ∧ PyData.depthAll ds ≤ 3 ∧ (PyData.shownAll ds).length = xs.length ∧ ((PyData.shownAll ds).map (·.length)).sum ≤ xs.length * l
  | [], _ => ⟨[], rfl, rfl, by decide, rfl, by simp [PyData.shownAll]⟩
  | x :: xs, h => by
    obtain ⟨d, h1, h2, h3, h4⟩ := (h x List.mem_cons_self).ex
    obtain ⟨ds, g1, g2, g3, g4, g5⟩ := sm_all fun y hy => h y (List.mem_cons_of_mem _ hy)
    refine ⟨d :: ds, by simp only [pzL, h1, g1, Option.bind_some], by simp only [PyData.showableAll, h2, g2, Bool.and_self], by simp only [PyData.depthAll]; exact Nat.max_le.mpr ⟨h3, g3⟩, by simp only [PyData.shownAll, List.length_cons, g4], ?_⟩
    simp only [PyData.shownAll, List.map_cons, List.sum_cons, List.length_cons, Nat.add_mul, Nat.one_mul]
    omega
theorem sm_up {x : Dv.D} {l m : Nat} (h : Sm x l) (hl : l ≤ m) : Sm x m := let ⟨d, h1, h2, h3, h4⟩ := h.ex; ⟨d, h1, h2, h3, Nat.le_trans h4 hl⟩
theorem repr_lst' {xs : List Dv.D} (h : ∀ x ∈ xs, Sm x 30000) (hl : xs.length ≤ 12) : ∃ y : Str, ∀ μ, reprV μ (.d (.lst xs)) = some (.str y) := by
  obtain ⟨ds, g1, g2, g3, g4, g5⟩ := sm_all h
  refine ⟨listText (PyData.shownAll ds), fun μ => ?_⟩
  have := listText_len_le (PyData.shownAll ds)
  show ((pzL xs).map PyData.list).bind _ = _
  rw [g1, Option.map_some, Option.bind_some]
  simp only [PyData.showable, g2, PyData.depth, PyData.shown]
  rw [if_pos]
  simp only [Bool.true_and, Bool.and_eq_true]
  exact ⟨decide_eq_true (by omega), decide_eq_true (by omega)⟩
theorem repr_tup' {xs : List Dv.D} (h : ∀ x ∈ xs, Sm x 30000) (hl : xs.length ≤ 12) : ∃ y : Str, ∀ μ, reprV μ (.d (.tup xs)) = some (.str y) := by
  obtain ⟨ds, g1, g2, g3, g4, g5⟩ := sm_all h
  refine ⟨tupleText (PyData.shownAll ds), fun μ => ?_⟩
  have := tupleText_len_le (PyData.shownAll ds)
  show ((pzL xs).map PyData.tuple).bind _ = _
  rw [g1, Option.map_some, Option.bind_some]
  simp only [PyData.showable, g2, PyData.depth, PyData.shown]
  rw [if_pos]
  simp only [Bool.true_and, Bool.and_eq_true]
  exact ⟨decide_eq_true (by omega), decide_eq_true (by omega)⟩
theorem sm_tup {xs : List Dv.D} (h : ∀ x ∈ xs, x = .non ∨ ∃ i, x = .int i ∧ -(10 ^ 30) < i ∧ i < 10 ^ 30) (hl : xs.length ≤ 12) : Sm (.tup xs) 30000 := by
  have key : ∀ {ys : List Dv.D}, (∀ x ∈ ys, x = .non ∨ ∃ i, x = .int i ∧ -(10 ^ 30) < i ∧ i < 10 ^ 30) → ∃ ds, pzL ys = some ds ∧ PyData.depthAll ds = 0 := by
    intro ys
    induction ys with
    | nil => exact fun _ => ⟨[], rfl, rfl⟩
    | cons y ys ih =>
      intro h
      obtain ⟨ds, g1, g2⟩ := ih fun x hx => h x (List.mem_cons_of_mem _ hx)
      rcases h y List.mem_cons_self with rfl | ⟨i, rfl, _⟩
      · exact ⟨.none :: ds, by simp only [pzL, pz, g1, Option.bind_some], by simp only [PyData.depthAll, PyData.depth, g2]; rfl⟩
      · exact ⟨.int i :: ds, by simp only [pzL, pz, g1, Option.bind_some], by simp only [PyData.depthAll, PyData.depth, g2]; rfl⟩
  obtain ⟨ds, g1, g2, g3, g4, g5⟩ := sm_all (l := 2000) (xs := xs) fun x hx => by
    rcases h x hx with rfl | ⟨i, rfl, hi⟩
    · exact sm_non
    · exact sm_int hi
  obtain ⟨es, k1, k2⟩ := key h
  rw [g1] at k1
  cases k1
  have := tupleText_len_le (PyData.shownAll ds)
  refine ⟨.tuple ds, by simp only [pz, g1, Option.map_some], by simpa only [PyData.showable] using g2, by simp only [PyData.depth, k2]; decide, by simp only [PyData.shown]; omega⟩
theorem ne_str (μ : Mem) (y : Str) : neU μ (.d (.str y)) (.d (.str y)) = some false := by
  show some (!(decide (V.str y = V.str y))) = _
  simp
end K02
end Dv
namespace Dv
open PySem L2
theorem bin2 {f : Mem → U → U → Option D} {a b : MD} {ρ : Env} {μ μ1 μ2 : Mem} {x y : U} {d : D} (ha : a ρ μ = .val x μ1) (hb : b ρ μ1 = .val y μ2) (hf : f μ2 x y = some d) : mBin f a b ρ μ = .val (.d d) μ2 := by
  unfold mBin
  rw [ha, bind_val, hb, bind_val, hf]
  rfl
theorem cmp2 {f : Mem → U → U → Option Bool} {a b : MD} {ρ : Env} {μ μ1 μ2 : Mem} {x y : U} {d : Bool} (ha : a ρ μ = .val x μ1) (hb : b ρ μ1 = .val y μ2) (hf : f μ2 x y = some d) : mCmpB f a b ρ μ = .val d μ2 := by
  unfold mCmpB
  rw [ha, bind_val, hb, bind_val, hf]
  rfl
theorem call2 {f : Mem → List U → Option D} {ml : ML} {ρ : Env} {μ μ1 : Mem} {us : List U} {d : D} (h : ml ρ μ = .val us μ1) (hf : f μ1 us = some d) : mCall f ml ρ μ = .val (.d d) μ1 := by
  unfold mCall
  rw [h, bind_val, hf]
  rfl
theorem val2 {a : MT} {ρ : Env} {μ μ1 : Mem} {c : Bool} (ha : a ρ μ = .val c μ1) : mVal a ρ μ = .val (.d (.bl c)) μ1 := by
  unfold mVal
  rw [ha]
  rfl
theorem c1b {f : Mem → U → Option D} {a : MD} {ρ : Env} {μ μ1 : Mem} {x : U} {d : D} (ha : a ρ μ = .val x μ1) (hf : f μ1 x = some d) : mCall (one f) (mCons a mNil) ρ μ = .val (.d d) μ1 := call2 (us := [x]) (cons_eq ha rfl) hf
theorem comp_cons {i : Nat} {t : MT} {e : MD} {ρ : Env} {μ μ1 μ2 : Mem} {x : D} {xs acc : List D} {b : Bool} {y : D} {r : R (List D)} (hi : i < ρ.length) (ht : t (ρ.set i (some (.d x))) μ = .val b μ1) (he : b = true → e (ρ.set i (some (.d x))) μ1 = .val (.d y) μ2) (hz : acc.length + 1 ≤ 1000) (h1 : b = true → compL (gNameE i) t e ρ xs μ2 (acc ++ [y]) = r) (h2 : b = false → compL (gNameE i) t e ρ xs μ1 acc = r) : compL (gNameE i) t e ρ (x :: xs) μ acc = r := by
  unfold compL
  have g : gNameE i μ (.d x) ρ = some (ρ.set i (some (.d x))) := by
    unfold gNameE putE
    rw [if_pos hi]
  rw [g]
  simp only [ht, calm_val, bind_val]
  cases b with
  | true =>
    simp only [if_true, he rfl, calm_val, bind_val]
    rw [if_pos (show szD (acc.length + 1) = true from decide_eq_true (by omega))]
    simp only [toD, ofO_some, bind_val]
    exact h1 rfl
  | false => exact h2 rfl
theorem if_next {t : MT} {m : MS} {ρ : Env} {μ μ1 : Mem} (ht : t ρ μ = .val false μ1) : mIf t m mNop ρ μ = .next ρ μ1 := by
  unfold mIf
  rw [ht]
  rfl
theorem if_t {t : MT} {m n : MS} {ρ : Env} {μ μ1 : Mem} {r : RS} (ht : t ρ μ = .val true μ1) (hm : m ρ μ1 = r) : mIf t m n ρ μ = r := by
  unfold mIf
  rw [ht]
  exact hm
theorem or2 {a b : MT} {ρ : Env} {μ μ1 μ2 : Mem} {d : Bool} (ha : a ρ μ = .val false μ1) (hb : b ρ μ1 = .val d μ2) : mOrT a b ρ μ = .val d μ2 := by
  unfold mOrT
  rw [ha, bind_val, if_neg Bool.false_ne_true]
  exact hb
theorem own2 {f : U → U → Mem → R Bool} {a b : MD} {ρ : Env} {μ μ1 μ2 : Mem} {x y : U} {r : R Bool} (ha : a ρ μ = .val x μ1) (hb : b ρ μ1 = .val y μ2) (hf : f x y μ2 = r) : mOwn f a b ρ μ = r := by
  unfold mOwn
  rw [ha, bind_val, hb, bind_val]
  exact hf
theorem par_eq {i j : Nat} {ml : ML} {ρ : Env} {μ μ1 : Mem} {u v : U} (h : ml ρ μ = .val [u, v] μ1) (hi : i < ρ.length) (hj : j < ρ.length) : mPar i j ml ρ μ = .next ((ρ.set i (some u)).set j (some v)) μ1 := by
  unfold mPar putE
  rw [h, of_val]
  simp only [hi, if_true, Option.bind_some, List.length_set, hj]
theorem add_eq {a b : MD} {ρ : Env} {μ μ1 μ2 : Mem} {xs ys : List D} (ha : a ρ μ = .val (.d (.lst xs)) μ1) (hb : b ρ μ1 = .val (.d (.lst ys)) μ2) (hz : xs.length + ys.length ≤ 1000) : mAddC a b ρ μ = .val (.cell μ2.length) (μ2 ++ [some (.lst (xs ++ ys))]) := by
  unfold mAddC
  rw [ha, bind_val, hb, bind_val]
  show (if szD (xs.length + ys.length) = true then _ else _) = _
  rw [if_pos (show szD (xs.length + ys.length) = true from decide_eq_true (by omega))]
theorem app1 {mo : MD} {ml : ML} {ρ : Env} {μ r r' : Mem} {xs : List D} {x : D} (ho : mo ρ (μ ++ some (.lst xs) :: r) = .val (.cell μ.length) (μ ++ some (.lst xs) :: r)) (hl : ml ρ (μ ++ some (.lst xs) :: r) = .val [.d x] (μ ++ some (.lst xs) :: r')) (hz : xs.length + 1 ≤ 1000) : mApp false mo ml ρ (μ ++ some (.lst xs) :: r) = .val (.d .non) (μ ++ some (.lst (xs ++ [x])) :: r') := by
  unfold mApp
  rw [ho, bind_val]
  simp only [cell_at, hl, bind_val, toD, Option.map_some, Bool.false_eq_true, if_false]
  rw [if_pos (show szD (xs.length + [x].length) = true from decide_eq_true (by simp; omega)), mem_set]
theorem frzS_eq {i : Nat} {ρ : Env} {μ r : Mem} {xs : List D} (h : ρ[i]? = some (some (.cell μ.length))) : mFrzS i ρ (μ ++ some (.lst xs) :: r) = .next (ρ.set i (some (.d (.lst xs)))) (μ ++ none :: r) := by
  have hi := (List.getElem?_eq_some_iff.mp h).1
  unfold mFrzS
  rw [h]
  simp only [frzL, cell_at, of_val]
  unfold putE
  rw [if_pos hi, mem_set]
namespace K02
/-! ### the pen, its tail told -/
structure PenT (τ : Mem) (k : Nat) (μ : Mem) : Prop where
  ex : ∃ cs sp re, μ = penM τ cs sp re ∧ 0 ≤ sp ∧ sp ≤ (k : Int) ∧ 0 ≤ re
theorem PenT.up {τ : Mem} {j k : Nat} {μ : Mem} (h : PenT τ j μ) (hj : j ≤ k) : PenT τ k μ := by
  obtain ⟨cs, sp, re, e, h2, h3, h4⟩ := h.ex
  exact ⟨cs, sp, re, e, h2, by omega, h4⟩
theorem PenT.app {τ : Mem} {k : Nat} {μ ν : Mem} (h : PenT τ k μ) : PenT (τ ++ ν) k (μ ++ ν) := by
  obtain ⟨cs, sp, re, rfl, h2⟩ := h.ex
  exact ⟨cs, sp, re, rfl, h2⟩
theorem PenT.no {τ : Mem} {k : Nat} {μ : Mem} (h : PenT τ k μ) (hn : noObj τ = true) : noObj μ = true := by
  obtain ⟨cs, sp, re, rfl, h2⟩ := h.ex
  exact hn
theorem drawT {τ : Mem} {k : Nat} {μ : Mem} {many : Int} (h : PenT τ k μ) (hk : k ≤ 1000) (hm : 0 < many ∧ many < 1000000000000000000000000000000000) : ∃ r μ', mf__law_draw [.cell 0, .d (.int many)] μ = .val (.d (.int r)) μ' ∧ (0 ≤ r ∧ r < many) ∧ PenT τ (k + 1) μ' := by
  obtain ⟨cs, sp, re, rfl, h2, h3, h4⟩ := h.ex
  obtain ⟨r, sp', re', e, hr, hs, he⟩ := draw_ok (kA := 41220) (kB := 866) (kP := 2147483549) (kC := 66168) (kD := 1074) (kQ := 2147483477) (kE := 528) (kF := 72636) (kG := 1152) (kR := 2147483587) (ke := 5) (kf := 3) (kS := 32) (by decide) (by decide) (by decide) (by decide) (by decide) (by decide) (by decide) (by decide) (by decide) (by decide) (by decide) (by decide) (τ := τ) (cs := cs) (sp := sp) (re := re) (many := many) hm (by omega) h4
  exact ⟨r, _, e, hr, ⟨cs, sp', re', rfl, by omega, by omega, he⟩⟩
theorem pickT {τ : Mem} {k : Nat} {μ : Mem} {xs : List Dv.D} (h : PenT τ k μ) (hk : k ≤ 1000) (h0 : xs ≠ []) (hl : xs.length < 1000) : ∃ x μ', mf__law_pick [.cell 0, .d (.lst xs)] μ = .val (.d x) μ' ∧ x ∈ xs ∧ PenT τ (k + 1) μ' := by
  have := List.length_pos_iff.mpr h0
  obtain ⟨r, μ', e, hr, hp⟩ := drawT (many := xs.length) h hk (by omega)
  obtain ⟨x, hx, ex⟩ := atI_mem hr.1 hr.2
  refine ⟨x, μ', run_ret (ret_eq ?_), hx, hp⟩
  unfold mIx mBin
  rw [var_eq (u := .d (.lst xs)) rfl, bind_val, (fn_eq (cons_eq (var_eq (u := .cell 0) rfl) (cons_eq (c1_eq (var_eq (u := .d (.lst xs)) rfl) (len_lst _ _)) rfl))).trans e, bind_val]
  show (ofO μ' (atI xs r)).bind _ = _
  rw [ex]
  rfl
theorem fnT_draw {τ : Mem} {k : Nat} {μ : Mem} {many : Int} {a b : MD} {ρ : Env} (ha : a ρ μ = .val (.cell 0) μ) (hb : b ρ μ = .val (.d (.int many)) μ) (h : PenT τ k μ) (hk : k ≤ 1000) (hm : 0 < many ∧ many < 1000000000000000000000000000000000) : ∃ r μ', mFn mf__law_draw (mCons a (mCons b mNil)) ρ μ = .val (.d (.int r)) μ' ∧ (0 ≤ r ∧ r < many) ∧ PenT τ (k + 1) μ' := by
  obtain ⟨r, μ', e, hr, hp⟩ := drawT h hk hm
  exact ⟨r, μ', (fn_eq (cons_eq ha (cons_eq hb rfl))).trans e, hr, hp⟩
theorem fnT_pick {τ : Mem} {k : Nat} {μ μ1 : Mem} {xs : List Dv.D} {a b : MD} {ρ : Env} (ha : a ρ μ = .val (.cell 0) μ) (hb : b ρ μ = .val (.d (.lst xs)) μ1) (h : PenT τ k μ1) (hk : k ≤ 1000) (h0 : xs ≠ []) (hl : xs.length < 1000) : ∃ x μ', mFn mf__law_pick (mCons a (mCons b mNil)) ρ μ = .val (.d x) μ' ∧ x ∈ xs ∧ PenT τ (k + 1) μ' := by
  obtain ⟨x, μ', e, hx, hp⟩ := pickT h hk h0 hl
  exact ⟨x, μ', (fn_eq (cons_eq ha (cons_eq hb rfl))).trans e, hx, hp⟩
theorem numT {τ : Mem} {k : Nat} {μ : Mem} (h : PenT τ k μ) (hk : k ≤ 900) : ∃ i μ', mf__law_number [.cell 0] μ = .val (.d (.int i)) μ' ∧ (-(10 ^ 29) < i ∧ i < 10 ^ 29) ∧ PenT τ (k + 3) μ' := by
  have el : mLst (mCons (mC (.int 3)) (mCons (mC (.int 10)) (mCons (mC (.int 1000)) (mCons (mBin powD (mC (.int 10)) (mC (.int 29))) mNil)))) [some (.cell 0), none, none] μ = .val (.d (.lst [.int 3, .int 10, .int 1000, .int (10 ^ 29)])) μ :=
    lst_eq (cons_eq rfl (cons_eq rfl (cons_eq rfl (cons_eq (x := .d (.int (10 ^ 29))) (μ1 := μ) (by kernel_rfl) rfl)))) rfl (by simp)
  obtain ⟨x, μ1, e1, hx, p1⟩ := fnT_pick (a := mVar 0) (ρ := [some (.cell 0), none, none]) (var_eq rfl) el h (by omega) (by simp) (by simp)
  obtain ⟨m, rfl, hm⟩ : ∃ m : Int, x = .int m ∧ 0 < m ∧ m ≤ 10 ^ 29 := by
    simp only [List.mem_cons, List.not_mem_nil, or_false] at hx
    rcases hx with rfl | rfl | rfl | rfl <;> exact ⟨_, rfl, by decide⟩
  obtain ⟨r, μ2, e2, hr, p2⟩ := fnT_draw (a := mVar 0) (b := mVar 1) (ρ := [some (.cell 0), some (.d (.int m)), none]) (many := m) (var_eq rfl) (var_eq rfl) p1 (by omega) (by omega)
  let ρ3 : Env := [some (.cell 0), some (.d (.int m)), some (.d (.int r))]
  obtain ⟨d, μ3, e3, hd, p3⟩ := fnT_draw (a := mVar 0) (b := mC (.int 2)) (ρ := ρ3) (many := 2) (var_eq rfl) rfl p2 (by omega) (by omega)
  have t3 : mCmpB eqU (mFn mf__law_draw (mCons (mVar 0) (mCons (mC (.int 2)) mNil))) (mC (.int 0)) ρ3 μ2 = .val (decide (d = 0)) μ3 := cmp2 e3 rfl (eq_int _ _ _)
  have s1 := set_eq (i := 1) e1 (by simp)
  have s2 := set_eq (i := 2) e2 (by simp)
  by_cases h0 : d = 0
  · refine ⟨r, μ3, run_ret (seq_eq s1 (seq_eq s2 (ret_eq (ifE_t (t3.trans (by rw [decide_eq_true h0])) (var_eq rfl))))), by omega, p3⟩
  · refine ⟨0 - r, μ3, run_ret (seq_eq s1 (seq_eq s2 (ret_eq (ifE_f (t3.trans (by rw [decide_eq_false h0])) (bin_eq (x := .d (.int 0)) (y := .d (.int r)) rfl (var_eq rfl) rfl))))), by omega, p3⟩
theorem fnT_num {τ : Mem} {k : Nat} {μ : Mem} {a : MD} {ρ : Env} (ha : a ρ μ = .val (.cell 0) μ) (h : PenT τ k μ) (hk : k ≤ 900) : ∃ i μ', mFn mf__law_number (mCons a mNil) ρ μ = .val (.d (.int i)) μ' ∧ (-(10 ^ 29) < i ∧ i < 10 ^ 29) ∧ PenT τ (k + 3) μ' := by
  obtain ⟨x, μ', e, hx, hp⟩ := numT h hk
  exact ⟨x, μ', (fn_eq (cons_eq ha rfl)).trans e, hx, hp⟩
/-! ### spans -/
def nsp (a b : Int) (o t : Bool) (n : Nu) : Pl := .span a b (o || (decide (a = b) && t)) (t || (decide (a = b) && o)) n
def exS (a b : Int) (o t : Bool) : Mem := [none, some (.lst (sds (endsI a b (o || (decide (a = b) && t)) (t || (decide (a = b) && o)))))]
theorem span_of {μ : Mem} (h : noObj μ = true) (n : Nu) {a b : Int} {o t : Bool} (hab : a ≤ b) : mf__law_span [.d (.str n.s), .d (.int a), .d (.int b), .d (.bl o), .d (.bl t)] μ = .val (.d (obj (nsp a b o t n))) (μ ++ exS a b o t) := by
  have mk := span1 h (ml := mCons (mVar 1) (mCons (mVar 2) (mCons (mVar 3) (mCons (mVar 4) mNil)))) (ρ := [some (.d (.str n.s)), some (.d (.int a)), some (.d (.int b)), some (.d (.bl o)), some (.d (.bl t))]) (sel := selP 5) n (cons_eq (var_eq rfl) (cons_eq (var_eq rfl) (cons_eq (var_eq rfl) (cons_eq (var_eq rfl) rfl)))) rfl hab rfl rfl
  cases n with
  | full => exact run_ret (seq_ret (if_t (by kernel_rfl) (ret_eq mk)))
  | holed => exact run_ret (seq_eq (if_next (μ1 := μ) (by kernel_rfl)) (ret_eq (ifE_t (by kernel_rfl) mk)))
  | opn => exact run_ret (seq_eq (if_next (μ1 := μ) (by kernel_rfl)) (ret_eq (ifE_f (by kernel_rfl) mk)))
theorem bare_of {μ : Mem} (h : noObj μ = true) (n : Nu) {a b : Int} (hab : a ≤ b) : mf__law_bare [.d (.str n.s), .d (.int a), .d (.int b)] μ = .val (.d (obj (nsp a b true true n))) (μ ++ exS a b true true) := by
  have mk := span1 h (ml := mCons (mVar 1) (mCons (mVar 2) mNil)) (ρ := [some (.d (.str n.s)), some (.d (.int a)), some (.d (.int b))]) (sel := ([.inl 0, .inl 1, .inl 2, .inr (.bl true, .bl true, .bool true), .inr (.bl true, .bl true, .bool true)] : Sel)) (o := true) (t := true) n (cons_eq (var_eq rfl) (cons_eq (var_eq rfl) rfl)) rfl hab rfl rfl
  cases n with
  | full => exact run_ret (seq_ret (if_t (by kernel_rfl) (ret_eq mk)))
  | holed => exact run_ret (seq_eq (if_next (μ1 := μ) (by kernel_rfl)) (ret_eq (ifE_t (by kernel_rfl) mk)))
  | opn => exact run_ret (seq_eq (if_next (μ1 := μ) (by kernel_rfl)) (ret_eq (ifE_f (by kernel_rfl) mk)))
theorem named_of {μ : Mem} (h : noObj μ = true) (n : Nu) {a b : Int} {o t : Bool} (hab : a ≤ b) : mf__law_named [.d (.str n.s), .d (.int a), .d (.int b), .d (.bl o), .d (.bl t)] μ = .val (.d (obj (nsp a b o t n))) (μ ++ exS a b o t) := by
  cases n with
  | full => exact run_ret (seq_ret (if_t (by kernel_rfl) (ret_eq (span1 h .full (cons_eq (var_eq rfl) (cons_eq (var_eq rfl) (cons_eq (var_eq rfl) (cons_eq (var_eq rfl) rfl)))) rfl hab rfl rfl))))
  | holed => exact run_ret (seq_eq (if_next (μ1 := μ) (by kernel_rfl)) (seq_ret (if_t (by kernel_rfl) (ret_eq (span1 h .holed (cons_eq (var_eq rfl) (cons_eq (var_eq rfl) (cons_eq (var_eq rfl) (cons_eq (var_eq rfl) rfl)))) rfl hab rfl rfl)))))
  | opn => exact run_ret (seq_eq (if_next (μ1 := μ) (by kernel_rfl)) (seq_eq (if_next (μ1 := μ) (by kernel_rfl)) (ret_eq (span1 h .opn (cons_eq (var_eq rfl) (cons_eq (var_eq rfl) (cons_eq (var_eq rfl) (cons_eq (var_eq rfl) rfl)))) rfl hab rfl rfl))))
end K02
end Dv
namespace Dv
open PySem L2
theorem lcI2 {ma : MD} {i : Nat} {t : MT} {e : MD} {ρ : Env} {μ μ1 μ2 : Mem} {u : U} {xs acc : List D} (h : ma ρ μ = .val u μ1) (hr : itLT u = some xs) (hc : compL (gNameE i) t e (ρ.set i none) xs μ1 [] = .val acc μ2) : mLcI itLT ma (gNameE i) t e [i] ρ μ = .val (.d (.lst acc)) μ2 := by
  unfold mLcI
  rw [h, bind_val, hr]
  show (compL (gNameE i) t e (ρ.set i none) xs μ1 []).bind _ = _
  rw [hc]
  rfl
namespace K02
theorem nu_ne {n m : Nu} (h : n ≠ m) : (n.s == m.s) = false := by
  cases n <;> cases m <;> first | exact absurd rfl h | decide +kernel
theorem un_nu {a b a' b' : Int} {o t o' t' : Bool} {n m : Nu} (h : n ≠ m) : eqSh (nsp a b o t n) (nsp a' b' o' t' m) = false := by
  unfold eqSh
  rw [show (nS (nsp a b o t n) == nS (nsp a' b' o' t' m)) = false from nu_ne h, Bool.false_and]
theorem un_lo {a b a' b' : Int} {o t o' t' : Bool} {n m : Nu} (h : a ≠ a') : eqSh (nsp a b o t n) (nsp a' b' o' t' m) = false := by
  unfold eqSh
  rw [show decide (lo (nsp a b o t n) = lo (nsp a' b' o' t' m)) = false from decide_eq_false (fun e => h (by injection e)), Bool.false_and, Bool.and_false]
theorem un_hi {a b a' b' : Int} {o t o' t' : Bool} {n m : Nu} (h : b ≠ b') : eqSh (nsp a b o t n) (nsp a' b' o' t' m) = false := by
  unfold eqSh
  rw [show decide (hi (nsp a b o t n) = hi (nsp a' b' o' t' m)) = false from decide_eq_false (fun e => h (by injection e)), Bool.false_and, Bool.and_false, Bool.and_false]
theorem nu_bl (n : Nu) : (n.s == ("blank" : Str)) = false := by cases n <;> decide +kernel
theorem un_bl {a b : Int} {o t : Bool} {n : Nu} : eqSh (nsp a b o t n) .blank = false := by
  unfold eqSh
  rw [show (nS (nsp a b o t n) == nS .blank) = false from nu_bl n, Bool.false_and]
theorem eqSh_sp (a b : Int) (o t o' t' : Bool) (n : Nu) : eqSh (.span a b o t n) (.span a b o' t' n) = decide (endsI a b o t = endsI a b o' t') := by
  unfold eqSh
  show (n.s == n.s && (decide (some a = some a) && (decide (some b = some b) && (decide ((none : Option (List (Option Int))) = none) && decide (endsI a b o t ++ nul (n == .holed) = endsI a b o' t' ++ nul (n == .holed)))))) = _
  simp only [beq_self_eq_true, decide_true, Bool.true_and]
  exact decide_eq_decide.mpr ⟨fun h => List.append_cancel_right h, fun h => by rw [h]⟩
theorem nsp_lt {a b : Int} (h : a < b) (o t : Bool) (n : Nu) : nsp a b o t n = .span a b o t n := by
  unfold nsp
  rw [decide_eq_false (by omega), Bool.false_and, Bool.false_and, Bool.or_false, Bool.or_false]
theorem un_t {a b : Int} (h : a < b) (o t : Bool) (n : Nu) : eqSh (nsp a b o t n) (nsp a b o (!t) n) = false := by
  rw [nsp_lt h, nsp_lt h, eqSh_sp]
  refine decide_eq_false fun e => ?_
  have z := congrArg List.length e
  cases o <;> cases t <;> simp [endsI, h] at z
theorem un_o {a b : Int} (h : a < b) (o t : Bool) (n : Nu) : eqSh (nsp a b o t n) (nsp a b (!o) t n) = false := by
  rw [nsp_lt h, nsp_lt h, eqSh_sp]
  refine decide_eq_false fun e => ?_
  have z := congrArg List.length e
  cases o <;> cases t <;> simp [endsI, h] at z
/-! ### calls -/
theorem sp_call {ρ : Env} {μ : Mem} {m1 m2 m3 m4 m5 : MD} {n : Nu} {a b : Int} {o t : Bool} (h1 : m1 ρ μ = .val (.d (.str n.s)) μ) (h2 : m2 ρ μ = .val (.d (.int a)) μ) (h3 : m3 ρ μ = .val (.d (.int b)) μ) (h4 : m4 ρ μ = .val (.d (.bl o)) μ) (h5 : m5 ρ μ = .val (.d (.bl t)) μ) (hn : noObj μ = true) (hab : a ≤ b) :
    mFn mf__law_span (mCons m1 (mCons m2 (mCons m3 (mCons m4 (mCons m5 mNil))))) ρ μ = .val (.d (obj (nsp a b o t n))) (μ ++ exS a b o t) :=
  (fn_eq (cons_eq h1 (cons_eq h2 (cons_eq h3 (cons_eq h4 (cons_eq h5 rfl)))))).trans (span_of hn n hab)
theorem app_sp {ρ : Env} {μ r : Mem} {mo m1 m2 m3 m4 m5 : MD} {xs : List Dv.D} {n : Nu} {a b : Int} {o t : Bool} (ho : mo ρ (μ ++ some (.lst xs) :: r) = .val (.cell μ.length) (μ ++ some (.lst xs) :: r)) (h1 : ∀ μ, m1 ρ μ = .val (.d (.str n.s)) μ) (h2 : ∀ μ, m2 ρ μ = .val (.d (.int a)) μ) (h3 : ∀ μ, m3 ρ μ = .val (.d (.int b)) μ) (h4 : ∀ μ, m4 ρ μ = .val (.d (.bl o)) μ) (h5 : ∀ μ, m5 ρ μ = .val (.d (.bl t)) μ) (hm : noObj μ = true) (hn : noObj r = true) (hab : a ≤ b) (hz : xs.length + 1 ≤ 1000) :
    mExp (mApp false mo (mCons (mFn mf__law_span (mCons m1 (mCons m2 (mCons m3 (mCons m4 (mCons m5 mNil)))))) mNil)) ρ (μ ++ some (.lst xs) :: r) = .next ρ (μ ++ some (.lst (xs ++ [obj (nsp a b o t n)])) :: (r ++ exS a b o t)) := by
  refine exp_eq (app1 ho (cons_eq ((sp_call (h1 _) (h2 _) (h3 _) (h4 _) (h5 _) ?_ hab).trans ?_) rfl) hz)
  · rw [noObj_app, hm]
    exact hn
  · rw [List.append_assoc]
    rfl
def oth : Nu → Nu × Nu
  | .full => (.holed, .opn)
  | .holed => (.full, .opn)
  | .opn => (.full, .holed)
theorem oth_ne (n : Nu) : n ≠ (oth n).1 ∧ n ≠ (oth n).2 := by cases n <;> decide
theorem unlike1 {μ : Mem} (h : noObj μ = true) (n : Nu) {a b : Int} {o t : Bool} (hab : a ≤ b) : ∃ xs ν, mf__law_unlike [.d (.str n.s), .d (.lst [.int a, .int b]), .d (.lst [.bl o, .bl t])] μ = .val (.d (.lst xs)) (μ ++ ν) ∧ noObj ν = true ∧ xs.length ≤ 20 ∧ ∀ x ∈ xs, CmpO (nsp a b o t n) x false := by
  let E (w f : Option U) : Env := [some (.d (.str n.s)), some (.d (.lst [.int a, .int b])), some (.d (.lst [.bl o, .bl t])), w, f, none]
  let W : Option U := some (.d (.lst [.str (oth n).1.s, .str (oth n).2.s]))
  have s1 : mSet 3 (mLcI itLT (mLst (mCons (mC (.str "full")) (mCons (mC (.str "holed")) (mCons (mC (.str "open")) mNil)))) (gNameE 5) (mCmpB neU (mVar 5) (mVar 0)) (mVar 5) [5]) (E none none) μ = .next (E W none) μ := by cases n <;> kernel_rfl
  let P1 := nsp a b o t (oth n).1
  let P2 := nsp a b o t (oth n).2
  let μ1 : Mem := μ ++ exS a b o t
  have n1 : noObj μ1 = true := by rw [noObj_app, h]; rfl
  let μ2 : Mem := μ1 ++ exS a b o t
  have n2 : noObj μ2 = true := by rw [noObj_app, n1]; rfl
  let e5 : MD := mFn mf__law_span (mCons (mVar 5) (mCons (mIx (mVar 1) (mC (.int 0))) (mCons (mIx (mVar 1) (mC (.int 1))) (mCons (mIx (mVar 2) (mC (.int 0))) (mCons (mIx (mVar 2) (mC (.int 1))) mNil)))))
  have k1 : ∀ (m : Nu) (μ : Mem), noObj μ = true → e5 (((E W none).set 5 none).set 5 (some (.d (.str m.s)))) μ = .val (.d (obj (nsp a b o t m))) (μ ++ exS a b o t) := fun m μ hn => sp_call (var_eq rfl) (by kernel_rfl) (by kernel_rfl) (by kernel_rfl) (by kernel_rfl) hn hab
  have s2 : mSet 4 (mLcI itLT (mVar 3) (gNameE 5) mYes e5 [5]) (E W none) μ = .next (E W (some (.d (.lst [obj P1, obj P2])))) μ2 :=
    set_eq (lcI2 (u := .d (.lst [.str (oth n).1.s, .str (oth n).2.s])) (var_eq rfl) rfl (comp_cons (b := true) (μ1 := μ) (by simp [E]) rfl (fun _ => k1 _ μ h) (by simp) (fun _ => comp_cons (b := true) (μ1 := μ1) (by simp [E]) rfl (fun _ => k1 _ μ1 n1) (by simp) (fun _ => rfl) (by simp)) (by simp))) (by simp [E])
  let ρ2 : Env := E W (some (.d (.lst [obj P1, obj P2])))
  let P3 := nsp (a - 1) b o t n
  let μ3 : Mem := μ2 ++ exS (a - 1) b o t ++ [none]
  have n3 : noObj μ3 = true := by rw [noObj_app, noObj_app, n2]; rfl
  have l3 : mLst (mCons (mFn mf__law_span (mCons (mVar 0) (mCons (mBin subD (mIx (mVar 1) (mC (.int 0))) (mC (.int 1))) (mCons (mIx (mVar 1) (mC (.int 1))) (mCons (mIx (mVar 2) (mC (.int 0))) (mCons (mIx (mVar 2) (mC (.int 1))) mNil)))))) (mCons (mC .non) (mCons (mCall (one tupD) (mCons (mVar 1) mNil)) (mCons (mMk 18 true mf_Blank___init__ (selP 1) mNil) mNil)))) ρ2 μ2 = .val (.d (.lst [obj P3, .non, .tup [.int a, .int b], obj .blank])) μ3 :=
    lst_eq (cons_eq (sp_call (a := a - 1) (var_eq rfl) (by kernel_rfl) (by kernel_rfl) (by kernel_rfl) (by kernel_rfl) n2 (by omega)) (cons_eq rfl (cons_eq (c1_eq (x := .d (.lst [.int a, .int b])) (d := .tup [.int a, .int b]) (var_eq rfl) rfl) (cons_eq (blank1 (by rw [noObj_app, n2]; rfl) _) rfl)))) rfl (by simp)
  let xs3 : List Dv.D := [obj P1, obj P2] ++ [obj P3, .non, .tup [.int a, .int b], obj .blank]
  have s3 := set_eq (i := 4) (add_eq (xs := [obj P1, obj P2]) (a := mVar 4) (var_eq (ρ := ρ2) rfl) l3 (by simp)) (by simp [ρ2, E])
  let ρ3 : Env := E W (some (.cell μ3.length))
  let P4 := nsp a (b + 1) o t n
  have s4 := app_sp (ρ := ρ3) (μ := μ3) (r := []) (mo := mVar 4) (m1 := mVar 0) (m2 := mIx (mVar 1) (mC (.int 0))) (m3 := mBin addD (mIx (mVar 1) (mC (.int 1))) (mC (.int 1))) (m4 := mIx (mVar 2) (mC (.int 0))) (m5 := mIx (mVar 2) (mC (.int 1))) (xs := xs3) (n := n) (a := a) (b := b + 1) (o := o) (t := t) (var_eq rfl) (fun _ => var_eq rfl) (fun _ => by kernel_rfl) (fun _ => by kernel_rfl) (fun _ => by kernel_rfl) (fun _ => by kernel_rfl) n3 rfl (by omega) (by simp [xs3])
  have c1 : CmpO (nsp a b o t n) (obj P1) false := by have z := cmp_told (nsp a b o t n) P1; rw [un_nu (oth_ne n).1] at z; exact z
  have c2 : CmpO (nsp a b o t n) (obj P2) false := by have z := cmp_told (nsp a b o t n) P2; rw [un_nu (oth_ne n).2] at z; exact z
  have c3 : CmpO (nsp a b o t n) (obj P3) false := by have z := cmp_told (nsp a b o t n) P3; rw [un_lo (by omega)] at z; exact z
  have c4 : CmpO (nsp a b o t n) (obj P4) false := by have z := cmp_told (nsp a b o t n) P4; rw [un_hi (by omega)] at z; exact z
  have c5 : CmpO (nsp a b o t n) (obj .blank) false := by have z := cmp_told (nsp a b o t n) .blank; rw [un_bl] at z; exact z
  have all : ∀ x ∈ xs3 ++ [obj P4], CmpO (nsp a b o t n) x false := fun x hx => by
    simp only [xs3, List.mem_append, List.mem_cons, List.not_mem_nil, or_false] at hx
    rcases hx with ((rfl | rfl) | rfl | rfl | rfl | rfl) | rfl
    · exact c1
    · exact c2
    · exact c3
    · exact cmp_plain _ (.inl rfl)
    · exact cmp_plain _ (.inr (.inl ⟨_, rfl⟩))
    · exact c5
    · exact c4
  have ap : ∀ (r : Mem), (μ ++ (exS a b o t ++ exS a b o t ++ exS (a - 1) b o t ++ [none] ++ none :: r)) = μ3 ++ none :: r := fun r => by simp [μ3, μ2, μ1]
  have tst : mCmpB (ltB fun i j => decide (i < j)) (mIx (mVar 1) (mC (.int 0))) (mIx (mVar 1) (mC (.int 1))) ρ3 (μ3 ++ some (.lst (xs3 ++ [obj P4])) :: ([] ++ exS a (b + 1) o t)) = .val (decide (a < b)) (μ3 ++ some (.lst (xs3 ++ [obj P4])) :: ([] ++ exS a (b + 1) o t)) := cmp_eq (x := .d (.int a)) (y := .d (.int b)) (by kernel_rfl) (by kernel_rfl) rfl
  by_cases hlt : a < b
  · rw [decide_eq_true hlt] at tst
    have t1 := app_sp (ρ := ρ3) (μ := μ3) (r := [] ++ exS a (b + 1) o t) (mo := mVar 4) (m1 := mVar 0) (m2 := mIx (mVar 1) (mC (.int 0))) (m3 := mIx (mVar 1) (mC (.int 1))) (m4 := mIx (mVar 2) (mC (.int 0))) (m5 := mNotV (mIx (mVar 2) (mC (.int 1)))) (xs := xs3 ++ [obj P4]) (n := n) (a := a) (b := b) (o := o) (t := !t) (var_eq rfl) (fun _ => var_eq rfl) (fun _ => by kernel_rfl) (fun _ => by kernel_rfl) (fun _ => by kernel_rfl) (fun _ => by kernel_rfl) n3 rfl hab (by simp [xs3])
    have t2 := app_sp (ρ := ρ3) (μ := μ3) (r := [] ++ exS a (b + 1) o t ++ exS a b o (!t)) (mo := mVar 4) (m1 := mVar 0) (m2 := mIx (mVar 1) (mC (.int 0))) (m3 := mIx (mVar 1) (mC (.int 1))) (m4 := mNotV (mIx (mVar 2) (mC (.int 0)))) (m5 := mIx (mVar 2) (mC (.int 1))) (xs := xs3 ++ [obj P4] ++ [obj (nsp a b o (!t) n)]) (n := n) (a := a) (b := b) (o := !o) (t := t) (var_eq rfl) (fun _ => var_eq rfl) (fun _ => by kernel_rfl) (fun _ => by kernel_rfl) (fun _ => by kernel_rfl) (fun _ => by kernel_rfl) n3 rfl hab (by simp [xs3])
    have fz := frzS_eq (i := 4) (ρ := ρ3) (μ := μ3) (r := [] ++ exS a (b + 1) o t ++ exS a b o (!t) ++ exS a b (!o) t) (xs := xs3 ++ [obj P4] ++ [obj (nsp a b o (!t) n)] ++ [obj (nsp a b (!o) t n)]) rfl
    refine ⟨_, _, run_ret (seq_eq s1 (seq_eq s2 (seq_eq s3 (seq_eq s4 (seq_eq (seq_eq (if_t tst (seq_eq t1 t2)) fz) (ret_eq (var_eq rfl))))))) |>.trans (by rw [← ap]), rfl, by simp [xs3], fun x hx => ?_⟩
    rcases List.mem_append.mp hx with hx | hx
    · rcases List.mem_append.mp hx with hx | hx
      · exact all x hx
      · simp only [List.mem_cons, List.not_mem_nil, or_false] at hx
        subst hx
        have z := cmp_told (nsp a b o t n) (nsp a b o (!t) n)
        rw [un_t hlt] at z
        exact z
    · simp only [List.mem_cons, List.not_mem_nil, or_false] at hx
      subst hx
      have z := cmp_told (nsp a b o t n) (nsp a b (!o) t n)
      rw [un_o hlt] at z
      exact z
  · rw [decide_eq_false hlt] at tst
    have fz := frzS_eq (i := 4) (ρ := ρ3) (μ := μ3) (r := [] ++ exS a (b + 1) o t) (xs := xs3 ++ [obj P4]) rfl
    exact ⟨_, _, run_ret (seq_eq s1 (seq_eq s2 (seq_eq s3 (seq_eq s4 (seq_eq (seq_eq (if_next tst) fz) (ret_eq (var_eq rfl))))))) |>.trans (by rw [← ap]), rfl, by simp [xs3], all⟩
end K02
end Dv
namespace Dv
open PySem L2
theorem add_lst' {μ : Mem} {xs ys : List D} (h : xs.length + ys.length ≤ 1000) : addD μ (.d (.lst xs)) (.d (.lst ys)) = some (.lst (xs ++ ys)) := by
  show (if szD (xs.length + ys.length) = true then _ else _) = _
  rw [if_pos (show szD (xs.length + ys.length) = true from decide_eq_true (by omega))]
theorem srt2 (i j : Int) : srt [i, j] = [min i j, max i j] := by
  refine le_unique (srt_le _) ?_ ((srt_perm [i, j]).trans ?_)
  · simp only [List.pairwise_cons, List.mem_singleton, List.not_mem_nil, false_implies, implies_true, List.Pairwise.nil, and_true]
    intro a ha
    subst ha
    omega
  · by_cases h : i ≤ j
    · rw [Int.min_eq_left h, Int.max_eq_right h]
    · rw [Int.min_eq_right (by omega), Int.max_eq_left (by omega)]
      exact List.Perm.swap _ _ _
theorem in_bl (μ : Mem) (o t : Bool) : inU false μ (.d (.bl true)) (.d (.lst [.bl o, .bl t])) = some (o || t) := by cases o <;> cases t <;> kernel_rfl
theorem eq_bl2 (μ : Mem) (o t : Bool) : eqU μ (.d (.lst [.bl o, .bl t])) (.d (.lst [.bl true, .bl true])) = some (o && t) := by cases o <;> cases t <;> kernel_rfl
theorem ne_bl (μ : Mem) (a : Bool) : neU μ (.d (.bl a)) (.d (.bl a)) = some false := by cases a <;> kernel_rfl
namespace K02
theorem bare_eq {a b : Int} (hab : a ≤ b) (o t : Bool) (n : Nu) : eqSh (nsp a b true true n) (nsp a b o t n) = ((o || (decide (a = b) && t)) && (t || (decide (a = b) && o))) := by
  unfold nsp
  rw [Bool.true_or, eqSh_sp]
  by_cases h : a = b
  · subst h
    cases o <;> cases t <;> simp [endsI]
  · have hlt : a < b := by omega
    rw [decide_eq_false h, Bool.false_and, Bool.false_and, Bool.or_false, Bool.or_false]
    cases o <;> cases t <;> simp [endsI, hlt]
theorem fld_low (p : Pl) {i : Nat} {ρ : Env} {μ : Mem} (h : ρ[i]? = some (some (.d (obj p)))) : mFld (okF "low") "low" (mVar i) ρ μ = .val (.d (sd (lo p))) μ := by
  unfold mFld
  rw [var_eq h, bind_val]
  cases p with
  | blank => kernel_rfl
  | list xs n => cases n <;> kernel_rfl
  | span a b o t n => cases n <;> kernel_rfl
theorem fld_high (p : Pl) {i : Nat} {ρ : Env} {μ : Mem} (h : ρ[i]? = some (some (.d (obj p)))) : mFld (okF "high") "high" (mVar i) ρ μ = .val (.d (sd (hi p))) μ := by
  unfold mFld
  rw [var_eq h, bind_val]
  cases p with
  | blank => kernel_rfl
  | list xs n => cases n <;> kernel_rfl
  | span a b o t n => cases n <;> kernel_rfl
theorem fld_lr {a b : Int} {o t : Bool} {n : Nu} {i : Nat} {ρ : Env} {μ : Mem} (h : ρ[i]? = some (some (.d (obj (.span a b o t n))))) : mFld (okF "low_reached") "low_reached" (mVar i) ρ μ = .val (.d (.bl o)) μ := by
  unfold mFld
  rw [var_eq h, bind_val]
  cases n <;> kernel_rfl
theorem fld_hr {a b : Int} {o t : Bool} {n : Nu} {i : Nat} {ρ : Env} {μ : Mem} (h : ρ[i]? = some (some (.d (obj (.span a b o t n))))) : mFld (okF "high_reached") "high_reached" (mVar i) ρ μ = .val (.d (.bl t)) μ := by
  unfold mFld
  rw [var_eq h, bind_val]
  cases n <;> kernel_rfl
theorem stands1 (a b : Int) (o t : Bool) (n : Nu) (μ : Mem) : mf__law_stands [.d (obj (.span a b o t n)), .d (.str n.s), .d (.bl true)] μ = .val (.d (.bl true)) μ := by cases n <;> kernel_rfl
theorem nu3 {x : Dv.D} (h : x ∈ ([.str "full", .str "holed", .str "open"] : List Dv.D)) : ∃ n : Nu, x = .str n.s := by
  simp only [List.mem_cons, List.not_mem_nil, or_false] at h
  rcases h with rfl | rfl | rfl
  · exact ⟨.full, rfl⟩
  · exact ⟨.holed, rfl⟩
  · exact ⟨.opn, rfl⟩
theorem rep1 (μ : Mem) (x : Dv.D) (b : Bool) : repD μ (.d (.lst [x])) (.d (.int (if b = true then 1 else 0))) = some (.lst (if b then [x] else [])) := by cases b <;> rfl
theorem span_right {τ : Mem} {k : Nat} {μ : Mem} (h : PenT τ k μ) (hn : noObj τ = true) (hk : k ≤ 800) : ∃ τ' μ', mf__law_span_right [.cell 0] μ = .val (.d (.bl true)) μ' ∧ noObj τ' = true ∧ PenT τ' (k + 12) μ' := by
  let E (x1 x2 x3 x4 x5 x6 x7 x8 x9 x10 : Option U) : Env := [some (.cell 0), x1, x2, x3, x4, x5, x6, x7, x8, x9, x10, none]
  obtain ⟨x, μ1, e1, hx, p1⟩ := fnT_pick (a := mVar 0) (b := mLst (mCons (mC (.str "full")) (mCons (mC (.str "holed")) (mCons (mC (.str "open")) mNil)))) (ρ := E none none none none none none none none none none) (xs := [.str "full", .str "holed", .str "open"]) (var_eq rfl) (by kernel_rfl) h (by omega) (by simp) (by simp)
  obtain ⟨n, rfl⟩ := nu3 hx
  obtain ⟨i, μ2, e2, hi, p2⟩ := fnT_num (a := mVar 0) (ρ := E none none none none none none none none none none) (var_eq rfl) p1 (by omega)
  have s1 := par_eq (i := 7) (j := 8) (cons_eq e1 (cons_eq (r := mNil) e2 rfl)) (by simp [E]) (by simp [E])
  let N : Option U := some (.d (.str n.s))
  let I : Option U := some (.d (.int i))
  let ρ1 : Env := E none none none none none none N I none none
  obtain ⟨i2, μ3, e3, hi2, p3⟩ := fnT_num (a := mVar 0) (ρ := ρ1) (var_eq rfl) p2 (by omega)
  have el : mLst (mCons (mVar 8) (mCons (mBin addD (mVar 8) (mC (.int 1))) (mCons (mFn mf__law_number (mCons (mVar 0) mNil)) mNil))) ρ1 μ2 = .val (.d (.lst [.int i, .int (i + 1), .int i2])) μ3 := lst_eq (cons_eq (var_eq rfl) (cons_eq (x := .d (.int (i + 1))) (μ1 := μ2) (by kernel_rfl) (cons_eq e3 rfl))) rfl (by simp)
  obtain ⟨y, μ4, e4, hy, p4⟩ := fnT_pick (a := mVar 0) (ρ := ρ1) (var_eq rfl) el p3 (by omega) (by simp) (by simp)
  obtain ⟨j, rfl, hj⟩ : ∃ j : Int, y = .int j ∧ -(10 ^ 29) < j ∧ j ≤ 10 ^ 29 := by
    simp only [List.mem_cons, List.not_mem_nil, or_false] at hy
    rcases hy with rfl | rfl | rfl <;> exact ⟨_, rfl, by omega⟩
  obtain ⟨a, ha⟩ : ∃ a, a = min i j := ⟨_, rfl⟩
  obtain ⟨b, hb⟩ : ∃ b, b = max i j := ⟨_, rfl⟩
  have hab : a ≤ b := by omega
  have ba : -(10 ^ 30) < a ∧ a < 10 ^ 30 := by omega
  have bb : -(10 ^ 30) < b ∧ b < 10 ^ 30 := by omega
  have s2 : mSet 1 (mCall (one sortedD) (mCons (mLst (mCons (mCall (one intD) (mCons (mVar 8) mNil)) (mCons (mCall (one intD) (mCons (mFn mf__law_pick (mCons (mVar 0) (mCons (mLst (mCons (mVar 8) (mCons (mBin addD (mVar 8) (mC (.int 1))) (mCons (mFn mf__law_number (mCons (mVar 0) mNil)) mNil)))) mNil))) mNil)) mNil))) mNil)) ρ1 μ2 = .next (E (some (.d (.lst [.int a, .int b]))) none none none none none N I none none) μ4 := by
    refine set_eq (c1b (x := .d (.lst [.int i, .int j])) (lst_eq (cons_eq (c1b (x := .d (.int i)) (d := .int i) (var_eq rfl) rfl) (cons_eq (c1b (d := .int j) e4 rfl) rfl)) rfl (by simp)) ?_) (by simp [ρ1, E])
    show some (Dv.D.lst ((srt [i, j]).map .int)) = _
    rw [srt2, ← ha, ← hb]
    rfl
  let A : Option U := some (.d (.lst [.int a, .int b]))
  let ρ2 : Env := E A none none none none none N I none none
  obtain ⟨d1, μ5, e5, _, p5⟩ := fnT_draw (a := mVar 0) (b := mC (.int 2)) (ρ := ρ2) (many := 2) (var_eq rfl) rfl p4 (by omega) (by omega)
  obtain ⟨d2, μ6, e6, _, p6⟩ := fnT_draw (a := mVar 0) (b := mC (.int 2)) (ρ := ρ2) (many := 2) (var_eq rfl) rfl p5 (by omega) (by omega)
  obtain ⟨o, ho⟩ : ∃ o, o = decide (d1 = 0) := ⟨_, rfl⟩
  obtain ⟨t, ht⟩ : ∃ t, t = decide (d2 = 0) := ⟨_, rfl⟩
  have s3 : mSet 2 (mLst (mCons (mVal (mCmpB eqU (mFn mf__law_draw (mCons (mVar 0) (mCons (mC (.int 2)) mNil))) (mC (.int 0)))) (mCons (mVal (mCmpB eqU (mFn mf__law_draw (mCons (mVar 0) (mCons (mC (.int 2)) mNil))) (mC (.int 0)))) mNil))) ρ2 μ4 = .next (E A (some (.d (.lst [.bl o, .bl t]))) none none none none N I none none) μ6 :=
    set_eq (lst_eq (cons_eq (val2 (cmp2 e5 rfl (eq_int _ _ _))) (cons_eq (val2 (cmp2 e6 rfl (eq_int _ _ _))) rfl)) (by rw [← ho, ← ht]; rfl) (by simp)) (by simp [ρ2, E])
  let F : Option U := some (.d (.lst [.bl o, .bl t]))
  let ρ3 : Env := E A F none none none none N I none none
  have no6 : noObj μ6 = true := p6.no hn
  let p : Pl := nsp a b o t n
  let T : Option U := some (.d (obj p))
  let μ7 : Mem := μ6 ++ exS a b o t
  have no7 : noObj μ7 = true := by rw [noObj_app, no6]; rfl
  have s4 : mSet 3 (mFn mf__law_span (mCons (mVar 7) (mCons (mIx (mVar 1) (mC (.int 0))) (mCons (mIx (mVar 1) (mC (.int 1))) (mCons (mIx (mVar 2) (mC (.int 0))) (mCons (mIx (mVar 2) (mC (.int 1))) mNil)))))) ρ3 μ6 = .next (E A F T none none none N I none none) μ7 :=
    set_eq (sp_call (var_eq rfl) (by kernel_rfl) (by kernel_rfl) (by kernel_rfl) (by kernel_rfl) no6 hab) (by simp [ρ3, E])
  let ρ4 : Env := E A F T none none none N I none none
  let μ8 : Mem := μ7 ++ exS a b o t
  have no8 : noObj μ8 = true := by rw [noObj_app, no7]; rfl
  have nm : mFn mf__law_named (mCons (mVar 7) (mCons (mIx (mVar 1) (mC (.int 0))) (mCons (mIx (mVar 1) (mC (.int 1))) (mCons (mIx (mVar 2) (mC (.int 0))) (mCons (mIx (mVar 2) (mC (.int 1))) mNil))))) ρ4 μ7 = .val (.d (obj p)) μ8 :=
    (fn_eq (cons_eq (var_eq rfl) (cons_eq (x := .d (.int a)) (μ1 := μ7) (by kernel_rfl) (cons_eq (x := .d (.int b)) (μ1 := μ7) (by kernel_rfl) (cons_eq (x := .d (.bl o)) (μ1 := μ7) (by kernel_rfl) (cons_eq (x := .d (.bl t)) (μ1 := μ7) (by kernel_rfl) rfl)))))).trans (named_of no7 n hab)
  have s5 := par_eq (i := 9) (j := 10) (cons_eq nm (cons_eq (r := mNil) (c1_eq (x := .d (.lst [.bl o, .bl t])) (d := .lst [.bl o, .bl t]) (f := listD) (a := mVar 2) (μ := μ8) (var_eq (ρ := ρ4) rfl) rfl) rfl)) (by simp [ρ4, E]) (by simp [ρ4, E])
  let O : Bool := o || (decide (a = b) && t)
  let T' : Bool := t || (decide (a = b) && o)
  let ρ5 : Env := E A F T none none none N I T (some (.d (.lst [.bl o, .bl t])))
  let DU : Option U := some (.d (.lst [.bl O, .bl T']))
  let ρ6 : Env := E A F T none none none N I T DU
  have s6 : mIf (mCmpB eqU (mIx (mVar 1) (mC (.int 0))) (mIx (mVar 1) (mC (.int 1)))) (mSet 10 (mLst (mCons (mVal (mCmpB (inU false) (mC (.bl true)) (mVar 2))) (mCons (mVal (mCmpB (inU false) (mC (.bl true)) (mVar 2))) mNil)))) mNop ρ5 μ8 = .next ρ6 μ8 := by
    have tt : mCmpB eqU (mIx (mVar 1) (mC (.int 0))) (mIx (mVar 1) (mC (.int 1))) ρ5 μ8 = .val (decide (a = b)) μ8 := cmp_eq (x := .d (.int a)) (y := .d (.int b)) (by kernel_rfl) (by kernel_rfl) (eq_int _ _ _)
    by_cases hq : a = b
    · rw [decide_eq_true hq] at tt
      refine if_t tt ((set_eq (lst_eq (cons_eq (val_eq (cmp_eq (x := .d (.bl true)) rfl (var_eq rfl) (in_bl μ8 o t))) (cons_eq (val_eq (cmp_eq (x := .d (.bl true)) rfl (var_eq rfl) (in_bl μ8 o t))) rfl)) (xs := [.bl (o || t), .bl (o || t)]) rfl (by simp)) (by simp [ρ5, E])).trans ?_)
      have eO : O = (o || t) := by show (o || (decide (a = b) && t)) = _; rw [decide_eq_true hq, Bool.true_and]
      have eT : T' = (o || t) := by show (t || (decide (a = b) && o)) = _; rw [decide_eq_true hq, Bool.true_and, Bool.or_comm]
      show RS.next (E A F T none none none N I T (some (.d (.lst [.bl (o || t), .bl (o || t)])))) μ8 = RS.next (E A F T none none none N I T (some (.d (.lst [.bl O, .bl T'])))) μ8
      rw [eO, eT]
    · rw [decide_eq_false hq] at tt
      refine (if_next tt).trans ?_
      have eO : O = o := by show (o || (decide (a = b) && t)) = _; rw [decide_eq_false hq, Bool.false_and, Bool.or_false]
      have eT : T' = t := by show (t || (decide (a = b) && o)) = _; rw [decide_eq_false hq, Bool.false_and, Bool.or_false]
      show RS.next (E A F T none none none N I T (some (.d (.lst [.bl o, .bl t])))) μ8 = RS.next (E A F T none none none N I T (some (.d (.lst [.bl O, .bl T'])))) μ8
      rw [eO, eT]
  let ws : List (Option Int) := wants p
  let Wt : Option U := some (.d (.lst (sds ws)))
  have s7 : mSet 4 (mBin addD (mBin addD (mBin repD (mLst (mCons (mIx (mVar 1) (mC (.int 0))) mNil)) (mCall (one intD) (mCons (mIx (mVar 10) (mC (.int 0))) mNil))) (mBin repD (mLst (mCons (mIx (mVar 1) (mC (.int 1))) mNil)) (mCall (one intD) (mCons (mAndV (mIx (mVar 10) (mC (.int 1))) (mVal (mCmpB (ltB fun i j => decide (i < j)) (mIx (mVar 1) (mC (.int 0))) (mIx (mVar 1) (mC (.int 1)))))) mNil)))) (mBin repD (mLst (mCons (mC .non) mNil)) (mCall (one intD) (mCons (mVal (mCmpB eqU (mVar 7) (mC (.str "holed")))) mNil)))) ρ6 μ8 = .next (E A F T Wt none none N I T DU) μ8 := by
    have q1 : mBin repD (mLst (mCons (mIx (mVar 1) (mC (.int 0))) mNil)) (mCall (one intD) (mCons (mIx (mVar 10) (mC (.int 0))) mNil)) ρ6 μ8 = .val (.d (.lst (if O then [.int a] else []))) μ8 := bin_eq (x := .d (.lst [.int a])) (y := .d (.int (if O = true then 1 else 0))) (by kernel_rfl) (by kernel_rfl) (rep1 _ _ _)
    have q2 : mBin repD (mLst (mCons (mIx (mVar 1) (mC (.int 1))) mNil)) (mCall (one intD) (mCons (mAndV (mIx (mVar 10) (mC (.int 1))) (mVal (mCmpB (ltB fun i j => decide (i < j)) (mIx (mVar 1) (mC (.int 0))) (mIx (mVar 1) (mC (.int 1)))))) mNil)) ρ6 μ8 = .val (.d (.lst (if (T' && decide (a < b)) then [.int b] else []))) μ8 :=
      bin_eq (x := .d (.lst [.int b])) (y := .d (.int (if (T' && decide (a < b)) = true then 1 else 0))) (by kernel_rfl) (c1_eq (andV_eq (c := T') (d := decide (a < b)) (by kernel_rfl) fun _ => val_eq (cmp_eq (x := .d (.int a)) (y := .d (.int b)) (by kernel_rfl) (by kernel_rfl) rfl)) rfl) (rep1 _ _ _)
    have q3 : mBin repD (mLst (mCons (mC .non) mNil)) (mCall (one intD) (mCons (mVal (mCmpB eqU (mVar 7) (mC (.str "holed")))) mNil)) ρ6 μ8 = .val (.d (.lst (if (n == .holed) then [.non] else []))) μ8 := by
      refine bin_eq (x := .d (.lst [.non])) (y := .d (.int (if (n == Nu.holed) = true then 1 else 0))) (by kernel_rfl) (c1_eq (x := .d (.bl (n == .holed))) (val_eq (cmp_eq (x := .d (.str n.s)) (var_eq rfl) rfl ?_)) rfl) (rep1 _ _ _)
      cases n <;> kernel_rfl
    refine set_eq ((bin_eq (bin_eq q1 q2 (add_lst' ?_)) q3 (add_lst' ?_)).trans ?_) (by simp [ρ6, E])
    · cases O <;> cases (T' && decide (a < b)) <;> simp
    · cases O <;> cases (T' && decide (a < b)) <;> cases (n == Nu.holed) <;> simp
    · show R.val (U.d (.lst ((if O then [Dv.D.int a] else []) ++ (if (T' && decide (a < b)) then [Dv.D.int b] else []) ++ (if (n == .holed) then [Dv.D.non] else [])))) μ8 = R.val (U.d (.lst (sds (((if O then [some a] else []) ++ (if T' && decide (a < b) then [some b] else [])) ++ nul (n == .holed))))) μ8
      cases O <;> cases (T' && decide (a < b)) <;> cases (n == Nu.holed) <;> rfl
  let ρ7 : Env := E A F T Wt none none N I T DU
  have pe : p = .span a b O T' n := rfl
  obtain ⟨z1, r1⟩ := repr_lst' (xs := [.int a, .int b, .bl O, .bl T']) (fun x hx => by
    simp only [List.mem_cons, List.not_mem_nil, or_false] at hx
    rcases hx with rfl | rfl | rfl | rfl
    · exact sm_up (sm_int ba) (by omega)
    · exact sm_up (sm_int bb) (by omega)
    · exact sm_up (sm_bl _) (by omega)
    · exact sm_up (sm_bl _) (by omega)) (by simp)
  have s8 : mIf (mCmpB neU (mCall (one reprV) (mCons (mLst (mCons (mFld (okF "low") "low" (mVar 3)) (mCons (mFld (okF "high") "high" (mVar 3)) (mCons (mFld (okF "low_reached") "low_reached" (mVar 3)) (mCons (mFld (okF "high_reached") "high_reached" (mVar 3)) mNil))))) mNil)) (mCall (one reprV) (mCons (mBin addD (mVar 1) (mVar 10)) mNil))) (mRet (mC (.bl false))) mNop ρ7 μ8 = .next ρ7 μ8 :=
    if_next (cmp_eq (c1_eq (lst_eq (cons_eq (fld_low p rfl) (cons_eq (fld_high p rfl) (cons_eq (fld_lr (a := a) (b := b) (o := O) (t := T') (n := n) rfl) (cons_eq (fld_hr (a := a) (b := b) (o := O) (t := T') (n := n) rfl) rfl)))) (xs := [.int a, .int b, .bl O, .bl T']) rfl (by simp)) (r1 μ8)) (c1_eq (x := .d (.lst [.int a, .int b, .bl O, .bl T'])) (bin_eq (x := .d (.lst [.int a, .int b])) (y := .d (.lst [.bl O, .bl T'])) (var_eq rfl) (var_eq rfl) rfl) (r1 μ8)) (ne_str μ8 z1))
  have wl : ∀ x ∈ sds ws, x = .non ∨ ∃ i, x = .int i ∧ -(10 ^ 30) < i ∧ i < 10 ^ 30 := fun x hx => by
    obtain ⟨v, hv, rfl⟩ := List.mem_map.mp hx
    have hv : v ∈ endsI a b O T' ++ nul (n == .holed) := hv
    rcases List.mem_append.mp hv with hv | hv
    · unfold endsI at hv
      rcases List.mem_append.mp hv with hv | hv
      · split at hv
        · simp at hv; subst hv; exact .inr ⟨a, rfl, ba⟩
        · cases hv
      · split at hv
        · simp at hv; subst hv; exact .inr ⟨b, rfl, bb⟩
        · cases hv
    · unfold nul at hv
      split at hv
      · simp at hv; subst hv; exact .inl rfl
      · cases hv
  have wn : (sds ws).length ≤ 12 := by
    show (List.map sd (endsI a b O T' ++ nul (n == .holed))).length ≤ 12
    unfold endsI nul
    cases O <;> cases (T' && decide (a < b)) <;> cases (n == Nu.holed) <;> simp
  obtain ⟨z2, r2⟩ := repr_tup' (xs := sds ws) (fun x hx => by
    rcases wl x hx with rfl | ⟨i, rfl, h⟩
    · exact sm_up sm_non (by omega)
    · exact sm_up (sm_int h) (by omega)) wn
  have st := stands1 a b O T' n μ8
  have cp := cmp_told p p
  rw [eqSh_refl] at cp
  have s9 : mIf (mOrT (mCmpB neU (mCall (one reprV) (mCons (mFld (okF "wants") "wants" (mVar 3)) mNil)) (mCall (one reprV) (mCons (mCall (one tupD) (mCons (mVar 4) mNil)) mNil))) (mOrT (mNotT (mTest (mFn mf__law_stands (mCons (mVar 3) (mCons (mVar 7) (mCons (mC (.bl true)) mNil)))))) (mOwn (neO td___eq__ okT) (mVar 3) (mVar 9)))) (mRet (mC (.bl false))) mNop ρ7 μ8 = .next ρ7 μ8 :=
    if_next (or2 (cmp_eq (c1_eq (fld_wants p μ8 (var_eq rfl)) (r2 μ8)) (c1_eq (x := .d (.tup (sds ws))) (c1_eq (x := .d (.lst (sds ws))) (d := .tup (sds ws)) (var_eq rfl) rfl) (r2 μ8)) (ne_str μ8 z2)) (or2 (not_eq (test_eq ((fn_eq (cons_eq (var_eq rfl) (cons_eq (var_eq rfl) (cons_eq rfl rfl)))).trans st))) (own2 (var_eq rfl) (var_eq rfl) (cp.ne μ8))))
  let q : Pl := nsp a b true true n
  let μ9 : Mem := μ8 ++ exS a b true true
  have no9 : noObj μ9 = true := by rw [noObj_app, no8]; rfl
  let B : Option U := some (.d (obj q))
  have s10 : mSet 5 (mFn mf__law_bare (mCons (mVar 7) (mCons (mIx (mVar 1) (mC (.int 0))) (mCons (mIx (mVar 1) (mC (.int 1))) mNil)))) ρ7 μ8 = .next (E A F T Wt B none N I T DU) μ9 :=
    set_eq ((fn_eq (cons_eq (var_eq rfl) (cons_eq (x := .d (.int a)) (μ1 := μ8) (by kernel_rfl) (cons_eq (x := .d (.int b)) (μ1 := μ8) (by kernel_rfl) rfl)))).trans (bare_of no8 n hab)) (by simp [ρ7, E])
  let ρ8 : Env := E A F T Wt B none N I T DU
  let μ10 : Mem := μ9 ++ exS a b true true
  have no10 : noObj μ10 = true := by rw [noObj_app, no9]; rfl
  have cq := cmp_told q q
  rw [eqSh_refl] at cq
  have cqp := cmp_told q p
  rw [bare_eq hab] at cqp
  have s11 : mIf (mOrT (mOwn (neO td___eq__ okT) (mVar 5) (mFn mf__law_span (mCons (mVar 7) (mCons (mIx (mVar 1) (mC (.int 0))) (mCons (mIx (mVar 1) (mC (.int 1))) (mCons (mC (.bl true)) (mCons (mC (.bl true)) mNil))))))) (mCmpB neU (mVal (mOwn (eqO td___eq__ okT) (mVar 5) (mVar 3))) (mVal (mCmpB eqU (mVar 10) (mLst (mCons (mC (.bl true)) (mCons (mC (.bl true)) mNil))))))) (mRet (mC (.bl false))) mNop ρ8 μ9 = .next ρ8 μ10 :=
    if_next (or2 (own2 (var_eq rfl) (sp_call (o := true) (t := true) (var_eq rfl) (by kernel_rfl) (by kernel_rfl) rfl rfl no9 hab) (cq.ne μ10)) (cmp_eq (val_eq (own2 (var_eq rfl) (var_eq rfl) (cqp.eq μ10))) (val_eq (cmp_eq (x := .d (.lst [.bl O, .bl T'])) (y := .d (.lst [.bl true, .bl true])) (var_eq rfl) (by kernel_rfl) (eq_bl2 μ10 O T'))) (ne_bl μ10 _)))
  obtain ⟨xs, ν, eu, nu, lx, cx⟩ := unlike1 (o := o) (t := t) no10 n hab
  have ok1 : ∀ xs n', p = .list xs n' → xs.length ≤ 9 ∧ ∀ x ∈ xs, -(10 ^ 30) < x ∧ x < 10 ^ 30 := fun xs n' e => by
    have e : Pl.span a b O T' n = .list xs n' := e
    cases e
  have ok2 : ∀ a' b' o' t' n', p = .span a' b' o' t' n' → (-(10 ^ 30) < a' ∧ a' < 10 ^ 30) ∧ (-(10 ^ 30) < b' ∧ b' < 10 ^ 30) := fun a' b' o' t' n' e => by
    have e : Pl.span a b O T' n = .span a' b' o' t' n' := e
    injection e with e1 e2
    rw [← e1, ← e2]
    exact ⟨ba, bb⟩
  have ok : Ok p := ⟨ok1, ok2⟩
  obtain ⟨y, ey⟩ := str1 p ok (m := mVar 3) (ρ := ρ8) (μ := μ10 ++ ν) (var_eq rfl)
  have s12 : mSet 6 (mBin addD (mFn mf__law_unlike (mCons (mVar 7) (mCons (mVar 1) (mCons (mVar 2) mNil)))) (mLst (mCons (mStrO td___str__ (mVar 3)) mNil))) ρ8 μ10 = .next (E A F T Wt B (some (.d (.lst (xs ++ [.str y])))) N I T DU) (μ10 ++ ν) :=
    set_eq (bin2 ((fn_eq (cons_eq (var_eq rfl) (cons_eq (var_eq rfl) (cons_eq (var_eq rfl) rfl)))).trans eu) (lst_eq (cons_eq ey rfl) (xs := [.str y]) rfl (by simp)) (add_lst' (by simp; omega))) (by simp [ρ8, E])
  have s13 := none_like p (i := 11) (j := 3) (ma := mVar 6) (ρ := E A F T Wt B (some (.d (.lst (xs ++ [.str y])))) N I T DU) (μ := μ10 ++ ν) (xs := xs ++ [.str y]) (var_eq rfl) (by simp [E]) (by decide) rfl (by simp; omega) fun x hx => by
    rcases List.mem_append.mp hx with hx | hx
    · exact cx x hx
    · simp at hx
      subst hx
      exact cmp_plain _ (.inr (.inr (.inr ⟨_, rfl⟩)))
  refine ⟨τ ++ exS a b o t ++ exS a b o t ++ exS a b true true ++ exS a b true true ++ ν, μ10 ++ ν, run_ret (seq_eq s1 (seq_eq s2 (seq_eq s3 (seq_eq s4 (seq_eq s5 (seq_eq s6 (seq_eq s7 (seq_eq s8 (seq_eq s9 (seq_eq s10 (seq_eq s11 (seq_eq s12 (ret_eq s13))))))))))))), ?_, ?_⟩
  · simp only [noObj_app, hn, nu]
    rfl
  · exact ((((p6.up (k := k + 12) (by omega)).app.app).app).app).app
end K02
end Dv
namespace Dv
open PySem L2
/-! ### the while loop -/
def cnt (i : Int) (ys : List Int) : Nat := (ys.filter fun y => decide (i ≤ y)).length
theorem cnt_le (i : Int) : ∀ ys : List Int, cnt (i + 1) ys ≤ cnt i ys
  | [] => Nat.le_refl _
  | y :: ys => by
    have ih := cnt_le i ys
    unfold cnt at ih ⊢
    by_cases h1 : i + 1 ≤ y
    · have h2 : i ≤ y := by omega
      simp only [List.filter_cons, h1, h2, decide_true, if_true, List.length_cons]
      omega
    · by_cases h2 : i ≤ y
      · simp only [List.filter_cons, h1, h2, decide_true, decide_false, if_true, List.length_cons, Bool.false_eq_true, if_false]
        omega
      · simp only [List.filter_cons, h1, h2, decide_false, Bool.false_eq_true, if_false]
        exact ih
theorem cnt_lt (i : Int) : ∀ ys : List Int, i ∈ ys → cnt (i + 1) ys < cnt i ys
  | y :: ys, h => by
    rcases List.mem_cons.mp h with rfl | h
    · have z := cnt_le i ys
      unfold cnt at z ⊢
      have h1 : ¬ (i + 1 ≤ i) := by omega
      simp only [List.filter_cons, h1, Int.le_refl, decide_true, decide_false, if_true, List.length_cons, Bool.false_eq_true, if_false]
      omega
    · have ih := cnt_lt i ys h
      unfold cnt at ih ⊢
      by_cases h1 : i + 1 ≤ y
      · have h2 : i ≤ y := by omega
        simp only [List.filter_cons, h1, h2, decide_true, if_true, List.length_cons]
        omega
      · by_cases h2 : i ≤ y
        · simp only [List.filter_cons, h1, h2, decide_true, decide_false, if_true, List.length_cons, Bool.false_eq_true, if_false]
          omega
        · simp only [List.filter_cons, h1, h2, decide_false, Bool.false_eq_true, if_false]
          exact ih
theorem cnt_len (i : Int) (ys : List Int) : cnt i ys ≤ ys.length := List.length_filter_le _ _
theorem last_ge : ∀ {xs : List Int}, xs.Pairwise (· < ·) → ∀ x ∈ xs, x ≤ xs.getLastD 0
  | [y], _, x, hx => by simp at hx; subst hx; exact Int.le_refl _
  | y :: z :: r, h, x, hx => by
    have ih := last_ge (List.pairwise_cons.mp h).2
    have e : (y :: z :: r).getLastD 0 = (z :: r).getLastD 0 := rfl
    rw [e]
    rcases List.mem_cons.mp hx with rfl | hx
    · have h1 := (List.pairwise_cons.mp h).1 z List.mem_cons_self
      have h2 := ih z List.mem_cons_self
      omega
    · exact ih x hx
theorem head_le : ∀ {xs : List Int}, xs.Pairwise (· < ·) → ∀ x ∈ xs, xs.headD 0 ≤ x
  | y :: r, h, x, hx => by
    rcases List.mem_cons.mp hx with rfl | hx
    · exact Int.le_refl _
    · have := (List.pairwise_cons.mp h).1 x hx
      show y ≤ x
      omega
theorem last_mem : ∀ {xs : List Int}, xs ≠ [] → xs.getLastD 0 ∈ xs
  | [y], _ => by simp
  | y :: z :: r, _ => by
    have e : (y :: z :: r).getLastD 0 = (z :: r).getLastD 0 := rfl
    rw [e]
    exact List.mem_cons_of_mem _ (last_mem (by simp))
theorem srtU_len {ys : List Int} (h : ys.Nodup) : (srtU ys).length = ys.length := by
  have nd : (srtU ys).Nodup := (srtU_lt ys).imp fun h => by omega
  exact ((List.perm_ext_iff_of_nodup nd h).mpr fun k => srtU_mem k ys).length_eq
theorem srt_eqU {ys : List Int} (h : ys.Nodup) : srt ys = srtU ys := by
  have nd : (srtU ys).Nodup := (srtU_lt ys).imp fun h => by omega
  have pm := (List.perm_ext_iff_of_nodup nd h).mpr fun k => srtU_mem k ys
  exact le_unique (srt_le ys) ((srtU_lt ys).imp fun h => by omega) ((srt_perm ys).trans pm.symm)
theorem srtU_rev (ys : List Int) : srtU ys.reverse = srtU ys := lt_unique (srtU_lt _) (srtU_lt _) fun k => by rw [srtU_mem, srtU_mem, List.mem_reverse]
namespace K02
abbrev wT : MT := mCmpB (inU false) (mVar 5) (mVar 4)
abbrev wB : MS := mSet 5 (mBin addD (mVar 5) (mC (.int 1)))
theorem in_cell {μ : Mem} {c : Nat} {ys : List Int} (hc : cellL μ c = some (ys.map .int)) (i : Int) : inU false μ (.d (.int i)) (.cell c) = some (decide (i ∈ ys)) := by
  have z := in_sds μ (some i) (ys.map some) false
  have e : inU false μ (.d (.int i)) (.cell c) = inU false μ (.d (sd (some i))) (.d (.lst (sds (ys.map some)))) := by
    unfold inU
    rw [show itemsU μ (.cell c) = some (sds (ys.map some)) from by rw [ints_sds]; exact hc]
    rfl
  rw [e, z]
  simp
theorem while1 {μ : Mem} {c : Nat} {ys : List Int} (hc : cellL μ c = some (ys.map .int)) (x0 x1 x2 x3 : Option U) (r : Env) : ∀ (k : Nat) (i : Int), cnt i ys < k → ∃ j, whileL wT wB k (x0 :: x1 :: x2 :: x3 :: some (.cell c) :: some (.d (.int i)) :: r) μ = .next (x0 :: x1 :: x2 :: x3 :: some (.cell c) :: some (.d (.int j)) :: r) μ ∧ j ∉ ys ∧ i ≤ j ∧ j ≤ i + cnt i ys
  | 0, i, h => absurd h (Nat.not_lt_zero _)
  | k + 1, i, h => by
    have t : wT (x0 :: x1 :: x2 :: x3 :: some (.cell c) :: some (.d (.int i)) :: r) μ = .val (decide (i ∈ ys)) μ := cmp_eq (x := .d (.int i)) (y := .cell c) (var_eq rfl) (var_eq rfl) (in_cell hc i)
    unfold whileL
    rw [t, of_val]
    by_cases hi : i ∈ ys
    · have lt := cnt_lt i ys hi
      obtain ⟨j, e, h1, h2, h3⟩ := while1 hc x0 x1 x2 x3 r k (i + 1) (by omega)
      refine ⟨j, ?_, h1, by omega, by omega⟩
      rw [decide_eq_true hi, if_pos rfl]
      have b : wB (x0 :: x1 :: x2 :: x3 :: some (.cell c) :: some (.d (.int i)) :: r) μ = .next (x0 :: x1 :: x2 :: x3 :: some (.cell c) :: some (.d (.int (i + 1))) :: r) μ := set_eq (bin_eq (x := .d (.int i)) (y := .d (.int 1)) (var_eq rfl) rfl rfl) (by simp)
      rw [b]
      exact e
    · refine ⟨i, ?_, hi, Int.le_refl _, by omega⟩
      rw [decide_eq_false hi, if_neg Bool.false_ne_true]
/-! ### the drawn integers -/
abbrev bodyN : MS := (mSeq (mSet 5 (mFn mf__law_number (mCons (mVar 0) mNil)))
    (mSeq (mWhile 1000 (mCmpB (inU false) (mVar 5) (mVar 4)) (mSet 5 (mBin addD (mVar 5) (mC (.int 1)))))
    (mExp (mApp false (mVar 4) (mCons (mVar 5) mNil)))))
def Bd9 (i : Int) : Prop := -(10 ^ 29) - 20 < i ∧ i < 10 ^ 29 + 20
theorem turnN {τ : Mem} {k : Nat} {μ : Mem} {ys : List Int} (h : PenT (τ ++ [some (.lst (ys.map .int))]) k μ) (hk : k ≤ 800) (hl : ys.length ≤ 9) (x1 x2 x3 x5 : Option U) (r : Env) :
    ∃ i μ', bodyN (some (.cell 0) :: x1 :: x2 :: x3 :: some (.cell (τ.length + 1)) :: x5 :: r) μ = .next (some (.cell 0) :: x1 :: x2 :: x3 :: some (.cell (τ.length + 1)) :: some (.d (.int i)) :: r) μ' ∧ i ∉ ys ∧ Bd9 i ∧ PenT (τ ++ [some (.lst ((ys ++ [i]).map .int))]) (k + 3) μ' := by
  obtain ⟨i, μ1, e1, hi, p1⟩ := fnT_num (a := mVar 0) (ρ := some (.cell 0) :: x1 :: x2 :: x3 :: some (.cell (τ.length + 1)) :: x5 :: r) (var_eq rfl) h (by omega)
  obtain ⟨cs, sp, re, rfl, q⟩ := p1.ex
  let ν : Mem := some (.lst [.lst (cs.map .int), .int sp, .int re]) :: τ
  have em : penM (τ ++ [some (.lst (ys.map .int))]) cs sp re = ν ++ some (.lst (ys.map .int)) :: [] := rfl
  have ln : ν.length = τ.length + 1 := rfl
  have hc : cellL (penM (τ ++ [some (.lst (ys.map .int))]) cs sp re) (τ.length + 1) = some (ys.map .int) := by
    rw [em, ← ln]
    exact cell_at _ _ _
  obtain ⟨j, e2, h1, h2, h3⟩ := while1 hc (some (.cell 0)) x1 x2 x3 r 1000 i (by have := cnt_len i ys; omega)
  have cl := cnt_len i ys
  have e3 := app1 (mo := mVar 4) (ml := mCons (mVar 5) mNil) (ρ := some (.cell 0) :: x1 :: x2 :: x3 :: some (.cell (τ.length + 1)) :: some (.d (.int j)) :: r) (μ := ν) (r := []) (r' := []) (xs := ys.map .int) (x := .int j) (var_eq rfl) (cons_eq (var_eq rfl) rfl) (by simp; omega)
  refine ⟨j, _, seq_eq (set_eq e1 (by simp)) (seq_eq e2 (exp_eq e3)), h1, ?_, ⟨cs, sp, re, ?_, q⟩⟩
  · unfold Bd9
    omega
  · rw [List.map_append]
    rfl
theorem turnsN {τ : Mem} (x2 x3 : Option U) (r : Env) : ∀ (is : List Dv.D) (ys : List Int) (k : Nat) (μ : Mem) (x1 x5 : Option U), PenT (τ ++ [some (.lst (ys.map .int))]) k μ → k + 3 * is.length ≤ 800 → ys.length + is.length ≤ 9 → ys.Nodup → (∀ y ∈ ys, Bd9 y) →
    ∃ (ys' : List Int) (μ' : Mem) (y1 y5 : Option U), forL (gNameE 1) bodyN is (some (.cell 0) :: x1 :: x2 :: x3 :: some (.cell (τ.length + 1)) :: x5 :: r) μ = .next (some (.cell 0) :: y1 :: x2 :: x3 :: some (.cell (τ.length + 1)) :: y5 :: r) μ' ∧ ys'.length = ys.length + is.length ∧ ys'.Nodup ∧ (∀ y ∈ ys', Bd9 y) ∧ PenT (τ ++ [some (.lst (ys'.map .int))]) (k + 3 * is.length) μ'
  | [], ys, k, μ, x1, x5, h, _, _, nd, bd => ⟨ys, μ, x1, x5, rfl, rfl, nd, bd, h⟩
  | d :: is, ys, k, μ, x1, x5, h, hk, hl, nd, bd => by
    have hk' : k + 3 * (is.length + 1) ≤ 800 := hk
    have hl' : ys.length + (is.length + 1) ≤ 9 := hl
    obtain ⟨i, μ1, e1, h1, b1, p1⟩ := turnN h (by omega) (by omega) (some (.d d)) x2 x3 x5 r
    obtain ⟨ys', μ2, y1, y5, e2, h2, nd2, bd2, p2⟩ := turnsN x2 x3 r is (ys ++ [i]) (k + 3) μ1 (some (.d d)) (some (.d (.int i))) p1 (by omega) (by simp; omega) (by
      rw [List.nodup_append]
      refine ⟨nd, by simp, ?_⟩
      intro a ha b hb e
      simp at hb
      subst hb; subst e
      exact h1 ha) (fun y hy => by
        rcases List.mem_append.mp hy with hy | hy
        · exact bd y hy
        · simp at hy; subst hy; exact b1)
    refine ⟨ys', μ2, y1, y5, for_cons rfl e1 e2, by simp at h2 ⊢; omega, nd2, bd2, p2.up ?_⟩
    rw [List.length_cons]
    omega
/-! ### the lists -/
def wI : Nu → Int
  | .full => 0
  | .holed => 1
  | .opn => 2
theorem list_of {μ : Mem} (h : noObj μ = true) {ml : ML} {ρ : Env} {ys : List Int} (n : Nu) (hl : ml ρ μ = .val (ys.map fun i => .d (.int i)) μ) (hnd : ys.Nodup) (h0 : ys ≠ []) (h9 : ys.length ≤ 9) : mMkP (clsN (.list (srtU ys) n)) true mv_Listed___init__ ml ρ μ = .val (.d (obj (.list (srtU ys) n))) (μ ++ [none]) :=
  list1 h n hl rfl (srtU_len hnd).symm (fun e => h0 (List.length_eq_zero_iff.mp (by rw [← srtU_len hnd, e]; rfl))) (by rw [srtU_len hnd]; exact h9)
theorem three {μ : Mem} (h : noObj μ = true) {ml : ML} {ρ : Env} {ys : List Int} (w : Nu) (hl : ∀ μ, ml ρ μ = .val (ys.map fun i => .d (.int i)) μ) (hw : ρ[0]? = some (some (.d (.int (wI w))))) (hnd : ys.Nodup) (h0 : ys ≠ []) (h9 : ys.length ≤ 9) :
    mIx (mLst (mCons (mMkP 15 true mv_Listed___init__ ml) (mCons (mMkP 16 true mv_Listed___init__ ml) (mCons (mMkP 17 true mv_Listed___init__ ml) mNil)))) (mVar 0) ρ μ = .val (.d (obj (.list (srtU ys) w))) (μ ++ [none, none, none]) := by
  have n1 : noObj (μ ++ [none]) = true := by rw [noObj_app, h]; rfl
  have n2 : noObj (μ ++ [none] ++ [none]) = true := by rw [noObj_app, n1]; rfl
  have e : μ ++ [none] ++ [none] ++ [none] = μ ++ [none, none, none] := by simp
  refine bin2 (x := .d (.lst [obj (.list (srtU ys) .full), obj (.list (srtU ys) .holed), obj (.list (srtU ys) .opn)])) (lst_eq ((cons_eq (list_of h .full (hl _) hnd h0 h9) (cons_eq (list_of n1 .holed (hl _) hnd h0 h9) (cons_eq (list_of n2 .opn (hl _) hnd h0 h9) rfl))).trans (by rw [e])) rfl (by simp)) (var_eq hw) ?_
  cases w <;> rfl
theorem some_of {μ : Mem} (h : noObj μ = true) (w : Nu) {ys : List Int} (hnd : ys.Nodup) (hl : ys.length = 1 ∨ ys.length = 2 ∨ ys.length = 3 ∨ ys.length = 9) : ∃ ν, mf__law_some [.d (.int (wI w)), .d (.lst (ys.map .int))] μ = .val (.d (obj (.list (srtU ys) w))) (μ ++ ν) ∧ noObj ν = true := by
  rcases hl with hl | hl | hl | hl
  · match ys, hl with
    | [a], _ =>
      refine ⟨_, run_ret (seq_ret (if_t (μ1 := μ) (by kernel_rfl) (ret_eq (three h w (fun μ => by kernel_rfl) rfl hnd (by simp) (by simp))))), rfl⟩
  · match ys, hl with
    | [a, b], _ =>
      refine ⟨_, run_ret (seq_eq (if_next (μ1 := μ) (by kernel_rfl)) (seq_ret (if_t (μ1 := μ) (by kernel_rfl) (ret_eq (three h w (fun μ => by kernel_rfl) rfl hnd (by simp) (by simp)))))), rfl⟩
  · match ys, hl with
    | [a, b, c], _ =>
      let ρ1 : Env := [some (.d (.int (wI w))), some (.d (.lst [.int a, .int b, .int c])), some (.d (.int a)), some (.d (.int b)), some (.d (.int c)), none, none, none, none, none, none]
      refine ⟨_, run_ret (seq_eq (if_next (μ1 := μ) (by kernel_rfl)) (seq_eq (if_next (μ1 := μ) (by kernel_rfl)) (seq_eq (ρ1 := ρ1) (μ1 := μ) (by kernel_rfl) (seq_ret (if_t (μ1 := μ) (by kernel_rfl) (ret_eq (three h w (fun μ => by kernel_rfl) rfl hnd (by simp) (by simp)))))))), rfl⟩
  · match ys, hl with
    | [a, b, c, d, e, f, g, i, j], _ =>
      let ρ1 : Env := [some (.d (.int (wI w))), some (.d (.lst [.int a, .int b, .int c, .int d, .int e, .int f, .int g, .int i, .int j])), some (.d (.int a)), some (.d (.int b)), some (.d (.int c)), none, none, none, none, none, none]
      let ρ2 : Env := [some (.d (.int (wI w))), some (.d (.lst [.int a, .int b, .int c, .int d, .int e, .int f, .int g, .int i, .int j])), some (.d (.int a)), some (.d (.int b)), some (.d (.int c)), some (.d (.int d)), some (.d (.int e)), some (.d (.int f)), some (.d (.int g)), some (.d (.int i)), some (.d (.int j))]
      let ml : ML := (mCons (mVar 2) (mCons (mVar 3) (mCons (mVar 4) (mCons (mVar 5) (mCons (mVar 6) (mCons (mVar 7) (mCons (mVar 8) (mCons (mVar 9) (mCons (mVar 10) mNil)))))))))
      have hm : ml ρ2 μ = .val ([a, b, c, d, e, f, g, i, j].map fun i => .d (.int i)) μ := by kernel_rfl
      have mk := list_of h (ml := ml) (ρ := ρ2) w hm hnd (by simp) (by simp)
      refine ⟨[none], run_ret (seq_eq (if_next (μ1 := μ) (by kernel_rfl)) (seq_eq (if_next (μ1 := μ) (by kernel_rfl)) (seq_eq (ρ1 := ρ1) (μ1 := μ) (by kernel_rfl) (seq_eq (if_next (μ1 := μ) (by kernel_rfl)) (seq_eq (ρ1 := ρ2) (μ1 := μ) (by kernel_rfl) ?_))))), rfl⟩
      cases w with
      | full => exact seq_ret (if_t (μ1 := μ) (by kernel_rfl) (ret_eq mk))
      | holed => exact seq_eq (if_next (μ1 := μ) (by kernel_rfl)) (ret_eq (ifE_t (μ1 := μ) (by kernel_rfl) mk))
      | opn => exact seq_eq (if_next (μ1 := μ) (by kernel_rfl)) (ret_eq (ifE_f (μ1 := μ) (by kernel_rfl) mk))
end K02
end Dv
namespace Dv
open PySem L2
theorem parN_eq {is : List Nat} {ml : ML} {ρ ρ1 : Env} {μ μ1 : Mem} {us : List U} (h : ml ρ μ = .val us μ1) (hp : putUs is us ρ = some ρ1) : mParN is ml ρ μ = .next ρ1 μ1 := by
  unfold mParN
  rw [h, of_val, hp]
theorem forR_eq {rg : List U → Option (List D)} {ml : ML} {g : Mem → U → Env → Option Env} {b : MS} {ρ : Env} {μ μ1 : Mem} {us : List U} {xs : List D} {r : RS} (h : ml ρ μ = .val us μ1) (hr : rg us = some xs) (hf : forL g b xs ρ μ1 = r) : mForR rg ml g b ρ μ = r := by
  unfold mForR
  rw [h, of_val, hr]
  exact hf
theorem lstC_nil {ρ : Env} {μ : Mem} : mLstC mNil ρ μ = .val (.cell μ.length) (μ ++ [some (.lst [])]) := rfl
theorem sl_last {m : MD} {ρ : Env} {μ : Mem} {ys : List Int} (h : m ρ μ = .val (.d (.lst (ys.map .int))) μ) (h0 : ys ≠ []) : mSl m mNoPart (mPart (mUn negD (mC (.int 1)))) ρ μ = .val (.d (.lst (ys.dropLast.map .int))) μ := by
  have hl := List.length_pos_iff.mpr h0
  have e : cutD (ys.map D.int) none (some (-1)) = ys.dropLast.map .int := by
    unfold cutD
    have e1 : HT.sIx (ys.map D.int).length 0 none = 0 := rfl
    have e2 : HT.sIx (ys.map D.int).length (ys.map D.int).length (some (-1)) = ys.length - 1 := by
      simp only [HT.sIx]
      rw [if_pos (by decide), List.length_map]
      omega
    rw [e1, e2, List.drop_zero, Nat.sub_zero, ← List.map_take, List.dropLast_eq_take]
  have z : mSl m mNoPart (mPart (mUn negD (mC (.int 1)))) ρ μ = .val (.d (.lst (cutD (ys.map D.int) none (some (-1))))) μ := by
    unfold mSl
    rw [h]
    rfl
  rw [z, e]
namespace K02
theorem fld_listed {xs : List Int} {n : Nu} {i : Nat} {ρ : Env} {μ : Mem} (h : ρ[i]? = some (some (.d (obj (.list xs n))))) : mFld (okF "listed") "listed" (mVar i) ρ μ = .val (.d (.tup (xs.map .int))) μ := by
  unfold mFld
  rw [var_eq h, bind_val]
  cases n <;> kernel_rfl
theorem stands2 (xs : List Int) (n : Nu) (μ : Mem) : mf__law_stands [.d (obj (.list xs n)), .d (.str n.s), .d (.bl false)] μ = .val (.d (.bl true)) μ := by cases n <;> kernel_rfl
theorem way_of {r : Int} (h : 0 ≤ r ∧ r < 3) : ∃ w : Nu, r = wI w := by
  rcases (by omega : r = 0 ∨ r = 1 ∨ r = 2) with rfl | rfl | rfl
  · exact ⟨.full, rfl⟩
  · exact ⟨.holed, rfl⟩
  · exact ⟨.opn, rfl⟩
theorem comp_some {ρ : Env} (w : Nu) {ys : List Int} (hnd : ys.Nodup) (hl : ys.length = 1 ∨ ys.length = 2 ∨ ys.length = 3 ∨ ys.length = 9) (h10 : 10 < ρ.length) (h3 : ρ[3]? = some (some (.d (.int (wI w))))) (h4 : ρ[4]? = some (some (.d (.lst (ys.map .int))))) : ∀ (ms : List Nu) (acc : List Dv.D) (μ : Mem), noObj μ = true → acc.length + ms.length ≤ 100 →
    ∃ ν, compL (gNameE 10) (mCmpB neU (mVar 10) (mVar 3)) (mFn mf__law_some (mCons (mVar 10) (mCons (mVar 4) mNil))) ρ (ms.map fun m => .int (wI m)) μ acc = .val (acc ++ (ms.filter fun m => decide (m ≠ w)).map fun m => obj (.list (srtU ys) m)) (μ ++ ν) ∧ noObj ν = true
  | [], acc, μ, hn, _ => ⟨[], by simp [compL], rfl⟩
  | m :: ms, acc, μ, hn, hz => by
    have hz' : acc.length + (ms.length + 1) ≤ 100 := hz
    have v3 : ∀ (x : Option U) μ, mVar 3 (ρ.set 10 x) μ = .val (.d (.int (wI w))) μ := fun x μ => var_eq (by rw [List.getElem?_set_ne (by decide)]; exact h3)
    have v4 : ∀ (x : Option U) μ, mVar 4 (ρ.set 10 x) μ = .val (.d (.lst (ys.map .int))) μ := fun x μ => var_eq (by rw [List.getElem?_set_ne (by decide)]; exact h4)
    have v10 : ∀ (x : U) μ, mVar 10 (ρ.set 10 (some x)) μ = .val x μ := fun x μ => var_eq (List.getElem?_set_self h10)
    have t : mCmpB neU (mVar 10) (mVar 3) (ρ.set 10 (some (.d (.int (wI m))))) μ = .val (decide (m ≠ w)) μ := by
      refine cmp_eq (v10 _ _) (v3 _ _) ?_
      cases m <;> cases w <;> kernel_rfl
    obtain ⟨ν1, e1, n1⟩ := some_of hn m hnd hl
    have n2 : noObj (μ ++ ν1) = true := by rw [noObj_app, hn, n1]; rfl
    by_cases hm : m = w
    · obtain ⟨ν2, e2, n3⟩ := comp_some w hnd hl h10 h3 h4 ms acc μ hn (by omega)
      refine ⟨ν2, ?_, n3⟩
      have tf : decide (m ≠ w) = false := by simp [hm]
      rw [tf] at t
      rw [List.map_cons, List.filter_cons, tf]
      exact comp_cons (b := false) (y := .non) (μ2 := μ) h10 t (fun h => by cases h) (by omega) (fun h => by cases h) fun _ => e2
    · obtain ⟨ν2, e2, n3⟩ := comp_some w hnd hl h10 h3 h4 ms (acc ++ [obj (.list (srtU ys) m)]) (μ ++ ν1) n2 (by simp; omega)
      refine ⟨ν1 ++ ν2, ?_, by rw [noObj_app, n1, n3]; rfl⟩
      have tf : decide (m ≠ w) = true := by simp [hm]
      rw [tf] at t
      rw [List.map_cons, List.filter_cons, tf, if_pos rfl, List.map_cons, ← List.append_assoc]
      refine comp_cons (b := true) h10 t (fun _ => (fn_eq (cons_eq (v10 _ _) (cons_eq (v4 _ _) rfl))).trans e1) (by omega) (fun _ => e2.trans ?_) (fun h => by cases h)
      rw [List.append_assoc]
      rfl
theorem ll_nu {xs ys : List Int} {n m : Nu} (h : n ≠ m) : eqSh (.list xs n) (.list ys m) = false := by
  unfold eqSh
  rw [show (nS (.list xs n) == nS (.list ys m)) = false from nu_ne h, Bool.false_and]
theorem ll_hi {xs ys : List Int} {n m : Nu} (h : xs.getLastD 0 ≠ ys.getLastD 0) : eqSh (.list xs n) (.list ys m) = false := by
  unfold eqSh
  rw [show decide (hi (.list xs n) = hi (.list ys m)) = false from decide_eq_false (fun e => h (by injection e)), Bool.false_and, Bool.and_false, Bool.and_false]
theorem ls_no {xs : List Int} {n m : Nu} {a b : Int} {o t : Bool} : eqSh (.list xs n) (nsp a b o t m) = false := by
  unfold eqSh
  rw [show decide (lis (.list xs n) = lis (nsp a b o t m)) = false from decide_eq_false (fun e => by cases e), Bool.false_and, Bool.and_false, Bool.and_false, Bool.and_false]
theorem list_right {τ : Mem} {k : Nat} {μ : Mem} (h : PenT τ k μ) (hn : noObj τ = true) (hk : k ≤ 600) : ∃ τ' μ', mf__law_list_right [.cell 0] μ = .val (.d (.bl true)) μ' ∧ noObj τ' = true ∧ PenT τ' (k + 29) μ' := by
  let E (x1 x2 x3 x4 x5 x6 x7 x8 x9 : Option U) : Env := [some (.cell 0), x1, x2, x3, x4, x5, x6, x7, x8, x9, none, none]
  obtain ⟨r, μ1, e1, hr, p1⟩ := fnT_draw (a := mVar 0) (b := mC (.int 3)) (ρ := E none none none none none none none none none) (many := 3) (var_eq rfl) rfl h (by omega) (by omega)
  obtain ⟨w, rfl⟩ := way_of hr
  let W : Option U := some (.d (.int (wI w)))
  have l1 : μ1.length = τ.length + 1 := by obtain ⟨cs, sp, re, rfl, _⟩ := p1.ex; rfl
  let C : Option U := some (.cell (τ.length + 1))
  have s1 : mParN [3, 4] (mCons (mFn mf__law_draw (mCons (mVar 0) (mCons (mC (.int 3)) mNil))) (mCons (mLstC mNil) mNil)) (E none none none none none none none none none) μ = .next (E none none W C none none none none none) (μ1 ++ [some (.lst [])]) :=
    parN_eq (us := [.d (.int (wI w)), .cell (τ.length + 1)]) (cons_eq e1 (cons_eq (lstC_nil.trans (by rw [l1])) rfl)) rfl
  have p1' : PenT (τ ++ [some (.lst (([] : List Int).map .int))]) (k + 1) (μ1 ++ [some (.lst [])]) := p1.app
  let ρ1 : Env := E none none W C none none none none none
  obtain ⟨x, μ2, e2, hx, p2⟩ := fnT_pick (a := mVar 0) (b := mLst (mCons (mC (.int 1)) (mCons (mC (.int 2)) (mCons (mC (.int 3)) (mCons (mC (.int 9)) mNil))))) (ρ := ρ1) (xs := [.int 1, .int 2, .int 3, .int 9]) (var_eq rfl) (by kernel_rfl) p1' (by omega) (by simp) (by simp)
  obtain ⟨N, rfl, hN⟩ : ∃ N : Nat, x = .int N ∧ (N = 1 ∨ N = 2 ∨ N = 3 ∨ N = 9) := by
    simp only [List.mem_cons, List.not_mem_nil, or_false] at hx
    rcases hx with rfl | rfl | rfl | rfl
    · exact ⟨1, rfl, by omega⟩
    · exact ⟨2, rfl, by omega⟩
    · exact ⟨3, rfl, by omega⟩
    · exact ⟨9, rfl, by omega⟩
  have rg : rng1 [.d (.int (N : Int))] = some (rangeD 0 N) := by rcases hN with rfl | rfl | rfl | rfl <;> rfl
  have lr : (rangeD 0 N).length = N := by simp [rangeD]
  obtain ⟨ys, μ3, y1, y5, e3, hl, nd, bd, p3⟩ := turnsN (τ := τ) none W [none, none, none, none, none, none] (rangeD 0 N) [] (k + 2) μ2 none none p2 (by rw [lr]; omega) (by rw [lr]; simp; omega) (by simp) (fun y hy => by cases hy)
  rw [lr] at hl p3
  have hl : ys.length = 1 ∨ ys.length = 2 ∨ ys.length = 3 ∨ ys.length = 9 := by simp at hl; omega
  have h9 : ys.length ≤ 9 := by omega
  have h0 : ys ≠ [] := fun e => by rw [e] at hl; simp at hl
  obtain ⟨cs, sp, re, rfl, q3⟩ := p3.ex
  let Y : Option U := some (.d (.lst (ys.map .int)))
  let μ4 : Mem := penM (τ ++ [none]) cs sp re
  have p4 : PenT (τ ++ [none]) (k + 29) μ4 := ⟨cs, sp, re, rfl, q3.1, by have := q3.2.1; omega, q3.2.2⟩
  have fz := frzS_eq (i := 4) (ρ := E y1 none W C y5 none none none none) (μ := some (.lst [.lst (cs.map .int), .int sp, .int re]) :: τ) (r := []) (xs := ys.map .int) rfl
  have s2 : mSeq (mForR rng1 (mCons (mFn mf__law_pick (mCons (mVar 0) (mCons (mLst (mCons (mC (.int 1)) (mCons (mC (.int 2)) (mCons (mC (.int 3)) (mCons (mC (.int 9)) mNil))))) mNil))) mNil) (gNameE 1) bodyN) (mFrzS 4) ρ1 (μ1 ++ [some (.lst [])]) = .next (E y1 none W Y y5 none none none none) μ4 :=
    seq_eq (forR_eq (cons_eq e2 rfl) rg e3) fz
  have no4 : noObj μ4 = true := by show noObj (τ ++ [none]) = true; rw [noObj_app, hn]; rfl
  let ρ2 : Env := E y1 none W Y y5 none none none none
  let xs : List Int := srtU ys
  have ex : srt ys = xs := srt_eqU nd
  have xl : xs.length = ys.length := srtU_len nd
  have x0 : xs ≠ [] := fun e => by rw [e] at xl; exact h0 (List.length_eq_zero_iff.mp xl.symm)
  have xp : xs.Pairwise (· < ·) := srtU_lt ys
  have xb : ∀ i ∈ xs, -(10 ^ 30) < i ∧ i < 10 ^ 30 := fun i hi => by
    have := bd i ((srtU_mem i ys).mp hi)
    unfold Bd9 at this
    omega
  have cm := lcI_eq (ma := mVar 4) (i := 5) (t := mYes) (e := mCall (one intD) (mCons (mVar 5) mNil)) (ρ := ρ2) (μ := μ4) (xs := ys.map .int) (u := .d (.lst (ys.map .int))) (var_eq rfl) rfl (by simp [ρ2, E]) (by simp; omega) (fun _ => true) (fun x => x) fun x hx => ⟨rfl, fun _ => by
    obtain ⟨i, hi, rfl⟩ := List.mem_map.mp hx
    exact c1_eq (var_eq rfl) rfl⟩
  rw [List.filter_eq_self.mpr (fun _ _ => rfl), List.map_id'] at cm
  let DU : Option U := some (.d (.lst (xs.map .int)))
  let NU : Option U := some (.d (.str w.s))
  have du : mCall (one sortedD) (mCons (mLcI itLT (mVar 4) (gNameE 5) mYes (mCall (one intD) (mCons (mVar 5) mNil)) [5]) mNil) ρ2 μ4 = .val (.d (.lst (xs.map .int))) μ4 := c1_eq cm (by
    show (intsD (ys.map D.int)).bind _ = _
    rw [intsD_map, Option.bind_some, ex])
  have s3 : mPar 6 7 (mCons (mIx (mLst (mCons (mC (.str "full")) (mCons (mC (.str "holed")) (mCons (mC (.str "open")) mNil)))) (mVar 3)) (mCons (mCall (one sortedD) (mCons (mLcI itLT (mVar 4) (gNameE 5) mYes (mCall (one intD) (mCons (mVar 5) mNil)) [5]) mNil)) mNil)) ρ2 μ4 = .next (E y1 none W Y y5 NU DU none none) μ4 :=
    par_eq (u := .d (.str w.s)) (cons_eq (by cases w <;> kernel_rfl) (cons_eq du rfl)) (by simp [ρ2, E]) (by simp [ρ2, E])
  let ρ3 : Env := E y1 none W Y y5 NU DU none none
  let p : Pl := .list xs w
  obtain ⟨ν1, f1, m1⟩ := some_of no4 w nd hl
  have no5 : noObj (μ4 ++ ν1) = true := by rw [noObj_app, no4, m1]; rfl
  obtain ⟨ν2, f2, m2⟩ := some_of no5 w (ys := ys.reverse) ((List.reverse_perm ys).nodup_iff.mpr nd) (by simpa using hl)
  rw [srtU_rev] at f2
  let μ5 : Mem := μ4 ++ ν1 ++ ν2
  have no6 : noObj μ5 = true := by rw [noObj_app, no5, m2]; rfl
  let T : Option U := some (.d (obj p))
  have s4 : mParN [8, 9] (mCons (mFn mf__law_some (mCons (mVar 3) (mCons (mVar 4) mNil))) (mCons (mFn mf__law_some (mCons (mVar 3) (mCons (mRev (mVar 4)) mNil))) mNil)) ρ3 μ4 = .next (E y1 none W Y y5 NU DU T T) μ5 :=
    parN_eq (us := [.d (obj p), .d (obj p)]) (cons_eq ((fn_eq (cons_eq (var_eq rfl) (cons_eq (var_eq rfl) rfl))).trans f1) (cons_eq ((fn_eq (cons_eq (var_eq rfl) (cons_eq (un_eq (x := .d (.lst (ys.map .int))) (d := .lst (ys.reverse.map .int)) (var_eq rfl) (by show some (Dv.D.lst (ys.map Dv.D.int).reverse) = _; rw [List.map_reverse])) rfl))).trans f2) rfl)) rfl
  let ρ4 : Env := E y1 none W Y y5 NU DU T T
  have i0 : ∀ {μ : Mem}, mIx (mVar 7) (mC (.int 0)) ρ4 μ = .val (.d (.int (xs.headD 0))) μ := bin_eq (x := .d (.lst (xs.map .int))) (y := .d (.int 0)) (var_eq rfl) rfl (atI_head x0)
  have i9 : ∀ {μ : Mem}, mIx (mVar 7) (mUn negD (mC (.int 1))) ρ4 μ = .val (.d (.int (xs.getLastD 0))) μ := bin_eq (x := .d (.lst (xs.map .int))) (y := .d (.int (-1))) (var_eq rfl) (by kernel_rfl) (atI_lastD x0)
  have hd : xs.headD 0 ∈ xs := by cases hxs : xs with | nil => exact absurd hxs x0 | cons a r => exact List.mem_cons_self
  have la : xs.getLastD 0 ∈ xs := last_mem x0
  have tx : ∀ x ∈ xs.map Dv.D.int, x = .non ∨ ∃ i, x = .int i ∧ -(10 ^ 30) < i ∧ i < 10 ^ 30 := fun x hx => by
    obtain ⟨i, hi, rfl⟩ := List.mem_map.mp hx
    exact .inr ⟨i, rfl, xb i hi⟩
  obtain ⟨z1, r1⟩ := repr_lst' (xs := [.int (xs.headD 0), .int (xs.getLastD 0), .tup (xs.map .int)]) (fun x hx => by
    simp only [List.mem_cons, List.not_mem_nil, or_false] at hx
    rcases hx with rfl | rfl | rfl
    · exact sm_up (sm_int (xb _ hd)) (by omega)
    · exact sm_up (sm_int (xb _ la)) (by omega)
    · exact sm_tup tx (by simp; omega)) (by simp)
  have tu : ∀ {μ : Mem}, mCall (one tupD) (mCons (mVar 7) mNil) ρ4 μ = .val (.d (.tup (xs.map .int))) μ := c1_eq (x := .d (.lst (xs.map .int))) (var_eq rfl) rfl
  have s5 : mIf (mCmpB neU (mCall (one reprV) (mCons (mLst (mCons (mFld (okF "low") "low" (mVar 8)) (mCons (mFld (okF "high") "high" (mVar 8)) (mCons (mFld (okF "listed") "listed" (mVar 8)) mNil)))) mNil)) (mCall (one reprV) (mCons (mLst (mCons (mIx (mVar 7) (mC (.int 0))) (mCons (mIx (mVar 7) (mUn negD (mC (.int 1)))) (mCons (mCall (one tupD) (mCons (mVar 7) mNil)) mNil)))) mNil))) (mRet (mC (.bl false))) mNop ρ4 μ5 = .next ρ4 μ5 :=
    if_next (cmp_eq (c1_eq (lst_eq (cons_eq (fld_low p rfl) (cons_eq (fld_high p rfl) (cons_eq (fld_listed (xs := xs) (n := w) rfl) rfl))) (xs := [.int (xs.headD 0), .int (xs.getLastD 0), .tup (xs.map .int)]) rfl (by simp)) (r1 μ5)) (c1_eq (lst_eq (cons_eq i0 (cons_eq i9 (cons_eq tu rfl))) (xs := [.int (xs.headD 0), .int (xs.getLastD 0), .tup (xs.map .int)]) rfl (by simp)) (r1 μ5)) (ne_str μ5 z1))
  let ws : List Dv.D := sds (wants p)
  have ew : xs.map Dv.D.int ++ (if (w == .holed) then [Dv.D.non] else []) = ws := by
    show _ = sds (xs.map some ++ nul (w == .holed))
    unfold sds
    rw [List.map_append, List.map_map]
    cases (w == Nu.holed) <;> rfl
  have wn : ws.length ≤ 12 := by rw [← ew]; cases (w == Nu.holed) <;> simp <;> omega
  obtain ⟨z2, r2⟩ := repr_tup' (xs := ws) (fun x hx => by
    rw [← ew] at hx
    rcases List.mem_append.mp hx with hx | hx
    · obtain ⟨i, hi, rfl⟩ := List.mem_map.mp hx
      exact sm_up (sm_int (xb i hi)) (by omega)
    · split at hx
      · simp at hx; subst hx; exact sm_up sm_non (by omega)
      · cases hx) wn
  have wq : mBin addD (mVar 7) (mBin repD (mLst (mCons (mC .non) mNil)) (mCall (one intD) (mCons (mVal (mCmpB eqU (mVar 6) (mC (.str "holed")))) mNil))) ρ4 μ5 = .val (.d (.lst ws)) μ5 := by
    rw [← ew]
    refine bin_eq (x := .d (.lst (xs.map .int))) (y := .d (.lst (if (w == .holed) then [.non] else []))) (var_eq rfl) (bin_eq (x := .d (.lst [.non])) (y := .d (.int (if (w == Nu.holed) = true then 1 else 0))) (by kernel_rfl) (c1_eq (x := .d (.bl (w == .holed))) (val_eq (cmp_eq (x := .d (.str w.s)) (var_eq rfl) rfl ?_)) rfl) (rep1 _ _ _)) (add_lst' ?_)
    · cases w <;> kernel_rfl
    · cases (w == Nu.holed) <;> simp <;> omega
  have st := stands2 xs w μ5
  have s6 : mIf (mOrT (mCmpB neU (mCall (one reprV) (mCons (mFld (okF "wants") "wants" (mVar 8)) mNil)) (mCall (one reprV) (mCons (mCall (one tupD) (mCons (mBin addD (mVar 7) (mBin repD (mLst (mCons (mC .non) mNil)) (mCall (one intD) (mCons (mVal (mCmpB eqU (mVar 6) (mC (.str "holed")))) mNil)))) mNil)) mNil))) (mNotT (mTest (mFn mf__law_stands (mCons (mVar 8) (mCons (mVar 6) (mCons (mC (.bl false)) mNil))))))) (mRet (mC (.bl false))) mNop ρ4 μ5 = .next ρ4 μ5 :=
    if_next (or2 (cmp_eq (c1_eq (fld_wants p μ5 (var_eq rfl)) (r2 μ5)) (c1_eq (x := .d (.tup ws)) (c1_eq (x := .d (.lst ws)) (d := .tup ws) wq rfl) (r2 μ5)) (ne_str μ5 z2)) (not_eq (test_eq ((fn_eq (cons_eq (var_eq rfl) (cons_eq (var_eq rfl) (cons_eq rfl rfl)))).trans st))))
  obtain ⟨ν3, f3, m3⟩ := comp_some (ρ := ρ4.set 10 none) w nd hl (by simp [ρ4, E]) rfl rfl [.full, .holed, .opn] [] μ5 no6 (by simp)
  let os : List Dv.D := ([Nu.full, .holed, .opn].filter fun m => decide (m ≠ w)).map fun m => obj (.list xs m)
  let μ6 : Mem := μ5 ++ ν3
  have no7 : noObj μ6 = true := by rw [noObj_app, no6, m3]; rfl
  have s7 : mSet 2 (mLcR rng1 (mCons (mC (.int 3)) mNil) (gNameE 10) (mCmpB neU (mVar 10) (mVar 3)) (mFn mf__law_some (mCons (mVar 10) (mCons (mVar 4) mNil))) [10]) ρ4 μ5 = .next (E y1 (some (.d (.lst os))) W Y y5 NU DU T T) μ6 :=
    set_eq (lcR_eq (us := [.d (.int 3)]) (xs := [.int 0, .int 1, .int 2]) rfl rfl f3) (by simp [ρ4, E])
  let ρ5 : Env := E y1 (some (.d (.lst os))) W Y y5 NU DU T T
  have i9' : ∀ {x2 : Option U} {μ : Mem}, mIx (mVar 7) (mUn negD (mC (.int 1))) (E y1 x2 W Y y5 NU DU T T) μ = .val (.d (.int (xs.getLastD 0))) μ := bin_eq (x := .d (.lst (xs.map .int))) (y := .d (.int (-1))) (var_eq rfl) (by kernel_rfl) (atI_lastD x0)
  have i0' : ∀ {x2 : Option U} {μ : Mem}, mIx (mVar 7) (mC (.int 0)) (E y1 x2 W Y y5 NU DU T T) μ = .val (.d (.int (xs.headD 0))) μ := bin_eq (x := .d (.lst (xs.map .int))) (y := .d (.int 0)) (var_eq rfl) rfl (atI_head x0)
  let zs : List Int := ys.dropLast ++ [xs.getLastD 0 + 1]
  have zn : zs.Nodup := by
    show (ys.dropLast ++ [xs.getLastD 0 + 1]).Nodup
    rw [List.nodup_append]
    refine ⟨nd.sublist (List.dropLast_sublist ys), by simp, ?_⟩
    intro a ha b hb e
    have hb : b = xs.getLastD 0 + 1 := by simpa using hb
    have z : a ≤ xs.getLastD 0 := last_ge xp a ((srtU_mem a ys).mpr ((List.dropLast_sublist ys).subset ha))
    rw [e, hb] at z
    omega
  have zl : zs.length = ys.length := by
    show (ys.dropLast ++ [xs.getLastD 0 + 1]).length = _
    have := List.length_pos_iff.mpr h0
    simp
    omega
  obtain ⟨ν4, f4, m4⟩ := some_of no7 w zn (by rw [zl]; exact hl)
  have ze : mBin addD (mSl (mVar 4) mNoPart (mPart (mUn negD (mC (.int 1))))) (mLst (mCons (mBin addD (mIx (mVar 7) (mUn negD (mC (.int 1)))) (mC (.int 1))) mNil)) ρ5 μ6 = .val (.d (.lst (zs.map .int))) μ6 := by
    refine (bin_eq (x := .d (.lst (ys.dropLast.map .int))) (y := .d (.lst [.int (xs.getLastD 0 + 1)])) (sl_last (var_eq rfl) h0) (lst_eq (cons_eq (bin_eq (x := .d (.int (xs.getLastD 0))) (y := .d (.int 1)) i9' rfl rfl) rfl) rfl (by simp)) (add_lst' (by simp; omega))).trans ?_
    show R.val (U.d (.lst (ys.dropLast.map Dv.D.int ++ [.int (xs.getLastD 0 + 1)]))) μ6 = R.val (U.d (.lst ((ys.dropLast ++ [xs.getLastD 0 + 1]).map .int))) μ6
    rw [List.map_append]
    rfl
  let μ7 : Mem := μ6 ++ ν4
  have no8 : noObj μ7 = true := by rw [noObj_app, no7, m4]; rfl
  have l8 : mLst (mCons (mFn mf__law_some (mCons (mVar 3) (mCons (mBin addD (mSl (mVar 4) mNoPart (mPart (mUn negD (mC (.int 1))))) (mLst (mCons (mBin addD (mIx (mVar 7) (mUn negD (mC (.int 1)))) (mC (.int 1))) mNil))) mNil))) (mCons (mC .non) (mCons (mVar 7) (mCons (mCall (one tupD) (mCons (mVar 7) mNil)) mNil)))) ρ5 μ6 = .val (.d (.lst [obj (.list (srtU zs) w), .non, .lst (xs.map .int), .tup (xs.map .int)])) μ7 :=
    lst_eq (cons_eq ((fn_eq (cons_eq (var_eq rfl) (cons_eq ze rfl))).trans f4) (cons_eq rfl (cons_eq (var_eq (u := .d (.lst (xs.map .int))) rfl) (cons_eq (c1_eq (x := .d (.lst (xs.map .int))) (d := .tup (xs.map .int)) (var_eq rfl) rfl) rfl)))) rfl (by simp)
  have ol : os.length ≤ 3 := by simp only [os, List.length_map]; exact List.length_filter_le _ _
  let os2 : List Dv.D := os ++ [obj (.list (srtU zs) w), .non, .lst (xs.map .int), .tup (xs.map .int)]
  have s8 := set_eq (i := 2) (add_eq (xs := os) (a := mVar 2) (var_eq (ρ := ρ5) rfl) l8 (by simp; omega)) (by simp [ρ5, E])
  let ρ6 : Env := E y1 (some (.cell μ7.length)) W Y y5 NU DU T T
  have lh : xs.headD 0 ≤ xs.getLastD 0 := head_le xp _ la
  let B : Pl := nsp (xs.headD 0) (xs.getLastD 0) true true w
  have bm : mFn mf__law_bare (mCons (mVar 6) (mCons (mIx (mVar 7) (mC (.int 0))) (mCons (mIx (mVar 7) (mUn negD (mC (.int 1)))) mNil))) ρ6 (μ7 ++ [some (.lst os2)]) = .val (.d (obj B)) (μ7 ++ some (.lst os2) :: exS (xs.headD 0) (xs.getLastD 0) true true) := by
    refine ((fn_eq (cons_eq (var_eq rfl) (cons_eq i0' (cons_eq i9' rfl)))).trans (bare_of (by rw [noObj_app, no8]; rfl) w lh)).trans ?_
    rw [List.append_assoc]
    rfl
  have s9 := app1 (mo := mVar 2) (ml := mCons (mFn mf__law_bare (mCons (mVar 6) (mCons (mIx (mVar 7) (mC (.int 0))) (mCons (mIx (mVar 7) (mUn negD (mC (.int 1)))) mNil)))) mNil) (ρ := ρ6) (μ := μ7) (r := []) (r' := exS (xs.headD 0) (xs.getLastD 0) true true) (xs := os2) (x := obj B) (var_eq rfl) (cons_eq bm rfl) (by simp [os2]; omega)
  have fz2 := frzS_eq (i := 2) (ρ := ρ6) (μ := μ7) (r := exS (xs.headD 0) (xs.getLastD 0) true true) (xs := os2 ++ [obj B]) rfl
  let μ8 : Mem := μ7 ++ none :: exS (xs.headD 0) (xs.getLastD 0) true true
  have cp := cmp_told p p
  rw [eqSh_refl] at cp
  have s10 := none_like p (i := 11) (j := 8) (ma := mVar 2) (ρ := E y1 (some (.d (.lst (os2 ++ [obj B])))) W Y y5 NU DU T T) (μ := μ8) (xs := os2 ++ [obj B]) (var_eq rfl) (by simp [E]) (by decide) rfl (by simp [os2]; omega) fun x hx => by
    simp only [os2, List.mem_append, List.mem_cons, List.not_mem_nil, or_false] at hx
    rcases hx with (hx | rfl | rfl | rfl | rfl) | rfl
    · obtain ⟨m, hm, rfl⟩ := List.mem_map.mp hx
      have hm := (List.mem_filter.mp hm).2
      have hm : m ≠ w := of_decide_eq_true hm
      have z := cmp_told p (.list xs m)
      rw [ll_nu (fun e => hm e.symm)] at z
      exact z
    · have z := cmp_told p (.list (srtU zs) w)
      rw [ll_hi] at z
      · exact z
      · have := last_ge (srtU_lt zs) (xs.getLastD 0 + 1) ((srtU_mem _ zs).mpr (List.mem_append_right _ List.mem_cons_self))
        omega
    · exact cmp_plain _ (.inl rfl)
    · exact cmp_plain _ (.inr (.inr (.inl ⟨_, rfl⟩)))
    · exact cmp_plain _ (.inr (.inl ⟨_, rfl⟩))
    · have z := cmp_told p B
      rw [ls_no] at z
      exact z
  refine ⟨τ ++ [none] ++ ν1 ++ ν2 ++ ν3 ++ ν4 ++ none :: exS (xs.headD 0) (xs.getLastD 0) true true, μ8, run_ret (seq_eq s1 (seq_eq s2 (seq_eq s3 (seq_eq s4 (seq_eq s5 (seq_eq s6 (seq_eq s7 (seq_eq s8 (seq_eq (seq_eq (exp_eq s9) fz2) (ret_eq (andV_eq (c := true) (d := true) (val_eq (own2 (var_eq rfl) (var_eq rfl) (cp.eq μ8))) fun _ => s10))))))))))), ?_, ?_⟩
  · simp only [noObj_app, hn, m1, m2, m3, m4]
    rfl
  · exact ((((p4.app.app).app).app).app)
/-! ### the law -/
theorem turnL {τ : Mem} {k : Nat} {μ : Mem} (h : PenT τ k μ) (hn : noObj τ = true) (hk : k ≤ 500) (x0 x2 : Option U) (r : Env) : ∃ τ' μ', (mIf (mOrT (mNotT (mTest (mFn mf__law_span_right (mCons (mVar 1) mNil)))) (mNotT (mTest (mFn mf__law_list_right (mCons (mVar 1) mNil))))) (mRet (mC (.bl false))) mNop) (x0 :: some (.cell 0) :: x2 :: r) μ = .next (x0 :: some (.cell 0) :: x2 :: r) μ' ∧ noObj τ' = true ∧ PenT τ' (k + 41) μ' := by
  obtain ⟨τ1, μ1, e1, n1, p1⟩ := span_right h hn (by omega)
  obtain ⟨τ2, μ2, e2, n2, p2⟩ := list_right p1 n1 (by omega)
  exact ⟨τ2, μ2, if_next (or2 (not_eq (test_eq ((fn_eq (cons_eq (var_eq rfl) rfl)).trans e1))) (not_eq (test_eq ((fn_eq (cons_eq (var_eq rfl) rfl)).trans e2)))), n2, p2⟩
theorem turnsL (x0 : Option U) (r : Env) : ∀ (is : List Dv.D) (τ : Mem) (k : Nat) (μ : Mem) (x2 : Option U), PenT τ k μ → noObj τ = true → k + 41 * is.length ≤ 500 → ∃ (τ' μ' : Mem) (y2 : Option U), forL (gNameE 2) (mIf (mOrT (mNotT (mTest (mFn mf__law_span_right (mCons (mVar 1) mNil)))) (mNotT (mTest (mFn mf__law_list_right (mCons (mVar 1) mNil))))) (mRet (mC (.bl false))) mNop) is (x0 :: some (.cell 0) :: x2 :: r) μ = .next (x0 :: some (.cell 0) :: y2 :: r) μ' ∧ noObj τ' = true ∧ PenT τ' (k + 41 * is.length) μ'
  | [], τ, k, μ, x2, h, hn, _ => ⟨τ, μ, x2, rfl, hn, h⟩
  | i :: is, τ, k, μ, x2, h, hn, hk => by
    have hk' : k + 41 * (is.length + 1) ≤ 500 := hk
    obtain ⟨τ1, μ1, e1, n1, p1⟩ := turnL h hn (by omega) x0 (some (.d i)) r
    obtain ⟨τ2, μ2, y2, e2, n2, p2⟩ := turnsL x0 r is τ1 (k + 41) μ1 (some (.d i)) p1 n1 (by omega)
    refine ⟨τ2, μ2, y2, for_cons rfl e1 e2, n2, p2.up ?_⟩
    rw [List.length_cons]
    omega
theorem cut_ints (js : List Int) (lo hi : Option Int) : cutD (js.map Dv.D.int) lo hi = (cutD js lo hi).map .int := by
  simp [cutD, List.map_drop, List.map_take]
theorem pen1 (js : List Int) : ∃ μ, mf__law_pen [.d (.scr (js.map .int))] [] = .val (.cell 0) μ ∧ PenT [] 0 μ := by
  refine ⟨penM [] (cutD js none (some 63)) 0 0, run_ret (ret_eq ?_), ⟨_, 0, 0, rfl, by decide, by decide, by decide⟩⟩
  have e : mSl (mVar 0) mNoPart (mPart (mC (.int 63))) [some (.d (.scr (js.map .int)))] [] = .val (.d (.lst ((cutD js none (some 63)).map .int))) [] := by
    show R.val (U.d (.lst (cutD (js.map Dv.D.int) none (some 63)))) [] = _
    rw [cut_ints]
  have c := cons_eq (r := mCons (mC (.int 0)) (mCons (mC (.int 0)) mNil)) (c1_eq (x := .d (.lst ((cutD js none (some 63)).map .int))) (d := .lst ((cutD js none (some 63)).map .int)) (f := listD) e rfl) (cons_eq (x := .d (.int 0)) (μ1 := []) rfl (cons_eq (x := .d (.int 0)) (μ1 := []) rfl rfl))
  show (mCons (mCall (one listD) (mCons (mSl (mVar 0) mNoPart (mPart (mC (.int 63)))) mNil)) (mCons (mC (.int 0)) (mCons (mC (.int 0)) mNil)) [some (.d (.scr (js.map .int)))] []).bind _ = _
  rw [c]
  rfl
theorem law_true : ∀ js : List Int, js.length ≤ 63 → ∃ μ, mf_law [.d (.scr (js.map .int))] [] = .val (.d (.bl true)) μ := fun js _ => by
  obtain ⟨μ0, e0, p0⟩ := pen1 js
  let S : Option U := some (.d (.scr (js.map .int)))
  obtain ⟨τ1, μ1, y2, e1, n1, p1⟩ := turnsL S [none, none] (rangeD 0 7) [] 0 μ0 none p0 rfl (by simp [rangeD])
  have no1 := p1.no n1
  have s1 := set_eq (i := 1) ((fn_eq (mf := mf__law_pen) (cons_eq (r := mNil) (var_eq (i := 0) (u := .d (.scr (js.map .int))) (ρ := [S, none, none, none, none]) (μ := []) rfl) rfl)).trans e0) (by simp)
  have s2 : mForR rng1 (mCons (mC (.int 7)) mNil) (gNameE 2) (mIf (mOrT (mNotT (mTest (mFn mf__law_span_right (mCons (mVar 1) mNil)))) (mNotT (mTest (mFn mf__law_list_right (mCons (mVar 1) mNil))))) (mRet (mC (.bl false))) mNop) [S, some (.cell 0), none, none, none] μ0 = .next [S, some (.cell 0), y2, none, none] μ1 := e1
  have b1 := blank1 no1 [S, some (.cell 0), y2, none, none]
  have s3 := set_eq (i := 3) b1 (by simp)
  let ρ3 : Env := [S, some (.cell 0), y2, some (.d (obj .blank)), none]
  let μ2 : Mem := μ1 ++ [none]
  have no2 : noObj μ2 = true := by rw [noObj_app, no1]; rfl
  let μ3 : Mem := μ2 ++ [none]
  have no3 : noObj μ3 = true := by rw [noObj_app, no2]; rfl
  have cb := cmp_told .blank .blank
  rw [eqSh_refl] at cb
  have r4 : mCall (one reprV) (mCons (mLst (mCons (mFld (okF "low") "low" (mVar 3)) (mCons (mFld (okF "high") "high" (mVar 3)) (mCons (mFld (okF "wants") "wants" (mVar 3)) (mCons (mCon tb_NULLS "NULLS" (mVar 3)) mNil))))) mNil) ρ3 μ2 = .val (.d (.str "[None, None, (None,), 'blank']")) μ2 := by
    refine c1_eq (x := .d (.lst [.non, .non, .tup [.non], .str "blank"])) (by kernel_rfl) ?_
    kernel_rfl
  have s4 : mIf (mOrT (mCmpB neU (mCall (one reprV) (mCons (mLst (mCons (mFld (okF "low") "low" (mVar 3)) (mCons (mFld (okF "high") "high" (mVar 3)) (mCons (mFld (okF "wants") "wants" (mVar 3)) (mCons (mCon tb_NULLS "NULLS" (mVar 3)) mNil))))) mNil)) (mC (.str "[None, None, (None,), 'blank']"))) (mOwn (neO td___eq__ okT) (mVar 3) (mMk 18 true mf_Blank___init__ (selP 1) mNil))) (mRet (mC (.bl false))) mNop ρ3 μ2 = .next ρ3 μ3 :=
    if_next (or2 (cmp_eq r4 rfl (ne_str μ2 _)) (own2 (var_eq rfl) (blank1 no2 _) (cb.ne μ3)))
  let ρ5 : Env := [S, some (.cell 0), y2, some (.d (obj .blank)), some (.d (.lst [.bl true, .bl false, .bl false, .bl false]))]
  have s5 : mSet 4 (mLst (mCons (mCall (isiV tyB clB) (mCons (mVar 3) (mCons (mC (.cls 6)) mNil))) (mCons (mCall (isiV tyB clB) (mCons (mVar 3) (mCons (mC (.cls 10)) mNil))) (mCons (mCall (isiV tyB clB) (mCons (mVar 3) (mCons (mC (.cls 11)) mNil))) (mCons (mCall (isiV tyB clB) (mCons (mVar 3) (mCons (mC (.cls 7)) mNil))) mNil))))) ρ3 μ3 = .next ρ5 μ3 := by kernel_rfl
  let ρ6 : Env := [S, some (.cell 0), y2, some (.d (obj .blank)), some (.d (.lst [.bl true, .bl false, .bl false, .bl false, .bl false, .bl false]))]
  have s6 : mSet 4 (mBin addD (mVar 4) (mLst (mCons (mCall (isiV tyB clB) (mCons (mVar 3) (mCons (mC (.cls 8)) mNil))) (mCons (mCall (isiV tyB clB) (mCons (mVar 3) (mCons (mC (.cls 9)) mNil))) mNil)))) ρ5 μ3 = .next ρ6 μ3 := by kernel_rfl
  have a1 : mVal (mCmpB eqU (mVar 4) (mBin addD (mLst (mCons (mC (.bl true)) mNil)) (mBin repD (mLst (mCons (mC (.bl false)) mNil)) (mC (.int 5))))) ρ6 μ3 = .val (.d (.bl true)) μ3 := by kernel_rfl
  have sp := span1 no3 (ml := mCons (mC (.int 3)) (mCons (mC (.int 4)) mNil)) (ρ := ρ6) (sel := ([.inl 0, .inl 1, .inl 2, .inr (.bl true, .bl true, .bool true), .inr (.bl true, .bl true, .bool true)] : Sel)) (a := 3) (b := 4) (o := true) (t := true) .full rfl rfl (by decide) rfl rfl
  let μ4 : Mem := μ3 ++ exS 3 4 true true
  have no4 : noObj μ4 = true := by rw [noObj_app, no3]; rfl
  have li := list_of no4 (ml := mCons (mC (.int 3)) (mCons (mC (.int 4)) mNil)) (ρ := ρ6) (ys := [3, 4]) .full rfl (by decide) (by decide) (by decide)
  have cs := cmp_told (nsp 3 4 true true .full) (.list (srtU [3, 4]) .full)
  have fs : eqSh (nsp 3 4 true true .full) (.list (srtU [3, 4]) .full) = false := by
    unfold eqSh
    rw [show decide (lis (nsp 3 4 true true .full) = lis (.list (srtU [3, 4]) .full)) = false from decide_eq_false (fun e => by cases e), Bool.false_and, Bool.and_false, Bool.and_false, Bool.and_false]
  rw [fs] at cs
  have a2 : mVal (mOwn (neO td___eq__ okT) (mMk 12 true mf_Span___init__ ([.inl 0, .inl 1, .inl 2, .inr (.bl true, .bl true, .bool true), .inr (.bl true, .bl true, .bool true)] : Sel) (mCons (mC (.int 3)) (mCons (mC (.int 4)) mNil))) (mMkP 15 true mv_Listed___init__ (mCons (mC (.int 3)) (mCons (mC (.int 4)) mNil)))) ρ6 μ3 = .val (.d (.bl true)) (μ4 ++ [none]) := val2 (own2 sp li (cs.ne _))
  have fin : mAndV (mVal (mCmpB eqU (mVar 4) (mBin addD (mLst (mCons (mC (.bl true)) mNil)) (mBin repD (mLst (mCons (mC (.bl false)) mNil)) (mC (.int 5)))))) (mVal (mOwn (neO td___eq__ okT) (mMk 12 true mf_Span___init__ ([.inl 0, .inl 1, .inl 2, .inr (.bl true, .bl true, .bool true), .inr (.bl true, .bl true, .bool true)] : Sel) (mCons (mC (.int 3)) (mCons (mC (.int 4)) mNil))) (mMkP 15 true mv_Listed___init__ (mCons (mC (.int 3)) (mCons (mC (.int 4)) mNil))))) ρ6 μ3 = .val (.d (.bl true)) (μ4 ++ [none]) := by
    unfold mAndV
    rw [test_eq a1, bind_val, if_pos rfl, a2]
  exact ⟨_, run_ret (seq_eq s1 (seq_eq s2 (seq_eq s3 (seq_eq s4 (seq_eq s5 (seq_eq s6 (ret_eq fin)))))))⟩
end K02
end Dv
namespace Dv
open PySem L2 PySem.W PySem.HandSPX PySem.DvX ClX
namespace K02
theorem tx_BadTold : TxI (defArgs s_BadTold) (defBody s_BadTold) (defScope s_BadTold) ["part"] := ⟨.inr (.inl ⟨_, _, _, _, _, _, _, _, _, _, _, rfl, rfl, fun _ _ _ _ _ => ⟨_, rfl⟩⟩), rfl, rfl, rfl, rfl, rfl, rfl, by decide +kernel, ⟨_, rfl, rfl⟩, by decide +kernel, by decide +kernel, fun _ _ _ _ us h s x doc pm an ct => match us, h with | [_], _ => .of_eq (by first | rfl | with_unfolding_all rfl), fun _ _ _ _ us h s x doc pm an ct => match us, h with | [_], _ => .of_eq (by first | rfl | with_unfolding_all rfl), fun _ _ _ _ us h s x doc pm an ct => match us, h with | [_], _ => .of_eq (by first | rfl | with_unfolding_all rfl)⟩
theorem tx_TooMany : TxI (defArgs s_TooMany) (defBody s_TooMany) (defScope s_TooMany) ["what", "most"] := ⟨.inr (.inr ⟨_, _, _, _, _, _, _, _, _, _, _, _, _, _, _, _, _, rfl, rfl, fun _ _ _ _ _ => ⟨_, rfl⟩⟩), rfl, rfl, rfl, rfl, rfl, rfl, by decide +kernel, ⟨_, rfl, rfl⟩, by decide +kernel, by decide +kernel, fun _ _ _ _ us h s x doc pm an ct => match us, h with | [_, _], _ => .of_eq (by first | rfl | with_unfolding_all rfl), fun _ _ _ _ us h s x doc pm an ct => match us, h with | [_, _], _ => .of_eq (by first | rfl | with_unfolding_all rfl), fun _ _ _ _ us h s x doc pm an ct => match us, h with | [_, _], _ => .of_eq (by first | rfl | with_unfolding_all rfl)⟩
set_option maxHeartbeats 8000000 in
theorem all_mk {P : Program} {w : World} {K : Frag} {h : Heap} {mg : Str → Option Value} {fa : Addr} {fl : Str} {v_MOST_VALUES : Value}
    {C_SkipError : Addr}
    {C_BadValue : Addr}
    {C_BadTold : Addr}
    {C_BadText : Addr}
    {C_TooMany : Addr}
    {C_Words : Addr}
    {C_Told : Addr}
    {C_Full : Addr}
    {C_Holed : Addr}
    {C_Open : Addr}
    {C_Span : Addr}
    {C_Listed : Addr}
    {C_FullSpan : Addr}
    {C_HoledSpan : Addr}
    {C_OpenSpan : Addr}
    {C_FullList : Addr}
    {C_HoledList : Addr}
    {C_OpenList : Addr}
    {C_Blank : Addr}
    {i_BadTold cc_BadTold cd_BadTold : Addr} {oc_BadTold doc_BadTold pm_BadTold ct_BadTold : Value} {od_BadTold an_BadTold : Option Addr} {sl_BadTold : Array (Option Value)}
    {i_TooMany cc_TooMany cd_TooMany : Addr} {oc_TooMany doc_TooMany pm_TooMany ct_TooMany : Value} {od_TooMany an_TooMany : Option Addr} {sl_TooMany : Array (Option Value)}
    {f_Told___eq__ : Addr} {oc_Told___eq__ kV_Told___eq__ doc_Told___eq__ pm_Told___eq__ cdv_Told___eq__ ct_Told___eq__ : Value} {od_Told___eq__ an_Told___eq__ : Option Addr} {sl_Told___eq__ : Array (Option Value)}
    {f_is_integer : Addr} {oc_is_integer kV_is_integer doc_is_integer pm_is_integer cdv_is_integer ct_is_integer : Value} {od_is_integer an_is_integer : Option Addr} {sl_is_integer : Array (Option Value)}
    {f_need_span : Addr} {oc_need_span kV_need_span doc_need_span pm_need_span cdv_need_span ct_need_span : Value} {od_need_span an_need_span : Option Addr} {sl_need_span : Array (Option Value)}
    {f_Told___init__ : Addr} {oc_Told___init__ kV_Told___init__ doc_Told___init__ pm_Told___init__ cdv_Told___init__ ct_Told___init__ : Value} {od_Told___init__ an_Told___init__ : Option Addr} {sl_Told___init__ : Array (Option Value)}
    {f_Span___init__ cc_Span___init__ cd_Span___init__ : Addr} {oc_Span___init__ doc_Span___init__ pm_Span___init__ ct_Span___init__ : Value} {od_Span___init__ an_Span___init__ : Option Addr} {sl_Span___init__ : Array (Option Value)} {t_Span___init__ : Addr} {to_Span___init__ : Value} {td_Span___init__ : Option Addr} {tn_Span___init__ : Nat} {ts_Span___init__ : Array (Option Value)}
    {f_Listed___init__ cc_Listed___init__ cd_Listed___init__ : Addr} {oc_Listed___init__ doc_Listed___init__ pm_Listed___init__ ct_Listed___init__ : Value} {od_Listed___init__ an_Listed___init__ : Option Addr} {sl_Listed___init__ : Array (Option Value)}
    {f_Blank___init__ cc_Blank___init__ cd_Blank___init__ : Addr} {oc_Blank___init__ doc_Blank___init__ pm_Blank___init__ ct_Blank___init__ : Value} {od_Blank___init__ an_Blank___init__ : Option Addr} {sl_Blank___init__ : Array (Option Value)}
    {f__law_bare : Addr} {oc__law_bare kV__law_bare doc__law_bare pm__law_bare cdv__law_bare ct__law_bare : Value} {od__law_bare an__law_bare : Option Addr} {sl__law_bare : Array (Option Value)}
    {f__law_some : Addr} {oc__law_some kV__law_some doc__law_some pm__law_some cdv__law_some ct__law_some : Value} {od__law_some an__law_some : Option Addr} {sl__law_some : Array (Option Value)}
    {f__law_stands : Addr} {oc__law_stands kV__law_stands doc__law_stands pm__law_stands cdv__law_stands ct__law_stands : Value} {od__law_stands an__law_stands : Option Addr} {sl__law_stands : Array (Option Value)}
    {f__law_draw : Addr} {oc__law_draw kV__law_draw doc__law_draw pm__law_draw cdv__law_draw ct__law_draw : Value} {od__law_draw an__law_draw : Option Addr} {sl__law_draw : Array (Option Value)}
    {f__law_pick : Addr} {oc__law_pick kV__law_pick doc__law_pick pm__law_pick cdv__law_pick ct__law_pick : Value} {od__law_pick an__law_pick : Option Addr} {sl__law_pick : Array (Option Value)}
    {f__law_number : Addr} {oc__law_number kV__law_number doc__law_number pm__law_number cdv__law_number ct__law_number : Value} {od__law_number an__law_number : Option Addr} {sl__law_number : Array (Option Value)}
    {f__law_list_right : Addr} {oc__law_list_right kV__law_list_right doc__law_list_right pm__law_list_right cdv__law_list_right ct__law_list_right : Value} {od__law_list_right an__law_list_right : Option Addr} {sl__law_list_right : Array (Option Value)}
    {f__law_span : Addr} {oc__law_span kV__law_span doc__law_span pm__law_span cdv__law_span ct__law_span : Value} {od__law_span an__law_span : Option Addr} {sl__law_span : Array (Option Value)}
    {f__law_unlike : Addr} {oc__law_unlike kV__law_unlike doc__law_unlike pm__law_unlike cdv__law_unlike ct__law_unlike : Value} {od__law_unlike an__law_unlike : Option Addr} {sl__law_unlike : Array (Option Value)}
    {f_Span_in_words : Addr} {oc_Span_in_words kV_Span_in_words doc_Span_in_words pm_Span_in_words cdv_Span_in_words ct_Span_in_words : Value} {od_Span_in_words an_Span_in_words : Option Addr} {sl_Span_in_words : Array (Option Value)}
    {f_Listed_in_words : Addr} {oc_Listed_in_words kV_Listed_in_words doc_Listed_in_words pm_Listed_in_words cdv_Listed_in_words ct_Listed_in_words : Value} {od_Listed_in_words an_Listed_in_words : Option Addr} {sl_Listed_in_words : Array (Option Value)}
    {f_Told_in_words : Addr} {oc_Told_in_words kV_Told_in_words doc_Told_in_words pm_Told_in_words cdv_Told_in_words ct_Told_in_words : Value} {od_Told_in_words an_Told_in_words : Option Addr} {sl_Told_in_words : Array (Option Value)}
    {f_Told___str__ : Addr} {oc_Told___str__ kV_Told___str__ doc_Told___str__ pm_Told___str__ cdv_Told___str__ ct_Told___str__ : Value} {od_Told___str__ an_Told___str__ : Option Addr} {sl_Told___str__ : Array (Option Value)}
    {f__law_named : Addr} {oc__law_named kV__law_named doc__law_named pm__law_named cdv__law_named ct__law_named : Value} {od__law_named an__law_named : Option Addr} {sl__law_named : Array (Option Value)}
    {f__law_span_right : Addr} {oc__law_span_right kV__law_span_right doc__law_span_right pm__law_span_right cdv__law_span_right ct__law_span_right : Value} {od__law_span_right an__law_span_right : Option Addr} {sl__law_span_right : Array (Option Value)}
    {f__law_pen : Addr} {oc__law_pen kV__law_pen doc__law_pen pm__law_pen cdv__law_pen ct__law_pen : Value} {od__law_pen an__law_pen : Option Addr} {sl__law_pen : Array (Option Value)}
    {f_law : Addr} {oc_law kV_law doc_law pm_law cdv_law ct_law : Value} {od_law an_law : Option Addr} {sl_law : Array (Option Value)}
    (yes : ∀ js : List Int, js.length ≤ 63 → ∃ μ, mf_law [.d (.scr (js.map .int))] [] = .val (.d (.bl true)) μ) (X : K.In h) (G : h.Ns mainGlobals mg) (hfa : mg "law" = some (.ref fa)) (hfl : (P.main.file : Str) = fl) (tops : (P.main.scope.names.lookup ("super" : Str)).isSome = false)
    (op : nsIn K cStatics "thirdparty.any" = some none)
    (sup : nsIn K mainGlobals "super" = some none)
    (hn : specialIn K (.builtin "object.__class__") "__get__" = some (some (.builtin "getset_descriptor.__get__")))
    (ht : takesIn K (.builtin "object.__class__") = some true)
    (n_abs : nsIn K mainGlobals "abs" = some none)
    (n_bool : nsIn K mainGlobals "bool" = some none)
    (n_enumerate : nsIn K mainGlobals "enumerate" = some none)
    (n_int : nsIn K mainGlobals "int" = some none)
    (n_isinstance : nsIn K mainGlobals "isinstance" = some none)
    (n_len : nsIn K mainGlobals "len" = some none)
    (n_list : nsIn K mainGlobals "list" = some none)
    (n_range : nsIn K mainGlobals "range" = some none)
    (n_repr : nsIn K mainGlobals "repr" = some none)
    (n_set : nsIn K mainGlobals "set" = some none)
    (n_sorted : nsIn K mainGlobals "sorted" = some none)
    (n_str : nsIn K mainGlobals "str" = some none)
    (n_tuple : nsIn K mainGlobals "tuple" = some none)
    (a_MOST_VALUES : nsIn K mainGlobals "MOST_VALUES" = some (some v_MOST_VALUES))
    (z_MOST_VALUES : RelV (.int 9) v_MOST_VALUES)
    (a_SkipError : nsIn K mainGlobals "SkipError" = some (some (.ref C_SkipError)))
    (a_BadValue : nsIn K mainGlobals "BadValue" = some (some (.ref C_BadValue)))
    (a_BadTold : nsIn K mainGlobals "BadTold" = some (some (.ref C_BadTold)))
    (a_BadText : nsIn K mainGlobals "BadText" = some (some (.ref C_BadText)))
    (a_TooMany : nsIn K mainGlobals "TooMany" = some (some (.ref C_TooMany)))
    (a_Words : nsIn K mainGlobals "Words" = some (some (.ref C_Words)))
    (a_Told : nsIn K mainGlobals "Told" = some (some (.ref C_Told)))
    (a_Full : nsIn K mainGlobals "Full" = some (some (.ref C_Full)))
    (a_Holed : nsIn K mainGlobals "Holed" = some (some (.ref C_Holed)))
    (a_Open : nsIn K mainGlobals "Open" = some (some (.ref C_Open)))
    (a_Span : nsIn K mainGlobals "Span" = some (some (.ref C_Span)))
    (a_Listed : nsIn K mainGlobals "Listed" = some (some (.ref C_Listed)))
    (a_FullSpan : nsIn K mainGlobals "FullSpan" = some (some (.ref C_FullSpan)))
    (a_HoledSpan : nsIn K mainGlobals "HoledSpan" = some (some (.ref C_HoledSpan)))
    (a_OpenSpan : nsIn K mainGlobals "OpenSpan" = some (some (.ref C_OpenSpan)))
    (a_FullList : nsIn K mainGlobals "FullList" = some (some (.ref C_FullList)))
    (a_HoledList : nsIn K mainGlobals "HoledList" = some (some (.ref C_HoledList)))
    (a_OpenList : nsIn K mainGlobals "OpenList" = some (some (.ref C_OpenList)))
    (a_Blank : nsIn K mainGlobals "Blank" = some (some (.ref C_Blank)))
    (h_BadTold : findIn K (.ref C_BadTold) "__init__" = some (some (.ref i_BadTold)))
    (l_BadTold : K.lookup i_BadTold = some ⟨oc_BadTold, od_BadTold, .func (ksFn "__init__" "BadTold.__init__" (defArgs s_BadTold) (defBody s_BadTold) (defScope s_BadTold) .none .none doc_BadTold pm_BadTold an_BadTold (.ref cd_BadTold) ct_BadTold cc_BadTold), sl_BadTold⟩)
    (o_BadTold : codeIn K (.ref cd_BadTold) "BadTold.__init__" = true)
    (q_BadTold : (ckC K C_BadTold && ckI K C_BadTold i_BadTold cc_BadTold cd_BadTold fl ["part"]) = true)
    (h_TooMany : findIn K (.ref C_TooMany) "__init__" = some (some (.ref i_TooMany)))
    (l_TooMany : K.lookup i_TooMany = some ⟨oc_TooMany, od_TooMany, .func (ksFn "__init__" "TooMany.__init__" (defArgs s_TooMany) (defBody s_TooMany) (defScope s_TooMany) .none .none doc_TooMany pm_TooMany an_TooMany (.ref cd_TooMany) ct_TooMany cc_TooMany), sl_TooMany⟩)
    (o_TooMany : codeIn K (.ref cd_TooMany) "TooMany.__init__" = true)
    (q_TooMany : (ckC K C_TooMany && ckI K C_TooMany i_TooMany cc_TooMany cd_TooMany fl ["what", "most"]) = true)
    (h_Told___eq__ : findIn K (.ref C_Told) "__eq__" = some (some (.ref f_Told___eq__)))
    (l_Told___eq__ : K.lookup f_Told___eq__ = some ⟨oc_Told___eq__, od_Told___eq__, .func (fnOf "__eq__" "Told.__eq__" (defArgs s_Told___eq__) (defBody s_Told___eq__) (defScope s_Told___eq__) .none kV_Told___eq__ doc_Told___eq__ pm_Told___eq__ an_Told___eq__ cdv_Told___eq__ ct_Told___eq__), sl_Told___eq__⟩)
    (c_Told___eq__ : codeIn K cdv_Told___eq__ "Told.__eq__" = true)
    (k_Told___eq__ : keepIn K (.ref f_Told___eq__) = true)
    (a_is_integer : nsIn K mainGlobals "is_integer" = some (some (.ref f_is_integer)))
    (l_is_integer : K.lookup f_is_integer = some ⟨oc_is_integer, od_is_integer, .func (fnOf "is_integer" "is_integer" (defArgs s_is_integer) (defBody s_is_integer) (defScope s_is_integer) .none kV_is_integer doc_is_integer pm_is_integer an_is_integer cdv_is_integer ct_is_integer), sl_is_integer⟩)
    (c_is_integer : codeIn K cdv_is_integer "is_integer" = true)
    (k_is_integer : keepIn K (.ref f_is_integer) = true)
    (a_need_span : nsIn K mainGlobals "need_span" = some (some (.ref f_need_span)))
    (l_need_span : K.lookup f_need_span = some ⟨oc_need_span, od_need_span, .func (fnOf "need_span" "need_span" (defArgs s_need_span) (defBody s_need_span) (defScope s_need_span) .none kV_need_span doc_need_span pm_need_span an_need_span cdv_need_span ct_need_span), sl_need_span⟩)
    (c_need_span : codeIn K cdv_need_span "need_span" = true)
    (k_need_span : keepIn K (.ref f_need_span) = true)
    (h_Told___init__ : findIn K (.ref C_Told) "__init__" = some (some (.ref f_Told___init__)))
    (l_Told___init__ : K.lookup f_Told___init__ = some ⟨oc_Told___init__, od_Told___init__, .func (fnOf "__init__" "Told.__init__" (defArgs s_Told___init__) (defBody s_Told___init__) (defScope s_Told___init__) .none kV_Told___init__ doc_Told___init__ pm_Told___init__ an_Told___init__ cdv_Told___init__ ct_Told___init__), sl_Told___init__⟩)
    (c_Told___init__ : codeIn K cdv_Told___init__ "Told.__init__" = true)
    (k_Told___init__ : keepIn K (.ref f_Told___init__) = true)
    (h_Span___init__ : findIn K (.ref C_Span) "__init__" = some (some (.ref f_Span___init__)))
    (l_Span___init__ : K.lookup f_Span___init__ = some ⟨oc_Span___init__, od_Span___init__, .func (ksFn "__init__" "Span.__init__" (defArgs s_Span___init__) (defBody s_Span___init__) (defScope s_Span___init__) (.ref t_Span___init__) .none doc_Span___init__ pm_Span___init__ an_Span___init__ (.ref cd_Span___init__) ct_Span___init__ cc_Span___init__), sl_Span___init__⟩)
    (t_Span___init___ : K.lookup t_Span___init__ = some ⟨to_Span___init__, td_Span___init__, .seq #[.bool true, .bool true] tn_Span___init__, ts_Span___init__⟩)
    (c_Span___init__ : codeIn K (.ref cd_Span___init__) "Span.__init__" = true)
    (h_Listed___init__ : findIn K (.ref C_Listed) "__init__" = some (some (.ref f_Listed___init__)))
    (l_Listed___init__ : K.lookup f_Listed___init__ = some ⟨oc_Listed___init__, od_Listed___init__, .func (ksFn "__init__" "Listed.__init__" (defArgs s_Listed___init__) (defBody s_Listed___init__) (defScope s_Listed___init__) .none .none doc_Listed___init__ pm_Listed___init__ an_Listed___init__ (.ref cd_Listed___init__) ct_Listed___init__ cc_Listed___init__), sl_Listed___init__⟩)
    (c_Listed___init__ : codeIn K (.ref cd_Listed___init__) "Listed.__init__" = true)
    (h_Blank___init__ : findIn K (.ref C_Blank) "__init__" = some (some (.ref f_Blank___init__)))
    (l_Blank___init__ : K.lookup f_Blank___init__ = some ⟨oc_Blank___init__, od_Blank___init__, .func (ksFn "__init__" "Blank.__init__" (defArgs s_Blank___init__) (defBody s_Blank___init__) (defScope s_Blank___init__) .none .none doc_Blank___init__ pm_Blank___init__ an_Blank___init__ (.ref cd_Blank___init__) ct_Blank___init__ cc_Blank___init__), sl_Blank___init__⟩)
    (c_Blank___init__ : codeIn K (.ref cd_Blank___init__) "Blank.__init__" = true)
    (a__law_bare : nsIn K mainGlobals "_law_bare" = some (some (.ref f__law_bare)))
    (l__law_bare : K.lookup f__law_bare = some ⟨oc__law_bare, od__law_bare, .func (fnOf "_law_bare" "_law_bare" (defArgs s__law_bare) (defBody s__law_bare) (defScope s__law_bare) .none kV__law_bare doc__law_bare pm__law_bare an__law_bare cdv__law_bare ct__law_bare), sl__law_bare⟩)
    (c__law_bare : codeIn K cdv__law_bare "_law_bare" = true)
    (k__law_bare : keepIn K (.ref f__law_bare) = true)
    (a__law_some : nsIn K mainGlobals "_law_some" = some (some (.ref f__law_some)))
    (l__law_some : K.lookup f__law_some = some ⟨oc__law_some, od__law_some, .func (fnOf "_law_some" "_law_some" (defArgs s__law_some) (defBody s__law_some) (defScope s__law_some) .none kV__law_some doc__law_some pm__law_some an__law_some cdv__law_some ct__law_some), sl__law_some⟩)
    (c__law_some : codeIn K cdv__law_some "_law_some" = true)
    (k__law_some : keepIn K (.ref f__law_some) = true)
    (a__law_stands : nsIn K mainGlobals "_law_stands" = some (some (.ref f__law_stands)))
    (l__law_stands : K.lookup f__law_stands = some ⟨oc__law_stands, od__law_stands, .func (fnOf "_law_stands" "_law_stands" (defArgs s__law_stands) (defBody s__law_stands) (defScope s__law_stands) .none kV__law_stands doc__law_stands pm__law_stands an__law_stands cdv__law_stands ct__law_stands), sl__law_stands⟩)
    (c__law_stands : codeIn K cdv__law_stands "_law_stands" = true)
    (k__law_stands : keepIn K (.ref f__law_stands) = true)
    (a__law_draw : nsIn K mainGlobals "_law_draw" = some (some (.ref f__law_draw)))
    (l__law_draw : K.lookup f__law_draw = some ⟨oc__law_draw, od__law_draw, .func (fnOf "_law_draw" "_law_draw" (defArgs s__law_draw) (defBody s__law_draw) (defScope s__law_draw) .none kV__law_draw doc__law_draw pm__law_draw an__law_draw cdv__law_draw ct__law_draw), sl__law_draw⟩)
    (c__law_draw : codeIn K cdv__law_draw "_law_draw" = true)
    (k__law_draw : keepIn K (.ref f__law_draw) = true)
    (a__law_pick : nsIn K mainGlobals "_law_pick" = some (some (.ref f__law_pick)))
    (l__law_pick : K.lookup f__law_pick = some ⟨oc__law_pick, od__law_pick, .func (fnOf "_law_pick" "_law_pick" (defArgs s__law_pick) (defBody s__law_pick) (defScope s__law_pick) .none kV__law_pick doc__law_pick pm__law_pick an__law_pick cdv__law_pick ct__law_pick), sl__law_pick⟩)
    (c__law_pick : codeIn K cdv__law_pick "_law_pick" = true)
    (k__law_pick : keepIn K (.ref f__law_pick) = true)
    (a__law_number : nsIn K mainGlobals "_law_number" = some (some (.ref f__law_number)))
    (l__law_number : K.lookup f__law_number = some ⟨oc__law_number, od__law_number, .func (fnOf "_law_number" "_law_number" (defArgs s__law_number) (defBody s__law_number) (defScope s__law_number) .none kV__law_number doc__law_number pm__law_number an__law_number cdv__law_number ct__law_number), sl__law_number⟩)
    (c__law_number : codeIn K cdv__law_number "_law_number" = true)
    (k__law_number : keepIn K (.ref f__law_number) = true)
    (a__law_list_right : nsIn K mainGlobals "_law_list_right" = some (some (.ref f__law_list_right)))
    (l__law_list_right : K.lookup f__law_list_right = some ⟨oc__law_list_right, od__law_list_right, .func (fnOf "_law_list_right" "_law_list_right" (defArgs s__law_list_right) (defBody s__law_list_right) (defScope s__law_list_right) .none kV__law_list_right doc__law_list_right pm__law_list_right an__law_list_right cdv__law_list_right ct__law_list_right), sl__law_list_right⟩)
    (c__law_list_right : codeIn K cdv__law_list_right "_law_list_right" = true)
    (k__law_list_right : keepIn K (.ref f__law_list_right) = true)
    (a__law_span : nsIn K mainGlobals "_law_span" = some (some (.ref f__law_span)))
    (l__law_span : K.lookup f__law_span = some ⟨oc__law_span, od__law_span, .func (fnOf "_law_span" "_law_span" (defArgs s__law_span) (defBody s__law_span) (defScope s__law_span) .none kV__law_span doc__law_span pm__law_span an__law_span cdv__law_span ct__law_span), sl__law_span⟩)
    (c__law_span : codeIn K cdv__law_span "_law_span" = true)
    (k__law_span : keepIn K (.ref f__law_span) = true)
    (a__law_unlike : nsIn K mainGlobals "_law_unlike" = some (some (.ref f__law_unlike)))
    (l__law_unlike : K.lookup f__law_unlike = some ⟨oc__law_unlike, od__law_unlike, .func (fnOf "_law_unlike" "_law_unlike" (defArgs s__law_unlike) (defBody s__law_unlike) (defScope s__law_unlike) .none kV__law_unlike doc__law_unlike pm__law_unlike an__law_unlike cdv__law_unlike ct__law_unlike), sl__law_unlike⟩)
    (c__law_unlike : codeIn K cdv__law_unlike "_law_unlike" = true)
    (k__law_unlike : keepIn K (.ref f__law_unlike) = true)
    (h_Span_in_words : findIn K (.ref C_Span) "in_words" = some (some (.ref f_Span_in_words)))
    (l_Span_in_words : K.lookup f_Span_in_words = some ⟨oc_Span_in_words, od_Span_in_words, .func (fnOf "in_words" "Span.in_words" (defArgs s_Span_in_words) (defBody s_Span_in_words) (defScope s_Span_in_words) .none kV_Span_in_words doc_Span_in_words pm_Span_in_words an_Span_in_words cdv_Span_in_words ct_Span_in_words), sl_Span_in_words⟩)
    (c_Span_in_words : codeIn K cdv_Span_in_words "Span.in_words" = true)
    (k_Span_in_words : keepIn K (.ref f_Span_in_words) = true)
    (h_Listed_in_words : findIn K (.ref C_Listed) "in_words" = some (some (.ref f_Listed_in_words)))
    (l_Listed_in_words : K.lookup f_Listed_in_words = some ⟨oc_Listed_in_words, od_Listed_in_words, .func (fnOf "in_words" "Listed.in_words" (defArgs s_Listed_in_words) (defBody s_Listed_in_words) (defScope s_Listed_in_words) .none kV_Listed_in_words doc_Listed_in_words pm_Listed_in_words an_Listed_in_words cdv_Listed_in_words ct_Listed_in_words), sl_Listed_in_words⟩)
    (c_Listed_in_words : codeIn K cdv_Listed_in_words "Listed.in_words" = true)
    (k_Listed_in_words : keepIn K (.ref f_Listed_in_words) = true)
    (h_Told_in_words : findIn K (.ref C_Told) "in_words" = some (some (.ref f_Told_in_words)))
    (l_Told_in_words : K.lookup f_Told_in_words = some ⟨oc_Told_in_words, od_Told_in_words, .func (fnOf "in_words" "Told.in_words" (defArgs s_Told_in_words) (defBody s_Told_in_words) (defScope s_Told_in_words) .none kV_Told_in_words doc_Told_in_words pm_Told_in_words an_Told_in_words cdv_Told_in_words ct_Told_in_words), sl_Told_in_words⟩)
    (c_Told_in_words : codeIn K cdv_Told_in_words "Told.in_words" = true)
    (k_Told_in_words : keepIn K (.ref f_Told_in_words) = true)
    (h_Told___str__ : findIn K (.ref C_Told) "__str__" = some (some (.ref f_Told___str__)))
    (l_Told___str__ : K.lookup f_Told___str__ = some ⟨oc_Told___str__, od_Told___str__, .func (fnOf "__str__" "Told.__str__" (defArgs s_Told___str__) (defBody s_Told___str__) (defScope s_Told___str__) .none kV_Told___str__ doc_Told___str__ pm_Told___str__ an_Told___str__ cdv_Told___str__ ct_Told___str__), sl_Told___str__⟩)
    (c_Told___str__ : codeIn K cdv_Told___str__ "Told.__str__" = true)
    (k_Told___str__ : keepIn K (.ref f_Told___str__) = true)
    (a__law_named : nsIn K mainGlobals "_law_named" = some (some (.ref f__law_named)))
    (l__law_named : K.lookup f__law_named = some ⟨oc__law_named, od__law_named, .func (fnOf "_law_named" "_law_named" (defArgs s__law_named) (defBody s__law_named) (defScope s__law_named) .none kV__law_named doc__law_named pm__law_named an__law_named cdv__law_named ct__law_named), sl__law_named⟩)
    (c__law_named : codeIn K cdv__law_named "_law_named" = true)
    (k__law_named : keepIn K (.ref f__law_named) = true)
    (a__law_span_right : nsIn K mainGlobals "_law_span_right" = some (some (.ref f__law_span_right)))
    (l__law_span_right : K.lookup f__law_span_right = some ⟨oc__law_span_right, od__law_span_right, .func (fnOf "_law_span_right" "_law_span_right" (defArgs s__law_span_right) (defBody s__law_span_right) (defScope s__law_span_right) .none kV__law_span_right doc__law_span_right pm__law_span_right an__law_span_right cdv__law_span_right ct__law_span_right), sl__law_span_right⟩)
    (c__law_span_right : codeIn K cdv__law_span_right "_law_span_right" = true)
    (k__law_span_right : keepIn K (.ref f__law_span_right) = true)
    (a__law_pen : nsIn K mainGlobals "_law_pen" = some (some (.ref f__law_pen)))
    (l__law_pen : K.lookup f__law_pen = some ⟨oc__law_pen, od__law_pen, .func (fnOf "_law_pen" "_law_pen" (defArgs s__law_pen) (defBody s__law_pen) (defScope s__law_pen) .none kV__law_pen doc__law_pen pm__law_pen an__law_pen cdv__law_pen ct__law_pen), sl__law_pen⟩)
    (c__law_pen : codeIn K cdv__law_pen "_law_pen" = true)
    (k__law_pen : keepIn K (.ref f__law_pen) = true)
    (a_law : nsIn K mainGlobals "law" = some (some (.ref f_law)))
    (l_law : K.lookup f_law = some ⟨oc_law, od_law, .func (fnOf "law" "law" (defArgs s_law) (defBody s_law) (defScope s_law) .none kV_law doc_law pm_law an_law cdv_law ct_law), sl_law⟩)
    (c_law : codeIn K cdv_law "law" = true)
    (k_law : keepIn K (.ref f_law) = true)
    (tkO : (([12, 13, 14, 15, 16, 17, 18] : List Nat).all fun c => ckO K (([C_SkipError, C_BadValue, C_BadTold, C_BadText, C_TooMany, C_Words, C_Told, C_Full, C_Holed, C_Open, C_Span, C_Listed, C_FullSpan, C_HoledSpan, C_OpenSpan, C_FullList, C_HoledList, C_OpenList, C_Blank] : List Addr).getD c 0)) = true)
    (tkF : (([12, 13, 14, 15, 16, 17, 18] : List Nat).all fun c => (["low", "high", "wants", "shape", "low_reached", "high_reached", "listed"] : List Str).all fun f => findIn K (.ref (([C_SkipError, C_BadValue, C_BadTold, C_BadText, C_TooMany, C_Words, C_Told, C_Full, C_Holed, C_Open, C_Span, C_Listed, C_FullSpan, C_HoledSpan, C_OpenSpan, C_FullList, C_HoledList, C_OpenList, C_Blank] : List Addr).getD c 0)) f == some none) = true)
    (tkc_NULLS : (ckCo K C_FullSpan "NULLS" "full" && ckCo K C_HoledSpan "NULLS" "holed" && ckCo K C_OpenSpan "NULLS" "open" && ckCo K C_FullList "NULLS" "full" && ckCo K C_HoledList "NULLS" "holed" && ckCo K C_OpenList "NULLS" "open" && ckCo K C_Blank "NULLS" "blank") = true)
    (tkI : (tys.all fun n => (["int", "bool"].all fun t => kitOne K (.type n) (.type t) == some (n == t || (n == "bool" && t == "int"))) && (bases.all fun k => kitOne K (.type n) (.ref (([C_SkipError, C_BadValue, C_BadTold, C_BadText, C_TooMany, C_Words, C_Told, C_Full, C_Holed, C_Open, C_Span, C_Listed, C_FullSpan, C_HoledSpan, C_OpenSpan, C_FullList, C_HoledList, C_OpenList, C_Blank] : List Addr).getD k 0)) == some false) && kitAny K (.type n) [.type "list", .type "tuple"] == some (n == "list" || n == "tuple")) = true)
    (tkJ : (([12, 13, 14, 15, 16, 17, 18] : List Nat).all fun c => (["int", "bool"].all fun t => kitOne K (.ref (([C_SkipError, C_BadValue, C_BadTold, C_BadText, C_TooMany, C_Words, C_Told, C_Full, C_Holed, C_Open, C_Span, C_Listed, C_FullSpan, C_HoledSpan, C_OpenSpan, C_FullList, C_HoledList, C_OpenList, C_Blank] : List Addr).getD c 0)) (.type t) == some false) && (bases.all fun k => kitOne K (.ref (([C_SkipError, C_BadValue, C_BadTold, C_BadText, C_TooMany, C_Words, C_Told, C_Full, C_Holed, C_Open, C_Span, C_Listed, C_FullSpan, C_HoledSpan, C_OpenSpan, C_FullList, C_HoledList, C_OpenList, C_Blank] : List Addr).getD c 0)) (.ref (([C_SkipError, C_BadValue, C_BadTold, C_BadText, C_TooMany, C_Words, C_Told, C_Full, C_Holed, C_Open, C_Span, C_Listed, C_FullSpan, C_HoledSpan, C_OpenSpan, C_FullList, C_HoledList, C_OpenList, C_Blank] : List Addr).getD k 0)) == some ((above c).contains k)) && kitAny K (.ref (([C_SkipError, C_BadValue, C_BadTold, C_BadText, C_TooMany, C_Words, C_Told, C_Full, C_Holed, C_Open, C_Span, C_Listed, C_FullSpan, C_HoledSpan, C_OpenSpan, C_FullList, C_HoledList, C_OpenList, C_Blank] : List Addr).getD c 0)) [.type "list", .type "tuple"] == some false && (([12, 13, 14, 15, 16, 17, 18] : List Nat).all fun k => notFirst K (([C_SkipError, C_BadValue, C_BadTold, C_BadText, C_TooMany, C_Words, C_Told, C_Full, C_Holed, C_Open, C_Span, C_Listed, C_FullSpan, C_HoledSpan, C_OpenSpan, C_FullList, C_HoledList, C_OpenList, C_Blank] : List Addr).getD c 0) (.ref (([C_SkipError, C_BadValue, C_BadTold, C_BadText, C_TooMany, C_Words, C_Told, C_Full, C_Holed, C_Open, C_Span, C_Listed, C_FullSpan, C_HoledSpan, C_OpenSpan, C_FullList, C_HoledList, C_OpenList, C_Blank] : List Addr).getD k 0))) && (tys.all fun n => notFirst K (([C_SkipError, C_BadValue, C_BadTold, C_BadText, C_TooMany, C_Words, C_Told, C_Full, C_Holed, C_Open, C_Span, C_Listed, C_FullSpan, C_HoledSpan, C_OpenSpan, C_FullList, C_HoledList, C_OpenList, C_Blank] : List Addr).getD c 0) (.type n))) = true)
    (tkm_Blank : ckMk K C_Blank f_Blank___init__ = true)
    (tkm_FullList : ckMk K C_FullList f_Listed___init__ = true)
    (tkm_FullSpan : ckMk K C_FullSpan f_Span___init__ = true)
    (tkm_HoledList : ckMk K C_HoledList f_Listed___init__ = true)
    (tkm_HoledSpan : ckMk K C_HoledSpan f_Span___init__ = true)
    (tkm_OpenList : ckMk K C_OpenList f_Listed___init__ = true)
    (tkm_OpenSpan : ckMk K C_OpenSpan f_Span___init__ = true)
    (tkt_in_words_Sp : (([12, 13, 14] : List Nat).all fun c => ckMe K (([C_SkipError, C_BadValue, C_BadTold, C_BadText, C_TooMany, C_Words, C_Told, C_Full, C_Holed, C_Open, C_Span, C_Listed, C_FullSpan, C_HoledSpan, C_OpenSpan, C_FullList, C_HoledList, C_OpenList, C_Blank] : List Addr).getD c 0) "in_words" f_Span_in_words) = true)
    (tkt_in_words_Li : (([15, 16, 17] : List Nat).all fun c => ckMe K (([C_SkipError, C_BadValue, C_BadTold, C_BadText, C_TooMany, C_Words, C_Told, C_Full, C_Holed, C_Open, C_Span, C_Listed, C_FullSpan, C_HoledSpan, C_OpenSpan, C_FullList, C_HoledList, C_OpenList, C_Blank] : List Addr).getD c 0) "in_words" f_Listed_in_words) = true)
    (tkt_in_words_Bl : (([18] : List Nat).all fun c => ckMe K (([C_SkipError, C_BadValue, C_BadTold, C_BadText, C_TooMany, C_Words, C_Told, C_Full, C_Holed, C_Open, C_Span, C_Listed, C_FullSpan, C_HoledSpan, C_OpenSpan, C_FullList, C_HoledList, C_OpenList, C_Blank] : List Addr).getD c 0) "in_words" f_Told_in_words) = true)
    (tkd___eq__ : (([12, 13, 14, 15, 16, 17, 18] : List Nat).all fun c => findIn K (.ref (([C_SkipError, C_BadValue, C_BadTold, C_BadText, C_TooMany, C_Words, C_Told, C_Full, C_Holed, C_Open, C_Span, C_Listed, C_FullSpan, C_HoledSpan, C_OpenSpan, C_FullList, C_HoledList, C_OpenList, C_Blank] : List Addr).getD c 0)) "__eq__" == some (some (.ref f_Told___eq__)) && isFn K (.ref f_Told___eq__)) = true)
    (tkd___str__ : (([12, 13, 14, 15, 16, 17, 18] : List Nat).all fun c => findIn K (.ref (([C_SkipError, C_BadValue, C_BadTold, C_BadText, C_TooMany, C_Words, C_Told, C_Full, C_Holed, C_Open, C_Span, C_Listed, C_FullSpan, C_HoledSpan, C_OpenSpan, C_FullList, C_HoledList, C_OpenList, C_Blank] : List Addr).getD c 0)) "__str__" == some (some (.ref f_Told___str__)) && isFn K (.ref f_Told___str__)) = true)
    (tks_Span___init__ : ckSu K [C_SkipError, C_BadValue, C_BadTold, C_BadText, C_TooMany, C_Words, C_Told, C_Full, C_Holed, C_Open, C_Span, C_Listed, C_FullSpan, C_HoledSpan, C_OpenSpan, C_FullList, C_HoledList, C_OpenList, C_Blank] [12, 13, 14] C_Span f_Told___init__ cc_Span___init__ cd_Span___init__ fl = true)
    (tks_Listed___init__ : ckSu K [C_SkipError, C_BadValue, C_BadTold, C_BadText, C_TooMany, C_Words, C_Told, C_Full, C_Holed, C_Open, C_Span, C_Listed, C_FullSpan, C_HoledSpan, C_OpenSpan, C_FullList, C_HoledList, C_OpenList, C_Blank] [15, 16, 17] C_Listed f_Told___init__ cc_Listed___init__ cd_Listed___init__ fl = true)
    (tks_Blank___init__ : ckSu K [C_SkipError, C_BadValue, C_BadTold, C_BadText, C_TooMany, C_Words, C_Told, C_Full, C_Holed, C_Open, C_Span, C_Listed, C_FullSpan, C_HoledSpan, C_OpenSpan, C_FullList, C_HoledList, C_OpenList, C_Blank] [18] C_Blank f_Told___init__ cc_Blank___init__ cd_Blank___init__ fl = true)
    : ∃ (fd : FuncData) (ca : Nat → Addr) (mf : MF), (∀ (s : Shared) (u : Value), BindsTo s fd ⟨[u], []⟩ [("_law_script", u)]) ∧ (∀ js : List Int, js.length ≤ 63 → ∃ μ, mf [.d (.scr (js.map .int))] [] = .val (.d (.bl true)) μ) ∧ ∀ base : Heap, K.In base → base.Ns mainGlobals mg → FnG P w K mg base 8 fa fd ["_law_script"] (spD K ca 1 mf) := by
  subst hfl
  have e : f_law = fa := by have e := (mg_of X G a_law).symm.trans hfa; cases e; rfl
  subst e
  have sg := mg_none_of X G sup
  have E_BadTold := er_mk (P := P) X G tx_BadTold op sg tops a_BadTold (Bool.and_eq_true_iff.mp q_BadTold).1 l_BadTold o_BadTold (Bool.and_eq_true_iff.mp q_BadTold).2
  have E_TooMany := er_mk (P := P) X G tx_TooMany op sg tops a_TooMany (Bool.and_eq_true_iff.mp q_TooMany).1 l_TooMany o_TooMany (Bool.and_eq_true_iff.mp q_TooMany).2
  have U_Told___eq__ := fun_mk (st := s_Told___eq__) l_Told___eq__ c_Told___eq__ k_Told___eq__
  have B_Told___eq__ : Binds K (fnOf "__eq__" "Told.__eq__" (defArgs s_Told___eq__) (defBody s_Told___eq__) (defScope s_Told___eq__) .none kV_Told___eq__ doc_Told___eq__ pm_Told___eq__ an_Told___eq__ cdv_Told___eq__ ct_Told___eq__) ["self", "other"] [] := U_Told___eq__.binds (ps := ["self", "other"]) fun _ _ _ _ _ _ us hl => match us, hl with | [_, _], _ => rfl
  have U_is_integer := fun_mk (st := s_is_integer) l_is_integer c_is_integer k_is_integer
  have B_is_integer : Binds K (fnOf "is_integer" "is_integer" (defArgs s_is_integer) (defBody s_is_integer) (defScope s_is_integer) .none kV_is_integer doc_is_integer pm_is_integer an_is_integer cdv_is_integer ct_is_integer) ["value"] [] := U_is_integer.binds (ps := ["value"]) fun _ _ _ _ _ _ us hl => match us, hl with | [_], _ => rfl
  have U_need_span := fun_mk (st := s_need_span) l_need_span c_need_span k_need_span
  have B_need_span : Binds K (fnOf "need_span" "need_span" (defArgs s_need_span) (defBody s_need_span) (defScope s_need_span) .none kV_need_span doc_need_span pm_need_span an_need_span cdv_need_span ct_need_span) ["low", "high", "low_reached", "high_reached"] [] := U_need_span.binds (ps := ["low", "high", "low_reached", "high_reached"]) fun _ _ _ _ _ _ us hl => match us, hl with | [_, _, _, _], _ => rfl
  have U_Told___init__ := fun_mk (st := s_Told___init__) l_Told___init__ c_Told___init__ k_Told___init__
  have B_Told___init__ : Binds K (fnOf "__init__" "Told.__init__" (defArgs s_Told___init__) (defBody s_Told___init__) (defScope s_Told___init__) .none kV_Told___init__ doc_Told___init__ pm_Told___init__ an_Told___init__ cdv_Told___init__ ct_Told___init__) ["self", "low", "high", "listed", "sure"] [] := U_Told___init__.binds (ps := ["self", "low", "high", "listed", "sure"]) fun _ _ _ _ _ _ us hl => match us, hl with | [_, _, _, _, _], _ => rfl
  have U_Span___init__ : FunS K "__init__" "Span.__init__" s_Span___init__ f_Span___init__ cc_Span___init__ cd_Span___init__ (ksFn "__init__" "Span.__init__" (defArgs s_Span___init__) (defBody s_Span___init__) (defScope s_Span___init__) (.ref t_Span___init__) .none doc_Span___init__ pm_Span___init__ an_Span___init__ (.ref cd_Span___init__) ct_Span___init__ cc_Span___init__) (.ref t_Span___init__) := ⟨⟨_, _, _, _, _, _, _, rfl, l_Span___init__, c_Span___init__⟩⟩
  have U_Listed___init__ : FunS K "__init__" "Listed.__init__" s_Listed___init__ f_Listed___init__ cc_Listed___init__ cd_Listed___init__ (ksFn "__init__" "Listed.__init__" (defArgs s_Listed___init__) (defBody s_Listed___init__) (defScope s_Listed___init__) .none .none doc_Listed___init__ pm_Listed___init__ an_Listed___init__ (.ref cd_Listed___init__) ct_Listed___init__ cc_Listed___init__) .none := ⟨⟨_, _, _, _, _, _, _, rfl, l_Listed___init__, c_Listed___init__⟩⟩
  have U_Blank___init__ : FunS K "__init__" "Blank.__init__" s_Blank___init__ f_Blank___init__ cc_Blank___init__ cd_Blank___init__ (ksFn "__init__" "Blank.__init__" (defArgs s_Blank___init__) (defBody s_Blank___init__) (defScope s_Blank___init__) .none .none doc_Blank___init__ pm_Blank___init__ an_Blank___init__ (.ref cd_Blank___init__) ct_Blank___init__ cc_Blank___init__) .none := ⟨⟨_, _, _, _, _, _, _, rfl, l_Blank___init__, c_Blank___init__⟩⟩
  have U__law_bare := fun_mk (st := s__law_bare) l__law_bare c__law_bare k__law_bare
  have B__law_bare : Binds K (fnOf "_law_bare" "_law_bare" (defArgs s__law_bare) (defBody s__law_bare) (defScope s__law_bare) .none kV__law_bare doc__law_bare pm__law_bare an__law_bare cdv__law_bare ct__law_bare) ["_law_nulls", "_law_first", "_law_last"] [] := U__law_bare.binds (ps := ["_law_nulls", "_law_first", "_law_last"]) fun _ _ _ _ _ _ us hl => match us, hl with | [_, _, _], _ => rfl
  have U__law_some := fun_mk (st := s__law_some) l__law_some c__law_some k__law_some
  have B__law_some : Binds K (fnOf "_law_some" "_law_some" (defArgs s__law_some) (defBody s__law_some) (defScope s__law_some) .none kV__law_some doc__law_some pm__law_some an__law_some cdv__law_some ct__law_some) ["_law_way", "_law_some_here"] [] := U__law_some.binds (ps := ["_law_way", "_law_some_here"]) fun _ _ _ _ _ _ us hl => match us, hl with | [_, _], _ => rfl
  have U__law_stands := fun_mk (st := s__law_stands) l__law_stands c__law_stands k__law_stands
  have B__law_stands : Binds K (fnOf "_law_stands" "_law_stands" (defArgs s__law_stands) (defBody s__law_stands) (defScope s__law_stands) .none kV__law_stands doc__law_stands pm__law_stands an__law_stands cdv__law_stands ct__law_stands) ["_law_thing", "_law_nulls", "_law_is_span"] [] := U__law_stands.binds (ps := ["_law_thing", "_law_nulls", "_law_is_span"]) fun _ _ _ _ _ _ us hl => match us, hl with | [_, _, _], _ => rfl
  have U__law_draw := fun_mk (st := s__law_draw) l__law_draw c__law_draw k__law_draw
  have B__law_draw : Binds K (fnOf "_law_draw" "_law_draw" (defArgs s__law_draw) (defBody s__law_draw) (defScope s__law_draw) .none kV__law_draw doc__law_draw pm__law_draw an__law_draw cdv__law_draw ct__law_draw) ["_law_pen_here", "_law_many"] [] := U__law_draw.binds (ps := ["_law_pen_here", "_law_many"]) fun _ _ _ _ _ _ us hl => match us, hl with | [_, _], _ => rfl
  have U__law_pick := fun_mk (st := s__law_pick) l__law_pick c__law_pick k__law_pick
  have B__law_pick : Binds K (fnOf "_law_pick" "_law_pick" (defArgs s__law_pick) (defBody s__law_pick) (defScope s__law_pick) .none kV__law_pick doc__law_pick pm__law_pick an__law_pick cdv__law_pick ct__law_pick) ["_law_pen_here", "_law_some_here"] [] := U__law_pick.binds (ps := ["_law_pen_here", "_law_some_here"]) fun _ _ _ _ _ _ us hl => match us, hl with | [_, _], _ => rfl
  have U__law_number := fun_mk (st := s__law_number) l__law_number c__law_number k__law_number
  have B__law_number : Binds K (fnOf "_law_number" "_law_number" (defArgs s__law_number) (defBody s__law_number) (defScope s__law_number) .none kV__law_number doc__law_number pm__law_number an__law_number cdv__law_number ct__law_number) ["_law_pen_here"] [] := U__law_number.binds (ps := ["_law_pen_here"]) fun _ _ _ _ _ _ us hl => match us, hl with | [_], _ => rfl
  have U__law_list_right := fun_mk (st := s__law_list_right) l__law_list_right c__law_list_right k__law_list_right
  have B__law_list_right : Binds K (fnOf "_law_list_right" "_law_list_right" (defArgs s__law_list_right) (defBody s__law_list_right) (defScope s__law_list_right) .none kV__law_list_right doc__law_list_right pm__law_list_right an__law_list_right cdv__law_list_right ct__law_list_right) ["_law_pen_here"] [] := U__law_list_right.binds (ps := ["_law_pen_here"]) fun _ _ _ _ _ _ us hl => match us, hl with | [_], _ => rfl
  have U__law_span := fun_mk (st := s__law_span) l__law_span c__law_span k__law_span
  have B__law_span : Binds K (fnOf "_law_span" "_law_span" (defArgs s__law_span) (defBody s__law_span) (defScope s__law_span) .none kV__law_span doc__law_span pm__law_span an__law_span cdv__law_span ct__law_span) ["_law_nulls", "_law_first", "_law_last", "_law_one", "_law_two"] [] := U__law_span.binds (ps := ["_law_nulls", "_law_first", "_law_last", "_law_one", "_law_two"]) fun _ _ _ _ _ _ us hl => match us, hl with | [_, _, _, _, _], _ => rfl
  have U__law_unlike := fun_mk (st := s__law_unlike) l__law_unlike c__law_unlike k__law_unlike
  have B__law_unlike : Binds K (fnOf "_law_unlike" "_law_unlike" (defArgs s__law_unlike) (defBody s__law_unlike) (defScope s__law_unlike) .none kV__law_unlike doc__law_unlike pm__law_unlike an__law_unlike cdv__law_unlike ct__law_unlike) ["_law_nulls", "_law_ends", "_law_flags"] [] := U__law_unlike.binds (ps := ["_law_nulls", "_law_ends", "_law_flags"]) fun _ _ _ _ _ _ us hl => match us, hl with | [_, _, _], _ => rfl
  have U_Span_in_words := fun_mk (st := s_Span_in_words) l_Span_in_words c_Span_in_words k_Span_in_words
  have B_Span_in_words : Binds K (fnOf "in_words" "Span.in_words" (defArgs s_Span_in_words) (defBody s_Span_in_words) (defScope s_Span_in_words) .none kV_Span_in_words doc_Span_in_words pm_Span_in_words an_Span_in_words cdv_Span_in_words ct_Span_in_words) ["self"] [] := U_Span_in_words.binds (ps := ["self"]) fun _ _ _ _ _ _ us hl => match us, hl with | [_], _ => rfl
  have U_Listed_in_words := fun_mk (st := s_Listed_in_words) l_Listed_in_words c_Listed_in_words k_Listed_in_words
  have B_Listed_in_words : Binds K (fnOf "in_words" "Listed.in_words" (defArgs s_Listed_in_words) (defBody s_Listed_in_words) (defScope s_Listed_in_words) .none kV_Listed_in_words doc_Listed_in_words pm_Listed_in_words an_Listed_in_words cdv_Listed_in_words ct_Listed_in_words) ["self"] [] := U_Listed_in_words.binds (ps := ["self"]) fun _ _ _ _ _ _ us hl => match us, hl with | [_], _ => rfl
  have U_Told_in_words := fun_mk (st := s_Told_in_words) l_Told_in_words c_Told_in_words k_Told_in_words
  have B_Told_in_words : Binds K (fnOf "in_words" "Told.in_words" (defArgs s_Told_in_words) (defBody s_Told_in_words) (defScope s_Told_in_words) .none kV_Told_in_words doc_Told_in_words pm_Told_in_words an_Told_in_words cdv_Told_in_words ct_Told_in_words) ["self"] [] := U_Told_in_words.binds (ps := ["self"]) fun _ _ _ _ _ _ us hl => match us, hl with | [_], _ => rfl
  have U_Told___str__ := fun_mk (st := s_Told___str__) l_Told___str__ c_Told___str__ k_Told___str__
  have B_Told___str__ : Binds K (fnOf "__str__" "Told.__str__" (defArgs s_Told___str__) (defBody s_Told___str__) (defScope s_Told___str__) .none kV_Told___str__ doc_Told___str__ pm_Told___str__ an_Told___str__ cdv_Told___str__ ct_Told___str__) ["self"] [] := U_Told___str__.binds (ps := ["self"]) fun _ _ _ _ _ _ us hl => match us, hl with | [_], _ => rfl
  have U__law_named := fun_mk (st := s__law_named) l__law_named c__law_named k__law_named
  have B__law_named : Binds K (fnOf "_law_named" "_law_named" (defArgs s__law_named) (defBody s__law_named) (defScope s__law_named) .none kV__law_named doc__law_named pm__law_named an__law_named cdv__law_named ct__law_named) ["_law_nulls", "_law_first", "_law_last", "_law_one", "_law_two"] [] := U__law_named.binds (ps := ["_law_nulls", "_law_first", "_law_last", "_law_one", "_law_two"]) fun _ _ _ _ _ _ us hl => match us, hl with | [_, _, _, _, _], _ => rfl
  have U__law_span_right := fun_mk (st := s__law_span_right) l__law_span_right c__law_span_right k__law_span_right
  have B__law_span_right : Binds K (fnOf "_law_span_right" "_law_span_right" (defArgs s__law_span_right) (defBody s__law_span_right) (defScope s__law_span_right) .none kV__law_span_right doc__law_span_right pm__law_span_right an__law_span_right cdv__law_span_right ct__law_span_right) ["_law_pen_here"] [] := U__law_span_right.binds (ps := ["_law_pen_here"]) fun _ _ _ _ _ _ us hl => match us, hl with | [_], _ => rfl
  have U__law_pen := fun_mk (st := s__law_pen) l__law_pen c__law_pen k__law_pen
  have B__law_pen : Binds K (fnOf "_law_pen" "_law_pen" (defArgs s__law_pen) (defBody s__law_pen) (defScope s__law_pen) .none kV__law_pen doc__law_pen pm__law_pen an__law_pen cdv__law_pen ct__law_pen) ["_law_script"] [] := U__law_pen.binds (ps := ["_law_script"]) fun _ _ _ _ _ _ us hl => match us, hl with | [_], _ => rfl
  have U_law := fun_mk (st := s_law) l_law c_law k_law
  have B_law : Binds K (fnOf "law" "law" (defArgs s_law) (defBody s_law) (defScope s_law) .none kV_law doc_law pm_law an_law cdv_law ct_law) ["_law_script"] [] := U_law.binds (ps := ["_law_script"]) fun _ _ _ _ _ _ us hl => match us, hl with | [_], _ => rfl
  have okO : ∀ c, isT c = true → OkC K (atC [C_SkipError, C_BadValue, C_BadTold, C_BadText, C_TooMany, C_Words, C_Told, C_Full, C_Holed, C_Open, C_Span, C_Listed, C_FullSpan, C_HoledSpan, C_OpenSpan, C_FullList, C_HoledList, C_OpenList, C_Blank] c) := fun c hc => okC (all_at tkO hc)
  have iso : ∀ c, isT c = true → IsO K (atC [C_SkipError, C_BadValue, C_BadTold, C_BadText, C_TooMany, C_Words, C_Told, C_Full, C_Holed, C_Open, C_Span, C_Listed, C_FullSpan, C_HoledSpan, C_OpenSpan, C_FullList, C_HoledList, C_OpenList, C_Blank] c) := fun c hc => okC.iso (okO c hc) hn ht
  have T : Txt K P mg (atC [C_SkipError, C_BadValue, C_BadTold, C_BadText, C_TooMany, C_Words, C_Told, C_Full, C_Holed, C_Open, C_Span, C_Listed, C_FullSpan, C_HoledSpan, C_OpenSpan, C_FullList, C_HoledList, C_OpenList, C_Blank]) f_Told___eq__ (fnOf "__eq__" "Told.__eq__" (defArgs s_Told___eq__) (defBody s_Told___eq__) (defScope s_Told___eq__) .none kV_Told___eq__ doc_Told___eq__ pm_Told___eq__ an_Told___eq__ cdv_Told___eq__ ct_Told___eq__) f_is_integer (fnOf "is_integer" "is_integer" (defArgs s_is_integer) (defBody s_is_integer) (defScope s_is_integer) .none kV_is_integer doc_is_integer pm_is_integer an_is_integer cdv_is_integer ct_is_integer) f_need_span (fnOf "need_span" "need_span" (defArgs s_need_span) (defBody s_need_span) (defScope s_need_span) .none kV_need_span doc_need_span pm_need_span an_need_span cdv_need_span ct_need_span) f_Told___init__ (fnOf "__init__" "Told.__init__" (defArgs s_Told___init__) (defBody s_Told___init__) (defScope s_Told___init__) .none kV_Told___init__ doc_Told___init__ pm_Told___init__ an_Told___init__ cdv_Told___init__ ct_Told___init__) f_Span___init__ (ksFn "__init__" "Span.__init__" (defArgs s_Span___init__) (defBody s_Span___init__) (defScope s_Span___init__) (.ref t_Span___init__) .none doc_Span___init__ pm_Span___init__ an_Span___init__ (.ref cd_Span___init__) ct_Span___init__ cc_Span___init__) cc_Span___init__ cd_Span___init__ t_Span___init__ f_Listed___init__ (ksFn "__init__" "Listed.__init__" (defArgs s_Listed___init__) (defBody s_Listed___init__) (defScope s_Listed___init__) .none .none doc_Listed___init__ pm_Listed___init__ an_Listed___init__ (.ref cd_Listed___init__) ct_Listed___init__ cc_Listed___init__) cc_Listed___init__ cd_Listed___init__ f_Blank___init__ (ksFn "__init__" "Blank.__init__" (defArgs s_Blank___init__) (defBody s_Blank___init__) (defScope s_Blank___init__) .none .none doc_Blank___init__ pm_Blank___init__ an_Blank___init__ (.ref cd_Blank___init__) ct_Blank___init__ cc_Blank___init__) cc_Blank___init__ cd_Blank___init__ f__law_bare (fnOf "_law_bare" "_law_bare" (defArgs s__law_bare) (defBody s__law_bare) (defScope s__law_bare) .none kV__law_bare doc__law_bare pm__law_bare an__law_bare cdv__law_bare ct__law_bare) f__law_some (fnOf "_law_some" "_law_some" (defArgs s__law_some) (defBody s__law_some) (defScope s__law_some) .none kV__law_some doc__law_some pm__law_some an__law_some cdv__law_some ct__law_some) f__law_stands (fnOf "_law_stands" "_law_stands" (defArgs s__law_stands) (defBody s__law_stands) (defScope s__law_stands) .none kV__law_stands doc__law_stands pm__law_stands an__law_stands cdv__law_stands ct__law_stands) f__law_draw (fnOf "_law_draw" "_law_draw" (defArgs s__law_draw) (defBody s__law_draw) (defScope s__law_draw) .none kV__law_draw doc__law_draw pm__law_draw an__law_draw cdv__law_draw ct__law_draw) f__law_pick (fnOf "_law_pick" "_law_pick" (defArgs s__law_pick) (defBody s__law_pick) (defScope s__law_pick) .none kV__law_pick doc__law_pick pm__law_pick an__law_pick cdv__law_pick ct__law_pick) f__law_number (fnOf "_law_number" "_law_number" (defArgs s__law_number) (defBody s__law_number) (defScope s__law_number) .none kV__law_number doc__law_number pm__law_number an__law_number cdv__law_number ct__law_number) f__law_list_right (fnOf "_law_list_right" "_law_list_right" (defArgs s__law_list_right) (defBody s__law_list_right) (defScope s__law_list_right) .none kV__law_list_right doc__law_list_right pm__law_list_right an__law_list_right cdv__law_list_right ct__law_list_right) f__law_span (fnOf "_law_span" "_law_span" (defArgs s__law_span) (defBody s__law_span) (defScope s__law_span) .none kV__law_span doc__law_span pm__law_span an__law_span cdv__law_span ct__law_span) f__law_unlike (fnOf "_law_unlike" "_law_unlike" (defArgs s__law_unlike) (defBody s__law_unlike) (defScope s__law_unlike) .none kV__law_unlike doc__law_unlike pm__law_unlike an__law_unlike cdv__law_unlike ct__law_unlike) f_Span_in_words (fnOf "in_words" "Span.in_words" (defArgs s_Span_in_words) (defBody s_Span_in_words) (defScope s_Span_in_words) .none kV_Span_in_words doc_Span_in_words pm_Span_in_words an_Span_in_words cdv_Span_in_words ct_Span_in_words) f_Listed_in_words (fnOf "in_words" "Listed.in_words" (defArgs s_Listed_in_words) (defBody s_Listed_in_words) (defScope s_Listed_in_words) .none kV_Listed_in_words doc_Listed_in_words pm_Listed_in_words an_Listed_in_words cdv_Listed_in_words ct_Listed_in_words) f_Told_in_words (fnOf "in_words" "Told.in_words" (defArgs s_Told_in_words) (defBody s_Told_in_words) (defScope s_Told_in_words) .none kV_Told_in_words doc_Told_in_words pm_Told_in_words an_Told_in_words cdv_Told_in_words ct_Told_in_words) f_Told___str__ (fnOf "__str__" "Told.__str__" (defArgs s_Told___str__) (defBody s_Told___str__) (defScope s_Told___str__) .none kV_Told___str__ doc_Told___str__ pm_Told___str__ an_Told___str__ cdv_Told___str__ ct_Told___str__) f__law_named (fnOf "_law_named" "_law_named" (defArgs s__law_named) (defBody s__law_named) (defScope s__law_named) .none kV__law_named doc__law_named pm__law_named an__law_named cdv__law_named ct__law_named) f__law_span_right (fnOf "_law_span_right" "_law_span_right" (defArgs s__law_span_right) (defBody s__law_span_right) (defScope s__law_span_right) .none kV__law_span_right doc__law_span_right pm__law_span_right an__law_span_right cdv__law_span_right ct__law_span_right) f__law_pen (fnOf "_law_pen" "_law_pen" (defArgs s__law_pen) (defBody s__law_pen) (defScope s__law_pen) .none kV__law_pen doc__law_pen pm__law_pen an__law_pen cdv__law_pen ct__law_pen) f_law (fnOf "law" "law" (defArgs s_law) (defBody s_law) (defScope s_law) .none kV_law doc_law pm_law an_law cdv_law ct_law) := by
    constructor
    case n_abs =>
      exact mg_none_of X G n_abs
    case n_bool =>
      exact mg_none_of X G n_bool
    case n_enumerate =>
      exact mg_none_of X G n_enumerate
    case n_int =>
      exact mg_none_of X G n_int
    case n_isinstance =>
      exact mg_none_of X G n_isinstance
    case n_len =>
      exact mg_none_of X G n_len
    case n_list =>
      exact mg_none_of X G n_list
    case n_range =>
      exact mg_none_of X G n_range
    case n_repr =>
      exact mg_none_of X G n_repr
    case n_set =>
      exact mg_none_of X G n_set
    case n_sorted =>
      exact mg_none_of X G n_sorted
    case n_str =>
      exact mg_none_of X G n_str
    case n_tuple =>
      exact mg_none_of X G n_tuple
    case c_MOST_VALUES =>
      exact ⟨_, mg_of X G a_MOST_VALUES, z_MOST_VALUES⟩
    case e_BadTold =>
      exact E_BadTold
    case e_TooMany =>
      exact E_TooMany
    case g_Blank =>
      exact mg_of X G a_Blank
    case g_Full =>
      exact mg_of X G a_Full
    case g_FullList =>
      exact mg_of X G a_FullList
    case g_FullSpan =>
      exact mg_of X G a_FullSpan
    case g_Holed =>
      exact mg_of X G a_Holed
    case g_HoledList =>
      exact mg_of X G a_HoledList
    case g_HoledSpan =>
      exact mg_of X G a_HoledSpan
    case g_Listed =>
      exact mg_of X G a_Listed
    case g_Open =>
      exact mg_of X G a_Open
    case g_OpenList =>
      exact mg_of X G a_OpenList
    case g_OpenSpan =>
      exact mg_of X G a_OpenSpan
    case g_Span =>
      exact mg_of X G a_Span
    case g_Told =>
      exact mg_of X G a_Told
    case mk_Blank =>
      exact mk_of tkm_Blank
    case kc_Blank =>
      exact (mk_of tkm_Blank).kp
    case mk_FullList =>
      exact mk_of tkm_FullList
    case kc_FullList =>
      exact (mk_of tkm_FullList).kp
    case mk_FullSpan =>
      exact mk_of tkm_FullSpan
    case kc_FullSpan =>
      exact (mk_of tkm_FullSpan).kp
    case mk_HoledList =>
      exact mk_of tkm_HoledList
    case kc_HoledList =>
      exact (mk_of tkm_HoledList).kp
    case mk_HoledSpan =>
      exact mk_of tkm_HoledSpan
    case kc_HoledSpan =>
      exact (mk_of tkm_HoledSpan).kp
    case mk_OpenList =>
      exact mk_of tkm_OpenList
    case kc_OpenList =>
      exact (mk_of tkm_OpenList).kp
    case mk_OpenSpan =>
      exact mk_of tkm_OpenSpan
    case kc_OpenSpan =>
      exact (mk_of tkm_OpenSpan).kp
    case cl =>
      exact fun c hc => (okO c hc).cl
    case fld =>
      intro f c hc
      unfold okF at hc
      simp only [Bool.and_eq_true] at hc
      have z := List.all_eq_true.mp (all_at (p := fun c => _) tkF hc.1) f (by simpa using hc.2)
      exact ⟨(okO c hc.1).cl, beq_iff_eq.mp z⟩
    case con_NULLS =>
      intro c d hd
      simp only [Bool.and_eq_true] at tkc_NULLS
      unfold tb_NULLS at hd
      split at hd
      · cases hd; obtain ⟨v, u, h1, h2⟩ := con_of (tkc_NULLS.1.1.1.1.1.1) (by decide +kernel); subst h2; exact ⟨(okO 12 rfl).cl, _, u, h1, fun _ _ => .str _⟩
      · cases hd; obtain ⟨v, u, h1, h2⟩ := con_of (tkc_NULLS.1.1.1.1.1.2) (by decide +kernel); subst h2; exact ⟨(okO 13 rfl).cl, _, u, h1, fun _ _ => .str _⟩
      · cases hd; obtain ⟨v, u, h1, h2⟩ := con_of (tkc_NULLS.1.1.1.1.2) (by decide +kernel); subst h2; exact ⟨(okO 14 rfl).cl, _, u, h1, fun _ _ => .str _⟩
      · cases hd; obtain ⟨v, u, h1, h2⟩ := con_of (tkc_NULLS.1.1.1.2) (by decide +kernel); subst h2; exact ⟨(okO 15 rfl).cl, _, u, h1, fun _ _ => .str _⟩
      · cases hd; obtain ⟨v, u, h1, h2⟩ := con_of (tkc_NULLS.1.1.2) (by decide +kernel); subst h2; exact ⟨(okO 16 rfl).cl, _, u, h1, fun _ _ => .str _⟩
      · cases hd; obtain ⟨v, u, h1, h2⟩ := con_of (tkc_NULLS.1.2) (by decide +kernel); subst h2; exact ⟨(okO 17 rfl).cl, _, u, h1, fun _ _ => .str _⟩
      · cases hd; obtain ⟨v, u, h1, h2⟩ := con_of (tkc_NULLS.2) (by decide +kernel); subst h2; exact ⟨(okO 18 rfl).cl, _, u, h1, fun _ _ => .str _⟩
      · cases hd
    case isn =>
      intro n k b hb
      unfold tyB at hb
      split at hb
      · rename_i t
        split at hb
        · rename_i hc
          simp only [Bool.and_eq_true] at hc
          cases hb
          have z := List.all_eq_true.mp tkI n (by simpa using hc.1)
          simp only [Bool.and_eq_true] at z
          exact ⟨_, rfl, beq_iff_eq.mp (List.all_eq_true.mp z.1.1 t (by simpa using hc.2))⟩
        · cases hb
      · rename_i k
        split at hb
        · rename_i hc
          simp only [Bool.and_eq_true] at hc
          cases hb
          have z := List.all_eq_true.mp tkI n (by simpa using hc.1)
          simp only [Bool.and_eq_true] at z
          exact ⟨_, rfl, beq_iff_eq.mp (List.all_eq_true.mp z.1.2 k (by simpa using hc.2))⟩
        · cases hb
      · cases hb
    case isc =>
      intro c k b hb
      unfold clB at hb
      split at hb
      · rename_i t
        split at hb
        · rename_i hc
          simp only [Bool.and_eq_true] at hc
          cases hb
          have z := all_at (p := fun c => _) tkJ hc.1
          simp only [Bool.and_eq_true] at z
          exact ⟨iso c hc.1, _, rfl, beq_iff_eq.mp (List.all_eq_true.mp z.1.1.1.1 t (by simpa using hc.2))⟩
        · cases hb
      · rename_i k
        split at hb
        · rename_i hc
          simp only [Bool.and_eq_true] at hc
          cases hb
          have z := all_at (p := fun c => _) tkJ hc.1
          simp only [Bool.and_eq_true] at z
          exact ⟨iso c hc.1, _, rfl, beq_iff_eq.mp (List.all_eq_true.mp z.1.1.1.2 k (by simpa using hc.2))⟩
        · cases hb
      · cases hb
    case is2n =>
      intro n b hb
      unfold ty2 at hb
      split at hb
      · rename_i hc
        cases hb
        have z := List.all_eq_true.mp tkI n (by simpa using hc)
        simp only [Bool.and_eq_true] at z
        exact beq_iff_eq.mp z.2
      · cases hb
    case is2c =>
      intro c b hb
      unfold cl2 at hb
      split at hb
      · rename_i hc
        cases hb
        have z := all_at (p := fun c => _) tkJ hc
        simp only [Bool.and_eq_true] at z
        exact ⟨iso c hc, beq_iff_eq.mp z.1.1.2⟩
      · cases hb
    case ne =>
      exact fun c hc => ⟨(okO c hc).ne, (okO c hc).ob⟩
    case eqT =>
      intro c t ht
      unfold okT at ht
      simp only [Bool.and_eq_true] at ht
      obtain ⟨h1, h2⟩ := ht
      cases t with
      | inl n =>
        have z := all_at (p := fun c => _) tkJ h1
        simp only [Bool.and_eq_true] at z
        exact ⟨List.all_eq_true.mp z.2 n (by simpa using h2), fun c' e => by cases e⟩
      | inr k =>
        have z := all_at (p := fun c => _) tkJ h1
        simp only [Bool.and_eq_true] at z
        exact ⟨List.all_eq_true.mp z.1.2 k (by simpa [isT] using h2), fun c' e => by cases e; exact iso _ h2⟩
    case mt_in_words_Sp =>
      exact fun c hc => me_of (all_at (p := fun c => _) tkt_in_words_Sp hc)
    case mt_in_words_Li =>
      exact fun c hc => me_of (all_at (p := fun c => _) tkt_in_words_Li hc)
    case mt_in_words_Bl =>
      exact fun c hc => me_of (all_at (p := fun c => _) tkt_in_words_Bl hc)
    case du___eq__ =>
      intro c hc
      have z := all_at (p := fun c => _) tkd___eq__ hc
      simp only [Bool.and_eq_true] at z
      exact ⟨beq_iff_eq.mp z.1, z.2⟩
    case du___str__ =>
      intro c hc
      have z := all_at (p := fun c => _) tkd___str__ hc
      simp only [Bool.and_eq_true] at z
      exact ⟨beq_iff_eq.mp z.1, z.2⟩
    case u_Told___eq__ =>
      exact U_Told___eq__
    case b_Told___eq__ =>
      exact B_Told___eq__
    case u_is_integer =>
      exact U_is_integer
    case g_is_integer =>
      exact mg_of X G a_is_integer
    case k_is_integer =>
      exact k_is_integer
    case b_is_integer =>
      exact B_is_integer
    case u_need_span =>
      exact U_need_span
    case g_need_span =>
      exact mg_of X G a_need_span
    case k_need_span =>
      exact k_need_span
    case b_need_span =>
      exact B_need_span
    case u_Told___init__ =>
      exact U_Told___init__
    case b_Told___init__ =>
      exact B_Told___init__
    case us_Span___init__ =>
      exact U_Span___init__
    case su_Span___init__ =>
      exact su_of (D := (([C_SkipError, C_BadValue, C_BadTold, C_BadText, C_TooMany, C_Words, C_Told, C_Full, C_Holed, C_Open, C_Span, C_Listed, C_FullSpan, C_HoledSpan, C_OpenSpan, C_FullList, C_HoledList, C_OpenList, C_Blank] : List Addr).getD 10 0)) U_Span___init__ tks_Span___init__ op sg tops (fun c hc => by simpa [is_Sp] using hc) rfl rfl rfl rfl (by decide +kernel) ⟨_, rfl, rfl⟩
    case us_Listed___init__ =>
      exact U_Listed___init__
    case su_Listed___init__ =>
      exact su_of (D := (([C_SkipError, C_BadValue, C_BadTold, C_BadText, C_TooMany, C_Words, C_Told, C_Full, C_Holed, C_Open, C_Span, C_Listed, C_FullSpan, C_HoledSpan, C_OpenSpan, C_FullList, C_HoledList, C_OpenList, C_Blank] : List Addr).getD 11 0)) U_Listed___init__ tks_Listed___init__ op sg tops (fun c hc => by simpa [is_Li] using hc) rfl rfl rfl rfl (by decide +kernel) ⟨_, rfl, rfl⟩
    case us_Blank___init__ =>
      exact U_Blank___init__
    case su_Blank___init__ =>
      exact su_of (D := (([C_SkipError, C_BadValue, C_BadTold, C_BadText, C_TooMany, C_Words, C_Told, C_Full, C_Holed, C_Open, C_Span, C_Listed, C_FullSpan, C_HoledSpan, C_OpenSpan, C_FullList, C_HoledList, C_OpenList, C_Blank] : List Addr).getD 18 0)) U_Blank___init__ tks_Blank___init__ op sg tops (fun c hc => by simpa [is_Bl] using hc) rfl rfl rfl rfl (by decide +kernel) ⟨_, rfl, rfl⟩
    case u__law_bare =>
      exact U__law_bare
    case g__law_bare =>
      exact mg_of X G a__law_bare
    case k__law_bare =>
      exact k__law_bare
    case b__law_bare =>
      exact B__law_bare
    case u__law_some =>
      exact U__law_some
    case g__law_some =>
      exact mg_of X G a__law_some
    case k__law_some =>
      exact k__law_some
    case b__law_some =>
      exact B__law_some
    case u__law_stands =>
      exact U__law_stands
    case g__law_stands =>
      exact mg_of X G a__law_stands
    case k__law_stands =>
      exact k__law_stands
    case b__law_stands =>
      exact B__law_stands
    case u__law_draw =>
      exact U__law_draw
    case g__law_draw =>
      exact mg_of X G a__law_draw
    case k__law_draw =>
      exact k__law_draw
    case b__law_draw =>
      exact B__law_draw
    case u__law_pick =>
      exact U__law_pick
    case g__law_pick =>
      exact mg_of X G a__law_pick
    case k__law_pick =>
      exact k__law_pick
    case b__law_pick =>
      exact B__law_pick
    case u__law_number =>
      exact U__law_number
    case g__law_number =>
      exact mg_of X G a__law_number
    case k__law_number =>
      exact k__law_number
    case b__law_number =>
      exact B__law_number
    case u__law_list_right =>
      exact U__law_list_right
    case g__law_list_right =>
      exact mg_of X G a__law_list_right
    case k__law_list_right =>
      exact k__law_list_right
    case b__law_list_right =>
      exact B__law_list_right
    case u__law_span =>
      exact U__law_span
    case g__law_span =>
      exact mg_of X G a__law_span
    case k__law_span =>
      exact k__law_span
    case b__law_span =>
      exact B__law_span
    case u__law_unlike =>
      exact U__law_unlike
    case g__law_unlike =>
      exact mg_of X G a__law_unlike
    case k__law_unlike =>
      exact k__law_unlike
    case b__law_unlike =>
      exact B__law_unlike
    case u_Span_in_words =>
      exact U_Span_in_words
    case b_Span_in_words =>
      exact B_Span_in_words
    case u_Listed_in_words =>
      exact U_Listed_in_words
    case b_Listed_in_words =>
      exact B_Listed_in_words
    case u_Told_in_words =>
      exact U_Told_in_words
    case b_Told_in_words =>
      exact B_Told_in_words
    case u_Told___str__ =>
      exact U_Told___str__
    case b_Told___str__ =>
      exact B_Told___str__
    case u__law_named =>
      exact U__law_named
    case g__law_named =>
      exact mg_of X G a__law_named
    case k__law_named =>
      exact k__law_named
    case b__law_named =>
      exact B__law_named
    case u__law_span_right =>
      exact U__law_span_right
    case g__law_span_right =>
      exact mg_of X G a__law_span_right
    case k__law_span_right =>
      exact k__law_span_right
    case b__law_span_right =>
      exact B__law_span_right
    case u__law_pen =>
      exact U__law_pen
    case g__law_pen =>
      exact mg_of X G a__law_pen
    case k__law_pen =>
      exact k__law_pen
    case b__law_pen =>
      exact B__law_pen
    case u_law =>
      exact U_law
    case g_law =>
      exact mg_of X G a_law
    case k_law =>
      exact k_law
    case b_law =>
      exact B_law
    case bd_Blank___init___1_ =>
      exact bd_to rfl fun s us ws KX h1 h2 => match us, ws, h1, h2 with | [_], [], _, _ => .of_eq (by first | rfl | kernel_rfl)
    case bd_Listed_in_words_1_ =>
      exact bd_pos B_Listed_in_words
    case bd_Span___init___1_high_low_high_reached_low_reached =>
      exact bd_sel (by decide) rfl fun s us ws KX h1 h2 => match us, ws, h1, h2 with | [_], [_, _, _, _], _, _ => BindsTo.of_defaults rfl (KX _ _ t_Span___init___) rfl rfl (by first | rfl | kernel_rfl)
    case bd_Span___init___1_high_reached_low_reached_high_low =>
      exact bd_sel (by decide) rfl fun s us ws KX h1 h2 => match us, ws, h1, h2 with | [_], [_, _, _, _], _, _ => BindsTo.of_defaults rfl (KX _ _ t_Span___init___) rfl rfl (by first | rfl | kernel_rfl)
    case bd_Span___init___1_low_high_low_reached_high_reached =>
      exact bd_sel (by decide) rfl fun s us ws KX h1 h2 => match us, ws, h1, h2 with | [_], [_, _, _, _], _, _ => BindsTo.of_defaults rfl (KX _ _ t_Span___init___) rfl rfl (by first | rfl | kernel_rfl)
    case bd_Span___init___3_ =>
      exact bd_sel (by decide) rfl fun s us ws KX h1 h2 => match us, ws, h1, h2 with | [_, _, _], [], _, _ => BindsTo.of_defaults rfl (KX _ _ t_Span___init___) rfl rfl (by first | rfl | kernel_rfl)
    case bd_Span___init___5_ =>
      exact bd_to rfl fun s us ws KX h1 h2 => match us, ws, h1, h2 with | [_, _, _, _, _], [], _, _ => BindsTo.of_defaults rfl (KX _ _ t_Span___init___) rfl rfl (by first | rfl | kernel_rfl)
    case bd_Span_in_words_1_ =>
      exact bd_pos B_Span_in_words
    case bd_Told___init___5_ =>
      exact bd_pos B_Told___init__
    case bd_Told_in_words_1_ =>
      exact bd_pos B_Told_in_words
  have O_Told___eq__ := fun base => ok_Told___eq__ (w := w) (base := base) T 
  have O_is_integer := fun base => ok_is_integer (w := w) (base := base) T 
  have O_need_span := fun base => ok_need_span (w := w) (base := base) T (O_is_integer base)
  have O_Told___init__ := fun base => ok_Told___init__ (w := w) (base := base) T 
  have O_Span___init__ := fun base => ok_Span___init__ (w := w) (base := base) T (O_need_span base) (O_Told___init__ base)
  have O_Listed___init__ := fun base => ok_Listed___init__ (w := w) (base := base) T (O_is_integer base) (O_Told___init__ base)
  have O_Blank___init__ := fun base => ok_Blank___init__ (w := w) (base := base) T (O_Told___init__ base)
  have O__law_bare := fun base => ok__law_bare (w := w) (base := base) T (O_Span___init__ base)
  have O__law_some := fun base => ok__law_some (w := w) (base := base) T (O_Listed___init__ base)
  have O__law_stands := fun base => ok__law_stands (w := w) (base := base) T 
  have O__law_draw := fun base => ok__law_draw (w := w) (base := base) T 
  have O__law_pick := fun base => ok__law_pick (w := w) (base := base) T (O__law_draw base)
  have O__law_number := fun base => ok__law_number (w := w) (base := base) T (O__law_draw base) (O__law_pick base)
  have O__law_list_right := fun base => ok__law_list_right (w := w) (base := base) T (O_Told___eq__ base) (O__law_bare base) (O__law_some base) (O__law_stands base) (O__law_pick base) (O__law_number base) (O__law_draw base)
  have O__law_span := fun base => ok__law_span (w := w) (base := base) T (O_Span___init__ base)
  have O__law_unlike := fun base => ok__law_unlike (w := w) (base := base) T (O__law_span base) (O_Blank___init__ base)
  have O_Span_in_words := fun base => ok_Span_in_words (w := w) (base := base) T 
  have O_Listed_in_words := fun base => ok_Listed_in_words (w := w) (base := base) T 
  have O_Told_in_words := fun base => ok_Told_in_words (w := w) (base := base) T 
  have O_Told___str__ := fun base => ok_Told___str__ (w := w) (base := base) T (O_Span_in_words base) (O_Listed_in_words base) (O_Told_in_words base)
  have O__law_named := fun base => ok__law_named (w := w) (base := base) T (O_Span___init__ base)
  have O__law_span_right := fun base => ok__law_span_right (w := w) (base := base) T (O_Told___eq__ base) (O__law_unlike base) (O_Told___str__ base) (O__law_span base) (O__law_bare base) (O__law_stands base) (O__law_named base) (O__law_draw base) (O__law_pick base) (O__law_number base)
  have O__law_pen := fun base => ok__law_pen (w := w) (base := base) T 
  have O_law := fun base => ok_law (w := w) (base := base) T (O_Told___eq__ base) (O_Span___init__ base) (O_Listed___init__ base) (O_Blank___init__ base) (O__law_list_right base) (O__law_span_right base) (O__law_pen base)
  exact ⟨_, _, mf_law, fun s u => .of_eq rfl, yes, fun base _ _ => O_law base⟩
end K02
end Dv
open PySem PySem.W PyProof.Rows
set_option maxRecDepth 100000 in
set_option maxHeartbeats 0 in
theorem PySem.Challenge.cw_headskip_k02_tolds_made_holds : PySem.Challenge.rw_headskip_k02_tolds_made.Holds := by
  w_on; o_law; k_headL; (case hw => w_witness2)
  k_fill
  refine Dv.walkD (l := PySem.Challenge.rw_headskip_k02_tolds_made) (n := 63) (k := 8) (x := "_law_script") rfl (by decide) rfl ⟨rfl, by decide, by decide⟩ (fun w h Y => PySem.W.kIn_of Y) ?F
  case F =>
    intro w mg fa h KX G hmg
    refine' Dv.K02.all_mk (w := w) Dv.K02.law_true KX G hmg ?hfl ?tops ?op ?sup ?hn ?ht ?n_abs ?n_bool ?n_enumerate ?n_int ?n_isinstance ?n_len ?n_list ?n_range ?n_repr ?n_set ?n_sorted ?n_str ?n_tuple ?a_MOST_VALUES ?z_MOST_VALUES ?a_SkipError ?a_BadValue ?a_BadTold ?a_BadText ?a_TooMany ?a_Words ?a_Told ?a_Full ?a_Holed ?a_Open ?a_Span ?a_Listed ?a_FullSpan ?a_HoledSpan ?a_OpenSpan ?a_FullList ?a_HoledList ?a_OpenList ?a_Blank ?h_BadTold ?l_BadTold ?o_BadTold ?q_BadTold ?h_TooMany ?l_TooMany ?o_TooMany ?q_TooMany ?h_Told___eq__ ?l_Told___eq__ ?c_Told___eq__ ?k_Told___eq__ ?a_is_integer ?l_is_integer ?c_is_integer ?k_is_integer ?a_need_span ?l_need_span ?c_need_span ?k_need_span ?h_Told___init__ ?l_Told___init__ ?c_Told___init__ ?k_Told___init__ ?h_Span___init__ ?l_Span___init__ ?t_Span___init___ ?c_Span___init__ ?h_Listed___init__ ?l_Listed___init__ ?c_Listed___init__ ?h_Blank___init__ ?l_Blank___init__ ?c_Blank___init__ ?a__law_bare ?l__law_bare ?c__law_bare ?k__law_bare ?a__law_some ?l__law_some ?c__law_some ?k__law_some ?a__law_stands ?l__law_stands ?c__law_stands ?k__law_stands ?a__law_draw ?l__law_draw ?c__law_draw ?k__law_draw ?a__law_pick ?l__law_pick ?c__law_pick ?k__law_pick ?a__law_number ?l__law_number ?c__law_number ?k__law_number ?a__law_list_right ?l__law_list_right ?c__law_list_right ?k__law_list_right ?a__law_span ?l__law_span ?c__law_span ?k__law_span ?a__law_unlike ?l__law_unlike ?c__law_unlike ?k__law_unlike ?h_Span_in_words ?l_Span_in_words ?c_Span_in_words ?k_Span_in_words ?h_Listed_in_words ?l_Listed_in_words ?c_Listed_in_words ?k_Listed_in_words ?h_Told_in_words ?l_Told_in_words ?c_Told_in_words ?k_Told_in_words ?h_Told___str__ ?l_Told___str__ ?c_Told___str__ ?k_Told___str__ ?a__law_named ?l__law_named ?c__law_named ?k__law_named ?a__law_span_right ?l__law_span_right ?c__law_span_right ?k__law_span_right ?a__law_pen ?l__law_pen ?c__law_pen ?k__law_pen ?a_law ?l_law ?c_law ?k_law ?tkO ?tkF ?tkc_NULLS ?tkI ?tkJ ?tkm_Blank ?tkm_FullList ?tkm_FullSpan ?tkm_HoledList ?tkm_HoledSpan ?tkm_OpenList ?tkm_OpenSpan ?tkt_in_words_Sp ?tkt_in_words_Li ?tkt_in_words_Bl ?tkd___eq__ ?tkd___str__ ?tks_Span___init__ ?tks_Listed___init__ ?tks_Blank___init__
    (case hfl => rfl)
    (case tops => rfl)
    (case op => as_aux_lemma => k_is)
    (case sup => as_aux_lemma => k_is)
    (case hn => as_aux_lemma => k_is)
    (case ht => as_aux_lemma => k_is)
    (case n_abs => as_aux_lemma => k_is)
    (case n_bool => as_aux_lemma => k_is)
    (case n_enumerate => as_aux_lemma => k_is)
    (case n_int => as_aux_lemma => k_is)
    (case n_isinstance => as_aux_lemma => k_is)
    (case n_len => as_aux_lemma => k_is)
    (case n_list => as_aux_lemma => k_is)
    (case n_range => as_aux_lemma => k_is)
    (case n_repr => as_aux_lemma => k_is)
    (case n_set => as_aux_lemma => k_is)
    (case n_sorted => as_aux_lemma => k_is)
    (case n_str => as_aux_lemma => k_is)
    (case n_tuple => as_aux_lemma => k_is)
    (case a_MOST_VALUES => as_aux_lemma => k_is)
    (case z_MOST_VALUES => as_aux_lemma => exact ⟨_, rfl⟩)
    (case a_SkipError => as_aux_lemma => k_is)
    (case a_BadValue => as_aux_lemma => k_is)
    (case a_BadTold => as_aux_lemma => k_is)
    (case a_BadText => as_aux_lemma => k_is)
    (case a_TooMany => as_aux_lemma => k_is)
    (case a_Words => as_aux_lemma => k_is)
    (case a_Told => as_aux_lemma => k_is)
    (case a_Full => as_aux_lemma => k_is)
    (case a_Holed => as_aux_lemma => k_is)
    (case a_Open => as_aux_lemma => k_is)
    (case a_Span => as_aux_lemma => k_is)
    (case a_Listed => as_aux_lemma => k_is)
    (case a_FullSpan => as_aux_lemma => k_is)
    (case a_HoledSpan => as_aux_lemma => k_is)
    (case a_OpenSpan => as_aux_lemma => k_is)
    (case a_FullList => as_aux_lemma => k_is)
    (case a_HoledList => as_aux_lemma => k_is)
    (case a_OpenList => as_aux_lemma => k_is)
    (case a_Blank => as_aux_lemma => k_is)
    (case h_BadTold => as_aux_lemma => k_is)
    (case l_BadTold => as_aux_lemma => k_is)
    (case o_BadTold => as_aux_lemma => k_is)
    (case q_BadTold => as_aux_lemma => kernel_rfl)
    (case h_TooMany => as_aux_lemma => k_is)
    (case l_TooMany => as_aux_lemma => k_is)
    (case o_TooMany => as_aux_lemma => k_is)
    (case q_TooMany => as_aux_lemma => kernel_rfl)
    (case h_Told___eq__ => as_aux_lemma => k_is)
    (case l_Told___eq__ => as_aux_lemma => k_is)
    (case c_Told___eq__ => as_aux_lemma => k_is)
    (case k_Told___eq__ => as_aux_lemma => k_is)
    (case a_is_integer => as_aux_lemma => k_is)
    (case l_is_integer => as_aux_lemma => k_is)
    (case c_is_integer => as_aux_lemma => k_is)
    (case k_is_integer => as_aux_lemma => k_is)
    (case a_need_span => as_aux_lemma => k_is)
    (case l_need_span => as_aux_lemma => k_is)
    (case c_need_span => as_aux_lemma => k_is)
    (case k_need_span => as_aux_lemma => k_is)
    (case h_Told___init__ => as_aux_lemma => k_is)
    (case l_Told___init__ => as_aux_lemma => k_is)
    (case c_Told___init__ => as_aux_lemma => k_is)
    (case k_Told___init__ => as_aux_lemma => k_is)
    (case h_Span___init__ => as_aux_lemma => k_is)
    (case l_Span___init__ => as_aux_lemma => k_is)
    (case t_Span___init___ => as_aux_lemma => k_is)
    (case c_Span___init__ => as_aux_lemma => k_is)
    (case h_Listed___init__ => as_aux_lemma => k_is)
    (case l_Listed___init__ => as_aux_lemma => k_is)
    (case c_Listed___init__ => as_aux_lemma => k_is)
    (case h_Blank___init__ => as_aux_lemma => k_is)
    (case l_Blank___init__ => as_aux_lemma => k_is)
    (case c_Blank___init__ => as_aux_lemma => k_is)
    (case a__law_bare => as_aux_lemma => k_is)
    (case l__law_bare => as_aux_lemma => k_is)
    (case c__law_bare => as_aux_lemma => k_is)
    (case k__law_bare => as_aux_lemma => k_is)
    (case a__law_some => as_aux_lemma => k_is)
    (case l__law_some => as_aux_lemma => k_is)
    (case c__law_some => as_aux_lemma => k_is)
    (case k__law_some => as_aux_lemma => k_is)
    (case a__law_stands => as_aux_lemma => k_is)
    (case l__law_stands => as_aux_lemma => k_is)
    (case c__law_stands => as_aux_lemma => k_is)
    (case k__law_stands => as_aux_lemma => k_is)
    (case a__law_draw => as_aux_lemma => k_is)
    (case l__law_draw => as_aux_lemma => k_is)
    (case c__law_draw => as_aux_lemma => k_is)
    (case k__law_draw => as_aux_lemma => k_is)
    (case a__law_pick => as_aux_lemma => k_is)
    (case l__law_pick => as_aux_lemma => k_is)
    (case c__law_pick => as_aux_lemma => k_is)
    (case k__law_pick => as_aux_lemma => k_is)
    (case a__law_number => as_aux_lemma => k_is)
    (case l__law_number => as_aux_lemma => k_is)
    (case c__law_number => as_aux_lemma => k_is)
    (case k__law_number => as_aux_lemma => k_is)
    (case a__law_list_right => as_aux_lemma => k_is)
    (case l__law_list_right => as_aux_lemma => k_is)
    (case c__law_list_right => as_aux_lemma => k_is)
    (case k__law_list_right => as_aux_lemma => k_is)
    (case a__law_span => as_aux_lemma => k_is)
    (case l__law_span => as_aux_lemma => k_is)
    (case c__law_span => as_aux_lemma => k_is)
    (case k__law_span => as_aux_lemma => k_is)
    (case a__law_unlike => as_aux_lemma => k_is)
    (case l__law_unlike => as_aux_lemma => k_is)
    (case c__law_unlike => as_aux_lemma => k_is)
    (case k__law_unlike => as_aux_lemma => k_is)
    (case h_Span_in_words => as_aux_lemma => k_is)
    (case l_Span_in_words => as_aux_lemma => k_is)
    (case c_Span_in_words => as_aux_lemma => k_is)
    (case k_Span_in_words => as_aux_lemma => k_is)
    (case h_Listed_in_words => as_aux_lemma => k_is)
    (case l_Listed_in_words => as_aux_lemma => k_is)
    (case c_Listed_in_words => as_aux_lemma => k_is)
    (case k_Listed_in_words => as_aux_lemma => k_is)
    (case h_Told_in_words => as_aux_lemma => k_is)
    (case l_Told_in_words => as_aux_lemma => k_is)
    (case c_Told_in_words => as_aux_lemma => k_is)
    (case k_Told_in_words => as_aux_lemma => k_is)
    (case h_Told___str__ => as_aux_lemma => k_is)
    (case l_Told___str__ => as_aux_lemma => k_is)
    (case c_Told___str__ => as_aux_lemma => k_is)
    (case k_Told___str__ => as_aux_lemma => k_is)
    (case a__law_named => as_aux_lemma => k_is)
    (case l__law_named => as_aux_lemma => k_is)
    (case c__law_named => as_aux_lemma => k_is)
    (case k__law_named => as_aux_lemma => k_is)
    (case a__law_span_right => as_aux_lemma => k_is)
    (case l__law_span_right => as_aux_lemma => k_is)
    (case c__law_span_right => as_aux_lemma => k_is)
    (case k__law_span_right => as_aux_lemma => k_is)
    (case a__law_pen => as_aux_lemma => k_is)
    (case l__law_pen => as_aux_lemma => k_is)
    (case c__law_pen => as_aux_lemma => k_is)
    (case k__law_pen => as_aux_lemma => k_is)
    (case a_law => as_aux_lemma => k_is)
    (case l_law => as_aux_lemma => k_is)
    (case c_law => as_aux_lemma => k_is)
    (case k_law => as_aux_lemma => k_is)
    (case tkO => as_aux_lemma => kernel_rfl)
    (case tkF => as_aux_lemma => kernel_rfl)
    (case tkc_NULLS => as_aux_lemma => kernel_rfl)
    (case tkI => as_aux_lemma => kernel_rfl)
    (case tkJ => as_aux_lemma => kernel_rfl)
    (case tkm_Blank => as_aux_lemma => kernel_rfl)
    (case tkm_FullList => as_aux_lemma => kernel_rfl)
    (case tkm_FullSpan => as_aux_lemma => kernel_rfl)
    (case tkm_HoledList => as_aux_lemma => kernel_rfl)
    (case tkm_HoledSpan => as_aux_lemma => kernel_rfl)
    (case tkm_OpenList => as_aux_lemma => kernel_rfl)
    (case tkm_OpenSpan => as_aux_lemma => kernel_rfl)
    (case tkt_in_words_Sp => as_aux_lemma => kernel_rfl)
    (case tkt_in_words_Li => as_aux_lemma => kernel_rfl)
    (case tkt_in_words_Bl => as_aux_lemma => kernel_rfl)
    (case tkd___eq__ => as_aux_lemma => kernel_rfl)
    (case tkd___str__ => as_aux_lemma => kernel_rfl)
    (case tks_Span___init__ => as_aux_lemma => kernel_rfl)
    (case tks_Listed___init__ => as_aux_lemma => kernel_rfl)
    (case tks_Blank___init__ => as_aux_lemma => kernel_rfl)
#print axioms PySem.Challenge.cw_headskip_k02_tolds_made_holds
