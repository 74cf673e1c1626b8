import PyProof.Rows.All
import Wide.All
import OpenK.AllK
import Wide.FinOn
import HandS.ForMost
import HandS.Exc
import HandS.TryOnly
import HandS.ExcOwn
import HandS.WordsExc
import HandS.ExcSuper
import HandS.ExcIs
import KE.KExcSuper
import HandS.ExcValue
import PyProof.ReprRoads
import KE.KExcIs
import HandS.EndBits
import KE.OsRunLaw
import PySem.Challenge.RW_headskip_k01_errors_and_their_fields
set_option Elab.async false
set_option linter.all false
set_option maxRecDepth 100000
set_option maxHeartbeats 4000000
/-! Things told by their contents (D); what an expression gives (U): such a thing, or a cell that changes; and what a piece of the text does, told by a plain function. -/
namespace Dv
open PySem L2

inductive D where
  | non | bl (b : Bool) | int (i : Int) | str (x : Str)
  | tup (xs : List D) | lst (xs : List D) | scr (xs : List D) | dic (kvs : List (Key × D))
  | obj (c : Nat) (fs : List (Str × D)) | err (c : Nat) (fs : List (Str × D))
  | thing (a : Addr) | ty (n : String) | cls (n : Nat)
inductive U where
  | d (x : D) | cell (n : Nat)
inductive Cel where
  | lst (xs : List D) | obj (c : Nat) (fs : List (Str × U))
abbrev Mem := List (Option Cel)
abbrev Env := List (Option U)
inductive R (α : Type) where
  | val (a : α) (μ : Mem) | exc (c : Nat) (fs : List (Str × D)) (μ : Mem) | stuck
inductive RS where
  | next (ρ : Env) (μ : Mem) | brk (ρ : Env) (μ : Mem) | cont (ρ : Env) (μ : Mem) | ret (v : U) (μ : Mem) | exc (c : Nat) (fs : List (Str × D)) (ρ : Env) (μ : Mem) | stuck
abbrev MD := Env → Mem → R U
abbrev MT := Env → Mem → R Bool
abbrev ML := Env → Mem → R (List U)
abbrev MS := Env → Mem → RS

/-- an exception's object, tracked -/
def ErrO (a : Addr) (cls : Value) (d : Option Addr) : HO := .ext fun h => ∃ (oe : Obj) (vs : Array Value), h.get? a = some oe ∧ Zc cls d oe ∧ oe.data = .fields vs

/-- the addresses of the cells (none: no more one); the lists that are being made -/
structure Ms where
  cs : List (Option Addr)
  hid : List Addr
def Ms.In (ms : Ms) (a : Addr) : Prop := some a ∈ ms.cs ∨ a ∈ ms.hid

section
variable (K : PySem.W.Frag) (ca : Nat → Addr)
/-- a tuple (a list) that is read and never changes: tracked and no cell, or an object of the written part -/
def StT (ms : Ms) (H : Hp) (a : Addr) (vs : List V) : Prop := (Rd H a (.tup vs) ∧ ¬ ms.In a) ∨ ∃ (o : Obj) (its : Array Value) (n : Nat), K.lookup a = some o ∧ o.cls = .type "tuple" ∧ o.data = .seq its n ∧ its.size ≤ sizeLine ∧ Vals vs its.toList
def StL (ms : Ms) (H : Hp) (a : Addr) (vs : List V) : Prop := (Rd H a (.lst vs) ∧ ¬ ms.In a) ∨ ∃ (o : Obj) (its : Array Value) (n : Nat), K.lookup a = some o ∧ o.cls = .type "list" ∧ o.dict = none ∧ o.data = .seq its n ∧ its.size ≤ sizeLine ∧ Vals vs its.toList

/-- the thing d stands at v -/
inductive Rep (ms : Ms) (H : Hp) : D → V → Prop where
  | non : Rep ms H .non .non
  | bl (b : Bool) : Rep ms H (.bl b) (.bl b)
  | int (i : Int) : Rep ms H (.int i) (.int i)
  | str (x : Str) : Rep ms H (.str x) (.str x)
  | thing (a : Addr) : Rep ms H (.thing a) (.ref a)
  | ty (n : String) : Rep ms H (.ty n) (.ty n)
  | cls (n : Nat) : Rep ms H (.cls n) (.ref (ca n))
  | tup {xs : List D} {vs : List V} {a : Addr} : StT K ms H a vs → xs.length = vs.length → (∀ (i : Nat) x v, xs[i]? = some x → vs[i]? = some v → Rep ms H x v) → Rep ms H (.tup xs) (.ref a)
  | lst {xs : List D} {vs : List V} {a : Addr} : H a = some (.lst vs) → ¬ ms.In a → xs.length = vs.length → (∀ (i : Nat) x v, xs[i]? = some x → vs[i]? = some v → Rep ms H x v) → Rep ms H (.lst xs) (.ref a)
  | scr {xs : List D} {vs : List V} {a : Addr} : StL K ms H a vs → xs.length = vs.length → (∀ (i : Nat) x v, xs[i]? = some x → vs[i]? = some v → Rep ms H x v) → Rep ms H (.scr xs) (.ref a)
  | dic {kvs : List (Key × D)} {ws : List (Key × V)} {a : Addr} : Rd H a (.dK ws) → ¬ ms.In a → kvs.map (·.1) = ws.map (·.1) → (∀ (i : Nat) x v, kvs[i]? = some x → ws[i]? = some v → Rep ms H x.2 v.2) → Rep ms H (.dic kvs) (.ref a)
  | obj {c : Nat} {fs : List (Str × D)} {gs : List (Str × V)} {a dx : Addr} : H a = some (.ins (ca c) dx gs) → ¬ ms.In a → fs.map (·.1) = gs.map (·.1) → (∀ (i : Nat) x v, fs[i]? = some x → gs[i]? = some v → Rep ms H x.2 v.2) → Rep ms H (.obj c fs) (.ref a)
  | err {c : Nat} {fs : List (Str × D)} {gs : List (Str × V)} {a d : Addr} : H a = some (ErrO a (.ref (ca c)) (some d)) → H d = some (.xd gs) → ¬ ms.In a → ¬ ms.In d → fs.map (·.1) = gs.map (·.1) → (∀ (i : Nat) x v, fs[i]? = some x → gs[i]? = some v → Rep ms H x.2 v.2) → Rep ms H (.err c fs) (.ref a)
  | err0 {c : Nat} {a : Addr} : H a = some (ErrO a (.ref (ca c)) none) → ¬ ms.In a → Rep ms H (.err c []) (.ref a)

def RepU (ms : Ms) (H : Hp) : U → V → Prop
  | .d x, v => Rep K ca ms H x v
  | .cell n, v => ∃ a, v = .ref a ∧ ms.cs[n]? = some (some a)
def RepL (ms : Ms) (H : Hp) (xs : List D) (vs : List V) : Prop := xs.length = vs.length ∧ ∀ (i : Nat) x v, xs[i]? = some x → vs[i]? = some v → Rep K ca ms H x v
def RepUL (ms : Ms) (H : Hp) (xs : List U) (vs : List V) : Prop := xs.length = vs.length ∧ ∀ (i : Nat) x v, xs[i]? = some x → vs[i]? = some v → RepU K ca ms H x v
def RepC (ms : Ms) (H : Hp) (a : Addr) : Cel → Prop
  | .lst xs => ∃ vs, H a = some (.lst vs) ∧ RepL K ca ms H xs vs
  | .obj c fs => ∃ dx gs, H a = some (.ins (ca c) dx gs) ∧ fs.map (·.1) = gs.map (·.1) ∧ ∀ (i : Nat) x v, fs[i]? = some x → gs[i]? = some v → RepU K ca ms H x.2 v.2

/-- nothing of the written part is tracked -/
def KF (H : Hp) : Prop := K = K ∧ H = H
structure RelM (μ : Mem) (ms : Ms) (H : Hp) : Prop where
  len : μ.length = ms.cs.length
  live : ∀ (n : Nat) c, μ[n]? = some (some c) → ∃ a, ms.cs[n]? = some (some a) ∧ RepC K ca ms H a c
  dead : ∀ (n : Nat) a, ms.cs[n]? = some (some a) → ∃ c, μ[n]? = some (some c)
  apart : ∀ (n m : Nat) a, ms.cs[n]? = some (some a) → ms.cs[m]? = some (some a) → n = m
  hidden : ∀ a, a ∈ ms.hid → ∃ o, H a = some o
  sep : ∀ (n : Nat) a, ms.cs[n]? = some (some a) → a ∉ ms.hid
  kf : KF K H
def RelE (ρ : Env) (ms : Ms) (σ : St) (H : Hp) : Prop := ρ.length = σ.length ∧ ∀ (i : Nat) u, ρ[i]? = some (some u) → ∃ v, σ[i]? = some (some v) ∧ RepU K ca ms H u v
/-- what stood stands -/
structure Keep (ms : Ms) (H : Hp) (ms' : Ms) (H' : Hp) : Prop where
  all : ∀ u v, RepU K ca ms H u v → RepU K ca ms' H' u v
  hid : ms'.hid = ms.hid
  same : ∀ a, a ∈ ms.hid → H' a = H a
end

section
variable {K : PySem.W.Frag} {ca : Nat → Addr} {ms ms' ms'' : Ms} {H H' H'' : Hp} {μ : Mem}

theorem Keep.refl : Keep K ca ms H ms H := ⟨fun _ _ h => h, rfl, fun _ _ => rfl⟩
theorem Keep.trans (a : Keep K ca ms H ms' H') (b : Keep K ca ms' H' ms'' H'') : Keep K ca ms H ms'' H'' := ⟨fun u v h => b.all u v (a.all u v h), b.hid.trans a.hid, fun x h => (b.same x (a.hid ▸ h)).trans (a.same x h)⟩
theorem RelE.keep {ρ : Env} {σ : St} (e : RelE K ca ρ ms σ H) (k : Keep K ca ms H ms' H') : RelE K ca ρ ms' σ H' := ⟨e.1, fun i u h => by
  obtain ⟨v, a, b⟩ := e.2 i u h
  exact ⟨v, a, k.all _ _ b⟩⟩
theorem Keep.rep (k : Keep K ca ms H ms' H') {x : D} {v : V} (h : Rep K ca ms H x v) : Rep K ca ms' H' x v := k.all (.d x) v h
theorem Keep.list (k : Keep K ca ms H ms' H') {xs : List D} {vs : List V} (h : RepL K ca ms H xs vs) : RepL K ca ms' H' xs vs := ⟨h.1, fun i x v a b => k.rep (h.2 i x v a b)⟩
theorem Keep.ulist (k : Keep K ca ms H ms' H') {xs : List U} {vs : List V} (h : RepUL K ca ms H xs vs) : RepUL K ca ms' H' xs vs := ⟨h.1, fun i x v a b => k.all _ _ (h.2 i x v a b)⟩

theorem StT.sq {a : Addr} {vs : List V} (h : StT K ms H a vs) : SqT K H a vs := by
  rcases h with ⟨h, _⟩ | h
  · exact .inl h
  · exact .inr h
theorem StL.sq {a : Addr} {vs : List V} (h : StL K ms H a vs) : SqL K H a vs := by
  rcases h with ⟨h, _⟩ | h
  · exact .inl h
  · exact .inr h
/-- every object but the cells is kept, the cells' list goes on -/
theorem Rep.mono {x : D} {v : V} (h : Rep K ca ms H x v) (k : ∀ a o, H a = some o → ¬ ms.In a → H' a = some o) (mx : ∀ a, ms'.In a → ms.In a ∨ H a = none) : Rep K ca ms' H' x v := by
  have out : ∀ a o, ¬ ms.In a → H a = some o → ¬ ms'.In a := fun a o n e z => by
    rcases mx a z with q | q
    · exact n q
    · rw [q] at e; cases e
  have rds : ∀ a u, Rd H a u → ∃ o, H a = some o := fun a u r => by
    rcases r with r | ⟨o, r⟩
    · exact ⟨_, r⟩
    · exact ⟨_, r⟩
  have rd : ∀ a u, ¬ ms.In a → Rd H a u → Rd H' a u ∧ ¬ ms'.In a := fun a u n r => by
    obtain ⟨o', q⟩ := rds a u r
    refine ⟨?_, out a o' n q⟩
    rcases r with r | ⟨o, r⟩
    · exact .inl (k a _ r n)
    · exact .inr ⟨o, k a _ r n⟩
  induction h with
  | non => exact .non
  | bl b => exact .bl b
  | int i => exact .int i
  | str x => exact .str x
  | thing a => exact .thing a
  | ty n => exact .ty n
  | cls n => exact .cls n
  | tup s l _ ih =>
    refine .tup ?_ l ih
    rcases s with ⟨s, n⟩ | s
    · exact .inl (rd _ _ n s)
    · exact .inr s
  | lst s n l _ ih => exact .lst (k _ _ s n) (out _ _ n s) l ih
  | scr s l _ ih =>
    refine .scr ?_ l ih
    rcases s with ⟨s, n⟩ | s
    · exact .inl (rd _ _ n s)
    · exact .inr s
  | dic s n l _ ih => exact .dic (rd _ _ n s).1 (rd _ _ n s).2 l ih
  | obj s n l _ ih => exact .obj (k _ _ s n) (out _ _ n s) l ih
  | err s1 s2 n1 n2 l _ ih => exact .err (k _ _ s1 n1) (k _ _ s2 n2) (out _ _ n1 s1) (out _ _ n2 s2) l ih
  | err0 s n => exact .err0 (k _ _ s n) (out _ _ n s)

/-- an extension -/
theorem Rep.ext {x : D} {v : V} (h : Rep K ca ms H x v) (e : Same H H') : Rep K ca ms H' x v := h.mono (fun a o q _ => e a o q) fun a z => .inl z
theorem keep_of (k : ∀ a o, H a = some o → ¬ ms.In a → H' a = some o) (mx : ∀ a, ms'.In a → ms.In a ∨ H a = none) (mk : ∀ (n : Nat) a, ms.cs[n]? = some (some a) → ms'.cs[n]? = some (some a)) (hh : ms'.hid = ms.hid) (hs : ∀ a, a ∈ ms.hid → H' a = H a) : Keep K ca ms H ms' H' :=
  ⟨fun u v h => by
    cases u with
    | d x => exact Rep.mono h k mx
    | cell n =>
      obtain ⟨a, e, q⟩ := h
      exact ⟨a, e, mk n a q⟩, hh, hs⟩
theorem RelM.at {n : Nat} {a : Addr} (r : RelM K ca μ ms H) (h : ms.cs[n]? = some (some a)) : ∃ o, H a = some o := by
  obtain ⟨c, e⟩ := r.dead n a h
  obtain ⟨b, e1, q⟩ := r.live n c e
  rw [h] at e1
  cases e1
  cases c with
  | lst xs => obtain ⟨vs, q, _⟩ := q; exact ⟨_, q⟩
  | obj c fs => obtain ⟨dx, gs, q, _⟩ := q; exact ⟨_, q⟩
theorem RelM.out {a : Addr} (r : RelM K ca μ ms H) (h : H a = none) : ¬ ms.In a := fun z => by
  rcases z with z | z
  · obtain ⟨n, q⟩ := List.getElem?_of_mem z
    obtain ⟨o, e⟩ := r.at q
    rw [h] at e; cases e
  · obtain ⟨o, e⟩ := r.hidden a z
    rw [h] at e; cases e
theorem RelM.keep_ext (r : RelM K ca μ ms H) (e : Same H H') : Keep K ca ms H ms H' := keep_of (fun a o q _ => e a o q) (fun a z => .inl z) (fun _ _ q => q) rfl fun a h => by
  obtain ⟨o, q⟩ := r.hidden a h
  rw [q, e a o q]
theorem RepC.keep {a : Addr} {c : Cel} (h : RepC K ca ms H a c) (k : Keep K ca ms H ms' H') (e : ∀ o, H a = some o → H' a = some o) : RepC K ca ms' H' a c := by
  cases c with
  | lst xs => obtain ⟨vs, q, l⟩ := h; exact ⟨vs, e _ q, k.list l⟩
  | obj c fs => obtain ⟨dx, gs, q, l, z⟩ := h; exact ⟨dx, gs, e _ q, l, fun i x v a b => k.all _ _ (z i x v a b)⟩
theorem RelM.ext (r : RelM K ca μ ms H) (e : Same H H') (kf : KF K H') : RelM K ca μ ms H' :=
  ⟨r.len, fun n c h => by
    obtain ⟨a, q, z⟩ := r.live n c h
    exact ⟨a, q, z.keep (r.keep_ext e) fun o q => e _ _ q⟩, r.dead, r.apart, fun a h => let ⟨o, q⟩ := r.hidden a h; ⟨o, e a o q⟩, r.sep, kf⟩
end
end Dv
namespace Dv
open PySem L2

def R.bind {α β : Type} : R α → (α → Mem → R β) → R β
  | .val a μ, f => f a μ
  | .exc c fs μ, _ => .exc c fs μ
  | .stuck, _ => .stuck
@[simp] theorem bind_val {α β : Type} (a : α) (μ : Mem) (f : α → Mem → R β) : (R.val a μ).bind f = f a μ := rfl
@[simp] theorem bind_exc {α β : Type} (c : Nat) (fs : List (Str × D)) (μ : Mem) (f : α → Mem → R β) : (R.exc c fs μ).bind f = R.exc c fs μ := rfl
@[simp] theorem bind_stuck {α β : Type} (f : α → Mem → R β) : (R.stuck).bind f = R.stuck := rfl
def ofO {α : Type} (μ : Mem) : Option α → R α
  | some a => .val a μ
  | none => .stuck
@[simp] theorem ofO_some {α : Type} (μ : Mem) (a : α) : ofO μ (some a) = .val a μ := rfl
@[simp] theorem ofO_none {α : Type} (μ : Mem) : ofO μ (none : Option α) = .stuck := rfl

section
variable (K : PySem.W.Frag) (ca : Nat → Addr)
/-- the fields of an error that is on its way -/
def ErrAt (ms : Ms) (H : Hp) (fs : List (Str × D)) (d : Option Addr) : Prop :=
  (fs = [] ∧ d = none) ∨ ∃ dd gs, d = some dd ∧ H dd = some (.xd gs) ∧ ¬ ms.In dd ∧ fs.map (·.1) = gs.map (·.1) ∧ ∀ (i : Nat) x v, fs[i]? = some x → gs[i]? = some v → Rep K ca ms H x.2 v.2
/-- what is wanted behind a result -/
def Af {α γ : Type} (rp : Ms → Hp → α → γ → Prop) (W : WX) (σ : St) (ms : Ms) (H : Hp) (r : R α) (Q : γ → Hp → Prop) : Prop := match r with
  | .val a μ' => ∀ v H' ms', Keep K ca ms H ms' H' → RelM K ca μ' ms' H' → rp ms' H' a v → Q v H'
  | .exc c fs μ' => ∀ d H' ms', Keep K ca ms H ms' H' → RelM K ca μ' ms' H' → ErrAt K ca ms' H' fs d → W (.ref (ca c)) d σ H'
  | .stuck => False
def rd {α γ : Type} (rp : Ms → Hp → α → γ → Prop) (W : WX) (m : Env → Mem → R α) : St → Hp → (γ → Hp → Prop) → Prop := fun σ H Q =>
  ∃ ms ρ μ, RelE K ca ρ ms σ H ∧ RelM K ca μ ms H ∧ Af K ca rp W σ ms H (m ρ μ) Q
def rpB (_ : Ms) (_ : Hp) (a b : Bool) : Prop := b = a
abbrev rdE (W : WX) (m : MD) : TE := rd K ca (RepU K ca) W m
abbrev rdT (W : WX) (m : MT) : TT := rd K ca rpB W m
abbrev rdA (W : WX) (m : ML) : TA := rd K ca (RepUL K ca) W m
end

section
variable {K : PySem.W.Frag} {ca : Nat → Addr} {W : WX} {σ : St} {ms ms1 : Ms} {H H1 : Hp} {ρ : Env} {μ : Mem}
theorem Af.shift {α γ : Type} {rp : Ms → Hp → α → γ → Prop} {r : R α} {Q : γ → Hp → Prop} (h : Af K ca rp W σ ms H r Q) (k : Keep K ca ms H ms1 H1) : Af K ca rp W σ ms1 H1 r Q := by
  cases r with
  | val a μ' => exact fun v H' ms' k' => h v H' ms' (k.trans k')
  | exc c fs μ' => exact fun v H' ms' k' => h v H' ms' (k.trans k')
  | stuck => exact h
theorem af_bind {α β γ δ : Type} {rp : Ms → Hp → α → γ → Prop} {rq : Ms → Hp → β → δ → Prop} {m : Env → Mem → R α} {f : α → Mem → R β} {Q : δ → Hp → Prop} {Q1 : γ → Hp → Prop} (e : RelE K ca ρ ms σ H) (r : RelM K ca μ ms H) (h : Af K ca rq W σ ms H ((m ρ μ).bind f) Q)
    (k : ∀ a μ1 v H1 ms1, Keep K ca ms H ms1 H1 → RelM K ca μ1 ms1 H1 → rp ms1 H1 a v → Af K ca rq W σ ms1 H1 (f a μ1) Q → Q1 v H1) : rd K ca rp W m σ H Q1 := by
  refine ⟨ms, ρ, μ, e, r, ?_⟩
  cases hm : m ρ μ with
  | val a μ1 =>
    rw [hm] at h
    exact fun v H1 ms1 k1 r1 p1 => k a μ1 v H1 ms1 k1 r1 p1 (Af.shift h k1)
  | exc c fs μ1 =>
    rw [hm] at h
    exact h
  | stuck =>
    rw [hm] at h
    exact (show False from h).elim
/-- the end: the value is at hand -/
theorem Af.at {α γ : Type} {rp : Ms → Hp → α → γ → Prop} {a : α} {v : γ} {Q : γ → Hp → Prop} (h : Af K ca rp W σ ms H (.val a μ) Q) (r : RelM K ca μ ms H) (p : rp ms H a v) : Q v H := h v H ms Keep.refl r p
theorem Af.new {α γ : Type} {rp : Ms → Hp → α → γ → Prop} {a : α} {v : γ} {Q : γ → Hp → Prop} (h : Af K ca rp W σ ms H (.val a μ) Q) (r : RelM K ca μ ms H) (e : Same H H1) (kf : KF K H1) (p : rp ms H1 a v) : Q v H1 := h v H1 ms (r.keep_ext e) (r.ext e kf) p
theorem Af.ofO {α γ : Type} {rp : Ms → Hp → α → γ → Prop} {o : Option α} {Q : γ → Hp → Prop} (h : Af K ca rp W σ ms H (ofO μ o) Q) : ∃ a, o = some a ∧ Af K ca rp W σ ms H (.val a μ) Q := by
  cases o with
  | none => exact (show False from h).elim
  | some a => exact ⟨a, rfl, h⟩
end

/-- nothing of the written part is tracked, wherever the text runs -/
theorem kf_of {X : Cx} {pins : List (Addr × Obj)} {σ : St} {H : Hp} {s : Shared} (I : Inv X pins σ H s) : KF X.K H := ⟨rfl, rfl⟩
section
variable {X : Cx} {e : Expr}
theorem pe_imp {t t' : TE} (h : PE X e t) (k : ∀ σ H Q, KF X.K H → t' σ H Q → t σ H fun v H' => KF X.K H' → Q v H') : PE X e t' :=
  ⟨fun pins s σ H Q I q => thn (h.run pins s σ H _ I (k σ H Q (kf_of I) q)) fun u s1 ⟨v, H1, I1, r1, q1⟩ => ⟨v, H1, I1, r1, q1 (kf_of I1)⟩⟩
theorem pt_imp {t t' : TT} (h : PT X e t) (k : ∀ σ H Q, KF X.K H → t' σ H Q → t σ H fun v H' => KF X.K H' → Q v H') : PT X e t' :=
  ⟨fun pins s σ H Q I q => thn (h.run pins s σ H _ I (k σ H Q (kf_of I) q)) fun u s1 ⟨H1, I1, q1⟩ => ⟨H1, I1, q1 (kf_of I1)⟩⟩
theorem pw_imp {t t' : TT} (h : PW X e t) (k : ∀ σ H Q, KF X.K H → t' σ H Q → t σ H fun v H' => KF X.K H' → Q v H') : PW X e t' :=
  ⟨fun wh pins s σ H Q I q => thn (h.run wh pins s σ H _ I (k σ H Q (kf_of I) q)) fun u s1 ⟨H1, I1, q1⟩ => ⟨H1, I1, q1 (kf_of I1)⟩⟩
theorem pa_imp {es : List Expr} {t t' : TA} (h : PA X es t) (k : ∀ σ H Q, KF X.K H → t' σ H Q → t σ H fun v H' => KF X.K H' → Q v H') : PA X es t' :=
  ⟨fun pos pins s σ H Q I q => thn (h.run pos pins s σ H _ I (k σ H Q (kf_of I) q)) fun u s1 ⟨v, H1, I1, r1, q1⟩ => ⟨v, H1, I1, r1, q1 (kf_of I1)⟩⟩
end

/-! ### names, constants -/
def mVar (i : Nat) : MD := fun ρ μ => match ρ[i]? with
  | some (some u) => .val u μ
  | _ => .stuck
def mC (x : D) : MD := fun _ μ => .val (.d x) μ
section
variable {X : Cx} {ca : Nat → Addr} {W : WX} {pos : Pos}
theorem re_var (i : Nat) {x : Str} (hN : X.N[i]? = some x := by rfl) (hv : Vis X.env.scope x := by first | exact Or.inl rfl | exact Or.inr (Or.inl rfl) | exact Or.inr (Or.inr rfl)) (hd : (x == ("__debug__" : Str)) = false := by decide)
    (hcd : (x == ("__classdict__" : Str)) = false := by decide) : PE X (.Name x pos) (rdE X.K ca W (mVar i)) := by
  refine pe_imp (pe_var hN hv hd hcd) fun σ H Q _ ⟨ms, ρ, μ, e, r, h⟩ => ?_
  unfold mVar at h
  split at h
  · rename_i u hu
    obtain ⟨v, hs, p⟩ := e.2 i u hu
    exact ⟨v, hs, fun _ => Af.at h r p⟩
  · exact h.elim
theorem re_c {e : Expr} {x : D} {v : V} (h : PE X e (tC v)) (p : ∀ ms H, Rep X.K ca ms H x v) : PE X e (rdE X.K ca W (mC x)) :=
  pe_imp h fun σ H Q _ ⟨ms, ρ, μ, e, r, h⟩ _ => Af.at (a := U.d x) h r (p ms H)
theorem re_int {i : Int} {j : Nat} : PE X (.Constant (.int i) j pos) (rdE X.K ca W (mC (.int i))) := re_c pe_int fun _ _ => .int i
theorem re_bl {b : Bool} {j : Nat} : PE X (.Constant (.bool b) j pos) (rdE X.K ca W (mC (.bl b))) := re_c pe_bl fun _ _ => .bl b
theorem re_non {j : Nat} : PE X (.Constant .none j pos) (rdE X.K ca W (mC .non)) := re_c pe_non fun _ _ => .non
theorem re_str {x : Str} {j : Nat} : PE X (.Constant (.str x) j pos) (rdE X.K ca W (mC (.str x))) := re_c pe_str fun _ _ => .str x
end

/-! ### operations by values -/
section
variable (K : PySem.W.Frag) (ca : Nat → Addr)
def rD2 (f : Mem → U → U → Option D) : R2 := fun x y H Q => ∃ ms μ a b d, RelM K ca μ ms H ∧ RepU K ca ms H a x ∧ RepU K ca ms H b y ∧ f μ a b = some d ∧ ∀ v H', Same H H' → (KF K H' → Rep K ca ms H' d v) → Q v H'
def rD1 (f : Mem → U → Option D) : V → Hp → VK → Prop := fun x H Q => ∃ ms μ a d, RelM K ca μ ms H ∧ RepU K ca ms H a x ∧ f μ a = some d ∧ ∀ v H', Same H H' → (KF K H' → Rep K ca ms H' d v) → Q v H'
def rDn (f : Mem → List U → Option D) : List V → Hp → VK → Prop := fun xs H Q => ∃ ms μ as d, RelM K ca μ ms H ∧ RepUL K ca ms H as xs ∧ f μ as = some d ∧ ∀ v H', Same H H' → (KF K H' → Rep K ca ms H' d v) → Q v H'
end
def mBin (f : Mem → U → U → Option D) (ma mb : MD) : MD := fun ρ μ => (ma ρ μ).bind fun x μ1 => (mb ρ μ1).bind fun y μ2 => (ofO μ2 (f μ2 x y)).bind fun d μ3 => .val (.d d) μ3
def mUn (f : Mem → U → Option D) (ma : MD) : MD := fun ρ μ => (ma ρ μ).bind fun x μ1 => (ofO μ1 (f μ1 x)).bind fun d μ3 => .val (.d d) μ3
def mCall (f : Mem → List U → Option D) (ma : ML) : MD := fun ρ μ => (ma ρ μ).bind fun x μ1 => (ofO μ1 (f μ1 x)).bind fun d μ3 => .val (.d d) μ3
def mNil : ML := fun _ μ => .val [] μ
def mCons (ma : MD) (mr : ML) : ML := fun ρ μ => (ma ρ μ).bind fun x μ1 => (mr ρ μ1).bind fun xs μ2 => .val (x :: xs) μ2
section
variable {X : Cx} {ca : Nat → Addr} {W : WX} {pos : Pos} {a b : Expr} {ma mb : MD}
theorem fin_of {K : PySem.W.Frag} {σ : St} {ms : Ms} {μ : Mem} {H : Hp} {o : Option D} {Q : VK} (h : Af K ca (RepU K ca) W σ ms H ((ofO μ o).bind fun d μ3 => .val (.d d) μ3) Q) (r : RelM K ca μ ms H) :
    ∃ d, o = some d ∧ ∀ v H', Same H H' → (KF K H' → Rep K ca ms H' d v) → KF K H' → Q v H' := by
  cases o with
  | none => exact (show False from h).elim
  | some d => exact ⟨d, rfl, fun v H' e p kf => h v H' ms (r.keep_ext e) (r.ext e kf) (p kf)⟩
theorem to_bin {f : Mem → U → U → Option D} {σ : St} {H : Hp} {Q : VK} (h : rdE X.K ca W (mBin f ma mb) σ H Q) : tOp (rD2 X.K ca f) (rdE X.K ca W ma) (rdE X.K ca W mb) σ H fun v H' => KF X.K H' → Q v H' := by
  obtain ⟨ms, ρ, μ, e, r, h⟩ := h
  refine af_bind e r h fun x μ1 v H1 ms1 k1 r1 p1 h1 => af_bind (e.keep k1) r1 h1 fun y μ2 u H2 ms2 k2 r2 p2 h2 => ?_
  obtain ⟨d, hd, q⟩ := fin_of h2 r2
  exact ⟨ms2, μ2, x, y, d, r2, k2.all _ _ p1, p2, hd, q⟩
theorem re_bin {op : Operator} {f : Mem → U → U → Option D} (ho : OpR X (binaryOp op) (rD2 X.K ca f)) (ha : PE X a (rdE X.K ca W ma)) (hb : PE X b (rdE X.K ca W mb)) : PE X (.BinOp a op b pos) (rdE X.K ca W (mBin f ma mb)) :=
  pe_imp (pe_op ho ha hb) fun _ _ _ _ h => to_bin h
theorem re_un {op : UnaryOp} {f : Mem → U → Option D} (ho : UnR X (unaryOp op) (rD1 X.K ca f)) (ha : PE X a (rdE X.K ca W ma)) : PE X (.UnaryOp op a pos) (rdE X.K ca W (mUn f ma)) := by
  refine pe_imp (pe_un ho ha) fun σ H Q _ ⟨ms, ρ, μ, e, r, h⟩ => ?_
  refine af_bind e r h fun x μ1 v H1 ms1 k1 r1 p1 h1 => ?_
  obtain ⟨d, hd, q⟩ := fin_of h1 r1
  exact ⟨ms1, μ1, x, d, r1, p1, hd, q⟩
theorem ra_nil : PA X [] (rdA X.K ca W mNil) := pa_imp pa_nil fun σ H Q _ ⟨ms, ρ, μ, e, r, h⟩ _ => Af.at (a := ([] : List U)) h r ⟨rfl, fun i x v h1 => by simp at h1⟩
theorem ra_cons {es : List Expr} {mr : ML} (ha : PE X a (rdE X.K ca W ma)) (hr : PA X es (rdA X.K ca W mr)) (hs : starEach (a :: es) X.env = (false, eval a X.env) :: starEach es X.env := by rfl) : PA X (a :: es) (rdA X.K ca W (mCons ma mr)) := by
  refine pa_imp (pa_cons ha hr hs) fun σ H Q _ ⟨ms, ρ, μ, e, r, h⟩ => ?_
  refine af_bind e r h fun x μ1 v H1 ms1 k1 r1 p1 h1 => af_bind (e.keep k1) r1 h1 fun xs μ2 vs H2 ms2 k2 r2 p2 h2 => ?_
  refine fun _ => Af.at h2 r2 ⟨by simp only [List.length_cons]; rw [p2.1], fun i y w h3 h4 => ?_⟩
  cases i with
  | zero =>
    simp only [List.getElem?_cons_zero, Option.some.injEq] at h3 h4
    subst h3; subst h4
    exact k2.all _ _ p1
  | succ i =>
    simp only [List.getElem?_cons_succ] at h3 h4
    exact p2.2 i y w h3 h4
theorem to_call {es : List Expr} {ml : ML} {f : Mem → List U → Option D} {σ : St} {H : Hp} {Q : VK} (h : rdE X.K ca W (mCall f ml) σ H Q) : tCB (rDn X.K ca f) (rdA X.K ca W ml) σ H fun v H' => KF X.K H' → Q v H' := by
  obtain ⟨ms, ρ, μ, e, r, h⟩ := h
  refine af_bind e r h fun x μ1 v H1 ms1 k1 r1 p1 h1 => ?_
  obtain ⟨d, hd, q⟩ := fin_of h1 r1
  exact ⟨ms1, μ1, x, d, r1, p1, hd, q⟩
end
end Dv
namespace Dv
open PySem L2

/-! ### tests -/
def mTest (m : MD) : MT := fun ρ μ => (m ρ μ).bind fun u μ1 => match u with
  | .d (.bl b) => .val b μ1
  | _ => .stuck
def mAndT (a b : MT) : MT := fun ρ μ => (a ρ μ).bind fun c μ1 => if c = true then b ρ μ1 else .val false μ1
def mOrT (a b : MT) : MT := fun ρ μ => (a ρ μ).bind fun c μ1 => if c = true then .val true μ1 else b ρ μ1
def mNotT (a : MT) : MT := fun ρ μ => (a ρ μ).bind fun c μ1 => .val (!c) μ1
def mAndV (a b : MD) : MD := fun ρ μ => (mTest a ρ μ).bind fun c μ1 => if c = true then b ρ μ1 else .val (.d (.bl false)) μ1
def mOrV (a b : MD) : MD := fun ρ μ => (mTest a ρ μ).bind fun c μ1 => if c = true then .val (.d (.bl true)) μ1 else b ρ μ1
def mNotV (a : MD) : MD := fun ρ μ => (mTest a ρ μ).bind fun c μ1 => .val (.d (.bl (!c))) μ1
def mIfE (t : MT) (a b : MD) : MD := fun ρ μ => (t ρ μ).bind fun c μ1 => if c = true then a ρ μ1 else b ρ μ1
/-- a comparison by values: its answer, the heap but grown -/
def rDB (K : PySem.W.Frag) (ca : Nat → Addr) (f : Mem → U → U → Option Bool) : R2 := fun x y H Q => ∃ ms μ a b c, RelM K ca μ ms H ∧ RepU K ca ms H a x ∧ RepU K ca ms H b y ∧ f μ a b = some c ∧ ∀ H', Same H H' → Q (.bl c) H'
def mCmpB (f : Mem → U → U → Option Bool) (ma mb : MD) : MT := fun ρ μ => (ma ρ μ).bind fun x μ1 => (mb ρ μ1).bind fun y μ2 => ofO μ2 (f μ2 x y)
def mVal (m : MT) : MD := fun ρ μ => (m ρ μ).bind fun c μ1 => .val (.d (.bl c)) μ1
section
variable {X : Cx} {ca : Nat → Addr} {W : WX} {pos : Pos} {a b c : Expr} {ma mb : MD} {ta tb : MT} {rest : List Expr}
/-- a bool's value -/
theorem to_test {σ : St} {ms : Ms} {H : Hp} {Q1 : Bool → Hp → Prop} {β δ : Type} {rq : Ms → Hp → β → δ → Prop} {ρ : Env} {μ : Mem} {f : Bool → Mem → R β} {Q : δ → Hp → Prop} (e : RelE X.K ca ρ ms σ H) (r : RelM X.K ca μ ms H)
    (h : Af X.K ca rq W σ ms H ((mTest ma ρ μ).bind f) Q) (k : ∀ c μ1 H1 ms1, Keep X.K ca ms H ms1 H1 → RelM X.K ca μ1 ms1 H1 → Af X.K ca rq W σ ms1 H1 (f c μ1) Q → Q1 c H1) :
    rdE X.K ca W ma σ H fun x H1 => ∃ c, x = .bl c ∧ Q1 c H1 := by
  have h' : Af X.K ca rq W σ ms H ((ma ρ μ).bind fun u μ1 => ((match u with | .d (.bl b) => .val b μ1 | _ => .stuck : R Bool)).bind f) Q := by
    unfold mTest at h
    cases hm : ma ρ μ with
    | val u μ1 => rw [hm] at h; exact h
    | exc c fs μ1 => rw [hm] at h; exact h
    | stuck => rw [hm] at h; exact h
  refine af_bind e r h' fun u μ1 v H1 ms1 k1 r1 p1 h1 => ?_
  split at h1
  · rename_i b
    cases p1
    exact ⟨b, rfl, k b μ1 H1 ms1 k1 r1 h1⟩
  · exact (show False from h1).elim
theorem Af.id {K : PySem.W.Frag} {α γ : Type} {rp : Ms → Hp → α → γ → Prop} {σ : St} {ms : Ms} {H : Hp} {r : R α} {Q : γ → Hp → Prop} (h : Af K ca rp W σ ms H r Q) : Af K ca rp W σ ms H (r.bind fun a μ => .val a μ) Q := by
  cases r <;> exact h
theorem rt_test {t : TE} (hp : PT X a (tTest (rdE X.K ca W ma))) : PT X a (rdT X.K ca W (mTest ma)) :=
  pt_imp hp fun σ H Q _ ⟨ms, ρ, μ, e, r, h⟩ => to_test e r (Af.id h) fun c μ1 H1 ms1 k1 r1 h1 _ => Af.at (a := c) h1 r1 rfl
/-- one comparison -/
theorem to_cmp {f : Mem → U → U → Option Bool} {σ : St} {ms : Ms} {H : Hp} {ρ : Env} {μ : Mem} {β δ : Type} {rq : Ms → Hp → β → δ → Prop} {g : Bool → Mem → R β} {Q : δ → Hp → Prop} {Q1 : V → Hp → Prop} (e : RelE X.K ca ρ ms σ H) (r : RelM X.K ca μ ms H)
    (h : Af X.K ca rq W σ ms H ((mCmpB f ma mb ρ μ).bind g) Q) (k : ∀ c μ1 H1 ms1, RelM X.K ca μ1 ms1 H1 → Af X.K ca rq W σ ms1 H1 (g c μ1) Q → ∀ H2, Same H1 H2 → Q1 (.bl c) H2) :
    tOp (rDB X.K ca f) (rdE X.K ca W ma) (rdE X.K ca W mb) σ H Q1 := by
  have h' : Af X.K ca rq W σ ms H ((ma ρ μ).bind fun x μ1 => (mb ρ μ1).bind fun y μ2 => (ofO μ2 (f μ2 x y)).bind g) Q := by
    unfold mCmpB at h
    cases hm : ma ρ μ with
    | val u μ1 =>
      rw [hm] at h
      simp only [bind_val] at h ⊢
      cases hn : mb ρ μ1 with
      | val w μ2 => rw [hn] at h; exact h
      | exc c fs μ1 => rw [hn] at h; exact h
      | stuck => rw [hn] at h; exact h
    | exc c fs μ1 => rw [hm] at h; exact h
    | stuck => rw [hm] at h; exact h
  refine af_bind e r h' fun x μ1 v H1 ms1 k1 r1 p1 h1 => af_bind (e.keep k1) r1 h1 fun y μ2 u H2 ms2 k2 r2 p2 h2 => ?_
  cases hf : f μ2 x y with
  | none => rw [hf] at h2; exact (show False from h2).elim
  | some c =>
    rw [hf] at h2
    exact ⟨ms2, μ2, x, y, c, r2, k2.all _ _ p1, p2, hf, fun H' e' => k c μ2 H2 ms2 r2 h2 H' e'⟩
theorem rt_cmp {op : CmpOp} {f : Mem → U → U → Option Bool} (ho : OpR X (compareOp op) (rDB X.K ca f)) (ha : PE X a (rdE X.K ca W ma)) (hb : PE X b (rdE X.K ca W mb)) (hm : behindInMarks op b = false := by rfl) : PT X (.Compare a [op] [b] pos) (rdT X.K ca W (mCmpB f ma mb)) :=
  pt_imp (pt_cmpR ho ha hb hm) fun σ H Q kf ⟨ms, ρ, μ, e, r, h⟩ => to_cmp e r (Af.id h) fun c μ1 H1 ms1 r1 h1 H2 e2 => ⟨c, rfl, fun kf => Af.new (a := c) h1 r1 e2 kf rfl⟩
theorem re_cmp {op : CmpOp} {f : Mem → U → U → Option Bool} (ho : OpR X (compareOp op) (rDB X.K ca f)) (ha : PE X a (rdE X.K ca W ma)) (hb : PE X b (rdE X.K ca W mb)) (hm : behindInMarks op b = false := by rfl) : PE X (.Compare a [op] [b] pos) (rdE X.K ca W (mVal (mCmpB f ma mb))) :=
  pe_imp (pe_cmpR ho ha hb hm) fun σ H Q kf ⟨ms, ρ, μ, e, r, h⟩ => to_cmp e r h fun c μ1 H1 ms1 r1 h1 H2 e2 kf => Af.new (a := U.d (.bl c)) h1 r1 e2 kf (Rep.bl c)
/-- and, or, not -/
theorem rw_and1 (ha : PT X a (rdT X.K ca W ta)) : PW X (.BoolOp .And [a] pos) (rdT X.K ca W ta) := pw_and1 ha
theorem rw_or1 (ha : PT X a (rdT X.K ca W ta)) : PW X (.BoolOp .Or [a] pos) (rdT X.K ca W ta) := pw_or1 ha
theorem rw_and (ha : PT X a (rdT X.K ca W ta)) (hb : PW X (.BoolOp .And (b :: rest) pos) (rdT X.K ca W tb)) : PW X (.BoolOp .And (a :: b :: rest) pos) (rdT X.K ca W (mAndT ta tb)) :=
  pw_imp (pw_and ha hb) fun σ H Q kf ⟨ms, ρ, μ, e, r, h⟩ => af_bind e r h fun c μ1 v H1 ms1 k1 r1 p1 h1 => by
    obtain rfl : v = c := p1
    cases v with
    | true => exact ⟨ms1, ρ, μ1, e.keep k1, r1, by cases hb : tb ρ μ1 <;> (rw [if_pos rfl, hb] at h1; first | exact fun v H' ms' a b c _ => h1 v H' ms' a b c | exact h1)⟩
    | false => exact fun _ => Af.at (a := false) h1 r1 rfl
theorem rw_or (ha : PT X a (rdT X.K ca W ta)) (hb : PW X (.BoolOp .Or (b :: rest) pos) (rdT X.K ca W tb)) : PW X (.BoolOp .Or (a :: b :: rest) pos) (rdT X.K ca W (mOrT ta tb)) :=
  pw_imp (pw_or ha hb) fun σ H Q kf ⟨ms, ρ, μ, e, r, h⟩ => af_bind e r h fun c μ1 v H1 ms1 k1 r1 p1 h1 => by
    obtain rfl : v = c := p1
    cases v with
    | false => exact ⟨ms1, ρ, μ1, e.keep k1, r1, by cases hb : tb ρ μ1 <;> (rw [if_neg Bool.false_ne_true, hb] at h1; first | exact fun v H' ms' a b c _ => h1 v H' ms' a b c | exact h1)⟩
    | true => exact fun _ => Af.at (a := true) h1 r1 rfl
theorem rt_not (ha : PT X a (rdT X.K ca W ta)) : PT X (.UnaryOp .Not a pos) (rdT X.K ca W (mNotT ta)) :=
  pt_imp (pt_not ha) fun σ H Q kf ⟨ms, ρ, μ, e, r, h⟩ => af_bind e r h fun c μ1 v H1 ms1 k1 r1 p1 h1 => by
    obtain rfl : v = c := p1
    exact fun _ => Af.at (a := !v) h1 r1 rfl
/-- a value that is a bool, as a test (its test is its value's truth) -/
theorem rt_val (ha : PE X a (rdE X.K ca W ma)) (he : ∀ whole, isTrue a X.env whole = (do let v ← whole; standAt a.pos; holding [v] (truthy v)) := by intro _; rfl) : PT X a (rdT X.K ca W (mTest ma)) := rt_test (t := rdE X.K ca W ma) (pt_val ha he)
theorem af_kf {K : PySem.W.Frag} {α γ : Type} {rp : Ms → Hp → α → γ → Prop} {σ : St} {ms : Ms} {H : Hp} {r : R α} {Q : γ → Hp → Prop} (h : Af K ca rp W σ ms H r Q) : Af K ca rp W σ ms H r fun v H' => KF K H' → Q v H' := by
  cases r with
  | val a μ => exact fun v H' ms' k r p _ => h v H' ms' k r p
  | exc c fs μ => exact h
  | stuck => exact h
theorem re_not (ha : PE X a (rdE X.K ca W ma)) : PE X (.UnaryOp .Not a pos) (rdE X.K ca W (mNotV ma)) :=
  pe_imp (pe_not ha) fun σ H Q kf ⟨ms, ρ, μ, e, r, h⟩ => to_test e r h fun c μ1 H1 ms1 k1 r1 h1 _ => Af.at (a := U.d (.bl (!c))) h1 r1 (Rep.bl _)
theorem re_and (ha : PE X a (rdE X.K ca W ma)) (hb : PE X (.BoolOp .And (b :: rest) pos) (rdE X.K ca W mb)) : PE X (.BoolOp .And (a :: b :: rest) pos) (rdE X.K ca W (mAndV ma mb)) :=
  pe_imp (pe_and ha hb) fun σ H Q kf ⟨ms, ρ, μ, e, r, h⟩ => to_test e r h fun c μ1 H1 ms1 k1 r1 h1 => by
    cases c with
    | true => exact ⟨ms1, ρ, μ1, e.keep k1, r1, af_kf h1⟩
    | false => exact fun _ => Af.at (a := U.d (.bl false)) h1 r1 (Rep.bl _)
theorem re_or (ha : PE X a (rdE X.K ca W ma)) (hb : PE X (.BoolOp .Or (b :: rest) pos) (rdE X.K ca W mb)) : PE X (.BoolOp .Or (a :: b :: rest) pos) (rdE X.K ca W (mOrV ma mb)) :=
  pe_imp (pe_or ha hb) fun σ H Q kf ⟨ms, ρ, μ, e, r, h⟩ => to_test e r h fun c μ1 H1 ms1 k1 r1 h1 => by
    cases c with
    | false => exact ⟨ms1, ρ, μ1, e.keep k1, r1, af_kf h1⟩
    | true => exact fun _ => Af.at (a := U.d (.bl true)) h1 r1 (Rep.bl _)
theorem re_one {op : BoolOp} (ha : PE X a (rdE X.K ca W ma)) : PE X (.BoolOp op [a] pos) (rdE X.K ca W ma) := pe_one ha
theorem re_if (hc : PT X c (rdT X.K ca W ta)) (ha : PE X a (rdE X.K ca W ma)) (hb : PE X b (rdE X.K ca W mb)) : PE X (.IfExp c a b pos) (rdE X.K ca W (mIfE ta ma mb)) :=
  pe_imp (pe_ifExp hc ha hb) fun σ H Q kf ⟨ms, ρ, μ, e, r, h⟩ => af_bind e r h fun c μ1 v H1 ms1 k1 r1 p1 h1 => by
    obtain rfl : v = c := p1
    cases v with
    | true => exact ⟨ms1, ρ, μ1, e.keep k1, r1, af_kf h1⟩
    | false => exact ⟨ms1, ρ, μ1, e.keep k1, r1, af_kf h1⟩
end
end Dv
namespace Dv
open PySem L2

/-! ### displays, calls by name -/
def toD : U → Option D
  | .d x => some x
  | .cell _ => none
def toDs : List U → Option (List D)
  | [] => some []
  | .d x :: r => (toDs r).bind fun xs => some (x :: xs)
  | .cell _ :: _ => none
theorem toDs_len : ∀ {us : List U} {xs : List D}, toDs us = some xs → us.length = xs.length ∧ ∀ (i : Nat) x, xs[i]? = some x → us[i]? = some (.d x)
  | [], xs, h => by cases h; exact ⟨rfl, fun i x e => by simp at e⟩
  | .d y :: r, xs, h => by
    unfold toDs at h
    cases q : toDs r with
    | none => rw [q] at h; cases h
    | some ys =>
      rw [q] at h
      cases h
      obtain ⟨l, z⟩ := toDs_len q
      refine ⟨by simp [l], fun i x e => ?_⟩
      cases i with
      | zero => simpa using e
      | succ i => simp only [List.getElem?_cons_succ] at e ⊢; exact z i x e
  | .cell _ :: _, _, h => by cases h
theorem repL_of {K : PySem.W.Frag} {ca : Nat → Addr} {ms : Ms} {H : Hp} {us : List U} {xs : List D} {vs : List V} (h : RepUL K ca ms H us vs) (e : toDs us = some xs) : RepL K ca ms H xs vs := by
  obtain ⟨l, z⟩ := toDs_len e
  refine ⟨by rw [← l]; exact h.1, fun i x v a b => ?_⟩
  exact h.2 i (.d x) v (z i x a) b
def szD (n : Nat) : Bool := decide (n ≤ 100000)
def mkTup (us : List U) : Option D := if szD us.length then (toDs us).bind fun xs => some (.tup xs) else none
def mkLst (us : List U) : Option D := if szD us.length then (toDs us).bind fun xs => some (.lst xs) else none
def mTup (ml : ML) : MD := mCall (fun _ us => mkTup us) ml
def mLst (ml : ML) : MD := mCall (fun _ us => mkLst us) ml
/-- a display into a cell -/
def mLstC (ml : ML) : MD := fun ρ μ => (ml ρ μ).bind fun us μ1 => if szD us.length then (ofO μ1 (toDs us)).bind fun xs μ2 => .val (.cell μ2.length) (μ2 ++ [some (.lst xs)]) else .stuck
theorem same_new {H : Hp} {p : Addr} {o : HO} (h : H p = none) : Same H (upd H p o) := fun b u e => by rw [upd_ne (ne_of_none e h)]; exact e
theorem sz_ok {n : Nat} (h : szD n = true) : n ≤ sizeLine := Nat.le_trans (of_decide_eq_true h) (by decide)
section
variable {K : PySem.W.Frag} {ca : Nat → Addr} {ms : Ms} {H H' : Hp} {μ : Mem}
/-- one more cell -/
def Ms.more (ms : Ms) (p : Addr) : Ms := { ms with cs := ms.cs ++ [some p] }
/-- a new list cell -/
theorem RelM.newLst {p : Addr} {xs : List D} {vs : List V} (r : RelM K ca μ ms H) (hp : H p = none) (kf : KF K (upd H p (.lst vs))) (l : RepL K ca ms H xs vs) :
    Keep K ca ms H (ms.more p) (upd H p (.lst vs)) ∧ RelM K ca (μ ++ [some (.lst xs)]) (ms.more p) (upd H p (.lst vs)) := by
  have out := r.out hp
  have k : Keep K ca ms H (ms.more p) (upd H p (.lst vs)) := keep_of (fun a o q _ => same_new hp a o q) (fun a z => by
    rcases z with z | z
    · rcases List.mem_append.mp z with z | z
      · exact .inl (.inl z)
      · simp only [List.mem_singleton, Option.some.injEq] at z
        subst z
        exact .inr hp
    · exact .inl (.inr z)) (fun n a q => by show (ms.cs ++ [some p])[n]? = _; rw [List.getElem?_append_left (List.getElem?_eq_some_iff.mp q).1]; exact q) rfl fun a h => by
      obtain ⟨o, q⟩ := r.hidden a h
      rw [q, same_new hp a o q]
  refine ⟨k, ⟨by simp [Ms.more, r.len], fun n c h => ?_, fun n a h => ?_, fun n m a h1 h2 => ?_, fun a h => let ⟨o, q⟩ := r.hidden a h; ⟨o, same_new hp a o q⟩, fun n a h z => ?_, kf⟩⟩
  · by_cases hn : n < μ.length
    · rw [List.getElem?_append_left hn] at h
      obtain ⟨a, q, z⟩ := r.live n c h
      refine ⟨a, by show (ms.cs ++ [some p])[n]? = _; rw [List.getElem?_append_left (by rw [← r.len]; exact hn)]; exact q, z.keep k fun o e => same_new hp _ _ e⟩
    · have hn' : n = μ.length := by
        have := (List.getElem?_eq_some_iff.mp h).1
        simp at this
        omega
      subst hn'
      simp only [List.getElem?_concat_length, Option.some.injEq] at h
      subst h
      exact ⟨p, by show (ms.cs ++ [some p])[μ.length]? = _; rw [r.len]; simp, vs, upd_same, k.list l⟩
  · have h : (ms.cs ++ [some p])[n]? = some (some a) := h
    by_cases hn : n < ms.cs.length
    · rw [List.getElem?_append_left hn] at h
      obtain ⟨c, q⟩ := r.dead n a h
      exact ⟨c, by rw [List.getElem?_append_left (by rw [r.len]; exact hn)]; exact q⟩
    · have hn' : n = ms.cs.length := by
        have := (List.getElem?_eq_some_iff.mp h).1
        simp at this
        omega
      subst hn'
      exact ⟨_, by rw [← r.len]; simp; rfl⟩
  · have at_ : ∀ (n : Nat), (ms.cs ++ [some p])[n]? = some (some a) → (ms.cs[n]? = some (some a) ∧ a ≠ p) ∨ (n = ms.cs.length ∧ a = p) := fun n h => by
      by_cases hn : n < ms.cs.length
      · rw [List.getElem?_append_left hn] at h
        refine .inl ⟨h, fun z => ?_⟩
        subst z
        exact out (.inl (List.mem_of_getElem? h))
      · have hn' : n = ms.cs.length := by
          have := (List.getElem?_eq_some_iff.mp h).1
          simp at this
          omega
        subst hn'
        simp only [List.getElem?_concat_length, Option.some.injEq] at h
        exact .inr ⟨rfl, h.symm⟩
    rcases at_ n h1 with ⟨a1, a2⟩ | ⟨a1, a2⟩ <;> rcases at_ m h2 with ⟨b1, b2⟩ | ⟨b1, b2⟩
    · exact r.apart n m a a1 b1
    · exact absurd b2 a2
    · exact absurd a2 b2
    · omega
  · have h : (ms.cs ++ [some p])[n]? = some (some a) := h
    by_cases hn : n < ms.cs.length
    · rw [List.getElem?_append_left hn] at h
      exact r.sep n a h z
    · have hn' : n = ms.cs.length := by
        have := (List.getElem?_eq_some_iff.mp h).1
        simp at this
        omega
      subst hn'
      simp only [List.getElem?_concat_length, Option.some.injEq] at h
      subst h
      obtain ⟨o, q⟩ := r.hidden _ z
      rw [hp] at q; cases q
/-- a list cell changes -/
theorem RelM.setLst {n : Nat} {p : Addr} {xs : List D} {vs : List V} (r : RelM K ca μ ms H) (hp : ms.cs[n]? = some (some p)) (kf : KF K (upd H p (.lst vs))) (l : RepL K ca ms H xs vs) :
    Keep K ca ms H ms (upd H p (.lst vs)) ∧ RelM K ca (μ.set n (some (.lst xs))) ms (upd H p (.lst vs)) := by
  have pin : ms.In p := .inl (List.mem_of_getElem? hp)
  have k : Keep K ca ms H ms (upd H p (.lst vs)) := keep_of (fun a o q z => by
    rw [upd_ne]
    · exact q
    · intro e; subst e; exact z pin) (fun a z => .inl z) (fun _ _ q => q) rfl fun a h => by
      rw [upd_ne]
      intro e; subst e
      exact r.sep n _ hp h
  have hn : n < μ.length := by rw [r.len]; exact (List.getElem?_eq_some_iff.mp hp).1
  refine ⟨k, ⟨by simp [r.len], fun m c h => ?_, fun m a h => ?_, r.apart, fun a h => ?_, r.sep, kf⟩⟩
  · by_cases hm : m = n
    · subst hm
      rw [List.getElem?_set_self hn] at h
      simp only [Option.some.injEq] at h
      subst h
      exact ⟨p, hp, vs, upd_same, k.list l⟩
    · rw [List.getElem?_set_ne (by omega)] at h
      obtain ⟨a, q, z⟩ := r.live m c h
      refine ⟨a, q, z.keep k fun o e => ?_⟩
      rw [upd_ne]
      · exact e
      · intro e'; subst e'; exact hm (r.apart m n _ q hp)
  · by_cases hm : m = n
    · subst hm
      exact ⟨_, List.getElem?_set_self hn⟩
    · obtain ⟨c, q⟩ := r.dead m a h
      exact ⟨c, by rw [List.getElem?_set_ne (by omega)]; exact q⟩
  · by_cases ha : a = p
    · subst ha
      exact ⟨_, upd_same⟩
    · obtain ⟨o, q⟩ := r.hidden a h
      exact ⟨o, by rw [upd_ne ha]; exact q⟩
end
section
variable {X : Cx} {ca : Nat → Addr} {W : WX} {pos : Pos} {a b : Expr} {es : List Expr} {ma mb : MD} {ml : ML}
theorem re_tup {x1} (h : PA X es (rdA X.K ca W ml)) : PE X (.Tuple es x1 pos) (rdE X.K ca W (mTup ml)) := by
  refine pe_imp (pe_tup h) fun σ H Q kf ⟨ms, ρ, μ, e, r, h⟩ => af_bind e r h fun us μ1 vs H1 ms1 k1 r1 p1 h1 => ?_
  obtain ⟨d, hd, q⟩ := fin_of h1 r1
  dsimp only at hd; unfold mkTup at hd
  split at hd
  · rename_i hz
    cases hx : toDs us with
    | none => rw [hx] at hd; cases hd
    | some xs =>
      rw [hx] at hd
      cases hd
      have l := repL_of p1 hx
      refine ⟨by rw [← p1.1]; exact sz_ok hz, fun p hp => q _ _ (same_new hp) fun _ => ?_⟩
      exact .tup (.inl ⟨.inl upd_same, r1.out hp⟩) l.1 fun i x v a b => (l.2 i x v a b).ext (same_new hp)
  · cases hd
theorem re_lst (h : PA X es (rdA X.K ca W ml)) : PE X (.List es pos) (rdE X.K ca W (mLst ml)) := by
  refine pe_imp (pe_lst h) fun σ H Q kf ⟨ms, ρ, μ, e, r, h⟩ => af_bind e r h fun us μ1 vs H1 ms1 k1 r1 p1 h1 => ?_
  obtain ⟨d, hd, q⟩ := fin_of h1 r1
  dsimp only at hd; unfold mkLst at hd
  split at hd
  · rename_i hz
    cases hx : toDs us with
    | none => rw [hx] at hd; cases hd
    | some xs =>
      rw [hx] at hd
      cases hd
      have l := repL_of p1 hx
      refine ⟨by rw [← p1.1]; exact sz_ok hz, fun p hp => q _ _ (same_new hp) fun _ => ?_⟩
      exact .lst upd_same (r1.out hp) l.1 fun i x v a b => (l.2 i x v a b).ext (same_new hp)
  · cases hd
theorem re_lstC (h : PA X es (rdA X.K ca W ml)) : PE X (.List es pos) (rdE X.K ca W (mLstC ml)) := by
  refine pe_imp (pe_lst h) fun σ H Q kf ⟨ms, ρ, μ, e, r, h⟩ => af_bind e r h fun us μ1 vs H1 ms1 k1 r1 p1 h1 => ?_
  split at h1
  · rename_i hz
    cases hx : toDs us with
    | none => rw [hx] at h1; exact (show False from h1).elim
    | some xs =>
      rw [hx] at h1
      have l := repL_of p1 hx
      refine ⟨by rw [← p1.1]; exact sz_ok hz, fun p hp kf' => ?_⟩
      obtain ⟨k2, r2⟩ := r1.newLst hp kf' l
      exact h1 (.ref p) _ (ms1.more p) k2 r2 ⟨p, rfl, by show (ms1.cs ++ [some p])[_]? = _; rw [r1.len]; simp⟩
  · exact (show False from h1).elim
theorem re_callB {id : String} {x : Str} {p : Pos} {f : Mem → List U → Option D} (hc : CallR X (.builtin id) (rDn X.K ca f)) (hg : Gl X x) (hm : X.mg x = none) (hv : bootBuiltins x = some (.builtin id)) (ha : PA X (a :: es) (rdA X.K ca W ml)) (hn : x ≠ "__name__" := by decide) (hdb : (x == ("__debug__" : Str)) = false := by decide)
    (he : starEach (a :: es) X.env = (false, eval a X.env) :: starEach es X.env := by rfl) (hpl : (backTo pos (starEach es X.env)).any (·.1) = false := by rfl) : PE X (.Call (.Name x p) (a :: es) [] pos) (rdE X.K ca W (mCall f ml)) :=
  pe_imp (pe_callB hc hg hm hv ha hn hdb he hpl) fun _ _ _ _ h => to_call (es := es) h
theorem re_callTy {T : String} {x : Str} {p : Pos} {f : Mem → List U → Option D} (hc : CallR X (.type T) (rDn X.K ca f)) (hg : Gl X x) (hm : X.mg x = none) (hv : bootBuiltins x = some (.type T)) (ha : PA X (a :: es) (rdA X.K ca W ml)) (hn : x ≠ "__name__" := by decide) (hdb : (x == ("__debug__" : Str)) = false := by decide)
    (he : starEach (a :: es) X.env = (false, eval a X.env) :: starEach es X.env := by rfl) (hpl : (backTo pos (starEach es X.env)).any (·.1) = false := by rfl) : PE X (.Call (.Name x p) (a :: es) [] pos) (rdE X.K ca W (mCall f ml)) :=
  pe_imp (pe_callTy hc hg hm hv ha hn hdb he hpl) fun _ _ _ _ h => to_call (es := es) h
end
end Dv
namespace Dv
open PySem L2
open PyProof.Rows (envOfC)

/-! ### statements -/
section
variable (K : PySem.W.Frag) (ca : Nat → Addr)
def AfS (W : WX) (ms : Ms) (H : Hp) (r : RS) (D : Ends) : Prop := match r with
  | .next ρ' μ' => ∀ σ' H' ms', Keep K ca ms H ms' H' → RelE K ca ρ' ms' σ' H' → RelM K ca μ' ms' H' → D.nx σ' H'
  | .brk ρ' μ' => ∀ σ' H' ms', Keep K ca ms H ms' H' → RelE K ca ρ' ms' σ' H' → RelM K ca μ' ms' H' → D.bk σ' H'
  | .cont ρ' μ' => ∀ σ' H' ms', Keep K ca ms H ms' H' → RelE K ca ρ' ms' σ' H' → RelM K ca μ' ms' H' → D.ct σ' H'
  | .ret u μ' => ∀ v H' ms', Keep K ca ms H ms' H' → RelM K ca μ' ms' H' → RepU K ca ms' H' u v → D.rt v H'
  | .exc c fs ρ' μ' => ∀ d σ' H' ms', Keep K ca ms H ms' H' → RelE K ca ρ' ms' σ' H' → RelM K ca μ' ms' H' → ErrAt K ca ms' H' fs d → W (.ref (ca c)) d σ' H'
  | .stuck => False
def rdS (W : WX) (m : MS) : TS := fun D σ H => ∃ ms ρ μ, RelE K ca ρ ms σ H ∧ RelM K ca μ ms H ∧ AfS K ca W ms H (m ρ μ) D
end
def kfD (K : PySem.W.Frag) (D : Ends) : Ends := { nx := fun σ H => KF K H → D.nx σ H, rt := fun v H => KF K H → D.rt v H, bk := fun σ H => KF K H → D.bk σ H, ct := fun σ H => KF K H → D.ct σ H }
def RS.of {α : Type} (ρ : Env) : R α → (α → Mem → RS) → RS
  | .val a μ, f => f a μ
  | .exc c fs μ, _ => .exc c fs ρ μ
  | .stuck, _ => .stuck
@[simp] theorem of_val {α : Type} (ρ : Env) (a : α) (μ : Mem) (f : α → Mem → RS) : RS.of ρ (.val a μ) f = f a μ := rfl
@[simp] theorem of_exc {α : Type} (ρ : Env) (c : Nat) (fs : List (Str × D)) (μ : Mem) (f : α → Mem → RS) : RS.of ρ (.exc c fs μ) f = .exc c fs ρ μ := rfl
@[simp] theorem of_stuck {α : Type} (ρ : Env) (f : α → Mem → RS) : RS.of ρ (.stuck) f = .stuck := rfl
def RS.then_ : RS → MS → RS
  | .next ρ μ, n => n ρ μ
  | r, _ => r
@[simp] theorem then_next (ρ : Env) (μ : Mem) (n : MS) : (RS.next ρ μ).then_ n = n ρ μ := rfl
@[simp] theorem then_ret (v : U) (μ : Mem) (n : MS) : (RS.ret v μ).then_ n = .ret v μ := rfl
@[simp] theorem then_exc (c : Nat) (fs : List (Str × D)) (ρ : Env) (μ : Mem) (n : MS) : (RS.exc c fs ρ μ).then_ n = .exc c fs ρ μ := rfl
@[simp] theorem then_stuck (n : MS) : (RS.stuck).then_ n = .stuck := rfl
@[simp] theorem then_brk (ρ : Env) (μ : Mem) (n : MS) : (RS.brk ρ μ).then_ n = .brk ρ μ := rfl
@[simp] theorem then_cont (ρ : Env) (μ : Mem) (n : MS) : (RS.cont ρ μ).then_ n = .cont ρ μ := rfl
section
variable {K : PySem.W.Frag} {ca : Nat → Addr} {W : WX} {σ : St} {ms ms1 : Ms} {H H1 : Hp} {ρ : Env} {μ : Mem} {D D' : Ends}
theorem AfS.shift {r : RS} (h : AfS K ca W ms H r D) (k : Keep K ca ms H ms1 H1) : AfS K ca W ms1 H1 r D := by
  cases r with
  | next => exact fun a b c k' => h a b c (k.trans k')
  | brk => exact fun a b c k' => h a b c (k.trans k')
  | cont => exact fun a b c k' => h a b c (k.trans k')
  | ret => exact fun a b c k' => h a b c (k.trans k')
  | exc => exact fun a b c d k' => h a b c d (k.trans k')
  | stuck => exact h
theorem AfS.kf {r : RS} (h : AfS K ca W ms H r D) : AfS K ca W ms H r (kfD K D) := by
  cases r with
  | next => exact fun a b c k' e r _ => h a b c k' e r
  | brk => exact fun a b c k' e r _ => h a b c k' e r
  | cont => exact fun a b c k' e r _ => h a b c k' e r
  | ret => exact fun a b c k' r p _ => h a b c k' r p
  | exc => exact h
  | stuck => exact h
theorem af_of {α γ : Type} {rp : Ms → Hp → α → γ → Prop} {m : Env → Mem → R α} {f : α → Mem → RS} {Q1 : γ → Hp → Prop} (e : RelE K ca ρ ms σ H) (r : RelM K ca μ ms H) (h : AfS K ca W ms H (RS.of ρ (m ρ μ) f) D)
    (k : ∀ a μ1 v H1 ms1, Keep K ca ms H ms1 H1 → RelM K ca μ1 ms1 H1 → rp ms1 H1 a v → AfS K ca W ms1 H1 (f a μ1) D → Q1 v H1) : rd K ca rp W m σ H Q1 := by
  refine ⟨ms, ρ, μ, e, r, ?_⟩
  cases hm : m ρ μ with
  | val a μ1 =>
    rw [hm] at h
    exact fun v H1 ms1 k1 r1 p1 => k a μ1 v H1 ms1 k1 r1 p1 (AfS.shift h k1)
  | exc c fs μ1 =>
    rw [hm] at h
    exact fun d H' ms' k' r' x' => h d σ H' ms' k' (e.keep k') r' x'
  | stuck =>
    rw [hm] at h
    exact (show False from h).elim
theorem AfS.nx {r : RelM K ca μ ms H} (h : AfS K ca W ms H (.next ρ μ) D) (e : RelE K ca ρ ms σ H) : D.nx σ H := h σ H ms Keep.refl e r
theorem RelE.set {i : Nat} {u : U} {v : V} (e : RelE K ca ρ ms σ H) (hi : i < ρ.length) (p : RepU K ca ms H u v) : RelE K ca (ρ.set i (some u)) ms (σ.set i (some v)) H := by
  refine ⟨by simp [e.1], fun j w h => ?_⟩
  by_cases hj : j = i
  · subst hj
    rw [List.getElem?_set_self hi] at h
    cases h
    exact ⟨v, List.getElem?_set_self (by rw [← e.1]; exact hi), p⟩
  · rw [List.getElem?_set_ne (by omega)] at h
    obtain ⟨z, a, b⟩ := e.2 j w h
    exact ⟨z, by rw [List.getElem?_set_ne (by omega)]; exact a, b⟩
end
def putE (i : Nat) (u : U) (ρ : Env) : Option Env := if i < ρ.length then some (ρ.set i (some u)) else none
def mSeq (m n : MS) : MS := fun ρ μ => (m ρ μ).then_ n
def mNop : MS := fun ρ μ => .next ρ μ
def mSet (i : Nat) (m : MD) : MS := fun ρ μ => RS.of ρ (m ρ μ) fun u μ1 => match putE i u ρ with
  | some ρ1 => .next ρ1 μ1
  | none => .stuck
def mRet (m : MD) : MS := fun ρ μ => RS.of ρ (m ρ μ) fun u μ1 => .ret u μ1
def mExp (m : MD) : MS := fun ρ μ => RS.of ρ (m ρ μ) fun _ μ1 => .next ρ μ1
def mIf (t : MT) (m n : MS) : MS := fun ρ μ => RS.of ρ (t ρ μ) fun c μ1 => if c = true then m ρ μ1 else n ρ μ1
section
variable {X : Cx} {ca : Nat → Addr} {W : WX} {pos : Pos} {st : Stmt} {rest ss zs : List Stmt} {e c : Expr} {m n : MS} {me : MD} {mt : MT}
theorem ps_imp {t t' : TS} (h : PS X st t) (k : ∀ D σ H, KF X.K H → t' D σ H → t (kfD X.K D) σ H) : PS X st t' :=
  ⟨fun pins s σ H D I q => thn (h.run pins s σ H _ I (k D σ H (kf_of I) q)) fun f s1 z => by
    cases f with
    | next => obtain ⟨σ', H', I', q'⟩ := z; exact ⟨σ', H', I', q' (kf_of I')⟩
    | brk => obtain ⟨σ', H', I', q'⟩ := z; exact ⟨σ', H', I', q' (kf_of I')⟩
    | cont => obtain ⟨σ', H', I', q'⟩ := z; exact ⟨σ', H', I', q' (kf_of I')⟩
    | ret u => obtain ⟨v, σ', H', I', r', q'⟩ := z; exact ⟨v, σ', H', I', r', q' (kf_of I')⟩⟩
theorem pss_imp {t t' : TS} (h : PSs X ss t) (k : ∀ D σ H, KF X.K H → t' D σ H → t (kfD X.K D) σ H) : PSs X ss t' :=
  ⟨fun pins s σ H D I q => thn (h.run pins s σ H _ I (k D σ H (kf_of I) q)) fun f s1 z => by
    cases f with
    | next => obtain ⟨σ', H', I', q'⟩ := z; exact ⟨σ', H', I', q' (kf_of I')⟩
    | brk => obtain ⟨σ', H', I', q'⟩ := z; exact ⟨σ', H', I', q' (kf_of I')⟩
    | cont => obtain ⟨σ', H', I', q'⟩ := z; exact ⟨σ', H', I', q' (kf_of I')⟩
    | ret u => obtain ⟨v, σ', H', I', r', q'⟩ := z; exact ⟨v, σ', H', I', r', q' (kf_of I')⟩⟩
theorem rss_nil : PSs X [] (rdS X.K ca W mNop) := pss_imp pss_nil fun D σ H kf ⟨ms, ρ, μ, e, r, h⟩ _ => AfS.nx (r := r) h e
theorem rss_one (h : PS X st (rdS X.K ca W m)) : PSs X [st] (rdS X.K ca W m) := pss_one h
theorem rss_cons (h1 : PS X st (rdS X.K ca W m)) (h2 : PSs X rest (rdS X.K ca W n)) : PSs X (st :: rest) (rdS X.K ca W (mSeq m n)) :=
  pss_imp (pss_cons h1 h2) fun D σ H kf ⟨ms, ρ, μ, e, r, h⟩ => by
    refine ⟨ms, ρ, μ, e, r, ?_⟩
    unfold mSeq at h
    cases hm : m ρ μ with
    | next ρ1 μ1 =>
      rw [hm] at h
      exact fun σ1 H1 ms1 k1 e1 r1 => ⟨ms1, ρ1, μ1, e1, r1, (AfS.shift h k1).kf⟩
    | brk ρ1 μ1 => rw [hm] at h; exact fun a b c k' e r _ => h a b c k' e r
    | cont ρ1 μ1 => rw [hm] at h; exact fun a b c k' e r _ => h a b c k' e r
    | ret v μ1 => rw [hm] at h; exact fun a b c k' r p _ => h a b c k' r p
    | exc c fs ρ1 μ1 => rw [hm] at h; exact h
    | stuck => rw [hm] at h; exact h
theorem rs_set (i : Nat) {x : Str} {p : Pos} (nd : X.N.Nodup) (he : PE X e (rdE X.K ca W me)) (hi : X.N[i]? = some x := by rfl) (hx : Loc X.env.scope x := by first | exact Or.inl rfl | exact Or.inr rfl) (hf : X.fn x = true ∨ X.env.scope.names.lookup x = some .local := by first | exact .inl rfl | exact .inr rfl | assumption)
    (hs : swapsWithSole [.Name x p] e pos.line X.env = pure false := by rfl) (hw : swappedStores [.Name x p] e X.env = pure none := by rfl) (h1 : (assignEach [.Name x p] X.env).map (·.2) = [assign (.Name x p) X.env] := by rfl) :
    PS X (.Assign [.Name x p] e pos) (rdS X.K ca W (mSet i me)) :=
  ps_imp (ps_asg he (pg_name nd hi hx hf) hs hw h1) fun D σ H kf ⟨ms, ρ, μ, e, r, h⟩ => af_of e r h fun u μ1 v H1 ms1 k1 r1 p1 h1 => by
    unfold putE at h1
    by_cases hi : i < ρ.length
    · rw [if_pos hi] at h1
      exact fun _ => AfS.nx (r := r1) h1 ((e.keep k1).set hi p1)
    · rw [if_neg hi] at h1
      exact (show False from h1).elim
theorem rs_ret (he : PE X e (rdE X.K ca W me)) : PS X (.Return (some e) pos) (rdS X.K ca W (mRet me)) :=
  ps_imp (ps_ret he) fun D σ H kf ⟨ms, ρ, μ, e, r, h⟩ => af_of e r h fun u μ1 v H1 ms1 k1 r1 p1 h1 => fun _ => h1 v H1 ms1 Keep.refl r1 p1
theorem rs_exp (he : PE X e (rdE X.K ca W me)) (hs : swapsWith e none pos.line X.env = pure false := by rfl) : PS X (.Expr e pos) (rdS X.K ca W (mExp me)) :=
  ps_imp (ps_expr he hs) fun D σ H kf ⟨ms, ρ, μ, e, r, h⟩ => af_of e r h fun u μ1 v H1 ms1 k1 r1 p1 h1 => fun _ => AfS.nx (r := r1) h1 (e.keep k1)
theorem rs_if (hc : PT X c (rdT X.K ca W mt)) (ha : PSs X ss (rdS X.K ca W m)) (hb : PSs X zs (rdS X.K ca W n)) : PS X (.If c ss zs pos) (rdS X.K ca W (mIf mt m n)) :=
  ps_imp (ps_if hc ha hb) fun D σ H kf ⟨ms, ρ, μ, e, r, h⟩ => af_of e r h fun u μ1 v H1 ms1 k1 r1 p1 h1 => by
    obtain rfl : v = u := p1
    cases v with
    | true => exact ⟨ms1, ρ, μ1, e.keep k1, r1, AfS.kf h1⟩
    | false => exact ⟨ms1, ρ, μ1, e.keep k1, r1, AfS.kf h1⟩
end

/-! ### defs -/
def runB (n : Nat) (m : MS) (us : List U) (μ : Mem) : R U := match m (us.map some ++ List.replicate (n - us.length) none) μ with
  | .next _ μ1 => .val (.d .non) μ1
  | .ret v μ1 => .val v μ1
  | .exc c fs _ μ1 => .exc c fs μ1
  | _ => .stuck
abbrev MF := List U → Mem → R U
/-- the promise: a def of k arguments does what mf tells -/
def spD (K : PySem.W.Frag) (ca : Nat → Addr) (k : Nat) (mf : MF) : Sp := fun vs H Q E => vs.length = k ∧ ∃ ms μ us, RelM K ca μ ms H ∧ RepUL K ca ms H us vs ∧ Af K ca (RepU K ca) (fun cls d _ H' => E cls d H') [] ms H (mf us μ) Q
def LenL (ml : ML) (n : Nat) : Prop := ∀ ρ μ us μ1, ml ρ μ = .val us μ1 → us.length = n
theorem len_nil : LenL mNil 0 := fun ρ μ us μ1 h => by cases h; rfl
theorem len_cons {ma : MD} {mr : ML} {n : Nat} (h : LenL mr n) : LenL (mCons ma mr) (n + 1) := fun ρ μ us μ1 q => by
  unfold mCons at q
  cases h1 : ma ρ μ with
  | val x μ2 =>
    rw [h1, bind_val] at q
    cases h2 : mr ρ μ2 with
    | val xs μ3 =>
      rw [h2, bind_val] at q
      have hl := h ρ μ2 xs μ3 h2
      cases q
      rw [List.length_cons, hl]
    | exc c fs μ4 => rw [h2] at q; cases q
    | stuck => rw [h2] at q; cases q
  | exc c fs μ4 => rw [h1] at q; cases q
  | stuck => rw [h1] at q; cases q
def mFn (mf : MF) (ml : ML) : MD := fun ρ μ => (ml ρ μ).bind mf
section
variable {P : Program} {w : World} {K : PySem.W.Frag} {mg : Str → Option Value} {base : Heap} {ca : Nat → Addr}
theorem start_rel {N : List Str} {us : List U} {vs : List V} {ms : Ms} {H : Hp} (h : RepUL K ca ms H us vs) : RelE K ca (us.map some ++ List.replicate (N.length - us.length) none) ms (L2.start N vs) H := by
  refine ⟨by simp [L2.start, h.1], fun i u e => ?_⟩
  by_cases hi : i < us.length
  · rw [List.getElem?_append_left (by simpa using hi), List.getElem?_map] at e
    cases q : us[i]? with
    | none => rw [q] at e; simp at e
    | some y =>
      rw [q] at e
      simp only [Option.map_some, Option.some.injEq] at e
      subst e
      have hv : i < vs.length := by rw [← h.1]; exact hi
      refine ⟨vs[i], ?_, h.2 i y _ q (List.getElem?_eq_getElem hv)⟩
      unfold L2.start
      rw [List.getElem?_append_left (by simpa using hv), List.getElem?_map, List.getElem?_eq_getElem hv]
      rfl
  · rw [List.getElem?_append_right (by simpa using hi)] at e
    have := List.mem_of_getElem? e
    simp at this
end
/-! ### a def's promise where no repr is under way -/
structure FnG (P : Program) (w : World) (K : PySem.W.Frag) (mg : Str → Option Value) (base : Heap) (k : Nat) (f : Addr) (fd : FuncData) (ps : List Str) (sp : Sp) : Prop where
  size : ∀ xs G Q E, sp xs G Q E → xs.length = ps.length
  go : ∀ (B : Around) (fr : List PySem.Env) (z : Shared) (G : Hp) (ar : Args) (as : List Value) (xs : List V) (Q : VK) (E : XK), Room k B → B.guards = some [] → Env0 P w K mg base B fr z G → BindsTo z fd ar (ps.zip as) → Vals xs as → sp xs G Q E →
    codeAny (model P w) B (.call (.ref f) ar) (CR (L2.CX P w) fr P w G z Q E) z
theorem FnG.up {P : Program} {w : World} {K : PySem.W.Frag} {mg : Str → Option Value} {base : Heap} {j k : Nat} {f : Addr} {fd : FuncData} {ps : List Str} {sp : Sp} (F : FnG P w K mg base j f fd ps sp) (h : j ≤ k) : FnG P w K mg base k f fd ps sp :=
  ⟨F.size, fun B fr z G ar as xs Q E rm => F.go B fr z G ar as xs Q E (rm.mono h)⟩
section
variable {P : Program} {w : World} {K : PySem.W.Frag} {mg : Str → Option Value} {base : Heap} {ca : Nat → Addr}
theorem fn_body {k : Nat} {f : Addr} {st : Stmt} {nm qual : Str} {fd : FuncData} {N ps : List Str} {sp : Sp} (F : Fun K nm qual st f fd) (S : FnScope N ps (defScope st)) (sz : ∀ xs G Q E, sp xs G Q E → xs.length = ps.length)
    (bd : ∀ (cv : Value) (B : Around) (fr : List PySem.Env) (z : Shared) (G : Hp) (xs : List V) (Q : VK) (E : XK), Room k (B.deeper (envOfC qual (defScope st) z.heap.objs.size f cv)) → B.guards = some [] → sp xs G Q E →
      ∃ t, PSs (cxOf (L2.CX P w) P w K mg base N qual (defScope st) f cv B fr z G E) (defBody st) t ∧ t { nx := fun _ G' => Q .non G', rt := Q } (L2.start N xs) G) : FnG P w K mg base (k + 1) f fd ps sp := by
  obtain ⟨oc, od, kV, doc, pm, an, cv, ct, osl, rfl, at_, cod⟩ := F.ex
  refine ⟨sz, fun B fr z G ar as xs Q E rm gd e0 bi rv hs => ?_⟩
  have inK : K.In z.heap := e0.mod.kin.keeps fun c o q => (e0.bs c o q).1
  have noL : z.heap.NoLimit := e0.mod.nolimit.keeps fun c o q => (e0.bs c o q).1
  refine codeAny_call_function rm.depth (inK _ _ at_) rfl S.co S.gen rfl (PySem.W.codeRec_of inK cod) (bi _ _ _ _ (wpAny_newFunctionEnv_cells S.kind (fun pr mem => ?_) fun env eq z1 ic => ?_))
  · obtain ⟨n, v⟩ := pr
    rcases S.par n (List.of_mem_zip mem).1 with q | q
    · exact Or.inl q
    · exact Or.inr ⟨q, PySem.W.cellsFrom_some _ _ _ (Or.inl q)⟩
  · subst eq
    obtain ⟨t, derive, say⟩ := bd cv B fr z G xs Q E (rm.deeper _) gd hs
    have J0 : Inv (cxOf (L2.CX P w) P w K mg base N qual (defScope st) f cv B fr z G E) [] (L2.start N xs) G z1 := inv_start S rm.hd e0 (sz _ _ _ _ hs) rv ic
    refine ⟨noL.keeps ic.toInCall.keep, codeAny_func (wpAny_mono (derive.run [] z1 _ G _ J0 say) (fun way z2 ends => ?_) fun _ _ q => q)⟩
    cases way with
    | ret u => obtain ⟨v, σ', G', J, rel, q⟩ := ends; exact ⟨v, G', J.os, J.bare, J.base, J.hok, rel, q⟩
    | next => obtain ⟨σ', G', J, q⟩ := ends; exact ⟨V.non, G', J.os, J.bare, J.base, J.hok, rfl, q⟩
    | brk => obtain ⟨_, _, _, q⟩ := ends; exact q.elim
    | cont => obtain ⟨_, _, _, q⟩ := ends; exact q.elim
theorem fn_ok {x qual : Str} {st : Stmt} {f : Addr} {fd : FuncData} {N ps : List Str} {k : Nat} {m : MS} {mf : MF} (F : Fun K x qual st f fd) (S : FnScope N ps (defScope st)) (hmf : ∀ us μ, us.length = ps.length → mf us μ = runB N.length m us μ)
    (hbody : ∀ (cdv : Value) (A : Around) (outer : List PySem.Env) (s : Shared) (H : Hp) (E : XK), Room k (A.deeper (envOfC qual (defScope st) s.heap.objs.size f cdv)) → A.guards = some [] →
      PSs (cxOf (L2.CX P w) P w K mg base N qual (defScope st) f cdv A outer s H E) (defBody st) (rdS K ca (fun cls d _ H' => E cls d H') m)) : FnG P w K mg base (k + 1) f fd ps (spD K ca ps.length mf) := by
  refine fn_body F S (fun vs H Q E h => h.1) fun cdv A outer s H vs Q E hr gd h => ⟨_, hbody cdv A outer s H E hr gd, ?_⟩
  obtain ⟨hl, ms, μ, us, r, l, h⟩ := h
  refine ⟨ms, _, μ, start_rel (N := N) l, r, ?_⟩
  rw [hmf us μ (by rw [l.1]; exact hl)] at h
  unfold runB at h
  cases hm : m (us.map some ++ List.replicate (N.length - us.length) none) μ with
  | next ρ1 μ1 => rw [hm] at h; exact fun σ' H' ms' k' e' r' => h .non H' ms' k' r' Rep.non
  | ret v μ1 => rw [hm] at h; exact fun v' H' ms' k' r' p' => h v' H' ms' k' r' p'
  | exc c fs ρ1 μ1 => rw [hm] at h; exact fun d σ' H' ms' k' e' r' x' => h d H' ms' k' r' x'
  | brk ρ1 μ1 => rw [hm] at h; exact (show False from h).elim
  | cont ρ1 μ1 => rw [hm] at h; exact (show False from h).elim
  | stuck => rw [hm] at h; exact (show False from h).elim
end
section
variable {X : Cx} {ca : Nat → Addr} {W : WX} {pos p : Pos} {e : Expr} {es : List Expr} {ml : ML}
/-- a call of a def by values -/
theorem call_fn {k : Nat} {f : Addr} {fd : FuncData} {ps : List Str} {sp : Sp} {pins : List (Addr × Obj)} {σ : St} {H : Hp} {s : Shared} {Q : VK} {us : List Value} {vs : List V} (F : FnG X.prog X.w X.K X.mg X.base k f fd ps sp) (hr : Room k X.A) (gd : X.A.guards = some []) (hb : Binds X.K fd ps [])
    (tk : Takes X W) (I : Inv X pins σ H s) (r : Vals vs us) (h : sp vs H Q (WE W σ)) : wpAny (model X.prog X.w) X.A (call (.ref f) us) (EP X pins σ Q) X.xe s := by
  have sz : us.length = ps.length := r.length ▸ F.size _ _ _ _ h
  have bi := hb s us I.kIn (by simpa using sz)
  refine wpAny_call (codeAny_mono (F.go X.A X.stack s H ⟨us, []⟩ us vs Q (WE W σ) hr gd I.env0 (by simpa using bi) r h) fun res s' end_ => ?_)
  cases res with
  | error er => exact passAt tk σ pins H s er s' I end_
  | ok way =>
    cases way with
    | ret u => exact I.after end_
    | next => exact False.elim end_
    | brk => exact False.elim end_
    | cont => exact False.elim end_
theorem pe_fn {k : Nat} {f : Addr} {fd : FuncData} {ps : List Str} {sp : Sp} {x : Str} {t : TA} (F : FnG X.prog X.w X.K X.mg X.base k f fd ps sp) (hr : Room k X.A) (gd : X.A.guards = some []) (tk : Takes X W) (hm : X.mg x = some (.ref f)) (hk : PySem.W.keepIn X.K (.ref f) = true) (hb : Binds X.K fd ps [])
    (ha : PA X (e :: es) t) (hg : Gl X x) (hdb : (x == ("__debug__" : Str)) = false) (he : starEach (e :: es) X.env = (false, eval e X.env) :: starEach es X.env) (hpl : (backTo pos (starEach es X.env)).any (·.1) = false) : PE X (.Call (.Name x p) (e :: es) [] pos) (tCallS sp (WE W) t) :=
  ⟨fun pins s σ H Q I h => wpAny_Call_Name_kw (ld_glob I hg hm (PySem.W.callWith_K (h₀ := X.base) I.ok.mod.kin hk (thn (ha.run pos pins s σ H _ I h) fun us s1 ⟨vs, H1, I1, r, q⟩ => ⟨I1.kIn, call_fn F hr gd hb tk I1 r q⟩) he hpl) hdb)⟩
theorem re_fn {k : Nat} {f : Addr} {fd : FuncData} {ps : List Str} {x : Str} {mf : MF} (F : FnG X.prog X.w X.K X.mg X.base k f fd ps (spD X.K ca ps.length mf)) (hr : Room k X.A) (gd : X.A.guards = some []) (tk : Takes X W) (hm : X.mg x = some (.ref f)) (hk : PySem.W.keepIn X.K (.ref f) = true) (hb : Binds X.K fd ps [])
    (ha : PA X (e :: es) (rdA X.K ca W ml)) (hg : Gl X x := by rfl) (hl : (e :: es).length = ps.length := by rfl) (hml : LenL ml (e :: es).length := by repeat' first | exact len_nil | refine len_cons ?_) (hdb : (x == ("__debug__" : Str)) = false := by decide) (he : starEach (e :: es) X.env = (false, eval e X.env) :: starEach es X.env := by rfl) (hpl : (backTo pos (starEach es X.env)).any (·.1) = false := by rfl) :
    PE X (.Call (.Name x p) (e :: es) [] pos) (rdE X.K ca W (mFn mf ml)) := by
  refine pe_imp (pe_fn F hr gd tk hm hk hb ha hg hdb he hpl) fun σ H Q kf ⟨ms, ρ, μ, e, r, h⟩ => ?_
  refine ⟨ms, ρ, μ, e, r, ?_⟩
  unfold mFn at h
  cases hq : ml ρ μ with
  | val us μ1 =>
    rw [hq] at h
    intro vs H1 ms1 k1 r1 p1
    refine ⟨by rw [← p1.1, hml ρ μ us μ1 hq, hl], ms1, μ1, us, r1, p1, ?_⟩
    have h2 := Af.shift h k1
    show Af X.K ca (RepU X.K ca) _ [] ms1 H1 (mf us μ1) _
    cases hf : mf us μ1 with
    | val u μ2 => rw [bind_val, hf] at h2; exact fun v H' ms' k' r' p' _ => h2 v H' ms' k' r' p'
    | exc c fs μ2 => rw [bind_val, hf] at h2; exact fun d H' ms' k' r' x' => h2 d H' ms' k' r' x'
    | stuck => rw [bind_val, hf] at h2; exact h2
  | exc c fs μ1 => rw [hq] at h; exact h
  | stuck => rw [hq] at h; exact h
end
end Dv
namespace Dv
open PySem L2

/-- the items of a list, in a cell or told -/
def cellL (μ : Mem) (n : Nat) : Option (List D) := match μ[n]? with
  | some (some (.lst xs)) => some xs
  | _ => none
def asL (μ : Mem) : U → Option (List D)
  | .d (.lst xs) => some xs
  | .cell n => cellL μ n
  | _ => none
section
variable {K : PySem.W.Frag} {ca : Nat → Addr} {ms : Ms} {H : Hp} {μ : Mem}
theorem asL_at {u : U} {v : V} {xs : List D} (r : RelM K ca μ ms H) (p : RepU K ca ms H u v) (h : asL μ u = some xs) : ∃ a vs, v = .ref a ∧ H a = some (.lst vs) ∧ RepL K ca ms H xs vs := by
  cases u with
  | d x =>
    cases x with
    | lst ys =>
      cases h
      cases p with
      | lst s n l z => exact ⟨_, _, rfl, s, l, z⟩
    | _ => cases h
  | cell n =>
    obtain ⟨a, rfl, e⟩ := p
    have h : cellL μ n = some xs := h
    unfold cellL at h
    cases q : μ[n]? with
    | none => rw [q] at h; cases h
    | some o =>
      rw [q] at h
      cases o with
      | none => cases h
      | some c =>
        cases c with
        | lst ys =>
          cases h
          obtain ⟨b, e1, vs, s, l⟩ := r.live n _ q
          rw [e] at e1
          cases e1
          exact ⟨a, vs, rfl, s, l⟩
        | obj c fs => cases h
theorem RepL.append {xs ys : List D} {vs ws : List V} (a : RepL K ca ms H xs vs) (b : RepL K ca ms H ys ws) : RepL K ca ms H (xs ++ ys) (vs ++ ws) := by
  refine ⟨by simp [a.1, b.1], fun i x v h1 h2 => ?_⟩
  by_cases hi : i < xs.length
  · rw [List.getElem?_append_left hi] at h1
    rw [List.getElem?_append_left (by rw [← a.1]; exact hi)] at h2
    exact a.2 i x v h1 h2
  · rw [List.getElem?_append_right (by omega)] at h1
    rw [List.getElem?_append_right (by rw [← a.1]; omega), ← a.1] at h2
    exact b.2 _ x v h1 h2
theorem rep_new {xs : List D} {vs : List V} {p : Addr} (r : RelM K ca μ ms H) (hp : H p = none) (l : RepL K ca ms H xs vs) : Rep K ca ms (upd H p (.lst vs)) (.lst xs) (.ref p) :=
  .lst upd_same (r.out hp) l.1 fun i x v a b => (l.2 i x v a b).ext (same_new hp)
end

/-! ### numbers -/
def intOp (f : Int → Int → Option D) : Mem → U → U → Option D := fun _ a b => match a, b with
  | .d (.int i), .d (.int j) => f i j
  | _, _ => none
def small64 (i : Int) : Bool := decide (-(2 ^ 64) < i) && decide (i < 2 ^ 64)
def addD (μ : Mem) (a b : U) : Option D := match a, b with
  | .d (.int i), .d (.int j) => some (.int (i + j))
  | .d (.str x), .d (.str y) => if szD (x.length + y.length) then some (.str (x ++ y)) else none
  | a, b => (asL μ a).bind fun xs => (asL μ b).bind fun ys => if szD (xs.length + ys.length) then some (.lst (xs ++ ys)) else none
def subD : Mem → U → U → Option D := intOp fun i j => some (.int (i - j))
def mulD : Mem → U → U → Option D := intOp fun i j => if small64 i || small64 j then some (.int (i * j)) else none
def powD : Mem → U → U → Option D := intOp fun i j => if decide (0 ≤ j) && decide (j ≤ 1000000) && decide (i.natAbs < 2 ^ 64) then some (.int (i ^ j.toNat)) else none
def modD : Mem → U → U → Option D := intOp fun i j => if j = 0 then none else some (.int (i.fmod j))
def divD : Mem → U → U → Option D := intOp fun i j => if decide (j ≠ 0) && decide (j.natAbs < 1073741824) then some (.int (i.fdiv j)) else none
def negD (_ : Mem) : U → Option D
  | .d (.int i) => some (.int (-i))
  | _ => none
section
variable {X : Cx} {ca : Nat → Addr}
theorem op_int {f : Value → Value → Sem Value} {C : Int → Int → Prop} {g : Int → Int → V} {h : Int → Int → Option D} (ho : OpR X f (rI C g)) (k : ∀ i j d, h i j = some d → C i j ∧ ∀ ms H, Rep X.K ca ms H d (g i j)) : OpR X f (rD2 X.K ca (intOp h)) := by
  intro pins s σ H x y v u Q I rx ry ⟨ms, μ, a, b, d, rm, ra, rb, e, q⟩
  unfold intOp at e
  split at e
  · rename_i i j
    cases ra; cases rb
    obtain ⟨c, z⟩ := k i j d e
    exact ho pins s σ H _ _ v u Q I rx ry ⟨i, j, rfl, rfl, c, q _ _ (Same.refl H) fun _ => z ms H⟩
  · cases e
theorem op_int0 {f : Value → Value → Sem Value} {g : Int → Int → V} {h : Int → Int → Option D} (ho : OpR X f (rI0 g)) (k : ∀ i j d, h i j = some d → ∀ ms H, Rep X.K ca ms H d (g i j)) : OpR X f (rD2 X.K ca (intOp h)) := by
  intro pins s σ H x y v u Q I rx ry ⟨ms, μ, a, b, d, rm, ra, rb, e, q⟩
  unfold intOp at e
  split at e
  · rename_i i j
    cases ra; cases rb
    exact ho pins s σ H _ _ v u Q I rx ry ⟨i, j, rfl, rfl, q _ _ (Same.refl H) fun _ => k i j d e ms H⟩
  · cases e
theorem o_sub : OpR X (binaryOp .Sub) (rD2 X.K ca subD) := op_int0 op_sub fun i j d h ms H => by cases h; exact .int _
theorem o_mul : OpR X (binaryOp .Mult) (rD2 X.K ca mulD) := op_int op_mul fun i j d h => by
  split at h
  · rename_i hc
    cases h
    refine ⟨?_, fun ms H => .int _⟩
    simp only [small64, Bool.or_eq_true, Bool.and_eq_true, decide_eq_true_eq] at hc
    exact hc
  · cases h
theorem o_pow : OpR X (binaryOp .Pow) (rD2 X.K ca powD) := op_int op_pow fun i j d h => by
  split at h
  · rename_i hc
    cases h
    simp only [Bool.and_eq_true, decide_eq_true_eq] at hc
    exact ⟨⟨hc.1.1, hc.1.2, hc.2⟩, fun ms H => .int _⟩
  · cases h
theorem o_mod : OpR X (binaryOp .Mod) (rD2 X.K ca modD) := op_int op_modN fun i j d h => by
  split at h
  · cases h
  · rename_i hc
    cases h
    exact ⟨hc, fun ms H => .int _⟩
theorem o_div : OpR X (binaryOp .FloorDiv) (rD2 X.K ca divD) := op_int op_fdivN fun i j d h => by
  split at h
  · rename_i hc
    cases h
    simp only [Bool.and_eq_true, decide_eq_true_eq] at hc
    exact ⟨hc, fun ms H => .int _⟩
  · cases h
theorem o_neg : UnR X (unaryOp .USub) (rD1 X.K ca negD) := by
  intro pins s σ H x v Q I rx ⟨ms, μ, a, d, rm, ra, e, q⟩
  unfold negD at e
  split at e
  · cases e
    cases ra
    exact un_neg pins s σ H _ v Q I rx ⟨_, rfl, q _ _ (Same.refl H) fun _ => .int _⟩
  · cases e
theorem o_add : OpR X (binaryOp .Add) (rD2 X.K ca addD) := by
  intro pins s σ H x y v u Q I rx ry ⟨ms, μ, a, b, d, rm, ra, rb, e, q⟩
  unfold addD at e
  split at e
  · cases e
    cases ra; cases rb
    exact op_add pins s σ H _ _ v u Q I rx ry ⟨_, _, rfl, rfl, q _ _ (Same.refl H) fun _ => .int _⟩
  · split at e
    · rename_i hz
      cases e
      cases ra; cases rb
      exact op_add_str pins s σ H _ _ v u Q I rx ry ⟨_, _, rfl, rfl, sz_ok hz, q _ _ (Same.refl H) fun _ => .str _⟩
    · cases e
  · cases ha : asL μ a with
    | none => rw [ha] at e; cases e
    | some xs =>
      rw [ha] at e
      cases hb : asL μ b with
      | none => rw [hb] at e; cases e
      | some ys =>
        rw [hb] at e
        simp only [Option.bind_some] at e
        split at e
        · rename_i hz
          cases e
          obtain ⟨p, vs, rfl, hp, l1⟩ := asL_at rm ra ha
          obtain ⟨p2, ws, rfl, hp2, l2⟩ := asL_at rm rb hb
          exact op_cat pins s σ H _ _ v u Q I rx ry ⟨p, p2, vs, ws, rfl, rfl, hp, hp2, by rw [← l1.1, ← l2.1]; exact sz_ok hz, fun n hn => q _ _ (same_new hn) fun _ => rep_new rm hn (l1.append l2)⟩
        · cases e
end

/-! ### comparisons of numbers -/
def ltB (f : Int → Int → Bool) : Mem → U → U → Option Bool := fun _ a b => match a, b with
  | .d (.int i), .d (.int j) => some (f i j)
  | _, _ => none
section
variable {X : Cx} {ca : Nat → Addr}
theorem op_cmpI {g : Value → Value → Sem Value} {f : Int → Int → Bool} (ho : OpR X g (rI0 fun i j => .bl (f i j))) : OpR X g (rDB X.K ca (ltB f)) := by
  intro pins s σ H x y v u Q I rx ry ⟨ms, μ, a, b, d, rm, ra, rb, e, q⟩
  unfold ltB at e
  split at e
  · cases e
    cases ra; cases rb
    exact ho pins s σ H _ _ v u Q I rx ry ⟨_, _, rfl, rfl, q _ (Same.refl H)⟩
  · cases e
theorem o_lt : OpR X (compareOp .Lt) (rDB X.K ca (ltB fun i j => decide (i < j))) := op_cmpI op_lt
theorem o_le : OpR X (compareOp .LtE) (rDB X.K ca (ltB fun i j => decide (i ≤ j))) := op_cmpI op_le
theorem o_gt : OpR X (compareOp .Gt) (rDB X.K ca (ltB fun i j => decide (j < i))) := op_cmpI op_gt
theorem o_ge : OpR X (compareOp .GtE) (rDB X.K ca (ltB fun i j => decide (j ≤ i))) := op_cmpI op_ge
end
end Dv
namespace Dv
open PySem L2

/-! ### plain data -/
mutual
def pd : D → Option PyData
  | .non => some .none
  | .bl b => some (.bool b)
  | .int i => some (.int i)
  | .str x => some (.str x)
  | .tup xs => (pdL xs).map .tuple
  | .lst xs => (pdL xs).map .list
  | _ => none
def pdL : List D → Option (List PyData)
  | [] => some []
  | x :: r => (pd x).bind fun d => (pdL r).bind fun ds => some (d :: ds)
end
def pdU (μ : Mem) : U → Option PyData
  | .d x => pd x
  | .cell n => (cellL μ n).bind fun xs => (pdL xs).map .list
section
variable {K : PySem.W.Frag} {ca : Nat → Addr} {ms : Ms} {H : Hp} {μ : Mem}
mutual
theorem dp_of : ∀ (x : D) (v : V) (d : PyData), Rep K ca ms H x v → pd x = some d → Dp K H v d
  | .non, _, _, h, e => by cases h; simp only [pd] at e; cases e; exact .non
  | .bl b, _, _, h, e => by cases h; simp only [pd] at e; cases e; exact .bl b
  | .int i, _, _, h, e => by cases h; simp only [pd] at e; cases e; exact .int i
  | .str x, _, _, h, e => by cases h; simp only [pd] at e; cases e; exact .str x
  | .tup xs, _, _, h, e => by
    cases h with
    | tup s l z =>
      simp only [pd, Option.map_eq_some_iff] at e
      obtain ⟨ds, e1, rfl⟩ := e
      exact .tup s.sq (dpL_of xs _ ds l z e1)
  | .lst xs, _, _, h, e => by
    cases h with
    | lst s n l z =>
      simp only [pd, Option.map_eq_some_iff] at e
      obtain ⟨ds, e1, rfl⟩ := e
      exact .lst (.inl (.inl s)) (dpL_of xs _ ds l z e1)
  | .scr _, _, _, _, e => by simp [pd] at e
  | .dic _, _, _, _, e => by simp [pd] at e
  | .obj _ _, _, _, _, e => by simp [pd] at e
  | .err _ _, _, _, _, e => by simp [pd] at e
  | .thing _, _, _, _, e => by simp [pd] at e
  | .ty _, _, _, _, e => by simp [pd] at e
  | .cls _, _, _, _, e => by simp [pd] at e
theorem dpL_of : ∀ (xs : List D) (vs : List V) (ds : List PyData), xs.length = vs.length → (∀ (i : Nat) x v, xs[i]? = some x → vs[i]? = some v → Rep K ca ms H x v) → pdL xs = some ds → DpAll K H vs ds
  | [], [], _, _, _, e => by simp only [pdL] at e; cases e; exact .nil
  | [], _ :: _, _, l, _, _ => by simp at l
  | _ :: _, [], _, l, _, _ => by simp at l
  | x :: xs, v :: vs, ds, l, z, e => by
    simp only [pdL] at e
    cases h1 : pd x with
    | none => rw [h1] at e; simp at e
    | some d =>
      cases h2 : pdL xs with
      | none => rw [h1, h2] at e; simp at e
      | some es =>
        rw [h1, h2] at e
        simp only [Option.bind_some, Option.some.injEq] at e
        subst e
        exact .cons (dp_of x v d (z 0 x v rfl rfl) h1) (dpL_of xs vs es (by simpa using l) (fun i y w a b => z (i + 1) y w (by simpa using a) (by simpa using b)) h2)
end
theorem dpU_of {u : U} {v : V} {d : PyData} (r : RelM K ca μ ms H) (p : RepU K ca ms H u v) (h : pdU μ u = some d) : Dp K H v d := by
  cases u with
  | d x => exact dp_of x v d p h
  | cell n =>
    simp only [pdU] at h
    cases q : cellL μ n with
    | none => rw [q] at h; simp at h
    | some xs =>
      rw [q] at h
      simp only [Option.bind_some, Option.map_eq_some_iff] at h
      obtain ⟨ds, e1, rfl⟩ := h
      obtain ⟨a, vs, rfl, s, l⟩ := asL_at (u := .cell n) r p q
      exact .lst (.inl (.inl s)) (dpL_of xs vs ds l.1 l.2 e1)
end

/-! ### equal -/
def scalD : U → Option V
  | .d .non => some .non
  | .d (.bl b) => some (.bl b)
  | .d (.int i) => some (.int i)
  | .d (.str x) => some (.str x)
  | _ => none
theorem scalD_at {K : PySem.W.Frag} {ca : Nat → Addr} {ms : Ms} {H : Hp} {u : U} {v w : V} (p : RepU K ca ms H u v) (h : scalD u = some w) : v = w := by
  unfold scalD at h
  split at h <;> first | (cases h; cases p; rfl) | cases h
def eqP (μ : Mem) (a b : U) : Option Bool := (pdU μ a).bind fun d => (pdU μ b).bind fun e => if SeqAt.shaped d && SeqAt.shaped e then some (PyData.eqv d e) else none
def eqU (μ : Mem) (a b : U) : Option Bool := match scalD a, scalD b with
  | some v, some w => if scal v w then some (decide (v = w)) else eqP μ a b
  | _, _ => eqP μ a b
def neU (μ : Mem) (a b : U) : Option Bool := (eqU μ a b).map (!·)
section
variable {X : Cx} {ca : Nat → Addr}
theorem eqP_at {μ : Mem} {ms : Ms} {H : Hp} {a b : U} {x y : V} {c : Bool} (rm : RelM X.K ca μ ms H) (ra : RepU X.K ca ms H a x) (rb : RepU X.K ca ms H b y) (e : eqP μ a b = some c) : ∃ d f, Dp X.K H x d ∧ Dp X.K H y f ∧ SeqAt.shaped d = true ∧ SeqAt.shaped f = true ∧ PyData.eqv d f = c := by
  unfold eqP at e
  cases h1 : pdU μ a with
  | none => rw [h1] at e; simp at e
  | some d =>
    cases h2 : pdU μ b with
    | none => rw [h1, h2] at e; simp at e
    | some f =>
      rw [h1, h2] at e
      simp only [Option.bind_some] at e
      split at e
      · rename_i hs
        simp only [Bool.and_eq_true] at hs
        cases e
        exact ⟨d, f, dpU_of rm ra h1, dpU_of rm rb h2, hs.1, hs.2, rfl⟩
      · cases e
theorem eqU_at {μ : Mem} {ms : Ms} {H : Hp} {a b : U} {x y : V} {c : Bool} (rm : RelM X.K ca μ ms H) (ra : RepU X.K ca ms H a x) (rb : RepU X.K ca ms H b y) (e : eqU μ a b = some c) : (scal x y = true ∧ decide (x = y) = c) ∨ ∃ d f, Dp X.K H x d ∧ Dp X.K H y f ∧ SeqAt.shaped d = true ∧ SeqAt.shaped f = true ∧ PyData.eqv d f = c := by
  unfold eqU at e
  split at e
  · rename_i v w h1 h2
    obtain rfl := scalD_at ra h1
    obtain rfl := scalD_at rb h2
    split at e
    · rename_i hs
      cases e
      exact .inl ⟨hs, rfl⟩
    · exact .inr (eqP_at rm ra rb e)
  · exact .inr (eqP_at rm ra rb e)
theorem o_eq (hu : X.A.units + 64 < cLine) : OpR X (compareOp .Eq) (rDB X.K ca eqU) := by
  intro pins s σ H x y v u Q I rx ry ⟨ms, μ, a, b, c, rm, ra, rb, e, q⟩
  rcases eqU_at rm ra rb e with ⟨hs, rfl⟩ | ⟨d, f, h1, h2, h3, h4, rfl⟩
  · exact op_eq pins s σ H x y v u Q I rx ry ⟨hs, q _ (Same.refl H)⟩
  · exact op_eqD hu pins s σ H x y v u Q I rx ry ⟨d, f, h1, h2, h3, h4, q _ (Same.refl H)⟩
theorem o_ne (hu : X.A.units + 64 < cLine) : OpR X (compareOp .NotEq) (rDB X.K ca neU) := by
  intro pins s σ H x y v u Q I rx ry ⟨ms, μ, a, b, c, rm, ra, rb, e, q⟩
  unfold neU at e
  simp only [Option.map_eq_some_iff] at e
  obtain ⟨c', e, rfl⟩ := e
  rcases eqU_at rm ra rb e with ⟨hs, rfl⟩ | ⟨d, f, h1, h2, h3, h4, rfl⟩
  · exact op_ne pins s σ H x y v u Q I rx ry ⟨hs, q _ (Same.refl H)⟩
  · exact op_neD hu pins s σ H x y v u Q I rx ry ⟨d, f, h1, h2, h3, h4, q _ (Same.refl H)⟩
end

/-! ### in -/
def itemsU (μ : Mem) : U → Option (List D)
  | .d (.tup xs) => some xs
  | u => asL μ u
def scalL : List D → Option (List V)
  | [] => some []
  | x :: r => (scalD (.d x)).bind fun v => (scalL r).bind fun vs => some (v :: vs)
theorem scalL_at {K : PySem.W.Frag} {ca : Nat → Addr} {ms : Ms} {H : Hp} : ∀ {xs : List D} {vs ws : List V}, RepL K ca ms H xs vs → scalL xs = some ws → vs = ws ∧ ws.all flatV = true
  | [], vs, ws, l, h => by
    cases h
    have : vs.length = 0 := l.1.symm
    exact ⟨List.length_eq_zero_iff.mp this, rfl⟩
  | x :: r, vs, ws, l, h => by
    unfold scalL at h
    cases vs with
    | nil => have := l.1; simp at this
    | cons v vs =>
      cases h1 : scalD (.d x) with
      | none => rw [h1] at h; simp at h
      | some y =>
        cases h2 : scalL r with
        | none => rw [h1, h2] at h; simp at h
        | some ys =>
          rw [h1, h2] at h
          simp only [Option.bind_some, Option.some.injEq] at h
          subst h
          have e1 := scalD_at (u := .d x) (l.2 0 x v rfl rfl) h1
          subst e1
          obtain ⟨rfl, e3⟩ := scalL_at (xs := r) (vs := vs) ⟨by simpa using l.1, fun i z w a b => l.2 (i + 1) z w (by simpa using a) (by simpa using b)⟩ h2
          refine ⟨rfl, ?_⟩
          simp only [List.all_cons, e3, Bool.and_true]
          unfold scalD at h1
          split at h1 <;> first | (cases h1; rfl) | cases h1
def inU (neg : Bool) (μ : Mem) (a b : U) : Option Bool := (scalD a).bind fun v => (itemsU μ b).bind fun xs => (scalL xs).bind fun ws => some (if neg then !inV v ws else inV v ws)
theorem items_at {K : PySem.W.Frag} {ca : Nat → Addr} {ms : Ms} {H : Hp} {μ : Mem} {u : U} {v : V} {xs : List D} (r : RelM K ca μ ms H) (p : RepU K ca ms H u v) (h : itemsU μ u = some xs) : ∃ a vs, v = .ref a ∧ (SqL K H a vs ∨ SqT K H a vs) ∧ RepL K ca ms H xs vs := by
  unfold itemsU at h
  split at h
  · cases h
    cases p with
    | tup s l z => exact ⟨_, _, rfl, .inr s.sq, l, z⟩
  · obtain ⟨a, vs, e, s, l⟩ := asL_at r p h
    exact ⟨a, vs, e, .inl (.inl (.inl s)), l⟩
theorem flat_of {a : U} {v : V} (h : scalD a = some v) : flatV v = true := by
  unfold scalD at h
  split at h <;> first | (cases h; rfl) | cases h
section
variable {X : Cx} {ca : Nat → Addr}
theorem in_of {neg : Bool} {op : CmpOp} (ho : OpR X (compareOp op) (rIn X.K neg)) : OpR X (compareOp op) (rDB X.K ca (inU neg)) := by
  intro pins s σ H x y v u Q I rx ry ⟨ms, μ, a, b, c, rm, ra, rb, e, q⟩
  unfold inU at e
  cases h1 : scalD a with
  | none => rw [h1] at e; simp at e
  | some w =>
    cases h2 : itemsU μ b with
    | none => rw [h1, h2] at e; simp at e
    | some xs =>
      cases h3 : scalL xs with
      | none => rw [h1, h2] at e; simp only [Option.bind_some, h3] at e; simp at e
      | some ws =>
        rw [h1, h2] at e
        simp only [Option.bind_some, h3, Option.some.injEq] at e
        subst e
        obtain rfl := scalD_at ra h1
        obtain ⟨p, vs, rfl, sq, l⟩ := items_at rm rb h2
        obtain ⟨rfl, fl⟩ := scalL_at l h3
        exact ho pins s σ H _ _ v u Q I rx ry ⟨p, vs, rfl, sq, flat_of h1, fl, q _ (Same.refl H)⟩
theorem o_in : OpR X (compareOp .In) (rDB X.K ca (inU false)) := in_of op_in_seq
theorem o_notin : OpR X (compareOp .NotIn) (rDB X.K ca (inU true)) := in_of op_notIn_seq
end
end Dv
namespace Dv
open PySem L2

/-! ### built-in calls -/
def one (f : Mem → U → Option D) : Mem → List U → Option D := fun μ us => match us with
  | [u] => f μ u
  | _ => none
def lenD (μ : Mem) (u : U) : Option D := match u with
  | .d (.str x) => if szD x.length then some (.int x.length) else none
  | u => (itemsU μ u).bind fun xs => some (.int xs.length)
def intD (_ : Mem) : U → Option D
  | .d (.int i) => some (.int i)
  | .d (.bl b) => some (.int (if b then 1 else 0))
  | _ => none
def absD (_ : Mem) : U → Option D
  | .d (.int i) => some (.int (if i < 0 then -i else i))
  | _ => none
def itemsS (μ : Mem) : U → Option (List D)
  | .d (.scr xs) => some xs
  | u => itemsU μ u
def listD (μ : Mem) (u : U) : Option D := (itemsS μ u).bind fun xs => some (.lst xs)
section
variable {K : PySem.W.Frag} {ca : Nat → Addr} {ms : Ms} {H : Hp} {μ : Mem}
theorem itemsS_at {u : U} {v : V} {xs : List D} (r : RelM K ca μ ms H) (p : RepU K ca ms H u v) (h : itemsS μ u = some xs) : ∃ a vs, v = .ref a ∧ (SqL K H a vs ∨ SqT K H a vs) ∧ RepL K ca ms H xs vs := by
  unfold itemsS at h
  split at h
  · cases h
    cases p with
    | scr s l z => exact ⟨_, _, rfl, .inl s.sq, l, z⟩
  · exact items_at r p h
theorem one_at {f : Mem → U → Option D} {us : List U} {vs : List V} {d : D} (l : RepUL K ca ms H us vs) (h : one f μ us = some d) : ∃ u v, us = [u] ∧ vs = [v] ∧ RepU K ca ms H u v ∧ f μ u = some d := by
  unfold one at h
  split at h
  · rename_i u
    match vs, l with
    | [v], l => exact ⟨u, v, rfl, rfl, l.2 0 u v rfl rfl, h⟩
    | [], l => exact absurd l.1 (by simp)
    | _ :: _ :: _, l => exact absurd l.1 (by simp)
  · cases h
end
section
variable {X : Cx} {ca : Nat → Addr}
theorem c_len : CallR X (.builtin "len") (rDn X.K ca (one lenD)) := by
  intro pins s σ H xs us Q I r ⟨ms, μ, as, d, rm, ra, e, q⟩
  obtain ⟨u, v, rfl, rfl, p, e⟩ := one_at ra e
  unfold lenD at e
  split at e
  · split at e
    · rename_i hz
      cases e
      cases p
      exact call_len_str pins s σ H _ us Q I r ⟨_, rfl, sz_ok hz, q _ _ (Same.refl H) fun _ => .int _⟩
    · cases e
  · cases h : itemsU μ u with
    | none => rw [h] at e; simp at e
    | some ys =>
      rw [h] at e
      simp only [Option.bind_some, Option.some.injEq] at e
      subst e
      obtain ⟨a, vs, rfl, sq, l⟩ := items_at rm p h
      refine call_len_seq pins s σ H _ us Q I r ⟨a, vs, rfl, sq, q _ _ (Same.refl H) fun _ => ?_⟩
      rw [l.1]
      exact .int _
theorem c_int : CallR X (.type "int") (rDn X.K ca (one intD)) := by
  intro pins s σ H xs us Q I r ⟨ms, μ, as, d, rm, ra, e, q⟩
  obtain ⟨u, v, rfl, rfl, p, e⟩ := one_at ra e
  unfold intD at e
  split at e
  · cases e
    cases p
    exact call_int1 pins s σ H _ us Q I r (.inl ⟨_, rfl, q _ _ (Same.refl H) fun _ => .int _⟩)
  · cases e
    cases p
    exact call_int1 pins s σ H _ us Q I r (.inr ⟨_, rfl, q _ _ (Same.refl H) fun _ => .int _⟩)
  · cases e
theorem c_abs : CallR X (.builtin "abs") (rDn X.K ca (one absD)) := by
  intro pins s σ H xs us Q I r ⟨ms, μ, as, d, rm, ra, e, q⟩
  obtain ⟨u, v, rfl, rfl, p, e⟩ := one_at ra e
  unfold absD at e
  split at e
  · cases e
    cases p
    exact call_abs pins s σ H _ us Q I r ⟨_, rfl, q _ _ (Same.refl H) fun _ => .int _⟩
  · cases e
theorem c_list : CallR X (.type "list") (rDn X.K ca (one listD)) := by
  intro pins s σ H xs us Q I r ⟨ms, μ, as, d, rm, ra, e, q⟩
  obtain ⟨u, v, rfl, rfl, p, e⟩ := one_at ra e
  unfold listD at e
  cases h : itemsS μ u with
  | none => rw [h] at e; simp at e
  | some ys =>
    rw [h] at e
    simp only [Option.bind_some, Option.some.injEq] at e
    subst e
    obtain ⟨a, vs, rfl, sq, l⟩ := itemsS_at rm p h
    exact call_list_of pins s σ H _ us Q I r ⟨a, vs, rfl, sq, fun n hn => q _ _ (same_new hn) fun _ => rep_new rm hn l⟩
end

/-! ### subscripts -/
def ixD (μ : Mem) (a b : U) : Option D := match b with
  | .d (.int i) => (itemsU μ a).bind fun xs => atI xs i
  | _ => none
def mIx (ma mb : MD) : MD := mBin ixD ma mb
theorem atI_rep {K : PySem.W.Frag} {ca : Nat → Addr} {ms : Ms} {H : Hp} {xs : List D} {vs : List V} {i : Int} {x : D} (l : RepL K ca ms H xs vs) (h : atI xs i = some x) : ∃ v, atI vs i = some v ∧ Rep K ca ms H x v := by
  unfold atI at h ⊢
  rw [← l.1]
  cases hx : ixN xs.length i with
  | none => rw [hx] at h; simp at h
  | some j =>
    rw [hx] at h
    simp only [Option.bind_some] at h ⊢
    have hj : j < vs.length := by rw [← l.1]; exact (List.getElem?_eq_some_iff.mp h).1
    exact ⟨vs[j], List.getElem?_eq_getElem hj, l.2 j x _ h (List.getElem?_eq_getElem hj)⟩
section
variable {X : Cx} {ca : Nat → Addr} {W : WX} {pos : Pos} {a b : Expr} {ma mb : MD}
theorem ix_any : IxR X (rD2 X.K ca ixD) := by
  intro value slice pins s σ H x y v u Q I rx ry ⟨ms, μ, a, b, d, rm, ra, rb, e, q⟩ hs
  unfold ixD at e
  split at e
  · rename_i i
    cases rb
    cases h : itemsU μ a with
    | none => rw [h] at e; simp at e
    | some xs =>
      rw [h] at e
      simp only [Option.bind_some] at e
      obtain ⟨p, vs, rfl, sq, l⟩ := items_at rm ra h
      obtain ⟨w, e2, rp⟩ := atI_rep l e
      rcases sq with sq | sq
      · exact ix_list value slice pins s σ H _ _ v u Q I rx ry ⟨p, vs, i, w, rfl, rfl, sq, e2, q _ _ (Same.refl H) fun _ => rp⟩ hs
      · exact ix_tup value slice pins s σ H _ _ v u Q I rx ry ⟨p, vs, i, w, rfl, rfl, sq, e2, q _ _ (Same.refl H) fun _ => rp⟩ hs
  · cases e
theorem re_ix (ha : PE X a (rdE X.K ca W ma)) (hb : PE X b (rdE X.K ca W mb)) (hs : PlainIx b := by exact fun _ _ => rfl) : PE X (.Subscript a b pos) (rdE X.K ca W (mIx ma mb)) :=
  pe_imp (pe_ix ix_any ha hb hs) fun _ _ _ _ h => to_bin h
end
def cutD {α : Type} (xs : List α) (lo hi : Option Int) : List α := (xs.drop (HT.sIx xs.length 0 lo)).take (HT.sIx xs.length xs.length hi - HT.sIx xs.length 0 lo)
theorem cut_rep {K : PySem.W.Frag} {ca : Nat → Addr} {ms : Ms} {H : Hp} {xs : List D} {vs : List V} (l : RepL K ca ms H xs vs) (lo hi : Option Int) : RepL K ca ms H (cutD xs lo hi) (cutV vs lo hi) := by
  unfold cutD cutV
  rw [l.1]
  refine ⟨by simp [l.1], fun i x v h1 h2 => ?_⟩
  rw [List.getElem?_take] at h1 h2
  split at h1
  · rename_i hi'
    rw [if_pos hi'] at h2
    rw [List.getElem?_drop] at h1 h2
    exact l.2 _ x v h1 h2
  · cases h1
abbrev MO := Env → Mem → R (Option Int)
def rpO (_ : Ms) (_ : Hp) (a b : Option Int) : Prop := b = a
def mNoPart : MO := fun _ μ => .val none μ
def mPart (m : MD) : MO := fun ρ μ => (m ρ μ).bind fun u μ1 => match u with
  | .d (.int i) => .val (some i) μ1
  | _ => .stuck
def slD (μ : Mem) (u : U) (lo hi : Option Int) : Option D := match u with
  | .d (.scr xs) => some (.lst (cutD xs lo hi))
  | u => (asL μ u).bind fun xs => some (.lst (cutD xs lo hi))
def mSl (ma : MD) (ml mh : MO) : MD := fun ρ μ => (ma ρ μ).bind fun u μ1 => (ml ρ μ1).bind fun lo μ2 => (mh ρ μ2).bind fun hi μ3 => (ofO μ3 (slD μ3 u lo hi)).bind fun d μ4 => .val (.d d) μ4
section
variable {X : Cx} {ca : Nat → Addr} {W : WX} {pos p2 : Pos} {e : Expr} {lo hi : Option Expr} {ma : MD} {ml mh : MO}
theorem po_imp {o : Option Expr} {t t' : TO} (h : PO X o t) (k : ∀ σ H Q, KF X.K H → t' σ H Q → t σ H fun v H' => KF X.K H' → Q v H') : PO X o t' :=
  ⟨fun pins s σ H Q I q => thn (h.run pins s σ H _ I (k σ H Q (kf_of I) q)) fun u s1 ⟨v, H1, I1, r1, q1⟩ => ⟨v, H1, I1, r1, q1 (kf_of I1)⟩⟩
theorem ro_none : PO X none (rd X.K ca rpO W mNoPart) := po_imp po_none fun σ H Q _ ⟨ms, ρ, μ, e, r, h⟩ _ => Af.at (a := (none : Option Int)) h r rfl
theorem ro_some (h : PE X e (rdE X.K ca W ma)) : PO X (some e) (rd X.K ca rpO W (mPart ma)) := po_imp (po_some h) fun σ H Q _ ⟨ms, ρ, μ, e, r, h⟩ => af_bind e r h fun u μ1 v H1 ms1 k1 r1 p1 h1 => by
  split at h1
  · rename_i i
    cases p1
    exact ⟨i, rfl, fun _ => Af.at (a := some i) h1 r1 rfl⟩
  · exact (show False from h1).elim
def rSlD (K : PySem.W.Frag) (ca : Nat → Addr) : V → Option Int → Option Int → Hp → VK → Prop := fun x lo hi H Q => ∃ ms μ u d, RelM K ca μ ms H ∧ RepU K ca ms H u x ∧ slD μ u lo hi = some d ∧ ∀ v H', Same H H' → (KF K H' → Rep K ca ms H' d v) → Q v H'
theorem sl_any : SlR X (rSlD X.K ca) := by
  intro pins s σ H x v vl vu lo hi sl Q I rx hs pl pu ⟨ms, μ, u, d, rm, ru, e, q⟩
  unfold slD at e
  split at e
  · cases e
    cases ru with
    | scr sq l z => exact sl_list pins s σ H _ v vl vu lo hi sl Q I rx hs pl pu ⟨_, _, rfl, sq.sq, fun n hn => q _ _ (same_new hn) fun _ => rep_new rm hn (cut_rep ⟨l, z⟩ lo hi)⟩
  · cases h : asL μ u with
    | none => rw [h] at e; simp at e
    | some xs =>
      rw [h] at e
      simp only [Option.bind_some, Option.some.injEq] at e
      subst e
      obtain ⟨p, vs, rfl, sq, l⟩ := asL_at rm ru h
      exact sl_list pins s σ H _ v vl vu lo hi sl Q I rx hs pl pu ⟨p, vs, rfl, .inl (.inl sq), fun n hn => q _ _ (same_new hn) fun _ => rep_new rm hn (cut_rep l lo hi)⟩
theorem re_slice (he : PE X e (rdE X.K ca W ma)) (hl : PO X lo (rd X.K ca rpO W ml)) (hh : PO X hi (rd X.K ca rpO W mh)) : PE X (.Subscript e (.Slice lo hi none p2) pos) (rdE X.K ca W (mSl ma ml mh)) := by
  refine pe_imp (pe_slice (sl_any (ca := ca)) he hl hh) fun σ H Q _ ⟨ms, ρ, μ, e, r, h⟩ => af_bind e r h fun u μ1 v H1 ms1 k1 r1 p1 h1 => af_bind (e.keep k1) r1 h1 fun lo μ2 lo' H2 ms2 k2 r2 p2 h2 => af_bind ((e.keep k1).keep k2) r2 h2 fun hi μ3 hi' H3 ms3 k3 r3 p3 h3 => ?_
  obtain ⟨d, hd, q⟩ := fin_of h3 r3
  obtain rfl : lo' = lo := p2
  obtain rfl : hi' = hi := p3
  exact ⟨ms3, μ3, u, d, r3, (k2.trans k3).all _ _ p1, hd, q⟩
end

/-! ### a list cell's item stored -/
def setAt (μ : Mem) (o i : U) (x : D) : Option Mem := match o, i with
  | .cell n, .d (.int k) => (cellL μ n).bind fun xs => (ixN xs.length k).bind fun j => some (μ.set n (some (.lst (xs.set j x))))
  | _, _ => none
def mSetIx (me mo mi : MD) : MS := fun ρ μ => RS.of ρ (me ρ μ) fun u μ1 => match toD u with
  | some x => RS.of ρ (mo ρ μ1) fun o μ2 => RS.of ρ (mi ρ μ2) fun i μ3 => match setAt μ3 o i x with
    | some μ4 => .next ρ μ4
    | none => .stuck
  | none => .stuck
theorem RepL.set {K : PySem.W.Frag} {ca : Nat → Addr} {ms : Ms} {H : Hp} {xs : List D} {vs : List V} {x : D} {v : V} (l : RepL K ca ms H xs vs) (p : Rep K ca ms H x v) (j : Nat) : RepL K ca ms H (xs.set j x) (vs.set j v) := by
  refine ⟨by simp [l.1], fun i y w h1 h2 => ?_⟩
  by_cases hi : i = j
  · subst hi
    by_cases hb : i < xs.length
    · rw [List.getElem?_set_self hb] at h1
      rw [List.getElem?_set_self (by rw [← l.1]; exact hb)] at h2
      cases h1; cases h2
      exact p
    · rw [List.getElem?_eq_none (by simp; omega)] at h1
      cases h1
  · rw [List.getElem?_set_ne (by omega)] at h1 h2
    exact l.2 i y w h1 h2
section
variable {X : Cx} {ca : Nat → Addr} {W : WX} {pos p2 : Pos} {e o i : Expr} {me mo mi : MD}
theorem rs_setIx (he : PE X e (rdE X.K ca W me)) (ho : PE X o (rdE X.K ca W mo)) (hi : PE X i (rdE X.K ca W mi))
    (hg : PG X (.Subscript o i p2) (gSub (rdE X.K ca W mo) (rdE X.K ca W mi) rSetL) := by exact pg_sub ‹_› ‹_› set_list)
    (hs : swapsWithSole [.Subscript o i p2] e pos.line X.env = pure false := by rfl) (hw : swappedStores [.Subscript o i p2] e X.env = pure none := by rfl) (h1 : (assignEach [.Subscript o i p2] X.env).map (·.2) = [assign (.Subscript o i p2) X.env] := by rfl) :
    PS X (.Assign [.Subscript o i p2] e pos) (rdS X.K ca W (mSetIx me mo mi)) := by
  refine ps_imp (ps_asg he hg hs hw h1) fun D σ H kf ⟨ms, ρ, μ, e, r, h⟩ => af_of e r h fun u μ1 v H1 ms1 k1 r1 p1 h1 => ?_
  cases u with
  | cell n => exact (show False from h1).elim
  | d x =>
    refine af_of (e.keep k1) r1 h1 fun o μ2 ov H2 ms2 k2 r2 p2 h2 => af_of ((e.keep k1).keep k2) r2 h2 fun i μ3 iv H3 ms3 k3 r3 p3 h3 => ?_
    have po := k3.all _ _ p2
    have px : Rep X.K ca ms3 H3 x v := (k2.trans k3).all _ _ p1
    unfold setAt at h3
    split at h3
    · rename_i μ4 hq
      split at hq
      · rename_i n k
        obtain ⟨a, rfl, ea⟩ := po
        cases p3
        cases hc : cellL μ3 n with
        | none => rw [hc] at hq; simp at hq
        | some xs =>
          rw [hc] at hq
          simp only [Option.bind_some] at hq
          cases hj : ixN xs.length k with
          | none => rw [hj] at hq; simp at hq
          | some j =>
            rw [hj] at hq
            simp only [Option.bind_some, Option.some.injEq] at hq
            subst hq
            obtain ⟨b, vs, eb, sq, l⟩ := asL_at (u := .cell n) r3 ⟨a, rfl, ea⟩ hc
            cases eb
            refine ⟨a, vs, k, j, rfl, rfl, sq, by rw [← l.1]; exact hj, fun kf' => ?_⟩
            obtain ⟨k4, r4⟩ := r3.setLst ea kf' (l.set px j)
            exact h3 σ _ ms3 k4 ((((e.keep k1).keep k2).keep k3).keep k4) r4
      · cases hq
    · exact (show False from h3).elim
end
end Dv
namespace Dv
open PySem L2

/-! ### targets -/
def putAll : List Nat → List D → Env → Option Env
  | [], [], ρ => some ρ
  | i :: is, x :: xs, ρ => (putE i (.d x) ρ).bind (putAll is xs)
  | _, _, _ => none
/-- names at a tuple's (or a list's) places -/
def gTupE (is : List Nat) (μ : Mem) (u : U) (ρ : Env) : Option Env := (itemsU μ u).bind fun xs => putAll is xs ρ
def gNameE (i : Nat) (_ : Mem) (u : U) (ρ : Env) : Option Env := putE i u ρ
section
variable (K : PySem.W.Frag) (ca : Nat → Addr)
/-- two states of slots that agree but at some places -/
def Agree (is : List Nat) (σ σ' : St) : Prop := σ'.length = σ.length ∧ ∀ (j : Nat), j ∉ is → σ'[j]? = σ[j]?
def rdG (g : Mem → U → Env → Option Env) (is : List Nat) : TG := fun v σ H Q => ∃ ms ρ μ u ρ1, RelE K ca ρ ms σ H ∧ RelM K ca μ ms H ∧ RepU K ca ms H u v ∧ g μ u ρ = some ρ1 ∧ ∀ σ', RelE K ca ρ1 ms σ' H → Agree is σ σ' → Q σ' H
def rdGs (is : List Nat) : TGs := fun vs σ H Q => ∃ ms ρ xs ρ1, RelE K ca ρ ms σ H ∧ RepL K ca ms H xs vs ∧ putAll is xs ρ = some ρ1 ∧ ∀ σ', RelE K ca ρ1 ms σ' H → Agree is σ σ' → Q σ' H
end
theorem Agree.set {σ : St} {i : Nat} {v : Option V} : Agree [i] σ (σ.set i v) := ⟨by simp, fun j h => by rw [List.getElem?_set_ne]; simp at h; omega⟩
theorem Agree.trans {σ σ' σ'' : St} {i : Nat} {is : List Nat} (a : Agree [i] σ σ') (b : Agree is σ' σ'') : Agree (i :: is) σ σ'' := ⟨b.1.trans a.1, fun j h => by
  simp only [List.mem_cons, not_or] at h
  rw [b.2 j h.2, a.2 j (by simpa using h.1)]⟩
section
variable {X : Cx} {ca : Nat → Addr} {W : WX} {pos : Pos}
theorem pg_imp {tg : Expr} {t t' : TG} (h : PG X tg t) (k : ∀ v σ H Q, t' v σ H Q → t v σ H Q) : PG X tg t' := ⟨fun pins s σ H v u Q I r q => h.run pins s σ H v u Q I r (k _ _ _ _ q)⟩
theorem pgs_imp {tg : List Expr} {t t' : TGs} (h : PGs X tg t) (k : ∀ v σ H Q, t' v σ H Q → t v σ H Q) : PGs X tg t' := ⟨fun pins s σ H v u Q I r q => h.run pins s σ H v u Q I r (k _ _ _ _ q)⟩
theorem rg_name (i : Nat) {x : Str} (nd : X.N.Nodup) (hi : X.N[i]? = some x := by rfl) (hx : Loc X.env.scope x := by first | exact Or.inl rfl | exact Or.inr rfl) (hf : X.fn x = true ∨ X.env.scope.names.lookup x = some .local := by first | exact .inl rfl | exact .inr rfl | assumption) : PG X (.Name x pos) (rdG X.K ca (gNameE i) [i]) :=
  pg_imp (pg_name nd hi hx hf) fun v σ H Q ⟨ms, ρ, μ, u, ρ1, e, r, p, h, q⟩ => by
    unfold gNameE putE at h
    split at h
    · rename_i hi
      cases h
      exact q _ (e.set hi p) Agree.set
    · cases h
theorem rgs_nil : PGs X [] (rdGs X.K ca []) := pgs_imp pgs_nil fun vs σ H Q ⟨ms, ρ, xs, ρ1, e, l, h, q⟩ => by
  cases xs with
  | nil =>
    cases h
    exact ⟨List.length_eq_zero_iff.mp l.1.symm, q σ e ⟨rfl, fun _ _ => rfl⟩⟩
  | cons x xs => cases h
theorem rgs_cons (i : Nat) {x : Str} {es : List Expr} {is : List Nat} (nd : X.N.Nodup) (h2 : PGs X es (rdGs X.K ca is)) (hi : X.N[i]? = some x := by rfl) (hx : Loc X.env.scope x := by first | exact Or.inl rfl | exact Or.inr rfl) (hf : X.fn x = true ∨ X.env.scope.names.lookup x = some .local := by first | exact .inl rfl | exact .inr rfl | assumption)
    (hs : (assignEach (.Name x pos :: es) X.env).map (·.2) = assign (.Name x pos) X.env :: (assignEach es X.env).map (·.2) := by rfl) : PGs X (.Name x pos :: es) (rdGs X.K ca (i :: is)) :=
  pgs_imp (pgs_cons (pg_name nd hi hx hf) h2 hs) fun vs σ H Q ⟨ms, ρ, xs, ρ1, e, l, h, q⟩ => by
    cases xs with
    | nil => cases h
    | cons y ys =>
      cases vs with
      | nil => have := l.1; simp at this
      | cons v vs =>
        unfold putAll at h
        cases hp : putE i (.d y) ρ with
        | none => rw [hp] at h; simp at h
        | some ρ2 =>
          rw [hp] at h
          simp only [Option.bind_some] at h
          unfold putE at hp
          split at hp
          · rename_i hi
            cases hp
            exact ⟨v, vs, rfl, ms, _, ys, ρ1, e.set hi (u := .d y) (l.2 0 y v rfl rfl), ⟨by simpa using l.1, fun i z w a b => l.2 (i + 1) z w (by simpa using a) (by simpa using b)⟩, h, fun σ' e' ag => q σ' e' (Agree.set.trans ag)⟩
          · cases hp
/-- a, b = a tuple -/
theorem rg_tup {es : List Expr} {k n : Nat} {is : List Nat} (hc : X.calm = true) (h : PGs X es (rdGs X.K ca is)) (hl : is.length = n := by rfl)
    (hn : (assignEach es X.env).length = n := by rfl) (hst : (assignEach es X.env).findIdx? (·.1) = none := by rfl) : PG X (.Tuple es k pos) (rdG X.K ca (gTupE is) is) := by
  have h1 : PG X (.Tuple es k pos) (gTup X.K n (rdGs X.K ca is)) := pg_tup hc h hn hst
  have h2 : PG X (.Tuple es k pos) (gLst X.K n (rdGs X.K ca is)) := pg_lst hc h hn hst
  refine ⟨fun pins s σ H v u Q I r ⟨ms, ρ, μ, w, ρ1, e, rm, p, hg, q⟩ => ?_⟩
  unfold gTupE at hg
  cases hi : itemsU μ w with
  | none => rw [hi] at hg; simp at hg
  | some xs =>
    rw [hi] at hg
    simp only [Option.bind_some] at hg
    obtain ⟨a, vs, rfl, sq, l⟩ := items_at rm p hi
    have hlen : ∀ (is : List Nat) (xs : List D) (ρ ρ1 : Env), putAll is xs ρ = some ρ1 → xs.length = is.length := by
      intro is
      induction is with
      | nil => intro xs ρ ρ1 h; cases xs with | nil => rfl | cons => cases h
      | cons i is ih =>
        intro xs ρ ρ1 h
        cases xs with
        | nil => cases h
        | cons x xs =>
          unfold putAll at h
          cases hp : putE i (.d x) ρ with
          | none => rw [hp] at h; simp at h
          | some ρ2 => rw [hp] at h; simp only [Option.bind_some] at h; simp [ih xs ρ2 ρ1 h]
    have hv : vs.length = n := by rw [← l.1, hlen is xs ρ ρ1 hg, hl]
    rcases sq with sq | sq
    · exact h2.run pins s σ H _ u Q I r ⟨a, vs, rfl, sq, hv, ms, ρ, xs, ρ1, e, l, hg, q⟩
    · exact h1.run pins s σ H _ u Q I r ⟨a, vs, rfl, sq, hv, ms, ρ, xs, ρ1, e, l, hg, q⟩
end
/-- target = e, any target -/
def mAsg (g : Mem → U → Env → Option Env) (m : MD) : MS := fun ρ μ => RS.of ρ (m ρ μ) fun u μ1 => match g μ1 u ρ with
  | some ρ1 => .next ρ1 μ1
  | none => .stuck
section
variable {X : Cx} {ca : Nat → Addr} {W : WX} {pos : Pos} {e tg : Expr} {me : MD} {g : Mem → U → Env → Option Env}
theorem rs_asg {is : List Nat} (hg : PG X tg (rdG X.K ca g is)) (he : PE X e (rdE X.K ca W me)) (hs : swapsWithSole [tg] e pos.line X.env = pure false := by rfl) (hw : swappedStores [tg] e X.env = pure none := by rfl) (h1 : (assignEach [tg] X.env).map (·.2) = [assign tg X.env] := by rfl) :
    PS X (.Assign [tg] e pos) (rdS X.K ca W (mAsg g me)) :=
  ps_imp (ps_asg he hg hs hw h1) fun D σ H kf ⟨ms, ρ, μ, e, r, h⟩ => af_of e r h fun u μ1 v H1 ms1 k1 r1 p1 h1 => by
    split at h1
    · rename_i ρ1 hq
      exact ⟨ms1, ρ, μ1, u, ρ1, e.keep k1, r1, p1, hq, fun σ' e' _ _ => AfS.nx (r := r1) h1 e'⟩
    · exact (show False from h1).elim
/-- a, b = x, y: two names (no tuple is made) -/
def mPar (i j : Nat) (ml : ML) : MS := fun ρ μ => RS.of ρ (ml ρ μ) fun us μ1 => match us with
  | [x, y] => match (putE i x ρ).bind (putE j y) with
    | some ρ1 => .next ρ1 μ1
    | none => .stuck
  | _ => .stuck
end

/-! ### loops -/
def forL (g : Mem → U → Env → Option Env) (b : MS) : List D → MS
  | [], ρ, μ => .next ρ μ
  | x :: xs, ρ, μ => match g μ (.d x) ρ with
    | none => .stuck
    | some ρ1 => match b ρ1 μ with
      | .next ρ2 μ2 => forL g b xs ρ2 μ2
      | .cont ρ2 μ2 => forL g b xs ρ2 μ2
      | .brk ρ2 μ2 => .next ρ2 μ2
      | r => r
def rangeD (lo : Int) (n : Nat) : List D := (List.range n).map fun (i : Nat) => .int (lo + (i : Int))
def rgBounds (i : Int) : Bool := decide (-(2 ^ 62) ≤ i) && decide (i < 2 ^ 62)
def rng1 : List U → Option (List D)
  | [.d (.int j)] => if rgBounds j then some (rangeD 0 j.toNat) else none
  | _ => none
def rng2 : List U → Option (List D)
  | [.d (.int i), .d (.int j)] => if rgBounds i && rgBounds j then some (rangeD i (j - i).toNat) else none
  | _ => none
def mForR (rg : List U → Option (List D)) (ml : ML) (g : Mem → U → Env → Option Env) (b : MS) : MS := fun ρ μ => RS.of ρ (ml ρ μ) fun us μ1 => match rg us with
  | some xs => forL g b xs ρ μ1
  | none => .stuck
/-- over a list that does not change, or a tuple -/
def mForU (ma : MD) (g : Mem → U → Env → Option Env) (b : MS) : MS := fun ρ μ => RS.of ρ (ma ρ μ) fun u μ1 => match u with
  | .d (.lst xs) => forL g b xs ρ μ1
  | .d (.tup xs) => forL g b xs ρ μ1
  | _ => .stuck
section
variable {X : Cx} {ca : Nat → Addr} {W : WX} {g : Mem → U → Env → Option Env} {b : MS} {D : Ends}
/-- what holds ahead of a turn: the rest of the loop leads on -/
def Ahead (X : Cx) (ca : Nat → Addr) (W : WX) (g : Mem → U → Env → Option Env) (b : MS) (D : Ends) (ms0 : Ms) (H0 : Hp) (xs : List Dv.D) (i : Nat) (σ : St) (H : Hp) : Prop :=
  ∃ ms ρ μ, Keep X.K ca ms0 H0 ms H ∧ RelE X.K ca ρ ms σ H ∧ RelM X.K ca μ ms H ∧ AfS X.K ca W ms H (forL g b (xs.drop i) ρ μ) D
theorem turn_ok {is : List Nat} {ms0 : Ms} {H0 : Hp} {xs : List Dv.D} {i : Nat} {σ : St} {H : Hp} {x : Dv.D} {v : V} (a : Ahead X ca W g b D ms0 H0 xs i σ H) (hx : xs[i]? = some x) (hv : ∀ ms, Keep X.K ca ms0 H0 ms H → Rep X.K ca ms H x v) :
    rdG X.K ca g is v σ H fun σ2 H2 => rdS X.K ca W b { D with nx := Ahead X ca W g b D ms0 H0 xs (i + 1), ct := Ahead X ca W g b D ms0 H0 xs (i + 1), bk := D.nx } σ2 H2 := by
  obtain ⟨ms, ρ, μ, k, e, r, h⟩ := a
  have hd : xs.drop i = x :: xs.drop (i + 1) := by
    have hi := (List.getElem?_eq_some_iff.mp hx).1
    rw [List.drop_eq_getElem_cons hi]
    rw [(List.getElem?_eq_some_iff.mp hx).2]
  rw [hd] at h
  unfold forL at h
  cases hg : g μ (.d x) ρ with
  | none => rw [hg] at h; exact (show False from h).elim
  | some ρ1 =>
    rw [hg] at h
    refine ⟨ms, ρ, μ, .d x, ρ1, e, r, hv ms k, hg, fun σ' e' _ => ⟨ms, ρ1, μ, e', r, ?_⟩⟩
    cases hb : b ρ1 μ with
    | next ρ2 μ2 => simp only [hb] at h; exact fun σ2 H2 ms2 k2 e2 r2 => ⟨ms2, ρ2, μ2, k.trans k2, e2, r2, AfS.shift h k2⟩
    | cont ρ2 μ2 => simp only [hb] at h; exact fun σ2 H2 ms2 k2 e2 r2 => ⟨ms2, ρ2, μ2, k.trans k2, e2, r2, AfS.shift h k2⟩
    | brk ρ2 μ2 => simp only [hb] at h; exact h
    | ret u μ2 => simp only [hb] at h; exact h
    | exc c fs ρ2 μ2 => simp only [hb] at h; exact h
    | stuck => simp only [hb] at h; exact h
theorem ahead_end {ms0 : Ms} {H0 : Hp} {xs : List Dv.D} {n : Nat} {σ : St} {H : Hp} (a : Ahead X ca W g b D ms0 H0 xs n σ H) (hn : xs.length ≤ n) : D.nx σ H := by
  obtain ⟨ms, ρ, μ, k, e, r, h⟩ := a
  rw [List.drop_eq_nil_of_le hn] at h
  exact AfS.nx (r := r) h e
theorem range_get {lo : Int} {n i : Nat} (h : i < n) : (rangeD lo n)[i]? = some (.int (lo + i)) := by
  unfold rangeD
  rw [List.getElem?_map, List.getElem?_range h]
  rfl
end
section
variable {X : Cx} {ca : Nat → Addr} {W : WX} {pos p1 p2 : Pos} {a c tg : Expr} {body : List Stmt} {ml : ML} {ma : MD} {g : Mem → U → Env → Option Env} {b : MS}
theorem rs_forR1 {is : List Nat} (hp : PassesOwn (model X.prog X.w) X.A X.env X.xe) (hc : X.calm = true) (hm : X.mg "range" = none) (ha : PA X [a] (rdA X.K ca W ml)) (hg : PG X tg (rdG X.K ca g is)) (hb : PSs X body (rdS X.K ca W b)) (gl : Gl X "range" := by rfl) (hs : starEach [a] X.env = [(false, eval a X.env)] := by rfl)
    (hs2 : ∀ x, foldedSetIterable (.Call (.Name "range" p1) [a] [] p2) X.env x = pure x := by intro _; rfl) : PS X (.For tg (.Call (.Name "range" p1) [a] [] p2) body [] pos) (rdS X.K ca W (mForR rng1 ml g b)) := by
  refine ps_imp (ps_for hp hc (pi_range1 gl hm ha hs) hg hb hs2) fun D σ H kf ⟨ms, ρ, μ, e, r, h⟩ => af_of e r h fun us μ1 vs H1 ms1 k1 r1 l1 h1 => ?_
  split at h1
  · rename_i xs hr
    unfold rng1 at hr
    split at hr
    · rename_i j
      split at hr
      · rename_i hb'
        cases hr
        unfold rgBounds at hb'
        simp only [Bool.and_eq_true, decide_eq_true_eq] at hb'
        match vs, l1 with
        | [v], l1 =>
          have hv := l1.2 0 _ v rfl rfl
          cases hv
          refine ⟨j, rfl, hb'.1, hb'.2, for_range (lo := 0) (n := j.toNat) (Ahead X ca W g b (kfD X.K D) ms1 H1 (rangeD 0 j.toNat)) ⟨ms1, ρ, μ1, Keep.refl, e.keep k1, r1, AfS.kf h1⟩ (fun i σ' H' hi A => ?_) fun σ' H' A => ahead_end A (by simp [rangeD])⟩
          exact turn_ok A (range_get hi) fun ms _ => .int _
        | [], l1 => exact absurd l1.1 (by simp)
        | _ :: _ :: _, l1 => exact absurd l1.1 (by simp)
      · cases hr
    · cases hr
  · exact (show False from h1).elim
theorem rs_forR2 {is : List Nat} (hp : PassesOwn (model X.prog X.w) X.A X.env X.xe) (hc : X.calm = true) (hm : X.mg "range" = none) (ha : PA X [a, c] (rdA X.K ca W ml)) (hg : PG X tg (rdG X.K ca g is)) (hb : PSs X body (rdS X.K ca W b)) (gl : Gl X "range" := by rfl) (hs : starEach [a, c] X.env = [(false, eval a X.env), (false, eval c X.env)] := by rfl) (hs3 : starEach [c] X.env = [(false, eval c X.env)] := by rfl)
    (hs2 : ∀ x, foldedSetIterable (.Call (.Name "range" p1) [a, c] [] p2) X.env x = pure x := by intro _; rfl) : PS X (.For tg (.Call (.Name "range" p1) [a, c] [] p2) body [] pos) (rdS X.K ca W (mForR rng2 ml g b)) := by
  refine ps_imp (ps_for hp hc (pi_range2 gl hm ha hs hs3) hg hb hs2) fun D σ H kf ⟨ms, ρ, μ, e, r, h⟩ => af_of e r h fun us μ1 vs H1 ms1 k1 r1 l1 h1 => ?_
  split at h1
  · rename_i xs hr
    unfold rng2 at hr
    split at hr
    · rename_i i j
      split at hr
      · rename_i hb'
        cases hr
        unfold rgBounds at hb'
        simp only [Bool.and_eq_true, decide_eq_true_eq] at hb'
        match vs, l1 with
        | [v, w], l1 =>
          have hv := l1.2 0 _ v rfl rfl
          have hw := l1.2 1 _ w rfl rfl
          cases hv; cases hw
          refine ⟨i, j, rfl, ⟨hb'.1.1, hb'.1.2, hb'.2.1, hb'.2.2⟩, for_range (lo := i) (n := (j - i).toNat) (Ahead X ca W g b (kfD X.K D) ms1 H1 (rangeD i (j - i).toNat)) ⟨ms1, ρ, μ1, Keep.refl, e.keep k1, r1, AfS.kf h1⟩ (fun i σ' H' hi A => ?_) fun σ' H' A => ahead_end A (by simp [rangeD])⟩
          exact turn_ok A (range_get hi) fun ms _ => .int _
        | [], l1 => exact absurd l1.1 (by simp)
        | [_], l1 => exact absurd l1.1 (by simp)
        | _ :: _ :: _ :: _, l1 => exact absurd l1.1 (by simp)
      · cases hr
    · cases hr
  · exact (show False from h1).elim
end
end Dv
namespace Dv
open PySem L2

/-! ### comprehensions -/
def wipeE (ρ : Env) : List Nat → Env
  | [] => ρ
  | v :: vs => (wipeE ρ vs).set v none
theorem wipe_get (σ : St) : ∀ (vs : List Nat) (j : Nat), (wipe σ vs)[j]? = if j ∈ vs then (if j < σ.length then some none else none) else σ[j]?
  | [], j => by simp [wipe]
  | v :: vs, j => by
    unfold wipe
    by_cases hj : j = v
    · subst hj
      rw [if_pos (by simp)]
      by_cases hl : j < σ.length
      · rw [List.getElem?_set_self (by rw [wipe_length]; exact hl), if_pos hl]
      · rw [if_neg hl]
        exact List.getElem?_eq_none (by rw [List.length_set, wipe_length]; omega)
    · rw [List.getElem?_set_ne (by omega), wipe_get σ vs j]
      simp [hj]
theorem wipeE_get (ρ : Env) : ∀ (vs : List Nat) (j : Nat) u, (wipeE ρ vs)[j]? = some (some u) → ρ[j]? = some (some u) ∧ j ∉ vs
  | [], j, u, h => ⟨h, by simp⟩
  | v :: vs, j, u, h => by
    unfold wipeE at h
    by_cases hj : j = v
    · subst hj
      by_cases hl : j < (wipeE ρ vs).length
      · rw [List.getElem?_set_self hl] at h; cases h
      · rw [List.getElem?_eq_none (by simpa using hl)] at h; cases h
    · rw [List.getElem?_set_ne (by omega)] at h
      obtain ⟨a, b⟩ := wipeE_get ρ vs j u h
      exact ⟨a, by simp [hj, b]⟩
theorem wipeE_len (ρ : Env) : ∀ vs : List Nat, (wipeE ρ vs).length = ρ.length
  | [] => rfl
  | v :: vs => by unfold wipeE; rw [List.length_set, wipeE_len ρ vs]
theorem RelE.wipe {K : PySem.W.Frag} {ca : Nat → Addr} {ρ : Env} {ms : Ms} {σ : St} {H : Hp} (e : RelE K ca ρ ms σ H) (vs : List Nat) : RelE K ca (wipeE ρ vs) ms (L2.wipe σ vs) H := by
  refine ⟨by rw [wipeE_len, wipe_length]; exact e.1, fun i u h => ?_⟩
  obtain ⟨a, b⟩ := wipeE_get ρ vs i u h
  obtain ⟨v, q, p⟩ := e.2 i u a
  exact ⟨v, by rw [wipe_get, if_neg b]; exact q, p⟩
theorem agree_wipe {σ σ2 : St} {is vs : List Nat} (a : Agree is (wipe σ vs) σ2) (h : ∀ i, i ∈ is → i ∈ vs) : wipe σ2 vs = wipe σ vs := by
  apply List.ext_getElem?
  intro j
  have hl : σ2.length = σ.length := by rw [a.1, wipe_length]
  rw [wipe_get, wipe_get, hl]
  by_cases hj : j ∈ vs
  · rw [if_pos hj, if_pos hj]
  · rw [if_neg hj, if_neg hj, a.2 j (fun z => hj (h j z)), wipe_get, if_neg hj]
/-- no error leaves a comprehension here -/
def R.calm {α : Type} : R α → R α
  | .exc _ _ _ => .stuck
  | r => r
@[simp] theorem calm_val {α : Type} (a : α) (μ : Mem) : (R.val a μ).calm = .val a μ := rfl
@[simp] theorem calm_stuck {α : Type} : (R.stuck : R α).calm = .stuck := rfl
@[simp] theorem calm_exc {α : Type} (c : Nat) (fs : List (Str × D)) (μ : Mem) : (R.exc c fs μ : R α).calm = .stuck := rfl
/-- the items of a comprehension -/
def compL (g : Mem → U → Env → Option Env) (t : MT) (e : MD) (ρ : Env) : List D → Mem → List D → R (List D)
  | [], μ, acc => .val acc μ
  | x :: xs, μ, acc => match g μ (.d x) ρ with
    | none => .stuck
    | some ρ1 => (t ρ1 μ).calm.bind fun b μ1 => if b = true then (e ρ1 μ1).calm.bind fun u μ2 => (if szD (acc.length + 1) then ofO μ2 (toD u) else .stuck).bind fun y μ3 => compL g t e ρ xs μ3 (acc ++ [y])
      else compL g t e ρ xs μ1 acc
def mYes : MT := fun _ μ => .val true μ
def mLcR (rg : List U → Option (List D)) (ml : ML) (g : Mem → U → Env → Option Env) (t : MT) (e : MD) (vs : List Nat) : MD := fun ρ μ => (ml ρ μ).bind fun us μ1 => match rg us with
  | some xs => (compL g t e (wipeE ρ vs) xs μ1 []).bind fun acc μ2 => .val (.d (.lst acc)) μ2
  | none => .stuck
def mLcU (ma : MD) (g : Mem → U → Env → Option Env) (t : MT) (e : MD) (vs : List Nat) : MD := fun ρ μ => (ma ρ μ).bind fun u μ1 => match u with
  | .d (.lst xs) => (compL g t e (wipeE ρ vs) xs μ1 []).bind fun acc μ2 => .val (.d (.lst acc)) μ2
  | .d (.tup xs) => (compL g t e (wipeE ρ vs) xs μ1 []).bind fun acc μ2 => .val (.d (.lst acc)) μ2
  | _ => .stuck
abbrev W0 : WX := fun _ _ _ _ => False
def Ms.hide (ms : Ms) (p : Addr) : Ms := { ms with hid := p :: ms.hid }
section
variable {K : PySem.W.Frag} {ca : Nat → Addr} {ms ms' : Ms} {H H' : Hp} {μ : Mem}
theorem RelM.hide {p : Addr} {o : HO} (r : RelM K ca μ ms H) (hp : H p = none) : RelM K ca μ (ms.hide p) (upd H p o) ∧ ∀ u v, RepU K ca ms H u v → RepU K ca (ms.hide p) (upd H p o) u v := by
  have all : ∀ u v, RepU K ca ms H u v → RepU K ca (ms.hide p) (upd H p o) u v := fun u v h => by
    cases u with
    | d x =>
      refine Rep.mono h (fun a o q _ => same_new hp a o q) fun a z => ?_
      rcases z with z | z
      · exact .inl (.inl z)
      · rcases List.mem_cons.mp z with rfl | z
        · exact .inr hp
        · exact .inl (.inr z)
    | cell n => exact h
  refine ⟨⟨r.len, fun n c h => ?_, r.dead, r.apart, fun a h => ?_, fun n a h z => ?_, ⟨rfl, rfl⟩⟩, all⟩
  · obtain ⟨a, q, z⟩ := r.live n c h
    refine ⟨a, q, ?_⟩
    cases c with
    | lst xs => obtain ⟨vs, s, l⟩ := z; exact ⟨vs, same_new hp _ _ s, l.1, fun i x v a b => all (.d x) v (l.2 i x v a b)⟩
    | obj c fs => obtain ⟨dx, gs, s, l, y⟩ := z; exact ⟨dx, gs, same_new hp _ _ s, l, fun i x v a b => all _ v.2 (y i x v a b)⟩
  · rcases List.mem_cons.mp h with rfl | h
    · exact ⟨o, upd_same⟩
    · obtain ⟨u, q⟩ := r.hidden a h
      exact ⟨u, same_new hp _ _ q⟩
  · rcases List.mem_cons.mp z with rfl | z
    · obtain ⟨u, q⟩ := r.at h
      rw [hp] at q; cases q
    · exact r.sep n a h z
/-- the list is made: it is a thing like others -/
theorem RelM.show_ {p : Addr} (r : RelM K ca μ ms' H') (hh : ms'.hid = p :: ms.hid) : RelM K ca μ { ms' with hid := ms.hid } H' ∧ (∀ u v, RepU K ca ms' H' u v → RepU K ca { ms' with hid := ms.hid } H' u v) := by
  have all : ∀ u v, RepU K ca ms' H' u v → RepU K ca { ms' with hid := ms.hid } H' u v := fun u v h => by
    cases u with
    | d x =>
      refine Rep.mono h (fun a o q _ => q) fun a z => ?_
      rcases z with z | z
      · exact .inl (.inl z)
      · exact .inl (.inr (by rw [hh]; exact List.mem_cons_of_mem _ z))
    | cell n => exact h
  refine ⟨⟨r.len, fun n c h => ?_, r.dead, r.apart, fun a h => r.hidden a (by rw [hh]; exact List.mem_cons_of_mem _ h), fun n a h z => r.sep n a h (by rw [hh]; exact List.mem_cons_of_mem _ z), ⟨rfl, rfl⟩⟩, all⟩
  obtain ⟨a, q, z⟩ := r.live n c h
  refine ⟨a, q, ?_⟩
  cases c with
  | lst xs => obtain ⟨vs, s, l⟩ := z; exact ⟨vs, s, l.1, fun i x v a b => all (.d x) v (l.2 i x v a b)⟩
  | obj c fs => obtain ⟨dx, gs, s, l, y⟩ := z; exact ⟨dx, gs, s, l, fun i x v a b => all _ v.2 (y i x v a b)⟩
/-- the hidden list grows -/
theorem RelM.grow {p : Addr} {o : HO} (r : RelM K ca μ ms H) (hp : p ∈ ms.hid) : RelM K ca μ ms (upd H p o) ∧ ∀ u v, RepU K ca ms H u v → RepU K ca ms (upd H p o) u v := by
  have kp : ∀ a u, H a = some u → ¬ ms.In a → upd H p o a = some u := fun a u q n => by
    rw [upd_ne]
    · exact q
    · intro e; subst e; exact n (.inr hp)
  have all : ∀ u v, RepU K ca ms H u v → RepU K ca ms (upd H p o) u v := fun u v h => by
    cases u with
    | d x => exact Rep.mono h kp fun a z => .inl z
    | cell n => exact h
  refine ⟨⟨r.len, fun n c h => ?_, r.dead, r.apart, fun a h => ?_, r.sep, ⟨rfl, rfl⟩⟩, all⟩
  · obtain ⟨a, q, z⟩ := r.live n c h
    have na : a ≠ p := fun e => r.sep n a q (e ▸ hp)
    refine ⟨a, q, ?_⟩
    cases c with
    | lst xs => obtain ⟨vs, s, l⟩ := z; exact ⟨vs, by rw [upd_ne na]; exact s, l.1, fun i x v a b => all (.d x) v (l.2 i x v a b)⟩
    | obj c fs => obtain ⟨dx, gs, s, l, y⟩ := z; exact ⟨dx, gs, by rw [upd_ne na]; exact s, l, fun i x v a b => all _ v.2 (y i x v a b)⟩
  · by_cases ha : a = p
    · subst ha; exact ⟨o, upd_same⟩
    · obtain ⟨u, q⟩ := r.hidden a h
      exact ⟨u, by rw [upd_ne ha]; exact q⟩
end
section
variable {X : Cx} {ca : Nat → Addr} {W : WX} {g : Mem → U → Env → Option Env} {t : MT} {e : MD} {ρ : Env} {σ : St} {is vs : List Nat} {Q : VK}
/-- ahead of an item: the rest of the comprehension leads on; the list so far stands at p, hidden -/
def AheadC (X : Cx) (ca : Nat → Addr) (W : WX) (g : Mem → U → Env → Option Env) (t : MT) (e : MD) (ρ : Env) (σ : St) (Q : VK) (ms0 : Ms) (H0 : Hp) (p : Addr) (xs : List D) (i : Nat) (H : Hp) : Prop :=
  ∃ ms μ acc av, ms.hid = p :: ms0.hid ∧ (∀ u v, RepU X.K ca ms0 H0 u v → RepU X.K ca ms H u v) ∧ (∀ a, a ∈ ms0.hid → H a = H0 a) ∧ RelM X.K ca μ ms H ∧ H p = some (.lst av) ∧ RepL X.K ca ms H acc av ∧
    Af X.K ca (RepU X.K ca) W σ ms0 H0 ((compL g t e ρ (xs.drop i) μ acc).bind fun acc μ2 => .val (.d (.lst acc)) μ2) Q
theorem item_ok {ms0 : Ms} {H0 H : Hp} {p : Addr} {xs : List D} {i : Nat} {x : D} {v : V} (er : RelE X.K ca ρ ms0 (wipe σ vs) H0) (np : p ∉ ms0.hid) (a : AheadC X ca W g t e ρ σ Q ms0 H0 p xs i H) (hx : xs[i]? = some x) (hv : ∀ ms, (∀ u v, RepU X.K ca ms0 H0 u v → RepU X.K ca ms H u v) → Rep X.K ca ms H x v) (hi : ∀ i, i ∈ is → i ∈ vs) :
    rdG X.K ca g is v (wipe σ vs) H fun σ2 H2 => wipe σ2 vs = wipe σ vs ∧ rdT X.K ca W0 t σ2 H2 fun b H3 => if b = true then rdE X.K ca W0 e σ2 H3 fun y H4 => ∃ acc, H4 p = some (.lst acc) ∧ acc.length < sizeLine ∧ AheadC X ca W g t e ρ σ Q ms0 H0 p xs (i + 1) (upd H4 p (.lst (acc ++ [y])))
      else AheadC X ca W g t e ρ σ Q ms0 H0 p xs (i + 1) H3 := by
  obtain ⟨ms, μ, acc, av, hh, k, ks, r, hp, l, h⟩ := a
  have hd : xs.drop i = x :: xs.drop (i + 1) := by
    have hi := (List.getElem?_eq_some_iff.mp hx).1
    rw [List.drop_eq_getElem_cons hi, (List.getElem?_eq_some_iff.mp hx).2]
  have er' : RelE X.K ca ρ ms (wipe σ vs) H := ⟨er.1, fun i u h => let ⟨v, a, b⟩ := er.2 i u h; ⟨v, a, k u v b⟩⟩
  rw [hd] at h
  unfold compL at h
  cases hg : g μ (.d x) ρ with
  | none => rw [hg] at h; exact (show False from h).elim
  | some ρ1 =>
    rw [hg] at h
    simp only at h
    refine ⟨ms, ρ, μ, .d x, ρ1, er', r, hv ms k, hg, fun σ2 e2 ag => ⟨agree_wipe ag hi, ms, ρ1, μ, e2, r, ?_⟩⟩
    cases ht : t ρ1 μ with
    | stuck => rw [ht] at h; exact (show False from h).elim
    | exc c fs μ1 =>
      rw [ht] at h
      exact (show False from h).elim
    | val b μ1 =>
      rw [ht, calm_val, bind_val] at h
      intro b' H3 ms3 k3 r3 eb
      obtain rfl : b' = b := eb
      have hp3 : H3 p = some (.lst av) := by rw [k3.same p (by rw [hh]; exact List.mem_cons_self)]; exact hp
      cases b' with
      | false =>
        refine ⟨ms3, μ1, acc, av, k3.hid.trans hh, fun u v q => k3.all u v (k u v q), fun a q => (k3.same a (by rw [hh]; exact List.mem_cons_of_mem _ q)).trans (ks a q), r3, hp3, k3.list l, ?_⟩
        simpa using h
      | true =>
        rw [if_pos rfl] at h ⊢
        refine ⟨ms3, ρ1, μ1, e2.keep k3, r3, ?_⟩
        cases he : e ρ1 μ1 with
        | stuck => rw [he] at h; exact (show False from h).elim
        | exc c fs μ2 => rw [he] at h; exact (show False from h).elim
        | val u μ2 =>
          rw [he, calm_val, bind_val] at h
          intro y H4 ms4 k4 r4 py
          have hh4 : ms4.hid = p :: ms0.hid := k4.hid.trans (k3.hid.trans hh)
          have hp4 : H4 p = some (.lst av) := by rw [k4.same p (by rw [k3.hid, hh]; exact List.mem_cons_self)]; exact hp3
          split at h
          · rename_i hz
            cases u with
            | cell n => exact (show False from h).elim
            | d z =>
              have l4 := (k3.trans k4).list l
              refine ⟨av, hp4, Nat.lt_of_lt_of_le (by rw [← l4.1]; exact Nat.lt_succ_self _) (sz_ok hz), ?_⟩
              have pin : p ∈ ms4.hid := by rw [hh4]; exact List.mem_cons_self
              obtain ⟨r5, a5⟩ := r4.grow (o := .lst (av ++ [y])) pin
              refine ⟨ms4, μ2, acc ++ [z], av ++ [y], hh4, fun u v q => a5 u v ((k3.trans k4).all u v (k u v q)), fun a q => ?_, r5, upd_same, ?_, ?_⟩
              · rw [upd_ne]
                · rw [k4.same a (by rw [k3.hid, hh]; exact List.mem_cons_of_mem _ q), k3.same a (by rw [hh]; exact List.mem_cons_of_mem _ q)]
                  exact ks a q
                · intro e'; subst e'; exact np q
              · refine RepL.append ⟨l4.1, fun i x v a b => a5 (.d x) v (l4.2 i x v a b)⟩ ⟨rfl, fun i x v a b => ?_⟩
                cases i with
                | zero =>
                  simp only [List.getElem?_cons_zero, Option.some.injEq] at a b
                  subst a; subst b
                  exact a5 (.d z) y py
                | succ i => simp at a
              · exact h
          · exact (show False from h).elim
theorem done_ok {ms0 : Ms} {H0 H : Hp} {p : Addr} {xs : List D} {n : Nat} (a : AheadC X ca W g t e ρ σ Q ms0 H0 p xs n H) (hn : xs.length ≤ n) (nc : ∀ ms μ, RelM X.K ca μ ms H → p ∈ ms.hid → some p ∉ ms.cs) (np : p ∉ ms0.hid) : Q (.ref p) H := by
  obtain ⟨ms, μ, acc, av, hh, k, ks, r, hp, l, h⟩ := a
  rw [List.drop_eq_nil_of_le hn] at h
  obtain ⟨r2, all⟩ := r.show_ (ms := ms0) hh
  refine h (.ref p) H { ms with hid := ms0.hid } ⟨fun u v q => all u v (k u v q), rfl, ks⟩ r2 ?_
  have out : ¬ Ms.In { ms with hid := ms0.hid } p := fun z => by
    rcases z with z | z
    · exact nc ms μ r (by rw [hh]; exact List.mem_cons_self) z
    · exact np z
  exact Rep.lst hp out l.1 fun i x v a b => all (.d x) v (l.2 i x v a b)
theorem nc_of {H : Hp} {p : Addr} : ∀ ms μ, RelM X.K ca μ ms H → p ∈ ms.hid → some p ∉ ms.cs := fun ms μ r h z => by
  obtain ⟨n, q⟩ := List.getElem?_of_mem z
  exact r.sep n p q h
end
section
variable {X : Cx} {ca : Nat → Addr} {W : WX} {pos p1 p2 : Pos} {a tg elt iter : Expr} {ifs : List Expr} {scope : Scope} {own : List (Str × Nat)} {ml : ML} {ma me : MD} {mt : MT} {g : Mem → U → Env → Option Env} {is : List Nat}
theorem rts_nil : PTs X [] (rdT X.K ca W mYes) := ⟨fun pins s σ H Q I ⟨ms, ρ, μ, e, r, h⟩ => pts_nil.run pins s σ H Q I (Af.at (a := true) h r rfl)⟩
theorem rts_one {c : Expr} (h : PT X c (rdT X.K ca W mt)) : PTs X [c] (rdT X.K ca W mt) := pts_one h
theorem re_lcR (hc : X.calm = true) (nd : X.N.Nodup) (hm : X.mg "range" = none) (ha : PA X [a] (rdA X.K ca W ml)) (ok : BlkOk X.N X.env.scope scope own)
    (hg : ∀ (s : Shared) (H : Hp) (C : Addr) (cl : List (Str × Addr)) (fp : List Addr), PG (X.blk s H scope (compEnvC scope cl C X.env) fp) tg (rdG X.K ca g is)) (ht : ∀ (s : Shared) (H : Hp) (C : Addr) (cl : List (Str × Addr)) (fp : List Addr), PTs (X.blk s H scope (compEnvC scope cl C X.env) fp) ifs (rdT X.K ca W0 mt))
    (he : ∀ (s : Shared) (H : Hp) (C : Addr) (cl : List (Str × Addr)) (fp : List Addr), PE (X.blk s H scope (compEnvC scope cl C X.env) fp) elt (rdE X.K ca W0 me)) (hi : ∀ i, i ∈ is → i ∈ own.map (·.2) := by decide) (gl : Gl X "range" := by rfl) (hs : starEach [a] X.env = [(false, eval a X.env)] := by rfl)
    (hs2 : ∀ x, foldedSetIterable (.Call (.Name "range" p1) [a] [] p2) X.env x = pure x := by intro _; rfl) : PE X (.ListComp elt [⟨tg, .Call (.Name "range" p1) [a] [] p2, ifs, 0⟩] scope pos) (rdE X.K ca W (mLcR rng1 ml g mt me (own.map (·.2)))) := by
  refine pe_imp (pe_lc hc nd (pi_range1 gl hm ha hs) ok hg ht he hs2) fun σ H Q kf ⟨ms, ρ, μ, e, r, h⟩ => af_bind e r h fun us μ1 vs H1 ms1 k1 r1 l1 h1 => ?_
  split at h1
  · rename_i xs hr
    unfold rng1 at hr
    split at hr
    · rename_i j
      split at hr
      · rename_i hb'
        cases hr
        unfold rgBounds at hb'
        simp only [Bool.and_eq_true, decide_eq_true_eq] at hb'
        match vs, l1 with
        | [v], l1 =>
          have hv := l1.2 0 _ v rfl rfl
          cases hv
          refine ⟨j, rfl, hb'.1, hb'.2, fun p hp => ?_⟩
          have np : p ∉ ms1.hid := fun z => by
            obtain ⟨o, q⟩ := r1.hidden p z
            rw [hp] at q; cases q
          obtain ⟨r2, a2⟩ := r1.hide (o := .lst []) hp
          refine lc_range (lo := 0) (n := j.toNat) (AheadC X ca W g mt me (wipeE ρ (own.map (·.2))) σ (fun v H' => KF X.K H' → Q v H') ms1 H1 p (rangeD 0 j.toNat)) ⟨ms1.hide p, μ1, [], [], rfl, a2, fun a q => upd_ne fun z => np (z ▸ q), r2, upd_same, ⟨rfl, fun i x v a => by simp at a⟩, af_kf h1⟩ (fun i H' hi' A => ?_) fun H' A => done_ok A (by simp [rangeD]) nc_of np
          exact item_ok ((e.keep k1).wipe _) np A (range_get hi') (fun ms _ => .int _) hi
        | [], l1 => exact absurd l1.1 (by simp)
        | _ :: _ :: _, l1 => exact absurd l1.1 (by simp)
      · cases hr
    · cases hr
  · exact (show False from h1).elim
end
end Dv
/-! Errors of own classes, made by a call with or without keywords. -/
namespace PySem
namespace DvX
open PySem.W PySem.Calls PyProof.Rows PySem.HandSPX

section
variable {M : Model} {A : Around} {E : Value → Shared → Prop} {h : Heap} {g : Array GenState} {d : Drawn} {t : Nat} {os : OsState}
variable {nm q : Str} {C N : Addr} {bs bm bmB : List Value} {hdct : Bool} {sn : List Str} {sub : List Value} {ab : Bool} {col : Option Bool} {dd : Option Addr} {k0 k1 k2 k3 k5 : Option Value} {B newId initId : String}
theorem chk_new (F : ExcBaseFacts B newId initId bmB) (hT : ∀ X : String, bm.contains (.type X) = bmB.contains (.type X)) {us : List Value} {kw : List (Str × Value)} {Q : Unit → Shared → Prop}
    (hC : h.get? C = some (excClassObj nm q C N bs bm hdct sn sub ab col dd k0 k1 k2 k3 k5 newId)) (z : Q () ⟨h, g, d, t, os⟩) : wpAny M A (checkBuiltinCall newId ⟨.ref C :: us, kw⟩) Q E ⟨h, g, d, t, os⟩ := by
  have inB : (Value.ref C :: bm).contains (.type B) = true := by simp only [List.contains_cons, hT, F.hasB, Bool.or_true]
  have st := F.noStar
  simp only [checkBuiltinCall, F.newKind, F.newSplit, F.newRow]
  repeat (first | (refine wpAny_isSubtype_exc hC ?_; rw [inB]) | refine wpAny_loadPart_at hC ?_ | refine wpAny_madeBy_exc hC ?_ | refine wpAny_staticBase_exc hC ?_ | simp only [bne_self_eq_false, Bool.false_eq_true, if_false] | wp_step)
  exact z
theorem chk_call {us : List Value} {kw : List (Str × Value)} {Q : Unit → Shared → Prop} (hC : h.get? C = some (excClassObj nm q C N bs bm hdct sn sub ab col dd k0 k1 k2 k3 k5 newId)) (z : Q () ⟨h, g, d, t, os⟩) :
    wpAny M A (checkBuiltinCall "type.__call__" ⟨.ref C :: us, kw⟩) Q E ⟨h, g, d, t, os⟩ := by
  have e3 := tc_sub
  have tyC : (⟨h, g, d, t, os⟩ : Shared).TypeIs (.ref C) "type" := ⟨_, hC, rfl⟩
  simp only [checkBuiltinCall, tc_kind, tc_split]
  repeat (any_goals (first | assumption | with_reducible refine wpAny_loadPart_at hC ?_ | with_reducible refine wpAny_map ?_ | with_reducible refine wpAny_onRaise ?_ | wp_step))
end
section
variable {prog : Program} {w : World} {A : Around} {E : Value → Shared → Prop} {R : Result → Shared → Prop} {h : Heap} {g : Array GenState} {d : Drawn} {t : Nat} {os : OsState}
variable {nm q : Str} {C N : Addr} {bs bm bmB : List Value} {hdct : Bool} {sn : List Str} {sub : List Value} {ab : Bool} {col : Option Bool} {dd : Option Addr} {k0 k1 k2 k3 k5 : Option Value} {B newId initId : String}
theorem run_new (F : ExcBaseFacts B newId initId bmB) (hT : ∀ X : String, bm.contains (.type X) = bmB.contains (.type X)) {us : List Value} {kw : List (Str × Value)}
    (hC : h.get? C = some (excClassObj nm q C N bs bm hdct sn sub ab col dd k0 k1 k2 k3 k5 newId))
    (z : R (.ok (.ret (.ref (h.objs.size + 1)))) ⟨(h.push (kdv_tup us)).push (excO C h.objs.size), g, d, t, os⟩) (hz : us.length ≤ sizeLine) :
    codeAny (model prog w) A (.builtin newId ⟨.ref C :: us, kw⟩) R ⟨h, g, d, t, os⟩ := by
  have e1 := F.ends
  have inB : (Value.ref C :: bm).contains (.type B) = true := by simp only [List.contains_cons, hT, F.hasB, Bool.or_true]
  have noA : (Value.ref C :: bm).contains (.type "AttributeError") = false := by simp only [List.contains_cons, hT, F.noAttr]; rfl
  have noN : (Value.ref C :: bm).contains (.type "NameError") = false := by simp only [List.contains_cons, hT, F.noName]; rfl
  refine codeAny_builtinAt F.entry ?_
  unfold Builtin.«BaseException.__new__»
  refine wpAt_bind ?_
  show wpAt _ _ _ (stack >>= _) _ _ _
  refine wpAt_bind (wpAt_stack fun p below => wpAt_of_wpAny ?_)
  wp_walk
  refine wpAt_of_wpAny ?_
  rw [F.owner]
  repeat (first | with_reducible refine wpAny_loadPart_at hC ?_ | with_reducible refine wpAny_madeHere_exc F.canon hC ?_ | (with_reducible refine wpAny_isSubtype_exc hC ?_; first | rw [inB] | rw [noA] | rw [noN]) | wp_step)
  show R _ _
  rw [Heap.size_push]
  exact z
theorem run_type (F : ExcBaseFacts B newId initId bmB) (hT : ∀ X : String, bm.contains (.type X) = bmB.contains (.type X)) {us : List Value} {kw : List (Str × Value)} {fI : Addr} {Q : Fin → Shared → Prop}
    (hC : h.get? C = some (excClassObj nm q C N bs bm hdct sn sub ab col dd k0 k1 k2 k3 k5 newId))
    (li : W.Looks (model prog w) h (typeLookup (.ref C) "__init__") (some (.ref fI))) (lb : ∀ self, W.Looks (model prog w) h (bindSpecial (.ref fI) self) (.ref fI, [self])) (hz : us.length ≤ sizeLine)
    (z : codeAny (model prog w) A (.call (.ref fI) ⟨.ref (h.objs.size + 1) :: us, kw⟩)
      (fun r s' => match r with | .ok (.ret v) => v = .none ∧ Q (.done (.ret (.ref (h.objs.size + 1)))) s' | .ok _ => False | .error e => E e s')
      ⟨(h.push (kdv_tup us)).push (excO C h.objs.size), g, d, t, os⟩) :
    wpAny (model prog w) A (Builtin.«type.__call__» ⟨.ref C :: us, kw⟩) Q E ⟨h, g, d, t, os⟩ := by
  repeat (first | with_reducible refine wpAny_madeBy_exc hC ?_ | with_reducible refine wpAny_loadPart_at hC ?_ | wp_step)
  refine codeAny_call_builtin_code (Code.quiet_builtin _ F.quiet) (chk_new F hT hC ?_)
  refine run_new F hT hC ?_ hz
  show wpAny _ _ _ _ _ _
  have up : ∀ b o, h.get? b = some o → ((h.push (kdv_tup us)).push (excO C h.objs.size)).get? b = some o := fun b o e => Heap.get?_push_of_some _ (Heap.get?_push_of_some _ e)
  have hCu := up _ _ hC
  have hg : ((h.push (kdv_tup us)).push (excO C h.objs.size)).get? (h.objs.size + 1) = some (excO C h.objs.size) := by heap_get
  have inC : (Value.ref C :: bm).contains (.ref C) = true := by simp
  have liu := li.keeps up
  have lbu := (lb (.ref (h.objs.size + 1))).keeps up
  unfold isInstance
  repeat (first | (with_reducible refine wpAny_isSubtype_exc hCu ?_; rw [inC]) | with_reducible refine wpAny_loadPart_at hg ?_ | wp_step)
  show wpAny _ _ (typeLookup (.ref C) _) _ _ _
  refine liu.at ?_
  refine wpAny_holding (wpAny_bind (lbu.at ?_))
  refine wpAny_bind (wpAny_call (codeAny_mono z fun r s' y => ?_))
  rcases r with e | (v | _ | _ | _) <;> first | exact y | exact y.elim | skip
  obtain ⟨rfl, y⟩ := y
  first
    | exact wpAny_pure (wpAny_pure y)
    | (wp_walk; exact y)
/-- an own error class with an own __init__, called -/
theorem made (F : ExcBaseFacts B newId initId bmB) (hT : ∀ X : String, bm.contains (.type X) = bmB.contains (.type X)) {us : List Value} {kw : List (Str × Value)} {fI : Addr}
    (hC : h.get? C = some (excClassObj nm q C N bs bm hdct sn sub ab col dd k0 k1 k2 k3 k5 newId))
    (li : W.Looks (model prog w) h (typeLookup (.ref C) "__init__") (some (.ref fI))) (lb : ∀ self, W.Looks (model prog w) h (bindSpecial (.ref fI) self) (.ref fI, [self])) (hz : us.length ≤ sizeLine)
    (z : codeAny (model prog w) (A.under (.builtin "type.__call__" ⟨.ref C :: us, kw⟩)) (.call (.ref fI) ⟨.ref (h.objs.size + 1) :: us, kw⟩) (W.InitBack (h.objs.size + 1) R)
      ⟨(h.push (kdv_tup us)).push (excO C h.objs.size), g, d, t, os⟩) :
    codeAny (model prog w) A (.call (.ref C) ⟨us, kw⟩) R ⟨h, g, d, t, os⟩ := by
  have e1 := tc_lookup
  have e2 := tc_bind (.ref C)
  have tyC : (⟨h, g, d, t, os⟩ : Shared).TypeIs (.ref C) "type" := ⟨_, hC, rfl⟩
  refine codeAny_of_tree ?_
  show wpAny _ _ (callAny (.ref C) _) _ _ _
  repeat (any_goals (first | assumption | with_reducible refine wpAny_loadPart_at hC ?_ | wp_step))
  refine ⟨rfl, ?_⟩
  refine codeAny_call_builtin_at (Code.quiet_builtin _ (by decide +kernel)) entry_typeCall (chk_call hC (run_type F hT hC li lb hz ?_))
  refine codeAny_mono z fun r s' y => ?_
  rcases r with e | (v | _ | _ | _) <;> exact y
end
end DvX
end PySem
/-! The text of such an __init__: super().__init__(..), then self.f = f for each field. -/
namespace PySem
namespace DvX
open PySem.W PySem.Calls PyProof.Rows PySem.HandSPX

def supS (p0 p1 p2 p3 p4 : Pos) (args : List Expr) : Stmt := .Expr (.Call (.Attribute (.Call (.Name "super" p0) [] [] p1) "__init__" p2) args [] p3) p4
def stoS (f : Str) (q1 q2 q3 q4 : Pos) : Stmt := .Assign [.Attribute (.Name "self" q1) f q2] (.Name f q3) q4

/-- what the written part says of the class at C -/
structure CF (K : Frag) (C : Addr) : Prop where
  cls : ∃ nm q N bs bm sn sub ab col dd k0 k1 k2 k3 k5, K.lookup C = some (excClassObj nm q C N bs bm true sn sub ab col dd k0 k1 k2 k3 k5 "ValueError.__new__") ∧ refsVE bm = true
  ga : findIn K (.ref C) "__getattribute__" = some (some (.builtin "BaseException.__getattribute__"))
  gg : findIn K (.ref C) "__getattr__" = some none
  exC : subIn K (.ref C) (.type "BaseException") = some true
  tyC : typeIn K (.ref C) = some (.type "type")
  hdC : hasDictIn K C = true
  kC : keepIn K (.ref C) = true
/-- .. and of its __init__ -/
structure IF (K : Frag) (prog : Program) (mg : Str → Option Value) (C fI : Addr) (name qual : Str) (par : Arguments) (body : List Stmt) (sc : Scope) (cc cda : Addr) : Prop where
  sa : findIn K (.ref C) "__setattr__" = some (some (.builtin "object.__setattr__"))
  iC : findIn K (.ref C) "__init__" = some (some (.ref fI))
  tC : typeIn K (.ref fI) = some (.type "function")
  su : ks_superIn K C C "__init__" = some (some (.builtin "ValueError.__init__"))
  vB : subIn K (.ref C) (.type "ValueError") = some true
  sC : mroIn K C (.ref C) = some true
  op : nsIn K cStatics "thirdparty.any" = some none
  sg : mg "super" = none
  fn : ∃ (oc : Value) (od : Option Addr) (doc pm : Value) (an : Option Addr) (ct : Value) (osl : Array (Option Value)), K.lookup fI = some ⟨oc, od, .func (ksFn name qual par body sc .none .none doc pm an (.ref cda) ct cc), osl⟩
  cd : codeIn K (.ref cda) qual = true
  ch : ∃ (ccl : Value) (cdd : Option Addr) (vs : Array Value) (ccs : Array (Option Value)) (file : Str) (tf : Tok), K.lookup cda = some ⟨ccl, cdd, .fields vs, ccs⟩ ∧ vs[2]? = some (.str file tf) ∧ ((prog.main.file : Str) == file) = true
  ce : ∃ (cl : Value) (cld : Option Addr) (csl : Array (Option Value)), K.lookup cc = some ⟨cl, cld, .cell (some (.ref C)), csl⟩
  top : (prog.main.scope.names.lookup ("super" : Str)).isSome = false
  hks : sc.names.lookup ("super" : Str) = some .globalImplicit
  hkc : sc.names.lookup ("__class__" : Str) = some .free
  hka : sc.names.lookup ("self" : Str) = some .local
  kind : sc.kind = .function
  co : sc.isCoroutine = false
  gen : sc.isGenerator = false
  cell : ∀ x ∈ sc.names, x.2 ≠ .cell
  par0 : ∃ ar, (par.posonlyargs ++ par.args).head? = some ar ∧ ar.arg = "self"
/-- what is read of the module, anywhere -/
structure Rm (K : Frag) (mg : Str → Option Value) (h : Heap) : Prop where
  kin : K.In h
  glob : h.Ns mainGlobals mg
  blt : ∃ mb, h.Ns builtinsNs mb ∧ ∀ x : Str, x ≠ "__name__" → mb x = bootBuiltins x
  lim : h.NoLimit
theorem Rm.keeps {K : Frag} {mg : Str → Option Value} {h h' : Heap} (r : Rm K mg h) (k : ∀ b o, h.get? b = some o → h'.get? b = some o) : Rm K mg h' :=
  ⟨r.kin.keeps k, r.glob.keeps k, let ⟨mb, a, b⟩ := r.blt; ⟨mb, a.keeps k, b⟩, r.lim.keeps k⟩

/-- how the call is read -/
def Sup1 (p0 p1 p2 p3 : Pos) (args : List Expr) (env : Env) : Prop := ∃ pl : Sem Bool, eval (.Call (.Attribute (.Call (.Name "super" p0) [] [] p1) "__init__" p2) args [] p3) env = (do
  let ov ← attributeBase (.Call (.Name "super" p0) [] [] p1) "__init__" env (eval (.Call (.Name "super" p0) [] [] p1) env)
  standAt p2.atName
  let (f, first) ← holding [ov] (getMethod ov "__init__" pl)
  callWith p3 f first (backTo p3 (starEach args env)) [])
section
variable {prog : Program} {w : World} {A : Around} {E : Value → Shared → Prop} {R : Result → Shared → Prop} {s : Shared} {K : Frag} {mg : Str → Option Value} {C fI cc cda : Addr} {name qual : Str} {par : Arguments} {body : List Stmt} {sc : Scope}
/-- ValueError.__init__, bound to the error at e, called -/
theorem call_w {u e t0 : Addr} {us : List Value} {Q : Value → Shared → Prop} (T : CF K C) (X : K.In s.heap) (he : s.heap.get? e = some (excO C t0)) (hu : s.heap.get? u = some (kxs_mw "ValueError.__init__" e)) (hz : us.length ≤ sizeLine)
    (hq : ∀ h' t1, (∀ b o, b ≠ e → s.heap.get? b = some o → h'.get? b = some o) → h'.get? e = some (excO C t1) → Q .none { s with heap := h' }) : wpAny (model prog w) A (call (.ref u) us) Q E s := by
  obtain ⟨nm, q, N, bs, bm, sn, sub, ab, col, dd, k0, k1, k2, k3, k5, hC, hbm⟩ := T.cls
  obtain ⟨h, g, d, t, os⟩ := s
  have hC1 := X _ _ hC
  refine wpAny_call (codeAny_of_tree ?_)
  show wpAny _ A.in1 (callAny (.ref u) ⟨us, []⟩) _ _ _
  simp only [callAny]
  refine wpAny_bind (wpAny_load hu ?_)
  simp only [kxs_mw, show (Value.type "method-wrapper" == Value.type "method" || Value.type "method-wrapper" == Value.type "builtin_function_or_method" || Value.type "method-wrapper" == Value.type "method-wrapper") = true from by decide, if_true]
  refine KFB.if_so (by decide) (wpAny_bind (check_bound_init F.excBase_ValueError.toExcCallFacts hC1 he rfl (wpAny_bind (wpAny_pure (wpAny_pure ⟨plainId_quiet F.excBase_ValueError.init.plain _, codeAny_builtin F.excBase_ValueError.initEntry ?_⟩)))))
  exact exc_init_tree (cls := .ref C) (t0 := t0) (dv := none) (c2 := .none) (c3 := .none) (b4 := .bool false) he hz fun h' k e' _ => hq h' _ k e'

/-- super().__init__(..) -/
theorem sup_run {L x t0 : Addr} {m : Str → Option Value} {p0 p1 p2 p3 p4 : Pos} {a : Expr} {args : List Expr} {n : Nat} {Q : Flow → Shared → Prop} (T : CF K C) (I : IF K prog mg C fI name qual par body sc cc cda) (r : Rm K mg s.heap)
    (hx : s.heap.get? x = some (excO C t0)) (hn : s.heap.Ns L m) (hs : m "self" = some (.ref x)) (hz : n ≤ sizeLine)
    (ha : ∀ (s1 : Shared) (Q1 : List Value → Shared → Prop), s1.heap.Ns L m → (∀ us tk, us.length = n → Q1 us { s1 with toks := tk }) → wpAny (model prog w) A (spliced (backTo p3 (starEach (a :: args) (ksEnv qual sc L fI (.ref cda) cc)))) Q1 E s1)
    (hq : ∀ h' tk t1, (∀ b o, b ≠ x → s.heap.get? b = some o → h'.get? b = some o) → h'.get? x = some (excO C t1) → Q .next { s with heap := h', toks := tk })
    (he : starEach (a :: args) (ksEnv qual sc L fI (.ref cda) cc) = (false, eval a (ksEnv qual sc L fI (.ref cda) cc)) :: starEach args (ksEnv qual sc L fI (.ref cda) cc))
    (hpl : (backTo p3 (starEach args (ksEnv qual sc L fI (.ref cda) cc))).any (·.1) = false)
    (hev : Sup1 p0 p1 p2 p3 (a :: args) (ksEnv qual sc L fI (.ref cda) cc)) :
    PySem.wpAt (model prog w) A (.func body (ksEnv qual sc L fI (.ref cda) cc)) (exec (supS p0 p1 p2 p3 p4 (a :: args)) (ksEnv qual sc L fI (.ref cda) cc)) Q E s := by
  obtain ⟨oc, od, doc, pm, an, ct, osl, hf⟩ := I.fn
  obtain ⟨ccl, cdd, vs, ccs, file, tf, hcode, hvs, hfile⟩ := I.ch
  obtain ⟨cl, cld, csl, hce⟩ := I.ce
  obtain ⟨ar, hp, har⟩ := I.par0
  obtain ⟨nm, q, N, bs, bm, sn, sub, ab, col, dd, k0, k1, k2, k3, k5, hC, hbm⟩ := T.cls
  obtain ⟨mb, hb1, hb2⟩ := r.blt
  have X := r.kin
  have hD := X _ _ hC
  unfold supS
  refine ks_wpAt_Expr_any ?_ (by unfold interactive; simp [I.kind]) (by rfl)
  obtain ⟨pl, hev⟩ := hev
  refine ks_wpAt_MethodCall (pl := pl) ?_ hev
  refine ks_wpAt_super_base (env := ksEnv qual sc L fI (.ref cda) cc) I.hks I.hkc (by decide) rfl (X _ _ hf) rfl hp rfl (X _ _ hcode) rfl hvs hfile I.top ?_
  · refine ks_loadName_global I.kind I.hks (loadGlobal_builtin (env := ksEnv qual sc L fI (.ref cda) cc) r.glob I.sg hb1 ((hb2 _ (by decide +kernel)).trans (show bootBuiltins "super" = some (.type "super") by kernel_rfl)) ⟨rfl, ?_⟩)
    refine wpAny_loadName_free I.kind I.hkc rfl ⟨_, X _ _ hce, rfl⟩ ?_
    refine wpAny_loadName_local I.kind (by rw [har]; exact I.hka) hn (by rw [har]; exact hs) ?_
    refine ks_wpAny_isType_cls hD rfl ⟨rfl, ?_⟩
    obtain ⟨h, g, d, t, os⟩ := s
    refine ks_wpAny_call_super hD rfl hx rfl (fun c e => by cases e) (looks_mroIn X I.sC) (fun h1 hso up1 => ?_)
    have X1 := X.keeps up1
    have hx1 := up1 _ _ hx
    have J : InstAt h1 x (excO C t0) C none := ⟨hx1, rfl, rfl, trivial⟩
    have hcl : ∃ cd, clsIn K C = some cd ∧ cd.mro = .ref C :: bm := ⟨_, by unfold clsIn; rw [hC] <;> rfl, rfl⟩
    obtain ⟨cd, hc, hm⟩ := hcl
    have su := I.su
    unfold ks_superIn at su
    rw [hc] at su
    refine kxs_getMethod kxs_ValueError hso (looks_opaque X1 I.op) (l₀ := cd.mro) (fun A Q E s k q => wpAny_bind ((looks_clsIn X1 hc) A _ E s k (wpAny_pure q))) rfl X1 su (J.type.andThen (looks_subIn X1 I.vB)) (ks_ne X1 J hc) (by decide) ?_
    have up2 : ∀ b o, h1.get? b = some o → (h1.push (kxs_mw "ValueError.__init__" x)).get? b = some o := fun b o e => Heap.get?_push_of_some _ e
    have hu : (h1.push (kxs_mw "ValueError.__init__" x)).get? h1.objs.size = some (kxs_mw "ValueError.__init__" x) := Heap.get?_push_at rfl rfl
    have hn2 := (hn.keeps up1).keeps up2
    have fin : ∀ (us : List Value) tk, us.length = n → wpAny (model prog w) A (call (.ref h1.objs.size) us) (fun _ => Q .next) E ⟨h1.push (kxs_mw "ValueError.__init__" x), g, d, tk, os⟩ := fun us tk hl =>
      call_w T (X1.keeps up2) (up2 _ _ hx1) hu (hl ▸ hz) fun h' t1 k e' => hq h' tk t1 (fun b o n e => k b o n (up2 b o (up1 b o e))) e'
    rw [he]
    refine kxs_callWith (i := "ValueError.__init__") (x := x) (by show (false || (backTo p3 (starEach args _)).any (·.1)) = false; rw [hpl]; rfl) ?_
    refine evalArgs_plain ?_
    have z := ha ⟨h1.push (kxs_mw "ValueError.__init__" x), g, d, t + 1, os⟩ (fun vs s₁ => KxsAt "ValueError.__init__" h1.objs.size x s₁.heap ∧ wpAny (model prog w) A (call (.ref h1.objs.size) vs) (fun _ => Q .next) E s₁) hn2 fun us tk hl => ⟨hu, fin us tk hl⟩
    rw [he] at z
    exact z
end
end DvX
end PySem
namespace PySem
namespace DvX
open PySem.W PySem.Calls PyProof.Rows PySem.HandSPX
open Builtin Builtin.ObjectAttr

/-- self.g = u on an error that has a dict -/
theorem osa_more {prog : Program} {w : World} {A : Around} {R : Result → Shared → Prop} {hp : Heap} {g : Array GenState} {d : Drawn} {t : Nat} {os : OsState} {K : W.Frag} {name : Str} {tk : Tok} {v : Value} {x C dx : Addr} {fv : Array Value} {cd : ClassData} {m0 : Str → Option Value} {nl : List Str}
    (X : K.In hp) (hx : hp.get? x = some { cls := .ref C, dict := some dx, data := .fields fv }) (hns : hp.Ns1 dx m0) (hw : Within m0 nl) (hz : nl.length ≤ 1000) (hcd : W.clsIn K C = some cd) (hm : refsVE cd.mro = true) (hh : cd.hasDict = true)
    (ha : W.findIn K (.ref C) name = some none)
    (hq : ∀ h' tk', (∀ b o, b ≠ dx → hp.get? b = some o → h'.get? b = some o) → h'.Ns1 dx (fun y => if y = name then some v else m0 y) → R (.ok (.ret .none)) ⟨h', g, d, tk', os⟩) :
    codeAny (model prog w) A (.call (.builtin "object.__setattr__") ⟨[.ref x, .str name tk, v], []⟩) R ⟨hp, g, d, t, os⟩ := by
  obtain ⟨oD, esD, epD, hoD, hdD, _⟩ := hns.count hw
  have J : W.InstAt hp x { cls := .ref C, dict := some dx, data := .fields fv } C (some oD) := ⟨hx, rfl, rfl, hoD⟩
  have S := F.store_object
  have inO : cd.mro.contains (.type "object") = true := (refsVE_contains "object" _ hm).trans (by decide +kernel)
  have sub : W.Looks (model prog w) hp (isInstance (.ref x) (.type "object")) true := J.type.andThen (W.looks_mroIn X (by unfold W.mroIn; rw [hcd, Option.bind_some, if_neg (by rw [refsVE_ne hm]; decide), inO]))
  refine codeAny_call_builtin S.slot.plain S.entry (@W.check_slot (model prog w) _ _ ⟨hp, g, d, t, os⟩ "object.__setattr__" "object" "__setattr__" (.ref x) [.str name tk, v] [] _ S.kind S.split sub (S.args (.ref x) (.str name tk) v) ?_)
  have lm : W.Looks (model prog w) hp (mroOf (.ref C)) cd.mro := (W.looks_clsIn X hcd).andThen .now
  have l3 : W.Looks (model prog w) hp (storeTaker? none) none := .now
  have lc : W.Looks (model prog w) hp (classData C) cd := W.looks_clsIn X hcd
  rw [W.osa_eq, refuse_eq]
  refine wpAny_bind (wpAny_bind (J.type.at (wpAny_bind (lm.at ?_))))
  rw [refsVE_pass _ _ hm]
  refine wpAny_pure (wpAny_bind (J.type.at (wpAny_bind ((W.looks_findIn X ha).at (wpAny_bind (l3.at ?_))))))
  show wpAny _ _ (storeInOwnDict (.ref x) (.ref C) (.str name tk) name v false) _ _ _
  obtain ⟨nm, bs, mro, ns, qn, hd, sn, sb, ab, col, del⟩ := cd
  dsimp only at hh
  subst hh
  unfold storeInOwnDict ownDictForStores
  repeat (first | with_reducible refine ESX.store_in_old hns hw hz ?_ | with_reducible refine wpAny_loadPart_at hx ?_ | with_reducible refine lc.at ?_ | wp_step)
  exact fun h' tk' hn' hs => hq h' tk' (fun b o hb ho => (hs.2 b hb).trans ho) hn'

section
variable {prog : Program} {w : World} {A : Around} {E : Value → Shared → Prop} {R : Result → Shared → Prop} {s : Shared} {K : Frag} {mg : Str → Option Value} {C fI cc cda : Addr} {name qual : Str} {par : Arguments} {body : List Stmt} {sc : Scope}
theorem ldN {L : Addr} {m : Str → Option Value} {x : Str} {pos : Pos} {v : Value} {Q : Value → Shared → Prop} {M : Model} (hk : sc.kind = .function) (hl : sc.names.lookup x = some .local) (hd : (x == ("__debug__" : Str)) = false) (hn : s.heap.Ns L m) (hv : m x = some v) (h : Q v s) :
    wpAny M A (eval (.Name x pos) (ksEnv qual sc L fI (.ref cda) cc)) Q E s := wpAny_Name (wpAny_loadName_local hk hl hn hv h) hd
theorem cls_in (T : CF K C) : ∃ cd, clsIn K C = some cd ∧ refsVE cd.mro = true ∧ cd.hasDict = true := by
  obtain ⟨nm, q, N, bs, bm, sn, sub, ab, col, dd, k0, k1, k2, k3, k5, hC, hbm⟩ := T.cls
  exact ⟨_, by unfold clsIn; rw [hC] <;> rfl, hbm, rfl⟩
/-- the arguments of super().__init__: names and texts -/
def AEv (M : Model) (env : Env) (L : Addr) (m : Str → Option Value) (args : List Expr) : Prop :=
  ∀ (A : Around) (E : Value → Shared → Prop) (pos : Pos) (s1 : Shared) (Q1 : List Value → Shared → Prop), s1.heap.Ns L m → (∀ us tk, us.length = args.length → Q1 us { s1 with toks := tk }) → wpAny M A (spliced (backTo pos (starEach args env))) Q1 E s1
theorem aev_nil {M : Model} {env : Env} {L : Addr} {m : Str → Option Value} : AEv M env L m [] := fun A E pos s1 Q1 hn h => Calls.spliced_nil (h [] s1.toks rfl)
theorem aev_cons {M : Model} {L : Addr} {m : Str → Option Value} {f : Str} {v : Value} {q : Pos} {args : List Expr} (hk : sc.kind = .function) (hl : sc.names.lookup f = some .local) (hd : (f == ("__debug__" : Str)) = false) (hv : m f = some v) (r : AEv M (ksEnv qual sc L fI (.ref cda) cc) L m args) :
    AEv M (ksEnv qual sc L fI (.ref cda) cc) L m (.Name f q :: args) := fun A E pos s1 Q1 hn h => by
  show wpAny _ _ (spliced ((false, eval (.Name f q) (ksEnv qual sc L fI (.ref cda) cc)) :: backTo pos (starEach args (ksEnv qual sc L fI (.ref cda) cc)))) _ _ s1
  exact Calls.spliced_cons (ldN hk hl hd hn hv (r A E pos s1 _ hn fun us tk e => h (v :: us) tk (by simp [e])))
theorem aev_str {M : Model} {L : Addr} {m : Str → Option Value} {f : Str} {j : Nat} {q : Pos} {args : List Expr} (r : AEv M (ksEnv qual sc L fI (.ref cda) cc) L m args) :
    AEv M (ksEnv qual sc L fI (.ref cda) cc) L m (.Constant (.str f) j q :: args) := fun A E pos s1 Q1 hn h => by
  show wpAny _ _ (spliced ((false, eval (.Constant (.str f) j q) (ksEnv qual sc L fI (.ref cda) cc)) :: backTo pos (starEach args (ksEnv qual sc L fI (.ref cda) cc)))) _ _ s1
  exact Calls.spliced_cons (Calls.Constant_str (r A E pos _ _ hn fun us tk e => h (_ :: us) tk (by simp [e])))

theorem kin_but {h h' : Heap} {x : Addr} (X : K.In h) (hx : K.lookup x = none) (k : ∀ b o, b ≠ x → h.get? b = some o → h'.get? b = some o) : K.In h' := fun a o e =>
  k a o (fun z => by rw [z, hx] at e; cases e) (X a o e)
theorem ns_but {h h' : Heap} {x L : Addr} {m : Str → Option Value} (n : h.Ns L m) (hx : L ≠ x) (k : ∀ b o, b ≠ x → h.get? b = some o → h'.get? b = some o) : h'.Ns L m := by
  obtain ⟨oL, es, ep, hL, r⟩ := n
  exact ⟨oL, es, ep, k _ _ hx hL, r⟩

/-- what __init__ leaves of a fresh error at x: fs its fields -/
structure IEnd (h h' : Heap) (x C : Addr) (fs : List (Str × Value)) : Prop where
  keep : ∀ b o, b ≠ x → h.get? b = some o → h'.get? b = some o
  obj : (fs = [] ∧ ∃ t, h'.get? x = some (excO C t)) ∨ ∃ dx t, h'.get? x = some { cls := .ref C, dict := some dx, data := .fields #[.ref t, .none, .none, .none, .bool false, .none] } ∧ h.objs.size ≤ dx ∧ dx ≠ x ∧ h'.Ns1 dx (fun y => List.lookup y fs)
/-- the text of __init__, by its fields -/
def Body (body : List Stmt) (sc : Scope) (fs : List Str) : Prop :=
  (∃ p0 p1 p2 p3 p4 a j q, fs = [] ∧ body = [supS p0 p1 p2 p3 p4 [.Constant (.str a) j q]] ∧ ∀ qual L fI cda cc, Sup1 p0 p1 p2 p3 [.Constant (.str a) j q] (ksEnv qual sc L fI (.ref cda) cc)) ∨
  (∃ p0 p1 p2 p3 p4 f q q1 q2 q3 q4, fs = [f] ∧ body = [supS p0 p1 p2 p3 p4 [.Name f q], stoS f q1 q2 q3 q4] ∧ ∀ qual L fI cda cc, Sup1 p0 p1 p2 p3 [.Name f q] (ksEnv qual sc L fI (.ref cda) cc)) ∨
  (∃ p0 p1 p2 p3 p4 f g q q' q1 q2 q3 q4 r1 r2 r3 r4, fs = [f, g] ∧ body = [supS p0 p1 p2 p3 p4 [.Name f q, .Name g q'], stoS f q1 q2 q3 q4, stoS g r1 r2 r3 r4] ∧ ∀ qual L fI cda cc, Sup1 p0 p1 p2 p3 [.Name f q, .Name g q'] (ksEnv qual sc L fI (.ref cda) cc))
/-- what the fields' names must be -/
structure Nm (K : Frag) (C : Addr) (sc : Scope) (f : Str) : Prop where
  loc : sc.names.lookup f = some .local
  dbg : (f == ("__debug__" : Str)) = false
  self : f ≠ "self"
  no : findIn K (.ref C) f = some none

theorem one_le {n : Nat} (h : n ≤ 2) : n ≤ sizeLine := by
  rw [sizeLine_eq]
  omega
/-- __init__ runs -/
theorem ini (T : CF K C) (I : IF K prog mg C fI name qual par body sc cc cda) {fs : List Str} (B : Body body sc fs) (hf : ∀ f ∈ fs, Nm K C sc f) (hnd : fs.Nodup) {x t0 : Addr} {vs : List Value} {args : Args} (hl : vs.length = fs.length) (r : Rm K mg s.heap)
    (hx : s.heap.get? x = some (excO C t0)) (hnx : K.lookup x = none) (hnG : x ≠ mainGlobals) (hroom : A.depth < recursionLimit)
    (bt : ∀ doc pm an ct, BindsTo s (ksFn name qual par body sc .none .none doc pm an (.ref cda) ct cc) args (("self", .ref x) :: fs.zip vs))
    (hq : ∀ h' tk, IEnd s.heap h' x C (fs.zip vs) → R (.ok (.ret .none)) { s with heap := h', toks := tk }) : codeAny (model prog w) A (.call (.ref fI) args) R s := by
  obtain ⟨oc, od, doc, pm, an, ct, osl, hfn⟩ := I.fn
  obtain ⟨cd, hcl, hm, hhd⟩ := cls_in T
  refine ks_codeAny_call_defAt (fd := ksFn name qual par body sc .none .none doc pm an (.ref cda) ct cc) (body := body) (binds := ("self", .ref x) :: fs.zip vs) hroom (r.kin _ _ hfn) rfl r.lim (codeRec_of r.kin I.cd) rfl (bt doc pm an ct) I.cell (fun y hy => ?_) (fun h₁ hns k₁ => ?_) I.co I.gen I.kind
  · rcases List.mem_cons.mp hy with rfl | hy
    · exact I.hka
    · exact (hf y.1 (List.of_mem_zip hy).1).loc
  have xL : s.heap.objs.size ≠ x := Nat.ne_of_gt (Heap.lt_size hx)
  have big : s.heap.objs.size < h₁.objs.size := hns.lt
  have r1 := r.keeps k₁
  have hx1 := k₁ _ _ hx
  show PySem.wpAt _ _ (.func body (ksEnv qual sc s.heap.objs.size fI (.ref cda) cc)) (execs body (ksEnv qual sc s.heap.objs.size fI (.ref cda) cc)) _ _ _
  rcases B with ⟨p0, p1, p2, p3, p4, a, j, q, rfl, hbody, S⟩ | ⟨p0, p1, p2, p3, p4, f, q, q1, q2, q3, q4, rfl, hbody, S⟩ | ⟨p0, p1, p2, p3, p4, f, f', q, q', q1, q2, q3, q4, z1, z2, z3, z4, rfl, hbody, S⟩
  · rw [show execs body = execs [supS p0 p1 p2 p3 p4 [.Constant (.str a) j q]] from by rw [hbody]]
    refine ks_wpAt_execs_cons (sup_run (n := 1) T I r1 hx1 hns (by simp [List.lookup]) (one_le (by decide)) (fun s1 Q1 => aev_str aev_nil _ _ _ s1 Q1) (fun h' tk t1 k e => wpAt_of_wpAny (wpAny_execs_nil (hq h' tk ⟨fun b o hb z => k b o hb (k₁ b o z), .inl ⟨rfl, t1, e⟩⟩))) rfl rfl (S _ _ _ _ _))
  · cases vs with
    | nil => cases hl
    | cons v vs =>
      cases vs with
      | cons _ _ => cases hl
      | nil =>
        have N := hf f List.mem_cons_self
        have n1 : (("self" : Str) == f) = false := beq_false_of_ne (Ne.symm N.self)
        have lf : List.lookup f (((("self" : Str), Value.ref x) :: [f].zip [v]).reverse) = some v := by simp [List.lookup]
        have ls : List.lookup ("self" : Str) (((("self" : Str), Value.ref x) :: [f].zip [v]).reverse) = some (.ref x) := by simp [List.lookup, n1]
        rw [show execs body = execs [supS p0 p1 p2 p3 p4 [.Name f q], stoS f q1 q2 q3 q4] from by rw [hbody]]
        refine ks_wpAt_execs_cons (sup_run (n := 1) T I r1 hx1 hns ls (one_le (by decide)) (fun s1 Q1 => aev_cons I.kind N.loc N.dbg lf aev_nil _ _ _ s1 Q1) (fun h2 tk t1 k e => wpAt_of_wpAny ?_) rfl rfl (S _ _ _ _ _))
        have X2 := kin_but r1.kin hnx k
        have ns2 := ns_but hns xL k
        refine wpAny_execs_cons (plainObj_wpAny_Assign_Attribute (ldN I.kind N.loc N.dbg ns2 lf (ldN I.kind I.hka (by decide) ns2 ls ?_)))
        refine set_plain X2 (ox := excO C t1) (od := none) ⟨e, rfl, rfl, trivial⟩ I.sa ?_
        refine exc_osa X2 e hcl hm hhd N.no (fun h3 tk3 dx k3 dn dne hx3 hn3 => ?_)
        refine wpAny_execs_nil (hq h3 tk3 ⟨fun b o hb z => k3 b o hb (k b o hb (k₁ b o z)), .inr ⟨dx, t1, hx3, ?_, dne, ?_⟩⟩)
        · exact Nat.le_of_lt (Nat.lt_of_lt_of_le (show s.heap.objs.size < h2.objs.size from ns2.lt) dn)
        · have e2 : (fun y => List.lookup y ([f].zip [v])) = (fun y => if y = f then some v else none) := by
            funext y
            by_cases c : y = f
            · subst c; simp [List.lookup]
            · have c' : (y == f) = false := beq_false_of_ne c
              simp [List.lookup, c, c']
          rw [e2]
          exact hn3
  · cases vs with
    | nil => cases hl
    | cons v vs =>
      cases vs with
      | nil => cases hl
      | cons u vs =>
        cases vs with
        | cons _ _ => cases hl
        | nil =>
          have N := hf f List.mem_cons_self
          have N' := hf f' (List.mem_cons_of_mem _ List.mem_cons_self)
          have ff : f ≠ f' := fun e => by subst e; simp at hnd
          have n1 : (("self" : Str) == f) = false := beq_false_of_ne (Ne.symm N.self)
          have n2 : (("self" : Str) == f') = false := beq_false_of_ne (Ne.symm N'.self)
          have n3 : (f == f') = false := beq_false_of_ne ff
          have n4 : (f' == f) = false := beq_false_of_ne (Ne.symm ff)
          have lf : List.lookup f (((("self" : Str), Value.ref x) :: [f, f'].zip [v, u]).reverse) = some v := by simp [List.lookup, n3]
          have lf' : List.lookup f' (((("self" : Str), Value.ref x) :: [f, f'].zip [v, u]).reverse) = some u := by simp [List.lookup]
          have ls : List.lookup ("self" : Str) (((("self" : Str), Value.ref x) :: [f, f'].zip [v, u]).reverse) = some (.ref x) := by simp [List.lookup, n1, n2]
          rw [show execs body = execs [supS p0 p1 p2 p3 p4 [.Name f q, .Name f' q'], stoS f q1 q2 q3 q4, stoS f' z1 z2 z3 z4] from by rw [hbody]]
          refine ks_wpAt_execs_cons (sup_run (n := 2) T I r1 hx1 hns ls (one_le (by decide)) (fun s1 Q1 => aev_cons I.kind N.loc N.dbg lf (aev_cons I.kind N'.loc N'.dbg lf' aev_nil) _ _ _ s1 Q1) (fun h2 tk t1 k e => wpAt_of_wpAny ?_) rfl rfl (S _ _ _ _ _))
          have X2 := kin_but r1.kin hnx k
          have ns2 := ns_but hns xL k
          refine wpAny_execs_cons (plainObj_wpAny_Assign_Attribute (ldN I.kind N.loc N.dbg ns2 lf (ldN I.kind I.hka (by decide) ns2 ls ?_)))
          refine set_plain X2 (ox := excO C t1) (od := none) ⟨e, rfl, rfl, trivial⟩ I.sa ?_
          refine exc_osa X2 e hcl hm hhd N.no (fun h3 tk3 dx k3 dn dne hx3 hn3 => ?_)
          have X3 := kin_but X2 hnx k3
          have ns3 := ns_but ns2 xL k3
          have hd3 : h2.objs.size ≤ dx := dn
          have big2 : s.heap.objs.size < h2.objs.size := ns2.lt
          have old : ∀ b o, s.heap.get? b = some o → b ≠ dx := fun b o z => Nat.ne_of_lt (Nat.lt_of_lt_of_le (Nat.lt_trans (Heap.lt_size z) big2) hd3)
          show wpAny _ _ (execs [stoS f' z1 z2 z3 z4] _) _ _ _
          have w1 : Within (fun y => if y = f then some v else none) [f] := Within.cons f v Within.nil
          obtain ⟨oD, esD, epD, hoD, hdD, _⟩ := hn3.count w1
          refine wpAny_execs_cons (plainObj_wpAny_Assign_Attribute (ldN I.kind N'.loc N'.dbg ns3 lf' (ldN I.kind I.hka (by decide) ns3 ls ?_)))
          refine set_plain X3 (ox := { cls := .ref C, dict := some dx, data := .fields #[.ref t1, .none, .none, .none, .bool false, .none] }) (od := some oD) ⟨hx3, rfl, rfl, hoD⟩ I.sa ?_
          refine osa_more X3 hx3 hn3 w1 (by simp) hcl hm hhd N'.no (fun h4 tk4 k4 hn4 => ?_)
          refine wpAny_execs_nil (hq h4 tk4 ⟨fun b o hb z => k4 b o (old b o z) (k3 b o hb (k b o hb (k₁ b o z))), .inr ⟨dx, t1, k4 _ _ (Ne.symm dne) hx3, Nat.le_of_lt (Nat.lt_of_lt_of_le big2 hd3), dne, ?_⟩⟩)
          have e2 : (fun y => List.lookup y ([f, f'].zip [v, u])) = (fun y => if y = f' then some u else if y = f then some v else none) := by
            funext y
            by_cases c : y = f
            · subst c; simp [List.lookup, ff]
            · have c' : (y == f) = false := beq_false_of_ne c
              by_cases d : y = f'
              · subst d; simp [List.lookup, c']
              · have d' : (y == f') = false := beq_false_of_ne d
                simp [List.lookup, c, c', d, d']
          rw [e2]
          exact hn4
end
end DvX
end PySem
namespace Dv
open PySem L2 PySem.DvX PySem.HandSPX PySem.W

/-- an error made: its fields gs -/
def MadeE (H H' : Hp) (e C : Addr) (gs : List (Str × V)) : Prop := H e = none ∧ ((gs = [] ∧ H' e = some (ErrO e (.ref C) none)) ∨ ∃ d, H d = none ∧ H' e = some (ErrO e (.ref C) (some d)) ∧ H' d = some (.xd gs))
theorem lookup_zip {fs : List Str} : ∀ {vs : List V} {us : List Value}, Vals vs us → ∀ f, RelO (List.lookup f (fs.zip vs)) (List.lookup f (fs.zip us)) := by
  induction fs with
  | nil => intro vs us r f; exact trivial
  | cons g fs ih =>
    intro vs us r f
    cases r with
    | nil => exact trivial
    | cons r1 r2 =>
      show RelO (List.lookup f ((g, _) :: fs.zip _)) (List.lookup f ((g, _) :: fs.zip _))
      simp only [List.lookup]
      cases c : f == g with
      | true => exact r1
      | false => exact ih r2 f
section
variable {X : Cx} {pins : List (Addr × Obj)} {σ : St} {H : Hp} {s : Shared} {C fI cc cda : Addr} {name qual : Str} {par : Arguments} {body : List Stmt} {sc : Scope} {fs : List Str}
theorem rm_of (I : Inv X pins σ H s) : Rm X.K X.mg s.heap := ⟨I.kIn, I.ok.mod.glob.keeps I.bk, let ⟨mb, a, b⟩ := I.ok.mod.blt; ⟨mb, a.keeps I.bk, b⟩, I.nolimit⟩
theorem errO_ok {P : Program} {w : World} {h : Heap} {a : Addr} {cls : Value} {d : Option Addr} {oe : Obj} {vs : Array Value} (e : h.get? a = some oe) (z : Zc cls d oe) (q : oe.data = .fields vs) : ObjOk P w H h a (ErrO a cls d) :=
  ⟨⟨oe, vs, e, z, q⟩, ⟨oe, e⟩, fun _ _ ⟨o, v, q, r⟩ k => ⟨o, v, k o q, r⟩⟩
/-- C(..): a new error -/
theorem make_ok (T : CF X.K C) (J : IF X.K X.prog X.mg C fI name qual par body sc cc cda) (B : Body body sc fs) (hf : ∀ f ∈ fs, Nm X.K C sc f) (hnd : fs.Nodup) {us : List Value} {kw : List (Str × Value)} {fv : List Value} {vs : List V} {k : Nat} {Q : VK}
    (hl : fv.length = fs.length) (hz : us.length ≤ sizeLine) (hr : Room k X.A)
    (bt : ∀ s x doc pm an ct, BindsTo s (ksFn name qual par body sc .none .none doc pm an (.ref cda) ct cc) ⟨.ref x :: us, kw⟩ (("self", .ref x) :: fs.zip fv))
    (I : Inv X pins σ H s) (r : Vals vs fv) (h : ∀ e H', Same H H' → MadeE H H' e C (fs.zip vs) → Q (.ref e) H') : wpAny (model X.prog X.w) X.A (call (.ref C) us kw) (EP X pins σ Q) X.xe s := by
  have rm := rm_of I
  obtain ⟨nm, q, N, bs, bm, sn, sub, ab, col, dd, k0, k1, k2, k3, k5, hC, hbm⟩ := T.cls
  obtain ⟨hp, g, d, tk, os⟩ := s
  have up : ∀ b o, hp.get? b = some o → ((hp.push (kdv_tup us)).push (excO C hp.objs.size)).get? b = some o := fun b o e => Heap.get?_push_of_some _ (Heap.get?_push_of_some _ e)
  have hx : ((hp.push (kdv_tup us)).push (excO C hp.objs.size)).get? (hp.objs.size + 1) = some (excO C hp.objs.size) := by heap_get
  have out : ∀ o, hp.get? (hp.objs.size + 1) ≠ some o := fun o e => absurd (Nat.lt_of_succ_lt (Heap.lt_size e)) (Nat.lt_irrefl _)
  have hnx : X.K.lookup (hp.objs.size + 1) = none := by
    cases e : X.K.lookup (hp.objs.size + 1) with
    | none => rfl
    | some o => exact absurd (rm.kin _ _ e) (out o)
  have hnG : hp.objs.size + 1 ≠ mainGlobals := fun e => by
    obtain ⟨oL, es, ep, hL, _⟩ := rm.glob
    exact out oL (by rw [e]; exact hL)
  refine wpAny_call (DvX.made F.excBase_ValueError (fun X => refsVE_contains X bm hbm) (rm.kin _ _ hC) (looks_findIn rm.kin J.iC) (fun self => bind_fn rm.kin self J.tC) hz ?_)
  refine DvX.ini (s := ⟨(hp.push (kdv_tup us)).push (excO C hp.objs.size), g, d, tk, os⟩) T J B hf hnd hl (rm.keeps up) hx hnx hnG ?_ (fun doc pm an ct => bt _ _ doc pm an ct) fun h' tk' D => ⟨rfl, ?_⟩
  · have := hr.dp
    show X.A.depth + 1 < recursionLimit
    omega
  have sz : ((hp.push (kdv_tup us)).push (excO C hp.objs.size)).objs.size = hp.objs.size + 1 + 1 := by rw [Heap.size_push, Heap.size_push]
  have old : ∀ b o, hp.get? b = some o → h'.get? b = some o := fun b o e => D.keep b o (fun z => out o (by rw [← z]; exact e)) (up b o e)
  have nH : ∀ a, hp.objs.size ≤ a → H a = none := fun a ha => I.hok.fresh ha
  have ne := nH (hp.objs.size + 1) (Nat.le_succ _)
  rcases D.obj with ⟨hz0, t, ho⟩ | ⟨dx, t, ho, dn, dne, hns⟩
  · have z0 : fs.zip vs = [] := by
      cases fs with
      | nil => rfl
      | cons f fs =>
        cases fv with
        | nil => cases hl
        | cons v fv => simp at hz0
    have J2 := I.laid (t' := tk') (h' := h') (a := hp.objs.size + 1) (o := ErrO (hp.objs.size + 1) (.ref C) none) old (Nat.le_succ _) (errO_ok ho ⟨rfl, rfl⟩ rfl)
    exact ⟨.ref (hp.objs.size + 1), _, J2, rfl, h _ _ (same_new ne) ⟨ne, .inl ⟨z0, upd_same ..⟩⟩⟩
  · have dn' : hp.objs.size + 1 + 1 ≤ dx := by rw [← sz]; exact dn
    have hdx : hp.objs.size ≤ dx := Nat.le_trans (Nat.le_trans (Nat.le_succ _) (Nat.le_succ _)) dn'
    have nd := nH dx hdx
    obtain ⟨G, g1, g2⟩ := restrict h' fun b => decide (b ≠ hp.objs.size + 1)
    have gk : ∀ b, b ≠ hp.objs.size + 1 → G.get? b = h'.get? b := fun b hb => g1 b (decide_eq_true hb)
    have ge : G.get? (hp.objs.size + 1) = none := g2 _ (by simp)
    have oldG : ∀ b o, hp.get? b = some o → G.get? b = some o := fun b o z => (gk b (fun y => out o (by rw [← y]; exact z))).trans (old b o z)
    have up2 : ∀ b o, G.get? b = some o → h'.get? b = some o := fun b o z => by
      by_cases hb : b = hp.objs.size + 1
      · rw [hb, ge] at z; cases z
      · exact (gk b hb).symm.trans z
    have ob : ObjOk X.prog X.w (upd H dx (.xd (fs.zip vs))) G dx (.xd (fs.zip vs)) := ⟨_, hns.at (fun o q => (gk dx dne).trans q), fun f => lookup_zip r f⟩
    have J2 : Inv X pins σ (upd H dx (.xd (fs.zip vs))) ⟨G, g, d, tk', os⟩ := I.laid (t' := tk') oldG hdx ob
    have ne2 : upd H dx (.xd (fs.zip vs)) (hp.objs.size + 1) = none := by rw [upd_ne (Ne.symm dne)]; exact ne
    have J3 := J2.laidN (t' := tk') (h' := h') (a := hp.objs.size + 1) (o := ErrO (hp.objs.size + 1) (.ref C) (some dx)) up2 ge ne2 (errO_ok ho ⟨rfl, rfl⟩ rfl)
    refine ⟨.ref (hp.objs.size + 1), _, J3, rfl, h _ _ (fun a o z => same_new ne2 a o (same_new nd a o z)) ⟨ne, .inr ⟨dx, nd, upd_same .., ?_⟩⟩⟩
    rw [upd_ne dne]
    exact upd_same ..
end
end Dv
namespace Dv
open PySem L2 PySem.DvX PySem.HandSPX PySem.W

/-- all that a class of errors with own __init__ must say -/
structure ErF (K : Frag) (prog : Program) (mg : Str → Option Value) (C : Addr) (x : Str) (fs : List Str) : Prop where
  gC : mg x = some (.ref C)
  T : CF K C
  ex : ∃ fI cc cda name qual par body sc, IF K prog mg C fI name qual par body sc cc cda ∧ Body body sc fs ∧ (∀ f ∈ fs, Nm K C sc f) ∧ fs.Nodup ∧
    (∀ us : List Value, us.length = fs.length → ∀ s x doc pm an ct, BindsTo s (ksFn name qual par body sc .none .none doc pm an (.ref cda) ct cc) ⟨.ref x :: us, []⟩ (("self", .ref x) :: fs.zip us)) ∧
    (∀ us : List Value, us.length = fs.length → ∀ s x doc pm an ct, BindsTo s (ksFn name qual par body sc .none .none doc pm an (.ref cda) ct cc) ⟨[.ref x], fs.zip us⟩ (("self", .ref x) :: fs.zip us)) ∧
    (∀ us : List Value, us.length = fs.length → ∀ s x doc pm an ct, BindsTo s (ksFn name qual par body sc .none .none doc pm an (.ref cda) ct cc) ⟨[.ref x], fs.reverse.zip us⟩ (("self", .ref x) :: fs.zip us.reverse))

def rv {α : Type} (rev : Bool) (xs : List α) : List α := if rev then xs.reverse else xs
def mErr (c : Nat) (fs : List Str) (rev : Bool) (ml : ML) : MD := fun ρ μ => (ml ρ μ).bind fun us μ1 => if us.length = fs.length ∧ us.length ≤ 100 then (ofO μ1 (toDs us)).bind fun ds μ2 => .val (.d (.err c (fs.zip (rv rev ds)))) μ2 else .stuck
theorem rv_len {α : Type} {rev : Bool} {xs : List α} : (rv rev xs).length = xs.length := by
  unfold rv
  split <;> simp
theorem vals_rev {vs : List V} {us : List Value} (r : Vals vs us) : Vals vs.reverse us.reverse := by
  induction r with
  | nil => exact .nil
  | cons a b ih =>
    rw [List.reverse_cons, List.reverse_cons]
    exact ih.append (.cons a .nil)
theorem vals_rv {rev : Bool} {vs : List V} {us : List Value} (r : Vals vs us) : Vals (rv rev vs) (rv rev us) := by
  unfold rv
  split
  · exact vals_rev r
  · exact r
theorem RepL.rv {K : Frag} {ca : Nat → Addr} {ms : Ms} {H : Hp} {rev : Bool} {xs : List D} {vs : List V} (r : RepL K ca ms H xs vs) : RepL K ca ms H (rv rev xs) (rv rev vs) := by
  unfold Dv.rv
  split
  · refine ⟨by simp [r.1], fun i x v a b => ?_⟩
    have li : i < xs.length := by
      have := (List.getElem?_eq_some_iff.mp a).1
      simpa using this
    rw [List.getElem?_reverse li] at a
    rw [List.getElem?_reverse (by rw [← r.1]; exact li), ← r.1] at b
    exact r.2 _ x v a b
  · exact r
theorem fst_zip {α : Type} : ∀ {fs : List Str} {xs : List α}, xs.length = fs.length → (fs.zip xs).map (·.1) = fs
  | [], [], _ => rfl
  | f :: fs, x :: xs, h => by
    show f :: (fs.zip xs).map (·.1) = f :: fs
    rw [fst_zip (by simpa using h)]
  | [], _ :: _, h => by cases h
  | _ :: _, [], h => by cases h
section
variable {X : Cx} {ca : Nat → Addr} {W : WX}
theorem rep_err {K : Frag} {ms : Ms} {H H' : Hp} {μ : Mem} {c : Nat} {e : Addr} {fs : List Str} {ds : List D} {vs : List V} (r : RelM K ca μ ms H) (l : RepL K ca ms H ds vs) (hl : ds.length = fs.length) (m : MadeE H H' e (ca c) (fs.zip vs)) (s : Same H H') : Rep K ca ms H' (.err c (fs.zip ds)) (.ref e) := by
  obtain ⟨ne, h⟩ := m
  have oe := r.out ne
  rcases h with ⟨z, h⟩ | ⟨d, nd, h1, h2⟩
  · have z0 : fs.zip ds = [] := by
      cases fs with
      | nil => rfl
      | cons f fs =>
        cases vs with
        | nil => rw [l.1] at hl; cases hl
        | cons v vs => simp at z
    rw [z0]
    exact .err0 h oe
  · refine .err h1 h2 oe (r.out nd) (by rw [fst_zip hl, fst_zip (by rw [← l.1]; exact hl)]) fun i x v a b => ?_
    obtain ⟨a1, a2⟩ := List.getElem?_zip_eq_some.mp a
    obtain ⟨b1, b2⟩ := List.getElem?_zip_eq_some.mp b
    exact (l.2 i x.2 v.2 a2 b2).ext s
theorem big_ok {n : Nat} (h : n ≤ 100) : n ≤ sizeLine := by
  rw [sizeLine_eq]
  omega
/-- behind the arguments -/
theorem fin_err {pins : List (Addr × Obj)} {σ : St} {H : Hp} {s : Shared} {ms : Ms} {μ : Mem} {us : List U} {c : Nat} {fs : List Str} {rev : Bool} {vs : List V} {ws us' : List Value} {kw : List (Str × Value)} {k : Nat} {x : Str} {Q : VK}
    (E : ErF X.K X.prog X.mg (ca c) x fs) (hr : Room k X.A) (I : Inv X pins σ H s) (r : RelM X.K ca μ ms H) (p : RepUL X.K ca ms H us vs) (z : Vals vs ws)
    (h : Af X.K ca (RepU X.K ca) W σ ms H (if us.length = fs.length ∧ us.length ≤ 100 then (ofO μ (toDs us)).bind fun ds μ2 => .val (.d (.err c (fs.zip (rv rev ds)))) μ2 else .stuck) Q)
    (hk : (us' = ws ∧ kw = [] ∧ rev = false) ∨ (us' = [] ∧ kw = fs.zip ws ∧ rev = false) ∨ (us' = [] ∧ kw = fs.reverse.zip ws ∧ rev = true)) :
    wpAny (model X.prog X.w) X.A (call (.ref (ca c)) us' kw) (EP X pins σ Q) X.xe s := by
  by_cases hc : us.length = fs.length ∧ us.length ≤ 100
  · rw [if_pos hc] at h
    cases hd : toDs us with
    | none => rw [hd] at h; exact (show False from h).elim
    | some ds =>
      rw [hd] at h
      have h' : ∀ v H' ms', Keep X.K ca ms H ms' H' → RelM X.K ca μ ms' H' → RepU X.K ca ms' H' (.d (.err c (fs.zip (rv rev ds)))) v → Q v H' := h
      have l := repL_of p hd
      have lw : ws.length = fs.length := by rw [← z.length, ← p.1]; exact hc.1
      have ld : ds.length = fs.length := by rw [l.1, z.length]; exact lw
      obtain ⟨fI, cc, cda, name, qual, par, body, sc, J, B, hf, hnd, b1, b2, b3⟩ := E.ex
      have fin : ∀ e H', Same H H' → MadeE H H' e (ca c) (fs.zip (rv rev vs)) → Q (.ref e) H' := fun e H' sm m =>
        h' _ H' ms (r.keep_ext sm) (r.ext sm ⟨rfl, rfl⟩) (rep_err (ds := rv rev ds) r l.rv (by rw [rv_len]; exact ld) m sm)
      rcases hk with ⟨rfl, rfl, rfl⟩ | ⟨rfl, rfl, rfl⟩ | ⟨rfl, rfl, rfl⟩
      · exact make_ok E.T J B hf hnd (fv := us') lw (big_ok (by rw [lw, ← hc.1]; exact hc.2)) hr (fun s x doc pm an ct => b1 us' lw s x doc pm an ct) I z fin
      · exact make_ok E.T J B hf hnd (fv := ws) lw (big_ok (by simp)) hr (fun s x doc pm an ct => b2 ws lw s x doc pm an ct) I z fin
      · exact make_ok E.T J B hf hnd (fv := ws.reverse) (by simp [lw]) (big_ok (by simp)) hr (fun s x doc pm an ct => b3 ws lw s x doc pm an ct) I (vals_rev z) fin
  · rw [if_neg hc] at h
    exact (show False from h).elim
/-- C(e, ..) -/
theorem re_err {c : Nat} {x : Str} {fs : List Str} {e : Expr} {es : List Expr} {ml : ML} {p pos : Pos} {k : Nat} (E : ErF X.K X.prog X.mg (ca c) x fs) (hr : Room k X.A) (ha : PA X (e :: es) (rdA X.K ca W ml)) (hg : Gl X x := by rfl) (hdb : (x == ("__debug__" : Str)) = false := by decide)
    (he : starEach (e :: es) X.env = (false, eval e X.env) :: starEach es X.env := by rfl) (hpl : (backTo pos (starEach es X.env)).any (·.1) = false := by rfl) : PE X (.Call (.Name x p) (e :: es) [] pos) (rdE X.K ca W (mErr c fs false ml)) := by
  refine ⟨fun pins s σ H Q I ⟨ms, ρ, μ, en, r, h⟩ => ?_⟩
  refine wpAny_Call_Name_kw (ld_glob I hg E.gC ?_ hdb)
  refine PySem.W.callWith_K (h₀ := X.base) I.ok.mod.kin E.T.kC (thn (ha.run pos pins s σ H (fun vs H1 => ∃ us ms1 μ1, RelM X.K ca μ1 ms1 H1 ∧ RepUL X.K ca ms1 H1 us vs ∧ Af X.K ca (RepU X.K ca) W σ ms1 H1 (if us.length = fs.length ∧ us.length ≤ 100 then (ofO μ1 (toDs us)).bind fun ds μ2 => .val (.d (.err c (fs.zip (rv false ds)))) μ2 else .stuck) Q) I
    (af_bind en r h fun us μ1 vs H1 ms1 k1 r1 p1 h1 => ⟨us, ms1, μ1, r1, p1, h1⟩)) fun ws s1 ⟨vs, H1, I1, z, us, ms1, μ1, r1, p1, h1⟩ => ⟨I1.kIn, ?_⟩) he hpl
  exact fin_err E hr I1 r1 p1 z h1 (.inl ⟨rfl, rfl, rfl⟩)
/-- C() -/
theorem re_err0 {c : Nat} {x : Str} {p pos : Pos} {k : Nat} (E : ErF X.K X.prog X.mg (ca c) x []) (hr : Room k X.A) (hg : Gl X x := by rfl) (hdb : (x == ("__debug__" : Str)) = false := by decide) : PE X (.Call (.Name x p) [] [] pos) (rdE X.K ca W (mErr c [] false mNil)) := by
  refine ⟨fun pins s σ H Q I ⟨ms, ρ, μ, en, r, h⟩ => ?_⟩
  refine wpAny_Call_Name_kw (ld_glob I hg E.gC ?_ hdb)
  exact PySem.W.callWith_K0 I.kIn E.T.kC (fin_err (us := []) (vs := []) (ws := []) E hr I r ⟨rfl, fun i x v h => by simp at h⟩ .nil h (.inl ⟨rfl, rfl, rfl⟩))

/-! ### keywords -/
abbrev PKr (X : Cx) (ca : Nat → Addr) (W : WX) (kws : List Keyword) (ml : ML) : Prop := PK X kws (rdA X.K ca W ml)
theorem pk_imp {kws : List Keyword} {t t' : TA} (h : PK X kws t) (k : ∀ σ H Q, t' σ H Q → t σ H Q) : PK X kws t' := ⟨fun pos pins s σ H Q I q => h.run pos pins s σ H Q I (k σ H Q q)⟩
theorem rk_nil : PK X [] (rdA X.K ca W mNil) := pk_imp pk_nil fun σ H Q ⟨ms, ρ, μ, e, r, h⟩ => Af.at (a := ([] : List U)) h r ⟨rfl, fun i x v h1 => by simp at h1⟩
theorem rk_cons {a : Expr} {nm : Option Str} {kpos : Pos} {kws : List Keyword} {ma : MD} {mr : ML} (ha : PE X a (rdE X.K ca W ma)) (hr : PK X kws (rdA X.K ca W mr)) : PK X (⟨nm, a, kpos⟩ :: kws) (rdA X.K ca W (mCons ma mr)) := by
  refine pk_imp (pk_cons ha hr) fun σ H Q ⟨ms, ρ, μ, e, r, h⟩ => ?_
  refine af_bind e r h fun x μ1 v H1 ms1 k1 r1 p1 h1 => af_bind (e.keep k1) r1 h1 fun xs μ2 vs H2 ms2 k2 r2 p2 h2 => ?_
  refine Af.at h2 r2 ⟨by simp only [List.length_cons]; rw [p2.1], fun i y w h3 h4 => ?_⟩
  cases i with
  | zero =>
    simp only [List.getElem?_cons_zero, Option.some.injEq] at h3 h4
    subst h3; subst h4
    exact k2.all _ _ p1
  | succ i =>
    simp only [List.getElem?_cons_succ] at h3 h4
    exact p2.2 i y w h3 h4
/-- C(f = e, ..) -/
theorem re_errK {c : Nat} {x : Str} {fs : List Str} {rev : Bool} {kws : List Keyword} {ml : ML} {p pos : Pos} {k : Nat} (E : ErF X.K X.prog X.mg (ca c) x fs) (hr : Room k X.A) (hkw : PK X kws (rdA X.K ca W ml)) (hall : (backToKw pos (keywordEach kws X.env)).all (·.1.isSome) = true := by rfl)
    (hks : (backToKw pos (keywordEach kws X.env)).filterMap (·.1) = (if rev then fs.reverse else fs) := by rfl) (hg : Gl X x := by rfl) (hdb : (x == ("__debug__" : Str)) = false := by decide)
    (hpl : ((backTo pos (starEach [] X.env)).any (·.1) || (backToKw pos (keywordEach kws X.env)).any (·.1.isNone)) = false := by rfl) : PE X (.Call (.Name x p) [] kws pos) (rdE X.K ca W (mErr c fs rev ml)) := by
  refine ⟨fun pins s σ H Q I ⟨ms, ρ, μ, en, r, h⟩ => ?_⟩
  refine wpAny_Call_Name_kw (ld_glob I hg E.gC ?_ hdb)
  refine PySem.W.callWith_KW0 (h₀ := X.base) I.ok.mod.kin E.T.kC hall (thn (hkw.run pos pins s σ H (fun vs H1 => ∃ us ms1 μ1, RelM X.K ca μ1 ms1 H1 ∧ RepUL X.K ca ms1 H1 us vs ∧ Af X.K ca (RepU X.K ca) W σ ms1 H1 (if us.length = fs.length ∧ us.length ≤ 100 then (ofO μ1 (toDs us)).bind fun ds μ2 => .val (.d (.err c (fs.zip (rv rev ds)))) μ2 else .stuck) Q) I
    (af_bind en r h fun us μ1 vs H1 ms1 k1 r1 p1 h1 => ⟨us, ms1, μ1, r1, p1, h1⟩)) fun ws s1 ⟨vs, H1, I1, z, us, ms1, μ1, r1, p1, h1⟩ => ⟨I1.kIn, ?_⟩) hpl
  rw [hks]
  cases rev with
  | false => exact fin_err E hr I1 r1 p1 z h1 (.inr (.inl ⟨rfl, rfl, rfl⟩))
  | true => exact fin_err E hr I1 r1 p1 z h1 (.inr (.inr ⟨rfl, rfl, rfl⟩))
end
end Dv
namespace Dv
open PySem L2

/-! ### repr -/
mutual
inductive Rz (h : Heap) : Value → PyData → Prop
  | non : Rz h .none .none
  | bl (b : Bool) : Rz h (.bool b) (.bool b)
  | int (i : Int) (t : Tok) : Rz h (.int i t) (.int i)
  | str (x : Str) (t : Tok) : Rz h (.str x t) (.str x)
  | lst {a : Addr} {o : Obj} {vs : Array Value} {n : Nat} {xs : List PyData} : h.get? a = some o → o.cls = .type "list" → o.data = .seq vs n → RzL h vs.toList xs → Rz h (.ref a) (.list xs)
  | tup {a : Addr} {o : Obj} {vs : Array Value} {n : Nat} {xs : List PyData} : h.get? a = some o → o.cls = .type "tuple" → o.data = .seq vs n → RzL h vs.toList xs → Rz h (.ref a) (.tuple xs)
  | dic0 {a : Addr} {o : Obj} {n : Nat} : h.get? a = some o → o.cls = .type "dict" → o.data = .dict #[] n → (a == sysModules) = false → Rz h (.ref a) (.dict [])
inductive RzL (h : Heap) : List Value → List PyData → Prop
  | nil : RzL h [] []
  | cons {v : Value} {vs : List Value} {d : PyData} {ds : List PyData} : Rz h v d → RzL h vs ds → RzL h (v :: vs) (d :: ds)
end
section
variable {h : Heap}
mutual
theorem Rz.reads : ∀ {v : Value} {d : PyData}, Rz h v d → ∃ as, Reads h v d as
  | _, _, .non => ⟨_, .none⟩
  | _, _, .bl b => ⟨_, .bool b⟩
  | _, _, .int i t => ⟨_, .int i t⟩
  | _, _, .str x t => ⟨_, .str x t⟩
  | _, _, .lst a b c r => let ⟨_, q⟩ := RzL.reads r; ⟨_, .list a b c q⟩
  | _, _, .tup a b c r => let ⟨_, q⟩ := RzL.reads r; ⟨_, .tuple a b c q⟩
  | _, _, .dic0 a b c _ => ⟨_, .dict a b c .nil .nil⟩
theorem RzL.reads : ∀ {v : List Value} {d : List PyData}, RzL h v d → ∃ as, ReadsAll h v d as
  | _, _, .nil => ⟨_, .nil⟩
  | _, _, .cons a b => let ⟨_, q⟩ := Rz.reads a; let ⟨_, r⟩ := RzL.reads b; ⟨_, .cons q r⟩
end
variable {prog : Program} {w : World}
mutual
theorem Rz.repr : ∀ {v : Value} {d : PyData}, Rz h v d → d.showable = true → d.shown.length ≤ sizeLine → ∃ bs, ReadAtMost h d.depth bs ∧ ReprK prog w bs h d.depth v d.shown
  | _, _, .non, _, _ => ⟨[], (fun _ z => nomatch z), by simp only [PyData.shown]; exact .of_is ReprIs.none _ _ _⟩
  | _, _, .bl b, _, _ => ⟨[], (fun _ z => nomatch z), by simp only [PyData.shown]; exact .of_is (ReprIs.bool b) _ _ _⟩
  | _, _, .int i t, s, _ => ⟨[], (fun _ z => nomatch z), by simp only [PyData.shown]; exact .of_is (ReprIs.int t (by simpa [PyData.showable] using s)) _ _ _⟩
  | _, _, .str x t, _, z => ⟨[], (fun _ z => nomatch z), by simp only [PyData.shown]; exact .of_is (ReprIs.str x t (by simpa only [PyData.shown] using z)) _ _ _⟩
  | _, _, .lst (a := a) (vs := vs) (xs := xs) e1 e2 e3 r, s, z => by
    have z1 : (listText (PyData.shownAll xs)).length ≤ sizeLine := by simpa only [PyData.shown] using z
    obtain ⟨bs, hb, hk⟩ := RzL.repr r (by simpa [PyData.showable] using s) fun t ht => Nat.le_trans (listText_mem_le ht) z1
    obtain ⟨as, q⟩ := Rz.reads (.lst e1 e2 e3 r)
    have na : a ∉ bs := not_mem_of_deeper q (by simp only [PyData.depth]; omega) hb
    refine ⟨a :: bs, ReadAtMost.cons q (by simp only [PyData.depth]; omega) hb, ?_⟩
    simp only [PyData.depth, PyData.shown]
    obtain ⟨l⟩ := vs
    cases l with
    | nil =>
      have r' : RzL h [] xs := r
      cases r'
      simp only [PyData.shownAll, listText_nil]
      exact ReprK.listEmpty e1 e2 e3
    | cons x l => exact ReprK.list e1 e2 e3 na (by simpa using hk.length_eq) (fun i y e => hk.item i y (by simpa using e))
  | _, _, .tup (a := a) (xs := xs) e1 e2 e3 r, s, z => by
    have z1 : (tupleText (PyData.shownAll xs)).length ≤ sizeLine := by simpa only [PyData.shown] using z
    obtain ⟨bs, hb, hk⟩ := RzL.repr r (by simpa [PyData.showable] using s) fun t ht => Nat.le_trans (tupleText_mem_le ht) z1
    obtain ⟨as, q⟩ := Rz.reads (.tup e1 e2 e3 r)
    have na : a ∉ bs := not_mem_of_deeper q (by simp only [PyData.depth]; omega) hb
    refine ⟨a :: bs, ReadAtMost.cons q (by simp only [PyData.depth]; omega) hb, ?_⟩
    simp only [PyData.depth, PyData.shown]
    exact ReprK.tuple e1 e2 e3 na hk
  | _, _, .dic0 (a := a) e1 e2 e3 e4, s, z => by
    obtain ⟨as, q⟩ := Rz.reads (.dic0 e1 e2 e3 e4)
    refine ⟨[a], ReadAtMost.cons (n := 0) q (Nat.zero_le _) (fun _ y => nomatch y), ?_⟩
    simp only [PyData.depth, PyData.shown, PyData.shownKv_eq]
    exact ReprK.dict e1 e2 e3 e4 (by simp) .nil
theorem RzL.repr : ∀ {vs : List Value} {ds : List PyData}, RzL h vs ds → PyData.showableAll ds = true → (∀ t ∈ PyData.shownAll ds, t.length ≤ sizeLine) → ∃ bs, ReadAtMost h (PyData.depthAll ds) bs ∧ ReprAllK prog w bs h (PyData.depthAll ds) vs (PyData.shownAll ds)
  | _, _, .nil, _, _ => ⟨[], (fun _ z => nomatch z), by simp only [PyData.shownAll]; exact .nil⟩
  | _, _, .cons (d := d) (ds := ds) r rs, s, z => by
    have s1 : d.showable = true ∧ PyData.showableAll ds = true := by simpa [PyData.showableAll] using s
    obtain ⟨b1, h1, k1⟩ := Rz.repr r s1.1 (z _ (by simp only [PyData.shownAll]; exact List.mem_cons_self ..))
    obtain ⟨b2, h2, k2⟩ := RzL.repr rs s1.2 (fun t ht => z t (by simp only [PyData.shownAll]; exact List.mem_cons_of_mem _ ht))
    refine ⟨b1 ++ b2, (h1.mono ?_).append (h2.mono ?_), ?_⟩
    · simp only [PyData.depthAll]; exact Nat.le_max_left _ _
    · simp only [PyData.depthAll]; exact Nat.le_max_right _ _
    · simp only [PyData.depthAll, PyData.shownAll]
      exact .cons ((k1.more fun b hb => List.mem_append_left _ hb).level_le (Nat.le_max_left _ _)) (k2.more_le (fun b hb => List.mem_append_right _ hb) (Nat.le_max_right _ _))
end
/-- repr of a list -/
theorem repr_lst {A : Around} {E : Value → Shared → Prop} {s : Shared} {Q : Value → Shared → Prop} {a : Addr} {xs : List PyData} (r : Rz s.heap (.ref a) (.list xs)) (hs : PyData.showableAll xs = true) (hg : A.guards = some []) (hu : A.units + (PyData.depthAll xs + 2) < cLine)
    (hz : (listText (PyData.shownAll xs)).length ≤ sizeLine) (hQ : ∀ h' u tk, (∀ b o, s.heap.get? b = some o → h'.get? b = some o) → Q (.str (listText (PyData.shownAll xs)) u) { s with heap := h', toks := tk }) : wpAny (model prog w) A (call (.builtin "repr") [.ref a]) Q E s := by
  cases r with
  | lst e1 e2 e3 r =>
    rename_i o vs n
    obtain ⟨bs, hb, hk⟩ := RzL.repr (prog := prog) (w := w) r hs fun t ht => Nat.le_trans (listText_mem_le ht) hz
    obtain ⟨as, q⟩ := Rz.reads (.lst e1 e2 e3 r)
    have na : a ∉ bs := not_mem_of_deeper q (by simp only [PyData.depth]; omega) hb
    refine call_repr_slot (by omega) ⟨o, e1, e2⟩ F.slot_list_repr.toG ?_
    obtain ⟨l⟩ := vs
    cases l with
    | nil =>
      have r' : RzL s.heap [] xs := r
      cases r'
      simp only [PyData.shownAll, listText_nil] at hQ
      exact call_list_repr_empty ⟨o, e1, e2⟩ e1 e3 ⟨_, _, rfl, hQ s.heap _ _ fun _ _ e => e⟩
    | cons x l =>
      exact call_list_reprK e1 e2 e3 na (by simpa using hk.length_eq) (fun i y e => hk.item i y (by simpa using e)) hg (fun b _ => Clear.nil b) (by show A.units + 1 + _ < cLine; omega) (fun _ _ e => e) (fun h' u tk k => ⟨_, _, rfl, hQ h' u tk k⟩) hz
end
end Dv
namespace Dv
open PySem L2

mutual
def pz : D → Option PyData
  | .non => some .none
  | .bl b => some (.bool b)
  | .int i => some (.int i)
  | .str x => some (.str x)
  | .tup xs => (pzL xs).map .tuple
  | .lst xs => (pzL xs).map .list
  | .dic [] => some (.dict [])
  | _ => none
def pzL : List D → Option (List PyData)
  | [] => some []
  | x :: r => (pz x).bind fun d => (pzL r).bind fun ds => some (d :: ds)
end
section
variable {X : Cx} {ca : Nat → Addr} {ms : Ms} {H : Hp} {μ : Mem} {pins : List (Addr × Obj)} {σ : St} {s : Shared}
theorem dic0_at {a : Addr} (I : Inv X pins σ H s) (h : Rd H a (.dK [])) : ∃ o n, s.heap.get? a = some o ∧ o.cls = .type "dict" ∧ o.data = .dict #[] n ∧ (a == sysModules) = false := by
  have ok : ObjOk X.prog X.w H s.heap a (.dK []) := by
    rcases h with h | ⟨ob, h⟩
    · exact I.hok a _ h
    · exact (I.hok a _ h).2
  obtain ⟨_, hs, vs, kv, o, es, ep, e1, e2, e3, _, e4, _⟩ := ok
  cases kv
  have e5 : es = #[] := by
    obtain ⟨l⟩ := es
    cases l with
    | nil => rfl
    | cons x l => cases e4
  subst e5
  exact ⟨o, ep, e1, e2.1, e3, hs⟩
mutual
theorem rz_of (I : Inv X pins σ H s) : ∀ (x : D) (v : V) (u : Value) (d : PyData), Rep X.K ca ms H x v → RelV v u → pz x = some d → Rz s.heap u d
  | .non, _, _, _, h, r, e => by cases h; simp only [pz] at e; cases e; cases r; exact .non
  | .bl b, _, _, _, h, r, e => by cases h; simp only [pz] at e; cases e; cases r; exact .bl b
  | .int i, _, _, _, h, r, e => by cases h; simp only [pz] at e; cases e; obtain ⟨t, rfl⟩ := r; exact .int i t
  | .str x, _, _, _, h, r, e => by cases h; simp only [pz] at e; cases e; obtain ⟨t, rfl⟩ := r; exact .str x t
  | .tup xs, _, _, _, h, r, e => by
    cases h with
    | tup s l z =>
      simp only [pz, Option.map_eq_some_iff] at e
      obtain ⟨ds, e1, rfl⟩ := e
      cases r
      obtain ⟨its, rv, ⟨o, ho, hc, n, hd⟩, _⟩ := I.tuple s.sq
      exact .tup ho hc hd (rzL_of I xs _ its ds l z rv e1)
  | .lst xs, _, _, _, h, r, e => by
    cases h with
    | lst s n l z =>
      simp only [pz, Option.map_eq_some_iff] at e
      obtain ⟨ds, e1, rfl⟩ := e
      cases r
      obtain ⟨its, rv, ⟨o, n, ho, hc, _, hd⟩, _⟩ := I.list (.inl (.inl s))
      exact .lst ho hc hd (rzL_of I xs _ its ds l z rv e1)
  | .dic [], _, _, _, h, r, e => by
    cases h with
    | dic s n l z =>
      simp only [pz] at e
      cases e
      cases r
      rename_i ws a
      have : ws = [] := by simpa using l.symm
      subst this
      obtain ⟨o, n, h1, h2, h3, h4⟩ := dic0_at I s
      exact .dic0 h1 h2 h3 h4
  | .dic (_ :: _), _, _, _, _, _, e => by simp [pz] at e
  | .scr _, _, _, _, _, _, e => by simp [pz] at e
  | .obj _ _, _, _, _, _, _, e => by simp [pz] at e
  | .err _ _, _, _, _, _, _, e => by simp [pz] at e
  | .thing _, _, _, _, _, _, e => by simp [pz] at e
  | .ty _, _, _, _, _, _, e => by simp [pz] at e
  | .cls _, _, _, _, _, _, e => by simp [pz] at e
theorem rzL_of (I : Inv X pins σ H s) : ∀ (xs : List D) (vs : List V) (us : List Value) (ds : List PyData), xs.length = vs.length → (∀ (i : Nat) x v, xs[i]? = some x → vs[i]? = some v → Rep X.K ca ms H x v) → Vals vs us → pzL xs = some ds → RzL s.heap us ds
  | [], [], _, _, _, _, r, e => by simp only [pzL] at e; cases e; cases r; exact .nil
  | [], _ :: _, _, _, l, _, _, _ => by simp at l
  | _ :: _, [], _, _, l, _, _, _ => by simp at l
  | x :: xs, v :: vs, _, ds, l, z, r, e => by
    simp only [pzL] at e
    cases h1 : pz x with
    | none => rw [h1] at e; simp at e
    | some d =>
      cases h2 : pzL xs with
      | none => rw [h1, h2] at e; simp at e
      | some es =>
        rw [h1, h2] at e
        simp only [Option.bind_some, Option.some.injEq] at e
        subst e
        cases r with
        | cons r1 r2 => exact .cons (rz_of I x v _ d (z 0 x v rfl rfl) r1 h1) (rzL_of I xs vs _ es (by simpa using l) (fun i y w a b => z (i + 1) y w (by simpa using a) (by simpa using b)) r2 h2)
end
end
def reprD (μ : Mem) (u : U) : Option D := (asL μ u).bind fun xs => (pzL xs).bind fun ds => if PyData.showableAll ds && decide (PyData.depthAll ds ≤ 60) && decide ((listText (PyData.shownAll ds)).length ≤ 1000000) then some (.str (listText (PyData.shownAll ds))) else none
theorem c_repr {X : Cx} {ca : Nat → Addr} (hg : X.A.guards = some []) (hu : X.A.units + 64 < cLine) : CallR X (.builtin "repr") (rDn X.K ca (one reprD)) := by
  intro pins s σ H xs us Q I r ⟨ms, μ, as, d, rm, ra, e, q⟩
  obtain ⟨u, v, rfl, rfl, p, e⟩ := one_at ra e
  unfold reprD at e
  cases h : asL μ u with
  | none => rw [h] at e; simp at e
  | some ys =>
    obtain ⟨a, vs, rfl, hs, l⟩ := asL_at rm p h
    cases h2 : pzL ys with
    | none => rw [h, Option.bind_some, h2] at e; simp at e
    | some ds =>
      rw [h, Option.bind_some, h2, Option.bind_some] at e
      split at e
      · rename_i hc
        cases e
        simp only [Bool.and_eq_true, decide_eq_true_eq] at hc
        obtain ⟨⟨c1, c2⟩, c3⟩ := hc
        cases r with
        | cons r1 r2 =>
          cases r2
          cases r1
          obtain ⟨its, rv, ⟨o, n, ho, hcl, _, hd⟩, _⟩ := I.list (.inl (.inl hs))
          have z : Rz s.heap (.ref a) (.list ds) := .lst ho hcl hd (rzL_of I ys vs its ds l.1 l.2 rv h2)
          exact repr_lst z c1 hg (by omega) (Nat.le_trans c3 (by rw [sizeLine_eq]; omega)) fun h' t tk k => ⟨.str _, H, I.kept (t' := tk) k, ⟨t, rfl⟩, q _ _ (Same.refl H) fun _ => .str _⟩
      · cases e
end Dv
namespace Dv
open PySem L2 PySem.DvX PySem.HandSPX PySem.W

section
variable {X : Cx} {ca : Nat → Addr} {W : WX} {pos : Pos}
/-! ### {} -/
theorem re_dic0 : PE X (.Dict [] [] pos) (rdE X.K ca W (mC (.dic []))) :=
  pe_imp pe_dnewK fun σ H Q _ ⟨ms, ρ, μ, e, r, h⟩ p hp kf => Af.new (a := U.d (.dic [])) h r (same_new hp) kf (.dic (.inl upd_same) (r.out hp) rfl fun i x v h => by simp at h)
/-! ### classes by name -/
theorem re_cls (n : Nat) {x : Str} (hm : X.mg x = some (.ref (ca n))) (hg : Gl X x := by rfl) (hd : (x == ("__debug__" : Str)) = false := by decide) : PE X (.Name x pos) (rdE X.K ca W (mC (.cls n))) := re_c (pe_glob (v := .ref (ca n)) hg hm rfl hd) fun _ _ => .cls n
theorem re_ty {x : Str} {n : String} (hm : X.mg x = none) (hv : bootBuiltins x = some (.type n)) (hg : Gl X x := by rfl) (hn : x ≠ "__name__" := by decide) (hd : (x == ("__debug__" : Str)) = false := by decide) : PE X (.Name x pos) (rdE X.K ca W (mC (.ty n))) := re_c (pe_bltn (v := .ty n) hg hm hv rfl hn hd) fun _ _ => .ty n

/-! ### a field of an error -/
/-- an error's object, in the heap -/
theorem err_inst {pins : List (Addr × Obj)} {σ : St} {H : Hp} {s : Shared} {e C : Addr} {d : Option Addr} (I : Inv X pins σ H s) (h : H e = some (ErrO e (.ref C) d)) (hd : ∀ dd, d = some dd → ∃ od, s.heap.get? dd = some od) : ∃ oe od, InstAt s.heap e oe C od ∧ ∀ dd, d = some dd → ∃ o, od = some o ∧ s.heap.get? dd = some o := by
  obtain ⟨⟨oe, vs, he, hz, hv⟩, _⟩ := (show ObjOk X.prog X.w H s.heap e (ErrO e (.ref C) d) from I.hok e _ h)
  cases d with
  | none => exact ⟨oe, none, ⟨he, hz.1, by unfold notCls; rw [hv] <;> rfl, by rw [hz.2]; trivial⟩, fun dd z => by cases z⟩
  | some dd =>
    obtain ⟨od, ho⟩ := hd dd rfl
    exact ⟨oe, some od, ⟨he, hz.1, by unfold notCls; rw [hv] <;> rfl, by rw [hz.2]; exact ho⟩, fun d' z => by cases z; exact ⟨od, rfl, ho⟩⟩
def mAttr (ok : Nat → Bool) (f : Str) (me : MD) : MD := fun ρ μ => (me ρ μ).bind fun u μ1 => match u with
  | .d (.err c fs) => if ok c then (ofO μ1 (fs.lookup f)).bind fun d μ2 => .val (.d d) μ2 else .stuck
  | _ => .stuck
theorem lookup_pair {α β : Type} {f : Str} : ∀ {fs : List (Str × α)} {gs : List (Str × β)} {x : α}, fs.map (·.1) = gs.map (·.1) → fs.lookup f = some x → ∃ (i : Nat) (g : Str) (y : β), fs[i]? = some (g, x) ∧ gs[i]? = some (g, y) ∧ gs.lookup f = some y
  | [], _, _, _, h => by cases h
  | (k, a) :: fs, [], _, e, _ => by simp at e
  | (k, a) :: fs, (k', b) :: gs, x, e, h => by
    simp only [List.map_cons, List.cons.injEq] at e
    obtain ⟨rfl, e⟩ := e
    simp only [List.lookup] at h ⊢
    cases c : f == k with
    | true =>
      rw [c] at h
      cases h
      exact ⟨0, k, b, rfl, rfl, rfl⟩
    | false =>
      rw [c] at h
      obtain ⟨i, g, y, h1, h2, h3⟩ := lookup_pair e h
      exact ⟨i + 1, g, y, by simpa using h1, by simpa using h2, h3⟩
/-- e.f -/
theorem re_attr {e : Expr} {me : MD} {f : Str} {ok : Nat → Bool} (hok : ∀ c, ok c = true → CF X.K (ca c) ∧ findIn X.K (.ref (ca c)) f = some none) (he : PE X e (rdE X.K ca W me))
    (hb : attributeBase e f X.env (eval e X.env) = eval e X.env := by rfl) : PE X (.Attribute e f pos) (rdE X.K ca W (mAttr ok f me)) := by
  refine ⟨fun pins s σ H Q I ⟨ms, ρ, μ, en, r, h⟩ => ?_⟩
  refine attr_of hb (thn (he.run pins s σ H (fun v H1 => ∃ u ms1 μ1, RelM X.K ca μ1 ms1 H1 ∧ RepU X.K ca ms1 H1 u v ∧ Af X.K ca (RepU X.K ca) W σ ms1 H1 (match u with | .d (.err c fs) => if ok c then (ofO μ1 (fs.lookup f)).bind fun d μ2 => .val (.d d) μ2 else .stuck | _ => .stuck) Q) I
    (af_bind en r h fun u μ1 v H1 ms1 k1 r1 p1 h1 => ⟨u, ms1, μ1, r1, p1, h1⟩)) fun w s1 ⟨v, H1, I1, rv, u, ms1, μ1, r1, p1, h1⟩ => ?_)
  split at h1
  · rename_i c fs
    by_cases hc : ok c = true
    · rw [if_pos hc] at h1
      obtain ⟨T, no⟩ := hok c hc
      cases hl : fs.lookup f with
      | none => rw [hl] at h1; exact (show False from h1).elim
      | some x =>
        rw [hl] at h1
        have h2 : ∀ v H' ms', Keep X.K ca ms1 H1 ms' H' → RelM X.K ca μ1 ms' H' → RepU X.K ca ms' H' (.d x) v → Q v H' := h1
        cases (show Rep X.K ca ms1 H1 (.err c fs) v from p1) with
        | err0 => cases hl
        | err e1 e2 n1 n2 l z =>
          rename_i gs a dd
          cases rv
          obtain ⟨i, g, y, l1, l2, l3⟩ := lookup_pair l hl
          obtain ⟨mA, hns, hr⟩ := (show ObjOk X.prog X.w H1 s1.heap dd (.xd gs) from I1.hok dd _ e2)
          obtain ⟨od, ho, hlk⟩ := lookIn_ns hns
          obtain ⟨oe, od', J, hJ⟩ := err_inst I1 e1 fun d' q => by cases q; exact ⟨od, ho⟩
          obtain ⟨o2, rfl, q2⟩ := hJ dd rfl
          rw [ho] at q2
          cases q2
          obtain ⟨u, hu, ru⟩ := RelO.some_of (v := y) (o := mA f) (by rw [← l3]; exact hr f)
          exact HandSPX.exc_get I1.kIn J T.ga T.gg T.exC (findObj_own T.hdC no rfl (by rw [hlk, hu])) (handed_of ru) ⟨y, H1, I1.tok _, ru, h2 y H1 ms1 Keep.refl r1 (z i (g, x) (g, y) l1 l2)⟩
    · rw [if_neg hc] at h1
      exact (show False from h1).elim
  · exact (show False from h1).elim

/-! ### isinstance of an error -/
/-- what isinstance asks of an error's class -/
structure IsF (K : Frag) (C : Addr) : Prop where
  T : CF K C
  ha : findIn K (.ref C) "__class__" = some (some (.builtin "object.__class__"))
  hn : specialIn K (.builtin "object.__class__") "__get__" = some (some (.builtin "getset_descriptor.__get__"))
  ht : takesIn K (.builtin "object.__class__") = some true
  hm : mroIn K C (.type "object") = some true
def clsV (ca : Nat → Addr) : D → Option Value
  | .thing a => some (.ref a)
  | .cls n => some (.ref (ca n))
  | .ty n => some (.type n)
  | _ => none
def isiD (tb : Nat → D → Option Bool) (_ : Mem) (us : List U) : Option D := match us with
  | [.d (.err c _), .d k] => (tb c k).map .bl
  | _ => none
theorem c_isi {tb : Nat → D → Option Bool} (hi : ∀ c k b, tb c k = some b → IsF X.K (ca c) ∧ ∃ v, clsV ca k = some v ∧ kitOne X.K (.ref (ca c)) v = some b) : CallR X (.builtin "isinstance") (rDn X.K ca (isiD tb)) := by
  intro pins s σ H xs us Q I r ⟨ms, μ, as, d, rm, ra, e, q⟩
  unfold isiD at e
  split at e
  · rename_i c fs k
    cases hb : tb c k with
    | none => rw [hb] at e; cases e
    | some b =>
      rw [hb] at e
      simp only [Option.map_some, Option.some.injEq] at e
      subst e
      obtain ⟨F, cv, hv, hk⟩ := hi c k b hb
      match xs, ra with
      | [x, y], ra =>
        have p1 : Rep X.K ca ms H (.err c fs) x := ra.2 0 _ x rfl rfl
        have p2 : Rep X.K ca ms H k y := ra.2 1 (.d k) y rfl rfl
        cases r with
        | cons rx rr =>
          cases rr with
          | cons ry rr =>
            cases rr
            rename_i ux uy
            have ey : uy = cv := by
              cases p2 <;> simp only [clsV] at hv <;> first | (cases hv; exact ry) | cases hv
            subst ey
            have fin : ∀ (e : Addr) (oe : Obj) (od : Option Obj), ux = .ref e → InstAt s.heap e oe (ca c) od → wpAny (model X.prog X.w) X.A (call (.builtin "isinstance") [ux, uy]) (EP X pins σ Q) X.xe s := fun e oe od hu J => by
              subst hu
              exact kia_one (PySem.W.kitx_exc (by obtain ⟨cd, z, _⟩ := any_some F.T.hdC; rw [z] <;> rfl) F.T.ga F.T.gg F.T.exC F.ha F.hn F.ht F.hm) I.kIn J hk (fun z => nomatch z) fun tk => ⟨.bl b, H, I.kept (t' := tk) fun _ _ z => z, rfl, q _ _ (Same.refl H) fun _ => .bl b⟩
            cases p1 with
            | err0 e1 n1 =>
              obtain ⟨oe, od, J, _⟩ := err_inst I e1 fun d' q => by cases q
              exact fin _ oe od rx J
            | err e1 e2 n1 n2 l z =>
              rename_i gs a dd
              obtain ⟨mA, hns, hr⟩ := (show ObjOk X.prog X.w H s.heap dd (.xd gs) from I.hok dd _ e2)
              obtain ⟨odd, ho, hlk⟩ := lookIn_ns hns
              obtain ⟨oe, od, J, _⟩ := err_inst I e1 fun d' q => by cases q; exact ⟨odd, ho⟩
              exact fin _ oe od rx J
      | [], ra => exact absurd ra.1 (by simp)
      | [_], ra => exact absurd ra.1 (by simp)
      | _ :: _ :: _ :: _, ra => exact absurd ra.1 (by simp)
  · cases e

/-! ### an error of a class without own __init__ -/
theorem re_errP {c : Nat} {x m : Str} {j : Nat} {bmB : List Value} {B newId initId : String} {p p2 : Pos} (F : ExcBaseFacts B newId initId bmB) (q : PySem.W.excIn X.K (ca c) bmB newId = true) (gC : X.mg x = some (.ref (ca c))) (kC : PySem.W.keepIn X.K (.ref (ca c)) = true) (hg : Gl X x := by rfl)
    (hdb : (x == ("__debug__" : Str)) = false := by decide) : PE X (.Call (.Name x p) [.Constant (.str m) j p2] [] pos) (rdE X.K ca W (mC (.err c []))) := by
  refine ⟨fun pins s σ H Q I ⟨ms, ρ, μ, en, r, h⟩ => ?_⟩
  refine wpAny_Call_Name_kw (ld_glob I hg gC ?_ hdb)
  have ha : PA X [.Constant (.str m) j p2] (tCons (tC (.str m)) tNil) := pa_cons pe_str pa_nil
  refine PySem.W.callWith_K (h₀ := X.base) I.ok.mod.kin kC (thn (ha.run pos pins s σ H (fun vs H1 => vs = [V.str m] ∧ H = H1) I ⟨rfl, rfl⟩) fun us s1 hh => ?_)
  obtain ⟨vs, H1, I1, r1, ev, eH⟩ := hh
  subst ev
  subst eH
  refine ⟨I1.kIn, ?_⟩
  obtain ⟨bm, N, nm, qn, bs, hdct, sn, sub, ab, col, dd, k0, k1, k2, k3, k5, mN, hC, hN, hni, T⟩ := exc_obj I1.kIn q
  refine wpAny_call_exc_subT F T hC hN hni (fun h' e hm => ?_) (by rw [List.nil_append, ← r1.length, sizeLine_eq]; show 1 ≤ _; omega)
  obtain ⟨t, he, _, _⟩ := hm.there
  have ne : H e = none := I1.hok.gone hm.new
  have J := I1.laidN (t' := s1.toks) (h' := h') (a := e) (o := ErrO e (.ref (ca c)) none) hm.keeps hm.new ne (errO_ok he ⟨rfl, rfl⟩ rfl)
  exact ⟨.ref e, _, J, rfl, Af.new (a := U.d (.err c [])) h r (same_new ne) ⟨rfl, rfl⟩ (.err0 upd_same (r.out ne))⟩

/-! ### a, b = x, y -/
theorem rs_par {i j : Nat} {x y : Str} {a b : Expr} {ml : ML} {px py pt : Pos} {kt k2 pt2} (nd : X.N.Nodup) (hc : X.calm = true) (ha : PA X [a, b] (rdA X.K ca W ml)) (hij : i ≠ j := by decide) (hi : X.N[i]? = some x := by rfl) (hj : X.N[j]? = some y := by rfl)
    (hx : X.env.scope.names.lookup x = some .local := by rfl) (hy : X.env.scope.names.lookup y = some .local := by rfl) (hw : swappedStores [.Tuple [.Name x px, .Name y py] kt pt] (.Tuple [a, b] k2 pt2) X.env = pure (some [x, y]) := by rfl)
    (hs : swapsWithSole [.Tuple [.Name x px, .Name y py] kt pt] (.Tuple [a, b] k2 pt2) pos.line X.env = pure false := by rfl) :
    PS X (.Assign [.Tuple [.Name x px, .Name y py] kt pt] (.Tuple [a, b] k2 pt2) pos) (rdS X.K ca W (mPar i j ml)) :=
  ps_imp (ps_par hc nd hi hj hij hx hy ha hw hs) fun D σ H kf ⟨ms, ρ, μ, e, r, h⟩ => af_of e r h fun us μ1 vs H1 ms1 k1 r1 p1 h1 => by
    match us, h1 with
    | [u, w], h1 =>
      match vs, p1 with
      | [v, z], p1 =>
        simp only at h1
        unfold putE at h1
        by_cases li : i < ρ.length
        · rw [if_pos li, Option.bind_some] at h1
          by_cases lj : j < (ρ.set i (some u)).length
          · rw [if_pos lj] at h1
            exact ⟨v, z, rfl, fun _ => AfS.nx (r := r1) h1 (((e.keep k1).set li (p1.2 0 u v rfl rfl)).set lj (p1.2 1 w z rfl rfl))⟩
          · rw [if_neg lj] at h1
            exact (show False from h1).elim
        · rw [if_neg li, Option.bind_none] at h1
          exact (show False from h1).elim
      | [], p1 => exact absurd p1.1 (by simp)
      | [_], p1 => exact absurd p1.1 (by simp)
      | _ :: _ :: _ :: _, p1 => exact absurd p1.1 (by simp)
    | [], h1 => exact (show False from h1).elim
    | [_], h1 => exact (show False from h1).elim
    | _ :: _ :: _ :: _, h1 => exact (show False from h1).elim
end
end Dv
namespace Dv
open PySem L2 PySem.Spec PyProof.Rows

/-- the law's def, called with the script, gives True -/
theorem law_go {P : Program} {w : World} {K : PySem.W.Frag} {mg mb : Str → Option Value} {ca : Nat → Addr} {k : Nat} {f b : Addr} {fd : FuncData} {x : Str} {mf : MF} {z : Shared} {us : List Value} {js : List Int}
    (kx : K.In z.heap) (gl : z.heap.Ns mainGlobals mg) (bl : z.heap.Ns builtinsNs mb) (bb : ∀ x : Str, x ≠ "__name__" → mb x = bootBuiltins x) (nl : z.heap.NoLimit) (ng : z.gens = #[])
    (at_ : z.heap.get? b = some { cls := .type "list", data := .seq us.toArray }) (is : IntsAre us js) (sz : js.length ≤ sizeLine) (rm : Room k callerA) (gd : callerA.guards = some [])
    (F : ∀ base : Heap, K.In base → base.Ns mainGlobals mg → FnG P w K mg base k f fd [x] (spD K ca 1 mf)) (bi : ∀ (s : Shared) (u : Value), BindsTo s fd ⟨[u], []⟩ [(x, u)])
    (yes : ∃ μ, mf [.d (.scr (js.map .int))] [] = .val (.d (.bl true)) μ) :
    codeAny (model P w) callerA (.call (.ref f) ⟨[.ref b], []⟩) (fun r s' => r = .ok (.ret (.bool true)) ∧ OldK z.heap s'.heap ∧ s'.os = z.os ∧ AllBare s'.gens) z := by
  have vs := vals_ints is
  have sameLen := is.length
  have main : ∀ G : Hp, Only G → StL K ⟨[], []⟩ G b (js.map V.int) → HOk P w G z.heap → (∀ c, G c ≠ none → c = b) → (G b ≠ none → K.lookup b = none) →
      codeAny (model P w) callerA (.call (.ref f) ⟨[.ref b], []⟩) (fun r s' => r = .ok (.ret (.bool true)) ∧ OldK z.heap s'.heap ∧ s'.os = z.os ∧ AllBare s'.gens) z := by
    intro G only st ok just inK
    have kept : ∀ {c : Addr} {o : Obj}, z.heap.get? c = some o → G c = none → (hidT z.heap G).get? c = some o := fun e n => hidT_get e n
    have dicts : ∀ {c : Addr} {o : Obj} {es : Array DictEntry} {ep : Nat}, z.heap.get? c = some o → o.data = .dict es ep → G c = none := fun {c o es ep} e dd => by
      cases gc : G c with
      | none => rfl
      | some u =>
        have cb : c = b := just c (by rw [gc]; simp)
        subst cb
        rw [at_] at e
        cases e
        exact absurd (show Data.seq us.toArray _ = Data.dict es ep from dd) (by simp)
    have nss : ∀ {c : Addr} {m : Str → Option Value}, z.heap.Ns c m → (hidT z.heap G).Ns c m := fun {c m} ⟨o, es, ep, e, dd, r⟩ => ⟨o, es, ep, kept e (dicts e dd), dd, r⟩
    have kb : K.In (hidT z.heap G) := fun c o e => kept (kx c o e) (by
      cases gc : G c with
      | none => rfl
      | some u =>
        have cb : c = b := just c (by rw [gc]; simp)
        subst cb
        rw [inK (by rw [gc]; simp)] at e
        cases e)
    have md : Mod K mg (hidT z.heap G) := ⟨kb, nss gl, ⟨mb, nss bl, bb⟩, let ⟨mc, h1, h2⟩ := nl; ⟨mc, nss h1, h2⟩⟩
    have en : Env0 P w K mg (hidT z.heap G) callerA [] z G := ⟨rfl, md, fun c o e => of_hidT e, Nat.le_of_eq (hidT_size _ _), trivial, fun c hc => absurd (show c ∈ ([] : List Addr) from hc) (by simp), ok, .of_eq ng⟩
    have rel0 : RelM K ca [] ⟨[], []⟩ G := ⟨rfl, fun n c h => by simp at h, fun n a h => by simp at h, fun n m a h => by simp at h, fun a h => by simp at h, fun n a h => by simp at h, ⟨rfl, rfl⟩⟩
    have scr : Rep K ca ⟨[], []⟩ G (.scr (js.map .int)) (.ref b) := .scr st (by simp) fun i y v h1 h2 => by
      rw [List.getElem?_map] at h1 h2
      cases hj : js[i]? with
      | none => rw [hj] at h1; cases h1
      | some j =>
        rw [hj] at h1 h2
        cases h1
        cases h2
        exact .int j
    obtain ⟨μ, yes⟩ := yes
    have say : spD K ca 1 mf [.ref b] G (fun v _ => v = .bl true) (fun _ _ _ => False) := ⟨rfl, ⟨[], []⟩, [], [.d (.scr (js.map .int))], rel0, ⟨rfl, fun i y v h1 h2 => by
      cases i with
      | zero =>
        simp only [List.getElem?_cons_zero, Option.some.injEq] at h1 h2
        subst h1
        subst h2
        exact scr
      | succ i => simp at h1⟩, by
        rw [yes]
        intro v H' ms' _ _ p
        cases (show Rep K ca ms' H' (.bl true) v from p)
        rfl⟩
    refine codeAny_mono ((F _ kb (nss gl)).go callerA [] z G ⟨[.ref b], []⟩ [.ref b] [.ref b] _ _ rm gd en (bi z (.ref b)) (.cons rfl .nil) say) fun r s' fin => ?_
    cases r with
    | error e =>
      obtain ⟨_, _, _, _, _, _, _, _, _, _, _, _, no⟩ := fin
      exact no.elim
    | ok way =>
      cases way with
      | next => exact False.elim fin
      | brk => exact False.elim fin
      | cont => exact False.elim fin
      | ret u =>
        obtain ⟨v, G', os, bare, un, ok', rv, q⟩ := fin
        obtain rfl : v = .bl true := q
        obtain rfl : u = Value.bool true := rv
        refine ⟨rfl, OldK.of_keep fun c o e => ?_, os, bare⟩
        cases gc : G c with
        | none => exact un.keep c o e gc (by intro h; exact absurd (show c ∈ ([] : List Addr) from h) (by simp)) (by simp)
        | some u =>
          rcases only c with no | ⟨ob, xs, yes⟩
          · rw [gc] at no; cases no
          · obtain ⟨e1, _⟩ := ok c _ yes
            obtain ⟨e2, _⟩ := ok' c _ (un.frzs c ob _ yes)
            rw [e] at e1
            cases e1
            exact e2
  cases lk : K.lookup b with
  | some o =>
    have e := kx b o lk
    rw [at_] at e
    cases e
    exact main (fun _ => none) (fun _ => .inl rfl) (.inr ⟨_, us.toArray, _, lk, rfl, rfl, rfl, by rw [List.size_toArray, sameLen]; exact sz, by simpa using vs⟩) (fun c u h => by cases (show (none : Option HO) = some u from h)) (fun c h => absurd rfl h) fun h => absurd rfl h
  | none =>
    refine main (fun c => if c = b then some (.frz { cls := .type "list", data := .seq us.toArray } (.lst (js.map V.int))) else none) (fun c => ?_) (.inl ⟨.inr ⟨{ cls := .type "list", data := .seq us.toArray }, if_pos rfl⟩, fun h => by rcases h with h | h <;> cases h⟩) (fun c u h => ?_) (fun c h => ?_) fun _ => lk
    · by_cases cb : c = b
      · exact .inr ⟨_, _, if_pos cb⟩
      · exact .inl (if_neg cb)
    · by_cases cb : c = b
      · cases (if_pos cb).symm.trans h
        subst cb
        exact ⟨at_, by rw [List.length_map]; exact sz, us, _, vs, at_⟩
      · cases (if_neg cb).symm.trans h
    · by_cases cb : c = b
      · exact cb
      · exact absurd (if_neg cb) h

/-- the goal that the head leaves -/
theorem walkD {l : PySem.W.OpenLaw} {n k : Nat} {q : Program} {loose : List Str} {XP : (Str → Option Value) → Heap → Prop} {YP : World → Heap → Prop} {d : DefRec} {K : Params → PySem.W.Frag} {x : Str}
    (hn : l.most = some n) (hn2 : n ≤ sizeLine) (hdf : d.params.defaults = []) (rm : Room k callerA) (hY : ∀ (w : World) (h : Heap), YP w h → (K w.params).In h)
    (F : ∀ (w : World) (mg : Str → Option Value) (f : Addr) (h : Heap), (K w.params).In h → h.Ns mainGlobals mg → mg d.name = some (.ref f) →
      ∃ (fd : FuncData) (ca : Nat → Addr) (mf : MF), (∀ (s : Shared) (u : Value), BindsTo s fd ⟨[u], []⟩ [(x, u)]) ∧ (∀ js : List Int, js.length ≤ n → ∃ μ, mf [.d (.scr (js.map .int))] [] = .val (.d (.bl true)) μ) ∧
        ∀ base : Heap, (K w.params).In base → base.Ns mainGlobals mg → FnG l.prog w (K w.params) mg base k f fd [x] (spD (K w.params) ca 1 mf)) :
    PySem.W.WalkO q loose XP YP l.row.toRowW d [] (fun f vs => PySem.call f vs) := by
  refine Att.attach_call hn hdf fun w s₀ s₁ mg mb f o pm cd doc b us js G Y ho hd hcd hmg hobj hints hlen hg => ?_
  have kx := hY w _ Y
  obtain ⟨fd, ca, mf, bi, yes, go⟩ := F w mg f _ kx G.T.g hmg
  exact law_go kx G.T.g G.T.b G.T.builtins G.T.nolimit hg hobj hints (Nat.le_trans hlen hn2) rm rfl go bi (yes js hlen)
end Dv
namespace Dv
open PySem L2 PySem.W PySem.HandSPX PySem.DvX

/-- what the text of an __init__ says by itself -/
structure TxI (par : Arguments) (body : List Stmt) (sc : Scope) (fs : List Str) : Prop where
  B : Body body sc fs
  hks : sc.names.lookup ("super" : Str) = some .globalImplicit
  hkc : sc.names.lookup ("__class__" : Str) = some .free
  hka : sc.names.lookup ("self" : Str) = some .local
  kind : sc.kind = .function
  co : sc.isCoroutine = false
  gen : sc.isGenerator = false
  cell : ∀ x ∈ sc.names, x.2 ≠ .cell
  par0 : ∃ ar, (par.posonlyargs ++ par.args).head? = some ar ∧ ar.arg = "self"
  nm : ∀ f ∈ fs, sc.names.lookup f = some .local ∧ (f == ("__debug__" : Str)) = false ∧ f ≠ "self"
  nd : fs.Nodup
  b1 : ∀ (name qual : Str) (cda cc : Addr) (us : List Value), us.length = fs.length → ∀ s x doc pm an ct, BindsTo s (ksFn name qual par body sc .none .none doc pm an (.ref cda) ct cc) ⟨.ref x :: us, []⟩ (("self", .ref x) :: fs.zip us)
  b2 : ∀ (name qual : Str) (cda cc : Addr) (us : List Value), us.length = fs.length → ∀ s x doc pm an ct, BindsTo s (ksFn name qual par body sc .none .none doc pm an (.ref cda) ct cc) ⟨[.ref x], fs.zip us⟩ (("self", .ref x) :: fs.zip us)
  b3 : ∀ (name qual : Str) (cda cc : Addr) (us : List Value), us.length = fs.length → ∀ s x doc pm an ct, BindsTo s (ksFn name qual par body sc .none .none doc pm an (.ref cda) ct cc) ⟨[.ref x], fs.reverse.zip us⟩ (("self", .ref x) :: fs.zip us.reverse)

/-- what K alone says of an error class, by a look -/
def ckC (K : Frag) (C : Addr) : Bool :=
  (findIn K (.ref C) "__getattribute__" == some (some (.builtin "BaseException.__getattribute__"))) && (findIn K (.ref C) "__getattr__" == some none) && (subIn K (.ref C) (.type "BaseException") == some true) &&
  (typeIn K (.ref C) == some (.type "type")) && hasDictIn K C && keepIn K (.ref C) && (findIn K (.ref C) "__class__" == some (some (.builtin "object.__class__"))) && (mroIn K C (.type "object") == some true) &&
  (match K.lookup C with
    | some ⟨.type t, _, .cls cd, sl⟩ => decide (t = "type") && cd.hasDict && !cd.hasDel && (match cd.mro with | c :: bm => c == .ref C && refsVE bm | _ => false) && (match sl.toList with | [_, _, _, _, some (.builtin n), _] => decide (n = "ValueError.__new__") | _ => false)
    | _ => false)
/-- .. of its __init__ -/
def ckI (K : Frag) (C fI cc cda : Addr) (file : Str) (fs : List Str) : Bool :=
  (findIn K (.ref C) "__setattr__" == some (some (.builtin "object.__setattr__"))) && (findIn K (.ref C) "__init__" == some (some (.ref fI))) && (typeIn K (.ref fI) == some (.type "function")) &&
  (ks_superIn K C C "__init__" == some (some (.builtin "ValueError.__init__"))) && (subIn K (.ref C) (.type "ValueError") == some true) && (mroIn K C (.ref C) == some true) && fs.all (fun f => findIn K (.ref C) f == some none) &&
  (match K.lookup cda with | some ⟨_, _, .fields vs, _⟩ => (match (vs[2]? : Option Value) with | some (Value.str f _) => f == file | _ => false) | _ => false) &&
  (match K.lookup cc with | some ⟨_, _, .cell (some (.ref D)), _⟩ => D == C | _ => false)
theorem cf_of {K : Frag} {C : Addr} (h : ckC K C = true) : CF K C ∧ findIn K (.ref C) "__class__" = some (some (.builtin "object.__class__")) ∧ mroIn K C (.type "object") = some true := by
  unfold ckC at h
  simp only [Bool.and_eq_true, beq_iff_eq] at h
  obtain ⟨⟨⟨⟨⟨⟨⟨⟨h1, h2⟩, h3⟩, h4⟩, h5⟩, h6⟩, h7⟩, h8⟩, h9⟩ := h
  refine ⟨⟨?_, h1, h2, h3, h4, h5, h6⟩, h7, h8⟩
  split at h9
  · rename_i t dd cd sl ho
    simp only [Bool.and_eq_true, decide_eq_true_eq, Bool.not_eq_true'] at h9
    obtain ⟨⟨⟨⟨rfl, hh⟩, hd⟩, hm⟩, hs⟩ := h9
    obtain ⟨nm, bs, mro, ns, qn, hdct, sn, sub, ab, col, del⟩ := cd
    dsimp only at hh hd hm
    subst hh hd
    split at hm
    · rename_i c bm
      simp only [Bool.and_eq_true, beq_iff_eq] at hm
      obtain ⟨rfl, hm⟩ := hm
      split at hs
      · rename_i k0 k1 k2 k3 n k5 hl
        have hn := of_decide_eq_true hs
        subst hn
        obtain ⟨l⟩ := sl
        simp only at hl
        subst hl
        exact ⟨_, _, _, _, _, _, _, _, _, _, _, _, _, _, _, ho, hm⟩
      · cases hs
    · cases hm
  · cases h9
theorem er_mk {K : Frag} {P : Program} {mg : Str → Option Value} {h : Heap} {C fI cc cda : Addr} {x name qual : Str} {par : Arguments} {body : List Stmt} {sc : Scope} {fs : List Str} {oc : Value} {od : Option Addr} {doc pm : Value} {an : Option Addr} {ct : Value} {osl : Array (Option Value)}
    (X : K.In h) (G : h.Ns mainGlobals mg) (t : TxI par body sc fs) (op : nsIn K cStatics "thirdparty.any" = some none) (sg : mg "super" = none) (top : (P.main.scope.names.lookup ("super" : Str)).isSome = false)
    (a : nsIn K mainGlobals x = some (some (.ref C))) (c1 : ckC K C = true) (l : K.lookup fI = some ⟨oc, od, .func (ksFn name qual par body sc .none .none doc pm an (.ref cda) ct cc), osl⟩) (cd : codeIn K (.ref cda) qual = true) (c2 : ckI K C fI cc cda P.main.file fs = true) : ErF K P mg C x fs := by
  obtain ⟨T, _, _⟩ := cf_of c1
  unfold ckI at c2
  simp only [Bool.and_eq_true, beq_iff_eq] at c2
  obtain ⟨⟨⟨⟨⟨⟨⟨⟨h1, h2⟩, h3⟩, h4⟩, h5⟩, h6⟩, h7⟩, h8⟩, h9⟩ := c2
  refine ⟨mg_of X G a, T, fI, cc, cda, name, qual, par, body, sc, ⟨h1, h2, h3, h4, h5, h6, op, sg, ⟨oc, od, doc, pm, an, ct, osl, l⟩, cd, ?_, ?_, top, t.hks, t.hkc, t.hka, t.kind, t.co, t.gen, t.cell, t.par0⟩, t.B, fun f hf => ?_, t.nd, t.b1 _ _ _ _, t.b2 _ _ _ _, t.b3 _ _ _ _⟩
  · split at h8
    · rename_i ccl cdd vs ccs ho
      split at h8
      · rename_i f tf hv
        exact ⟨ccl, cdd, vs, ccs, f, tf, ho, hv, beq_iff_eq.mpr (beq_iff_eq.mp h8).symm⟩
      · cases h8
    · cases h8
  · split at h9
    · rename_i cl cld D csl ho
      have e := beq_iff_eq.mp h9
      subst e
      exact ⟨cl, cld, csl, ho⟩
    · cases h9
  · obtain ⟨n1, n2, n3⟩ := t.nm f hf
    exact ⟨n1, n2, n3, beq_iff_eq.mp (List.all_eq_true.mp h7 f hf)⟩
end Dv
namespace Dv
open PySem L2 PySem.W PySem.HandSPX PySem.DvX
namespace K01
/-- the fields of class c -/
def flds : List (List Str) := [[], ["value"], ["value"], ["part"], ["part"], ["part"], ["part"], ["part"], ["part"], ["at"], ["part"], ["at"], ["part"], ["part"], ["line", "word"], ["word"], ["name"], ["at"], ["many"], ["name"], ["what", "most"], []]
def okA (f : Str) (c : Nat) : Bool := match flds[c]? with
  | some fs => fs.contains f
  | none => false
def tb (c : Nat) : D → Option Bool
  | .cls k => if c < 22 ∧ k < 22 then some (k == 0 || c == k) else none
  | .ty n => if c < 22 then (if n = "ValueError" then some true else if n = "LookupError" ∨ n = "TypeError" ∨ n = "ArithmeticError" then some false else none) else none
  | _ => none
def top (i : Nat) : Stmt := (PySem.Challenge.pw_headskip_k01_errors_and_their_fields.main.body).getD i (.Pass ⟨0, 0, 0, 0⟩)
abbrev s__law_pen : Stmt := top 24
abbrev s__law_draw : Stmt := top 25
abbrev s__law_pick : Stmt := top 26
abbrev s__law_value : Stmt := top 27
abbrev s__law_made : Stmt := top 28
abbrev s__law_fields : Stmt := top 29
abbrev s__law_classes : Stmt := top 30
abbrev s_law : Stmt := top 31
abbrev s_BadValue : Stmt := inClass (top 2) 0
abbrev s_BadName : Stmt := inClass (top 3) 0
abbrev s_BadTold : Stmt := inClass (top 4) 0
abbrev s_BadHead : Stmt := inClass (top 5) 0
abbrev s_BadFilter : Stmt := inClass (top 6) 0
abbrev s_BadRow : Stmt := inClass (top 7) 0
abbrev s_BadLots : Stmt := inClass (top 8) 0
abbrev s_BadShelf : Stmt := inClass (top 9) 0
abbrev s_BadTable : Stmt := inClass (top 10) 0
abbrev s_BadQuestion : Stmt := inClass (top 11) 0
abbrev s_BadRead : Stmt := inClass (top 12) 0
abbrev s_BadUpkeep : Stmt := inClass (top 13) 0
abbrev s_BadBook : Stmt := inClass (top 14) 0
abbrev s_BadText : Stmt := inClass (top 15) 0
abbrev s_BadLine : Stmt := inClass (top 16) 0
abbrev s_NoName : Stmt := inClass (top 17) 0
abbrev s_NoBlock : Stmt := inClass (top 18) 0
abbrev s_NoCount : Stmt := inClass (top 19) 0
abbrev s_Taken : Stmt := inClass (top 20) 0
abbrev s_TooMany : Stmt := inClass (top 21) 0
abbrev s_NoChange : Stmt := inClass (top 22) 0
/-! the mirror -/
def m__law_pen : MS := (mRet (mLstC (mCons (mCall (one listD) (mCons (mSl (mVar 0) mNoPart (mPart (mC (.int 61)))) mNil)) (mCons (mC (.int 0)) (mCons (mC (.int 0)) mNil)))))
def mf__law_pen : MF := runB 1 m__law_pen
def m__law_draw : MS := (mSeq (mIf (mCmpB (ltB fun i j => decide (j < i)) (mIx (mVar 0) (mC (.int 2))) (mC (.int 0))) (mSeq (mSet 5 (mBin modD (mCall (one intD) (mCons (mIx (mVar 0) (mC (.int 2))) mNil)) (mVar 1)))
    (mSeq (mSetIx (mBin divD (mCall (one intD) (mCons (mIx (mVar 0) (mC (.int 2))) mNil)) (mVar 1)) (mVar 0) (mC (.int 2)))
    (mRet (mVar 5)))) mNop)
    (mSeq (mSet 2 (mIx (mVar 0) (mC (.int 1))))
    (mSeq (mSetIx (mBin addD (mVar 2) (mC (.int 1))) (mVar 0) (mC (.int 1)))
    (mSeq (mSet 3 (mBin addD (mBin mulD (mC (.int 40158)) (mVar 2)) (mC (.int 1038))))
    (mSeq (mIf (mCmpB neU (mIx (mVar 0) (mC (.int 0))) (mLst mNil)) (mSet 3 (mIx (mIx (mVar 0) (mC (.int 0))) (mBin modD (mCall (one intD) (mCons (mVar 2) mNil)) (mCall (one lenD) (mCons (mIx (mVar 0) (mC (.int 0))) mNil))))) mNop)
    (mSeq (mIf (mAndT (mCmpB (ltB fun i j => decide (i < j)) (mVar 2) (mCall (one lenD) (mCons (mIx (mVar 0) (mC (.int 0))) mNil))) (mCmpB (ltB fun i j => decide (j ≤ i)) (mCall (one absD) (mCons (mVar 3) mNil)) (mBin powD (mC (.int 10)) (mC (.int 18))))) (mSeq (mSet 6 (mBin addD (mBin mulD (mC (.int 2)) (mBin subD (mCall (one absD) (mCons (mVar 3) mNil)) (mBin powD (mC (.int 10)) (mC (.int 18))))) (mCall (one intD) (mCons (mVal (mCmpB (ltB fun i j => decide (i < j)) (mVar 3) (mC (.int 0)))) mNil))))
    (mSeq (mSetIx (mBin divD (mCall (one intD) (mCons (mVar 6) mNil)) (mVar 1)) (mVar 0) (mC (.int 2)))
    (mRet (mBin modD (mCall (one intD) (mCons (mVar 6) mNil)) (mVar 1))))) mNop)
    (mSeq (mSet 4 (mBin modD (mCall (one intD) (mCons (mBin powD (mBin addD (mBin addD (mBin modD (mCall (one intD) (mCons (mVar 3) mNil)) (mC (.int 2147483543))) (mBin mulD (mC (.int 61228)) (mVar 2))) (mC (.int 400))) (mC (.int 5))) mNil)) (mC (.int 2147483563))))
    (mSeq (mSet 4 (mBin modD (mCall (one intD) (mCons (mBin powD (mBin addD (mBin addD (mBin mulD (mVar 4) (mBin addD (mBin mulD (mC (.int 2)) (mVar 2)) (mC (.int 177)))) (mBin mulD (mBin mulD (mC (.int 51104)) (mVar 2)) (mVar 2))) (mC (.int 136))) (mC (.int 3))) mNil)) (mC (.int 2147483629))))
    (mRet (mBin modD (mCall (one intD) (mCons (mBin divD (mVar 4) (mC (.int 32))) mNil)) (mVar 1)))))))))))
def mf__law_draw : MF := runB 7 m__law_draw
def m__law_pick : MS := (mRet (mIx (mVar 1) (mFn mf__law_draw (mCons (mVar 0) (mCons (mCall (one lenD) (mCons (mVar 1) mNil)) mNil)))))
def mf__law_pick : MF := runB 2 m__law_pick
def m__law_value : MS := (mSeq (mSet 1 (mLst (mCons (mC .non) (mCons (mC (.bl true)) (mCons (mC (.int 0)) (mCons (mUn negD (mC (.int 1))) (mCons (mBin powD (mC (.int 10)) (mC (.int 39))) (mCons (mC (.str "")) (mCons (mC (.str "a")) (mCons (mC (.str "two words")) (mCons (mTup mNil) (mCons (mTup (mCons (mC (.str "a")) (mCons (mC (.int 1)) mNil))) (mCons (mLst mNil) (mCons (mC (.dic [])) (mCons (mC (.bl false)) mNil)))))))))))))))
    (mRet (mFn mf__law_pick (mCons (mVar 0) (mCons (mVar 1) mNil)))))
def mf__law_value : MF := runB 2 m__law_value
def m__law_made : MS := (mSeq (mSet 2 (mLst (mCons (mTup (mCons (mErr 1 ["value"] false (mCons (mVar 0) mNil)) (mCons (mC (.str "value")) (mCons (mLst (mCons (mVar 0) mNil)) mNil)))) (mCons (mTup (mCons (mErr 2 ["value"] false (mCons (mVar 0) mNil)) (mCons (mC (.str "value")) (mCons (mLst (mCons (mVar 0) mNil)) mNil)))) (mCons (mTup (mCons (mErr 3 ["part"] false (mCons (mVar 0) mNil)) (mCons (mC (.str "part")) (mCons (mLst (mCons (mVar 0) mNil)) mNil)))) mNil)))))
    (mSeq (mSet 2 (mBin addD (mVar 2) (mLst (mCons (mTup (mCons (mErr 4 ["part"] false (mCons (mVar 0) mNil)) (mCons (mC (.str "part")) (mCons (mLst (mCons (mVar 0) mNil)) mNil)))) (mCons (mTup (mCons (mErr 5 ["part"] false (mCons (mVar 0) mNil)) (mCons (mC (.str "part")) (mCons (mLst (mCons (mVar 0) mNil)) mNil)))) (mCons (mTup (mCons (mErr 6 ["part"] false (mCons (mVar 0) mNil)) (mCons (mC (.str "part")) (mCons (mLst (mCons (mVar 0) mNil)) mNil)))) mNil))))))
    (mSeq (mSet 2 (mBin addD (mVar 2) (mLst (mCons (mTup (mCons (mErr 7 ["part"] false (mCons (mVar 0) mNil)) (mCons (mC (.str "part")) (mCons (mLst (mCons (mVar 0) mNil)) mNil)))) (mCons (mTup (mCons (mErr 8 ["part"] false (mCons (mVar 0) mNil)) (mCons (mC (.str "part")) (mCons (mLst (mCons (mVar 0) mNil)) mNil)))) (mCons (mTup (mCons (mErr 9 ["at"] false (mCons (mVar 0) mNil)) (mCons (mC (.str "at")) (mCons (mLst (mCons (mVar 0) mNil)) mNil)))) mNil))))))
    (mSeq (mSet 2 (mBin addD (mVar 2) (mLst (mCons (mTup (mCons (mErr 10 ["part"] false (mCons (mVar 0) mNil)) (mCons (mC (.str "part")) (mCons (mLst (mCons (mVar 0) mNil)) mNil)))) (mCons (mTup (mCons (mErr 11 ["at"] false (mCons (mVar 0) mNil)) (mCons (mC (.str "at")) (mCons (mLst (mCons (mVar 0) mNil)) mNil)))) (mCons (mTup (mCons (mErr 12 ["part"] false (mCons (mVar 0) mNil)) (mCons (mC (.str "part")) (mCons (mLst (mCons (mVar 0) mNil)) mNil)))) mNil))))))
    (mSeq (mSet 2 (mBin addD (mVar 2) (mLst (mCons (mTup (mCons (mErr 13 ["part"] false (mCons (mVar 0) mNil)) (mCons (mC (.str "part")) (mCons (mLst (mCons (mVar 0) mNil)) mNil)))) (mCons (mTup (mCons (mErr 14 ["line", "word"] true (mCons (mVar 1) (mCons (mVar 0) mNil))) (mCons (mC (.str "line word")) (mCons (mLst (mCons (mVar 0) (mCons (mVar 1) mNil))) mNil)))) mNil)))))
    (mSeq (mSet 2 (mBin addD (mVar 2) (mLst (mCons (mTup (mCons (mErr 15 ["word"] false (mCons (mVar 0) mNil)) (mCons (mC (.str "word")) (mCons (mLst (mCons (mVar 0) mNil)) mNil)))) (mCons (mTup (mCons (mErr 16 ["name"] false (mCons (mVar 0) mNil)) (mCons (mC (.str "name")) (mCons (mLst (mCons (mVar 0) mNil)) mNil)))) (mCons (mTup (mCons (mErr 17 ["at"] false (mCons (mVar 0) mNil)) (mCons (mC (.str "at")) (mCons (mLst (mCons (mVar 0) mNil)) mNil)))) mNil))))))
    (mSeq (mSet 2 (mBin addD (mVar 2) (mLst (mCons (mTup (mCons (mErr 18 ["many"] false (mCons (mVar 0) mNil)) (mCons (mC (.str "many")) (mCons (mLst (mCons (mVar 0) mNil)) mNil)))) (mCons (mTup (mCons (mErr 19 ["name"] false (mCons (mVar 0) mNil)) (mCons (mC (.str "name")) (mCons (mLst (mCons (mVar 0) mNil)) mNil)))) (mCons (mTup (mCons (mErr 6 ["part"] false (mCons (mVar 0) mNil)) (mCons (mC (.str "part")) (mCons (mLst (mCons (mVar 0) mNil)) mNil)))) mNil))))))
    (mRet (mBin addD (mVar 2) (mLst (mCons (mTup (mCons (mErr 20 ["what", "most"] false (mCons (mVar 0) (mCons (mVar 1) mNil))) (mCons (mC (.str "what most")) (mCons (mLst (mCons (mVar 0) (mCons (mVar 1) mNil))) mNil)))) (mCons (mTup (mCons (mErr 21 [] false mNil) (mCons (mC (.str "")) (mCons (mLst mNil) mNil)))) (mCons (mTup (mCons (mErr 9 ["at"] false (mCons (mVar 0) mNil)) (mCons (mC (.str "at")) (mCons (mLst (mCons (mVar 0) mNil)) mNil)))) mNil)))))))))))))
def mf__law_made : MF := runB 3 m__law_made
def m__law_fields : MS := (mSeq (mIf (mCmpB eqU (mVar 1) (mC (.str "line word"))) (mRet (mLst (mCons (mAttr (okA "line") "line" (mVar 0)) (mCons (mAttr (okA "word") "word" (mVar 0)) mNil)))) mNop)
    (mSeq (mIf (mCmpB eqU (mVar 1) (mC (.str "what most"))) (mRet (mLst (mCons (mAttr (okA "what") "what" (mVar 0)) (mCons (mAttr (okA "most") "most" (mVar 0)) mNil)))) mNop)
    (mSeq (mIf (mCmpB (inU false) (mVar 1) (mTup (mCons (mC (.str "value")) (mCons (mC (.str "part")) mNil)))) (mRet (mIfE (mCmpB eqU (mVar 1) (mC (.str "value"))) (mLst (mCons (mAttr (okA "value") "value" (mVar 0)) mNil)) (mLst (mCons (mAttr (okA "part") "part" (mVar 0)) mNil)))) mNop)
    (mSeq (mIf (mCmpB (inU false) (mVar 1) (mTup (mCons (mC (.str "at")) (mCons (mC (.str "word")) mNil)))) (mRet (mIfE (mCmpB eqU (mVar 1) (mC (.str "at"))) (mLst (mCons (mAttr (okA "at") "at" (mVar 0)) mNil)) (mLst (mCons (mAttr (okA "word") "word" (mVar 0)) mNil)))) mNop)
    (mSeq (mIf (mCmpB (inU false) (mVar 1) (mTup (mCons (mC (.str "name")) (mCons (mC (.str "many")) mNil)))) (mRet (mIfE (mCmpB eqU (mVar 1) (mC (.str "name"))) (mLst (mCons (mAttr (okA "name") "name" (mVar 0)) mNil)) (mLst (mCons (mAttr (okA "many") "many" (mVar 0)) mNil)))) mNop)
    (mRet (mLst mNil)))))))
def mf__law_fields : MF := runB 2 m__law_fields
def m__law_classes : MS := (mSeq (mSet 1 (mLst (mCons (mCall (isiD tb) (mCons (mVar 0) (mCons (mC (.cls 1)) mNil))) (mCons (mCall (isiD tb) (mCons (mVar 0) (mCons (mC (.cls 2)) mNil))) (mCons (mCall (isiD tb) (mCons (mVar 0) (mCons (mC (.cls 3)) mNil))) mNil)))))
    (mSeq (mSet 1 (mBin addD (mVar 1) (mLst (mCons (mCall (isiD tb) (mCons (mVar 0) (mCons (mC (.cls 4)) mNil))) (mCons (mCall (isiD tb) (mCons (mVar 0) (mCons (mC (.cls 5)) mNil))) (mCons (mCall (isiD tb) (mCons (mVar 0) (mCons (mC (.cls 6)) mNil))) mNil))))))
    (mSeq (mSet 1 (mBin addD (mVar 1) (mLst (mCons (mCall (isiD tb) (mCons (mVar 0) (mCons (mC (.cls 7)) mNil))) (mCons (mCall (isiD tb) (mCons (mVar 0) (mCons (mC (.cls 8)) mNil))) (mCons (mCall (isiD tb) (mCons (mVar 0) (mCons (mC (.cls 9)) mNil))) mNil))))))
    (mSeq (mSet 1 (mBin addD (mVar 1) (mLst (mCons (mCall (isiD tb) (mCons (mVar 0) (mCons (mC (.cls 10)) mNil))) (mCons (mCall (isiD tb) (mCons (mVar 0) (mCons (mC (.cls 11)) mNil))) (mCons (mCall (isiD tb) (mCons (mVar 0) (mCons (mC (.cls 12)) mNil))) mNil))))))
    (mSeq (mSet 1 (mBin addD (mVar 1) (mLst (mCons (mCall (isiD tb) (mCons (mVar 0) (mCons (mC (.cls 13)) mNil))) (mCons (mCall (isiD tb) (mCons (mVar 0) (mCons (mC (.cls 14)) mNil))) (mCons (mCall (isiD tb) (mCons (mVar 0) (mCons (mC (.cls 15)) mNil))) mNil))))))
    (mSeq (mSet 1 (mBin addD (mVar 1) (mLst (mCons (mCall (isiD tb) (mCons (mVar 0) (mCons (mC (.cls 16)) mNil))) (mCons (mCall (isiD tb) (mCons (mVar 0) (mCons (mC (.cls 17)) mNil))) (mCons (mCall (isiD tb) (mCons (mVar 0) (mCons (mC (.cls 18)) mNil))) mNil))))))
    (mSeq (mSet 1 (mBin addD (mVar 1) (mLst (mCons (mCall (isiD tb) (mCons (mVar 0) (mCons (mC (.cls 19)) mNil))) (mCons (mCall (isiD tb) (mCons (mVar 0) (mCons (mC (.cls 20)) mNil))) (mCons (mCall (isiD tb) (mCons (mVar 0) (mCons (mC (.cls 21)) mNil))) mNil))))))
    (mRet (mLcR rng1 (mCons (mCall (one lenD) (mCons (mVar 1) mNil)) mNil) (gNameE 2) (mTest (mIx (mVar 1) (mVar 2))) (mVar 2) [2])))))))))
def mf__law_classes : MF := runB 3 m__law_classes
def m_law : MS := (mSeq (mSet 1 (mFn mf__law_pen (mCons (mVar 0) mNil)))
    (mSeq (mSet 2 (mLst (mCons (mC (.int 0)) (mCons (mC (.int 1)) (mCons (mC (.int 2)) (mCons (mC (.int 3)) (mCons (mC (.int 4)) (mCons (mC (.int 5)) (mCons (mC (.int 6)) (mCons (mC (.int 7)) (mCons (mC (.int 8)) (mCons (mC (.int 9)) (mCons (mC (.int 10)) (mCons (mC (.int 11)) (mCons (mC (.int 12)) (mCons (mC (.int 13)) (mCons (mC (.int 14)) (mCons (mC (.int 15)) (mCons (mC (.int 16)) (mCons (mC (.int 17)) (mCons (mC (.int 18)) (mCons (mC (.int 5)) (mCons (mC (.int 19)) (mCons (mC (.int 20)) (mCons (mC (.int 8)) mNil)))))))))))))))))))))))))
    (mSeq (mForR rng1 (mCons (mC (.int 8)) mNil) (gNameE 3) (mSeq (mPar 6 7 (mCons (mFn mf__law_value (mCons (mVar 1) mNil)) (mCons (mFn mf__law_value (mCons (mVar 1) mNil)) mNil)))
    (mSeq (mSet 4 (mFn mf__law_made (mCons (mVar 6) (mCons (mVar 7) mNil))))
    (mForR rng1 (mCons (mCall (one lenD) (mCons (mVar 4) mNil)) mNil) (gNameE 5) (mSeq (mAsg (gTupE [8, 9, 10]) (mIx (mVar 4) (mVar 5)))
    (mSeq (mIf (mOrT (mCmpB neU (mCall (one reprD) (mCons (mFn mf__law_fields (mCons (mVar 8) (mCons (mVar 9) mNil))) mNil)) (mCall (one reprD) (mCons (mVar 10) mNil))) (mCmpB neU (mFn mf__law_classes (mCons (mVar 8) mNil)) (mLst (mCons (mIx (mVar 2) (mVar 5)) mNil)))) (mRet (mC (.bl false))) mNop)
    (mSeq (mIf (mOrT (mNotT (mTest (mCall (isiD tb) (mCons (mVar 8) (mCons (mC (.cls 0)) mNil))))) (mNotT (mTest (mCall (isiD tb) (mCons (mVar 8) (mCons (mC (.ty "ValueError")) mNil)))))) (mRet (mC (.bl false))) mNop)
    (mIf (mOrT (mTest (mCall (isiD tb) (mCons (mVar 8) (mCons (mC (.ty "LookupError")) mNil)))) (mOrT (mTest (mCall (isiD tb) (mCons (mVar 8) (mCons (mC (.ty "TypeError")) mNil)))) (mTest (mCall (isiD tb) (mCons (mVar 8) (mCons (mC (.ty "ArithmeticError")) mNil)))))) (mRet (mC (.bl false))) mNop))))))))
    (mRet (mAndV (mNotV (mCall (isiD tb) (mCons (mC (.err 0 [])) (mCons (mC (.cls 1)) mNil)))) (mCall (isiD tb) (mCons (mC (.err 0 [])) (mCons (mC (.ty "ValueError")) mNil))))))))
def mf_law : MF := runB 11 m_law
/-! what the written part says -/
structure Txt (K : Frag) (P : Program) (mg : Str → Option Value) (ca : Nat → Addr) (f__law_pen : Addr) (d__law_pen : FuncData) (f__law_draw : Addr) (d__law_draw : FuncData) (f__law_pick : Addr) (d__law_pick : FuncData) (f__law_value : Addr) (d__law_value : FuncData) (f__law_made : Addr) (d__law_made : FuncData) (f__law_fields : Addr) (d__law_fields : FuncData) (f__law_classes : Addr) (d__law_classes : FuncData) (f_law : Addr) (d_law : FuncData) : Prop where
  n_abs : mg "abs" = none
  n_int : mg "int" = none
  n_isinstance : mg "isinstance" = none
  n_len : mg "len" = none
  n_list : mg "list" = none
  n_range : mg "range" = none
  n_repr : mg "repr" = none
  n_ArithmeticError : mg "ArithmeticError" = none
  n_LookupError : mg "LookupError" = none
  n_TypeError : mg "TypeError" = none
  n_ValueError : mg "ValueError" = none
  g_SkipError : mg "SkipError" = some (.ref (ca 0))
  x_SkipError : excIn K (ca 0) veTail "ValueError.__new__" = true
  k_SkipError : keepIn K (.ref (ca 0)) = true
  g_BadValue : mg "BadValue" = some (.ref (ca 1))
  e_BadValue : ErF K P mg (ca 1) "BadValue" ["value"]
  g_BadName : mg "BadName" = some (.ref (ca 2))
  e_BadName : ErF K P mg (ca 2) "BadName" ["value"]
  g_BadTold : mg "BadTold" = some (.ref (ca 3))
  e_BadTold : ErF K P mg (ca 3) "BadTold" ["part"]
  g_BadHead : mg "BadHead" = some (.ref (ca 4))
  e_BadHead : ErF K P mg (ca 4) "BadHead" ["part"]
  g_BadFilter : mg "BadFilter" = some (.ref (ca 5))
  e_BadFilter : ErF K P mg (ca 5) "BadFilter" ["part"]
  g_BadRow : mg "BadRow" = some (.ref (ca 6))
  e_BadRow : ErF K P mg (ca 6) "BadRow" ["part"]
  g_BadLots : mg "BadLots" = some (.ref (ca 7))
  e_BadLots : ErF K P mg (ca 7) "BadLots" ["part"]
  g_BadShelf : mg "BadShelf" = some (.ref (ca 8))
  e_BadShelf : ErF K P mg (ca 8) "BadShelf" ["part"]
  g_BadTable : mg "BadTable" = some (.ref (ca 9))
  e_BadTable : ErF K P mg (ca 9) "BadTable" ["at"]
  g_BadQuestion : mg "BadQuestion" = some (.ref (ca 10))
  e_BadQuestion : ErF K P mg (ca 10) "BadQuestion" ["part"]
  g_BadRead : mg "BadRead" = some (.ref (ca 11))
  e_BadRead : ErF K P mg (ca 11) "BadRead" ["at"]
  g_BadUpkeep : mg "BadUpkeep" = some (.ref (ca 12))
  e_BadUpkeep : ErF K P mg (ca 12) "BadUpkeep" ["part"]
  g_BadBook : mg "BadBook" = some (.ref (ca 13))
  e_BadBook : ErF K P mg (ca 13) "BadBook" ["part"]
  g_BadText : mg "BadText" = some (.ref (ca 14))
  e_BadText : ErF K P mg (ca 14) "BadText" ["line", "word"]
  g_BadLine : mg "BadLine" = some (.ref (ca 15))
  e_BadLine : ErF K P mg (ca 15) "BadLine" ["word"]
  g_NoName : mg "NoName" = some (.ref (ca 16))
  e_NoName : ErF K P mg (ca 16) "NoName" ["name"]
  g_NoBlock : mg "NoBlock" = some (.ref (ca 17))
  e_NoBlock : ErF K P mg (ca 17) "NoBlock" ["at"]
  g_NoCount : mg "NoCount" = some (.ref (ca 18))
  e_NoCount : ErF K P mg (ca 18) "NoCount" ["many"]
  g_Taken : mg "Taken" = some (.ref (ca 19))
  e_Taken : ErF K P mg (ca 19) "Taken" ["name"]
  g_TooMany : mg "TooMany" = some (.ref (ca 20))
  e_TooMany : ErF K P mg (ca 20) "TooMany" ["what", "most"]
  g_NoChange : mg "NoChange" = some (.ref (ca 21))
  e_NoChange : ErF K P mg (ca 21) "NoChange" []
  attr : ∀ f c, okA f c = true → CF K (ca c) ∧ findIn K (.ref (ca c)) f = some none
  isi : ∀ c k b, tb c k = some b → IsF K (ca c) ∧ ∃ v, clsV ca k = some v ∧ kitOne K (.ref (ca c)) v = some b
  u__law_pen : L2.Fun K "_law_pen" "_law_pen" s__law_pen f__law_pen d__law_pen
  g__law_pen : mg "_law_pen" = some (.ref f__law_pen)
  k__law_pen : keepIn K (.ref f__law_pen) = true
  b__law_pen : Binds K d__law_pen ["_law_script"] []
  u__law_draw : L2.Fun K "_law_draw" "_law_draw" s__law_draw f__law_draw d__law_draw
  g__law_draw : mg "_law_draw" = some (.ref f__law_draw)
  k__law_draw : keepIn K (.ref f__law_draw) = true
  b__law_draw : Binds K d__law_draw ["_law_pen_here", "_law_many"] []
  u__law_pick : L2.Fun K "_law_pick" "_law_pick" s__law_pick f__law_pick d__law_pick
  g__law_pick : mg "_law_pick" = some (.ref f__law_pick)
  k__law_pick : keepIn K (.ref f__law_pick) = true
  b__law_pick : Binds K d__law_pick ["_law_pen_here", "_law_some"] []
  u__law_value : L2.Fun K "_law_value" "_law_value" s__law_value f__law_value d__law_value
  g__law_value : mg "_law_value" = some (.ref f__law_value)
  k__law_value : keepIn K (.ref f__law_value) = true
  b__law_value : Binds K d__law_value ["_law_pen_here"] []
  u__law_made : L2.Fun K "_law_made" "_law_made" s__law_made f__law_made d__law_made
  g__law_made : mg "_law_made" = some (.ref f__law_made)
  k__law_made : keepIn K (.ref f__law_made) = true
  b__law_made : Binds K d__law_made ["_law_one", "_law_two"] []
  u__law_fields : L2.Fun K "_law_fields" "_law_fields" s__law_fields f__law_fields d__law_fields
  g__law_fields : mg "_law_fields" = some (.ref f__law_fields)
  k__law_fields : keepIn K (.ref f__law_fields) = true
  b__law_fields : Binds K d__law_fields ["_law_error", "_law_names"] []
  u__law_classes : L2.Fun K "_law_classes" "_law_classes" s__law_classes f__law_classes d__law_classes
  g__law_classes : mg "_law_classes" = some (.ref f__law_classes)
  k__law_classes : keepIn K (.ref f__law_classes) = true
  b__law_classes : Binds K d__law_classes ["_law_error"] []
  u_law : L2.Fun K "law" "law" s_law f_law d_law
  g_law : mg "law" = some (.ref f_law)
  k_law : keepIn K (.ref f_law) = true
  b_law : Binds K d_law ["_law_script"] []
/-! the walk -/
section
variable {P : Program} {w : World} {K : Frag} {mg : Str → Option Value} {base : Heap} {ca : Nat → Addr} {f__law_pen : Addr} {d__law_pen : FuncData} {f__law_draw : Addr} {d__law_draw : FuncData} {f__law_pick : Addr} {d__law_pick : FuncData} {f__law_value : Addr} {d__law_value : FuncData} {f__law_made : Addr} {d__law_made : FuncData} {f__law_fields : Addr} {d__law_fields : FuncData} {f__law_classes : Addr} {d__law_classes : FuncData} {f_law : Addr} {d_law : FuncData}
theorem bb_abs : bootBuiltins "abs" = some (.builtin "abs") := by kernel_rfl
theorem bb_int : bootBuiltins "int" = some (.type "int") := by kernel_rfl
theorem bb_isinstance : bootBuiltins "isinstance" = some (.builtin "isinstance") := by kernel_rfl
theorem bb_len : bootBuiltins "len" = some (.builtin "len") := by kernel_rfl
theorem bb_list : bootBuiltins "list" = some (.type "list") := by kernel_rfl
theorem bb_repr : bootBuiltins "repr" = some (.builtin "repr") := by kernel_rfl
theorem bb_ArithmeticError : bootBuiltins "ArithmeticError" = some (.type "ArithmeticError") := by kernel_rfl
theorem bb_LookupError : bootBuiltins "LookupError" = some (.type "LookupError") := by kernel_rfl
theorem bb_TypeError : bootBuiltins "TypeError" = some (.type "TypeError") := by kernel_rfl
theorem bb_ValueError : bootBuiltins "ValueError" = some (.type "ValueError") := by kernel_rfl
theorem sc__law_pen : FnScope ["_law_script"] ["_law_script"] (defScope s__law_pen) := ⟨rfl, rfl, rfl, by decide +kernel, rfl, by decide +kernel, by decide +kernel⟩
theorem ok__law_pen (T : Txt K P mg ca f__law_pen d__law_pen f__law_draw d__law_draw f__law_pick d__law_pick f__law_value d__law_value f__law_made d__law_made f__law_fields d__law_fields f__law_classes d__law_classes f_law d_law)  : FnG P w K mg base 1 f__law_pen d__law_pen ["_law_script"] (spD K ca 1 mf__law_pen) := by
  refine fn_ok (m := m__law_pen) T.u__law_pen sc__law_pen (fun us μ h => rfl) fun cdv A outer s H E hr gd => ?_
  have tk := takes_of (X := cxOf (L2.CX P w) P w K mg base ["_law_script"] "_law_pen" (defScope s__law_pen) f__law_pen cdv A outer s H E) (E := E) (E₁ := _) rfl rfl rfl rfl
  have S := sc__law_pen
  exact (rss_one (rs_ret (re_lstC (ra_cons (re_callTy c_list rfl T.n_list bb_list (ra_cons (re_slice (re_var 0) ro_none (ro_some re_int)) ra_nil)) (ra_cons re_int (ra_cons re_int ra_nil))))))
theorem sc__law_draw : FnScope ["_law_pen_here", "_law_many", "_law_spot", "_law_cell", "_law_mixed", "_law_digit", "_law_great"] ["_law_pen_here", "_law_many"] (defScope s__law_draw) := ⟨rfl, rfl, rfl, by decide +kernel, rfl, by decide +kernel, by decide +kernel⟩
theorem ok__law_draw (T : Txt K P mg ca f__law_pen d__law_pen f__law_draw d__law_draw f__law_pick d__law_pick f__law_value d__law_value f__law_made d__law_made f__law_fields d__law_fields f__law_classes d__law_classes f_law d_law)  : FnG P w K mg base 1 f__law_draw d__law_draw ["_law_pen_here", "_law_many"] (spD K ca 2 mf__law_draw) := by
  refine fn_ok (m := m__law_draw) T.u__law_draw sc__law_draw (fun us μ h => rfl) fun cdv A outer s H E hr gd => ?_
  have tk := takes_of (X := cxOf (L2.CX P w) P w K mg base ["_law_pen_here", "_law_many", "_law_spot", "_law_cell", "_law_mixed", "_law_digit", "_law_great"] "_law_draw" (defScope s__law_draw) f__law_draw cdv A outer s H E) (E := E) (E₁ := _) rfl rfl rfl rfl
  have S := sc__law_draw
  exact (rss_cons (rs_if (rt_cmp o_gt (re_ix (re_var 0) re_int) re_int) (rss_cons (rs_set 5 S.nd (re_bin o_mod (re_callTy c_int rfl T.n_int bb_int (ra_cons (re_ix (re_var 0) re_int) ra_nil)) (re_var 1)))
    (rss_cons (rs_setIx (re_bin o_div (re_callTy c_int rfl T.n_int bb_int (ra_cons (re_ix (re_var 0) re_int) ra_nil)) (re_var 1)) (re_var 0) re_int (pg_sub (re_var 0) re_int set_list))
    (rss_one (rs_ret (re_var 5))))) rss_nil)
    (rss_cons (rs_set 2 S.nd (re_ix (re_var 0) re_int))
    (rss_cons (rs_setIx (re_bin o_add (re_var 2) re_int) (re_var 0) re_int (pg_sub (re_var 0) re_int set_list))
    (rss_cons (rs_set 3 S.nd (re_bin o_add (re_bin o_mul re_int (re_var 2)) re_int))
    (rss_cons (rs_if (rt_cmp (o_ne hr.units) (re_ix (re_var 0) re_int) (re_lst ra_nil)) (rss_one (rs_set 3 S.nd (re_ix (re_ix (re_var 0) re_int) (re_bin o_mod (re_callTy c_int rfl T.n_int bb_int (ra_cons (re_var 2) ra_nil)) (re_callB c_len rfl T.n_len bb_len (ra_cons (re_ix (re_var 0) re_int) ra_nil)))))) rss_nil)
    (rss_cons (rs_if (PW.pt (rw_and (rt_cmp o_lt (re_var 2) (re_callB c_len rfl T.n_len bb_len (ra_cons (re_ix (re_var 0) re_int) ra_nil))) (rw_and1 (rt_cmp o_ge (re_callB c_abs rfl T.n_abs bb_abs (ra_cons (re_var 3) ra_nil)) (re_bin o_pow re_int re_int))))) (rss_cons (rs_set 6 S.nd (re_bin o_add (re_bin o_mul re_int (re_bin o_sub (re_callB c_abs rfl T.n_abs bb_abs (ra_cons (re_var 3) ra_nil)) (re_bin o_pow re_int re_int))) (re_callTy c_int rfl T.n_int bb_int (ra_cons (re_cmp o_lt (re_var 3) re_int) ra_nil))))
    (rss_cons (rs_setIx (re_bin o_div (re_callTy c_int rfl T.n_int bb_int (ra_cons (re_var 6) ra_nil)) (re_var 1)) (re_var 0) re_int (pg_sub (re_var 0) re_int set_list))
    (rss_one (rs_ret (re_bin o_mod (re_callTy c_int rfl T.n_int bb_int (ra_cons (re_var 6) ra_nil)) (re_var 1)))))) rss_nil)
    (rss_cons (rs_set 4 S.nd (re_bin o_mod (re_callTy c_int rfl T.n_int bb_int (ra_cons (re_bin o_pow (re_bin o_add (re_bin o_add (re_bin o_mod (re_callTy c_int rfl T.n_int bb_int (ra_cons (re_var 3) ra_nil)) re_int) (re_bin o_mul re_int (re_var 2))) re_int) re_int) ra_nil)) re_int))
    (rss_cons (rs_set 4 S.nd (re_bin o_mod (re_callTy c_int rfl T.n_int bb_int (ra_cons (re_bin o_pow (re_bin o_add (re_bin o_add (re_bin o_mul (re_var 4) (re_bin o_add (re_bin o_mul re_int (re_var 2)) re_int)) (re_bin o_mul (re_bin o_mul re_int (re_var 2)) (re_var 2))) re_int) re_int) ra_nil)) re_int))
    (rss_one (rs_ret (re_bin o_mod (re_callTy c_int rfl T.n_int bb_int (ra_cons (re_bin o_div (re_var 4) re_int) ra_nil)) (re_var 1))))))))))))
theorem sc__law_pick : FnScope ["_law_pen_here", "_law_some"] ["_law_pen_here", "_law_some"] (defScope s__law_pick) := ⟨rfl, rfl, rfl, by decide +kernel, rfl, by decide +kernel, by decide +kernel⟩
theorem ok__law_pick (T : Txt K P mg ca f__law_pen d__law_pen f__law_draw d__law_draw f__law_pick d__law_pick f__law_value d__law_value f__law_made d__law_made f__law_fields d__law_fields f__law_classes d__law_classes f_law d_law) (F__law_draw : FnG P w K mg base 1 f__law_draw d__law_draw ["_law_pen_here", "_law_many"] (spD K ca 2 mf__law_draw)) : FnG P w K mg base 2 f__law_pick d__law_pick ["_law_pen_here", "_law_some"] (spD K ca 2 mf__law_pick) := by
  refine fn_ok (m := m__law_pick) T.u__law_pick sc__law_pick (fun us μ h => rfl) fun cdv A outer s H E hr gd => ?_
  have tk := takes_of (X := cxOf (L2.CX P w) P w K mg base ["_law_pen_here", "_law_some"] "_law_pick" (defScope s__law_pick) f__law_pick cdv A outer s H E) (E := E) (E₁ := _) rfl rfl rfl rfl
  have S := sc__law_pick
  exact (rss_one (rs_ret (re_ix (re_var 1) (re_fn F__law_draw (hr.mono (by decide)) gd tk T.g__law_draw T.k__law_draw T.b__law_draw (ra_cons (re_var 0) (ra_cons (re_callB c_len rfl T.n_len bb_len (ra_cons (re_var 1) ra_nil)) ra_nil))))))
theorem sc__law_value : FnScope ["_law_pen_here", "_law_some"] ["_law_pen_here"] (defScope s__law_value) := ⟨rfl, rfl, rfl, by decide +kernel, rfl, by decide +kernel, by decide +kernel⟩
theorem ok__law_value (T : Txt K P mg ca f__law_pen d__law_pen f__law_draw d__law_draw f__law_pick d__law_pick f__law_value d__law_value f__law_made d__law_made f__law_fields d__law_fields f__law_classes d__law_classes f_law d_law) (F__law_pick : FnG P w K mg base 2 f__law_pick d__law_pick ["_law_pen_here", "_law_some"] (spD K ca 2 mf__law_pick)) : FnG P w K mg base 3 f__law_value d__law_value ["_law_pen_here"] (spD K ca 1 mf__law_value) := by
  refine fn_ok (m := m__law_value) T.u__law_value sc__law_value (fun us μ h => rfl) fun cdv A outer s H E hr gd => ?_
  have tk := takes_of (X := cxOf (L2.CX P w) P w K mg base ["_law_pen_here", "_law_some"] "_law_value" (defScope s__law_value) f__law_value cdv A outer s H E) (E := E) (E₁ := _) rfl rfl rfl rfl
  have S := sc__law_value
  exact (rss_cons (rs_set 1 S.nd (re_lst (ra_cons re_non (ra_cons re_bl (ra_cons re_int (ra_cons (re_un o_neg re_int) (ra_cons (re_bin o_pow re_int re_int) (ra_cons re_str (ra_cons re_str (ra_cons re_str (ra_cons (re_tup ra_nil) (ra_cons (re_tup (ra_cons re_str (ra_cons re_int ra_nil))) (ra_cons (re_lst ra_nil) (ra_cons re_dic0 (ra_cons re_bl ra_nil)))))))))))))))
    (rss_one (rs_ret (re_fn F__law_pick (hr.mono (by decide)) gd tk T.g__law_pick T.k__law_pick T.b__law_pick (ra_cons (re_var 0) (ra_cons (re_var 1) ra_nil))))))
theorem sc__law_made : FnScope ["_law_one", "_law_two", "_law_found"] ["_law_one", "_law_two"] (defScope s__law_made) := ⟨rfl, rfl, rfl, by decide +kernel, rfl, by decide +kernel, by decide +kernel⟩
theorem ok__law_made (T : Txt K P mg ca f__law_pen d__law_pen f__law_draw d__law_draw f__law_pick d__law_pick f__law_value d__law_value f__law_made d__law_made f__law_fields d__law_fields f__law_classes d__law_classes f_law d_law)  : FnG P w K mg base 1 f__law_made d__law_made ["_law_one", "_law_two"] (spD K ca 2 mf__law_made) := by
  refine fn_ok (m := m__law_made) T.u__law_made sc__law_made (fun us μ h => rfl) fun cdv A outer s H E hr gd => ?_
  have tk := takes_of (X := cxOf (L2.CX P w) P w K mg base ["_law_one", "_law_two", "_law_found"] "_law_made" (defScope s__law_made) f__law_made cdv A outer s H E) (E := E) (E₁ := _) rfl rfl rfl rfl
  have S := sc__law_made
  exact (rss_cons (rs_set 2 S.nd (re_lst (ra_cons (re_tup (ra_cons (re_err T.e_BadValue hr (ra_cons (re_var 0) ra_nil)) (ra_cons re_str (ra_cons (re_lst (ra_cons (re_var 0) ra_nil)) ra_nil)))) (ra_cons (re_tup (ra_cons (re_errK (rev := false) T.e_BadName hr (rk_cons (re_var 0) rk_nil)) (ra_cons re_str (ra_cons (re_lst (ra_cons (re_var 0) ra_nil)) ra_nil)))) (ra_cons (re_tup (ra_cons (re_err T.e_BadTold hr (ra_cons (re_var 0) ra_nil)) (ra_cons re_str (ra_cons (re_lst (ra_cons (re_var 0) ra_nil)) ra_nil)))) ra_nil)))))
    (rss_cons (rs_set 2 S.nd (re_bin o_add (re_var 2) (re_lst (ra_cons (re_tup (ra_cons (re_errK (rev := false) T.e_BadHead hr (rk_cons (re_var 0) rk_nil)) (ra_cons re_str (ra_cons (re_lst (ra_cons (re_var 0) ra_nil)) ra_nil)))) (ra_cons (re_tup (ra_cons (re_err T.e_BadFilter hr (ra_cons (re_var 0) ra_nil)) (ra_cons re_str (ra_cons (re_lst (ra_cons (re_var 0) ra_nil)) ra_nil)))) (ra_cons (re_tup (ra_cons (re_err T.e_BadRow hr (ra_cons (re_var 0) ra_nil)) (ra_cons re_str (ra_cons (re_lst (ra_cons (re_var 0) ra_nil)) ra_nil)))) ra_nil))))))
    (rss_cons (rs_set 2 S.nd (re_bin o_add (re_var 2) (re_lst (ra_cons (re_tup (ra_cons (re_err T.e_BadLots hr (ra_cons (re_var 0) ra_nil)) (ra_cons re_str (ra_cons (re_lst (ra_cons (re_var 0) ra_nil)) ra_nil)))) (ra_cons (re_tup (ra_cons (re_errK (rev := false) T.e_BadShelf hr (rk_cons (re_var 0) rk_nil)) (ra_cons re_str (ra_cons (re_lst (ra_cons (re_var 0) ra_nil)) ra_nil)))) (ra_cons (re_tup (ra_cons (re_err T.e_BadTable hr (ra_cons (re_var 0) ra_nil)) (ra_cons re_str (ra_cons (re_lst (ra_cons (re_var 0) ra_nil)) ra_nil)))) ra_nil))))))
    (rss_cons (rs_set 2 S.nd (re_bin o_add (re_var 2) (re_lst (ra_cons (re_tup (ra_cons (re_err T.e_BadQuestion hr (ra_cons (re_var 0) ra_nil)) (ra_cons re_str (ra_cons (re_lst (ra_cons (re_var 0) ra_nil)) ra_nil)))) (ra_cons (re_tup (ra_cons (re_errK (rev := false) T.e_BadRead hr (rk_cons (re_var 0) rk_nil)) (ra_cons re_str (ra_cons (re_lst (ra_cons (re_var 0) ra_nil)) ra_nil)))) (ra_cons (re_tup (ra_cons (re_err T.e_BadUpkeep hr (ra_cons (re_var 0) ra_nil)) (ra_cons re_str (ra_cons (re_lst (ra_cons (re_var 0) ra_nil)) ra_nil)))) ra_nil))))))
    (rss_cons (rs_set 2 S.nd (re_bin o_add (re_var 2) (re_lst (ra_cons (re_tup (ra_cons (re_err T.e_BadBook hr (ra_cons (re_var 0) ra_nil)) (ra_cons re_str (ra_cons (re_lst (ra_cons (re_var 0) ra_nil)) ra_nil)))) (ra_cons (re_tup (ra_cons (re_errK (rev := true) T.e_BadText hr (rk_cons (re_var 1) (rk_cons (re_var 0) rk_nil))) (ra_cons re_str (ra_cons (re_lst (ra_cons (re_var 0) (ra_cons (re_var 1) ra_nil))) ra_nil)))) ra_nil)))))
    (rss_cons (rs_set 2 S.nd (re_bin o_add (re_var 2) (re_lst (ra_cons (re_tup (ra_cons (re_err T.e_BadLine hr (ra_cons (re_var 0) ra_nil)) (ra_cons re_str (ra_cons (re_lst (ra_cons (re_var 0) ra_nil)) ra_nil)))) (ra_cons (re_tup (ra_cons (re_errK (rev := false) T.e_NoName hr (rk_cons (re_var 0) rk_nil)) (ra_cons re_str (ra_cons (re_lst (ra_cons (re_var 0) ra_nil)) ra_nil)))) (ra_cons (re_tup (ra_cons (re_err T.e_NoBlock hr (ra_cons (re_var 0) ra_nil)) (ra_cons re_str (ra_cons (re_lst (ra_cons (re_var 0) ra_nil)) ra_nil)))) ra_nil))))))
    (rss_cons (rs_set 2 S.nd (re_bin o_add (re_var 2) (re_lst (ra_cons (re_tup (ra_cons (re_errK (rev := false) T.e_NoCount hr (rk_cons (re_var 0) rk_nil)) (ra_cons re_str (ra_cons (re_lst (ra_cons (re_var 0) ra_nil)) ra_nil)))) (ra_cons (re_tup (ra_cons (re_err T.e_Taken hr (ra_cons (re_var 0) ra_nil)) (ra_cons re_str (ra_cons (re_lst (ra_cons (re_var 0) ra_nil)) ra_nil)))) (ra_cons (re_tup (ra_cons (re_errK (rev := false) T.e_BadRow hr (rk_cons (re_var 0) rk_nil)) (ra_cons re_str (ra_cons (re_lst (ra_cons (re_var 0) ra_nil)) ra_nil)))) ra_nil))))))
    (rss_one (rs_ret (re_bin o_add (re_var 2) (re_lst (ra_cons (re_tup (ra_cons (re_err T.e_TooMany hr (ra_cons (re_var 0) (ra_cons (re_var 1) ra_nil))) (ra_cons re_str (ra_cons (re_lst (ra_cons (re_var 0) (ra_cons (re_var 1) ra_nil))) ra_nil)))) (ra_cons (re_tup (ra_cons (re_err0 T.e_NoChange hr) (ra_cons re_str (ra_cons (re_lst ra_nil) ra_nil)))) (ra_cons (re_tup (ra_cons (re_errK (rev := false) T.e_BadTable hr (rk_cons (re_var 0) rk_nil)) (ra_cons re_str (ra_cons (re_lst (ra_cons (re_var 0) ra_nil)) ra_nil)))) ra_nil))))))))))))))
theorem sc__law_fields : FnScope ["_law_error", "_law_names"] ["_law_error", "_law_names"] (defScope s__law_fields) := ⟨rfl, rfl, rfl, by decide +kernel, rfl, by decide +kernel, by decide +kernel⟩
theorem ok__law_fields (T : Txt K P mg ca f__law_pen d__law_pen f__law_draw d__law_draw f__law_pick d__law_pick f__law_value d__law_value f__law_made d__law_made f__law_fields d__law_fields f__law_classes d__law_classes f_law d_law)  : FnG P w K mg base 1 f__law_fields d__law_fields ["_law_error", "_law_names"] (spD K ca 2 mf__law_fields) := by
  refine fn_ok (m := m__law_fields) T.u__law_fields sc__law_fields (fun us μ h => rfl) fun cdv A outer s H E hr gd => ?_
  have tk := takes_of (X := cxOf (L2.CX P w) P w K mg base ["_law_error", "_law_names"] "_law_fields" (defScope s__law_fields) f__law_fields cdv A outer s H E) (E := E) (E₁ := _) rfl rfl rfl rfl
  have S := sc__law_fields
  exact (rss_cons (rs_if (rt_cmp (o_eq hr.units) (re_var 1) re_str) (rss_one (rs_ret (re_lst (ra_cons (re_attr (T.attr "line") (re_var 0)) (ra_cons (re_attr (T.attr "word") (re_var 0)) ra_nil))))) rss_nil)
    (rss_cons (rs_if (rt_cmp (o_eq hr.units) (re_var 1) re_str) (rss_one (rs_ret (re_lst (ra_cons (re_attr (T.attr "what") (re_var 0)) (ra_cons (re_attr (T.attr "most") (re_var 0)) ra_nil))))) rss_nil)
    (rss_cons (rs_if (rt_cmp o_in (re_var 1) (re_tup (ra_cons re_str (ra_cons re_str ra_nil)))) (rss_one (rs_ret (re_if (rt_cmp (o_eq hr.units) (re_var 1) re_str) (re_lst (ra_cons (re_attr (T.attr "value") (re_var 0)) ra_nil)) (re_lst (ra_cons (re_attr (T.attr "part") (re_var 0)) ra_nil))))) rss_nil)
    (rss_cons (rs_if (rt_cmp o_in (re_var 1) (re_tup (ra_cons re_str (ra_cons re_str ra_nil)))) (rss_one (rs_ret (re_if (rt_cmp (o_eq hr.units) (re_var 1) re_str) (re_lst (ra_cons (re_attr (T.attr "at") (re_var 0)) ra_nil)) (re_lst (ra_cons (re_attr (T.attr "word") (re_var 0)) ra_nil))))) rss_nil)
    (rss_cons (rs_if (rt_cmp o_in (re_var 1) (re_tup (ra_cons re_str (ra_cons re_str ra_nil)))) (rss_one (rs_ret (re_if (rt_cmp (o_eq hr.units) (re_var 1) re_str) (re_lst (ra_cons (re_attr (T.attr "name") (re_var 0)) ra_nil)) (re_lst (ra_cons (re_attr (T.attr "many") (re_var 0)) ra_nil))))) rss_nil)
    (rss_one (rs_ret (re_lst ra_nil))))))))
theorem sc__law_classes : FnScope ["_law_error", "_law_told", "_law_spot"] ["_law_error"] (defScope s__law_classes) := ⟨rfl, rfl, rfl, by decide +kernel, rfl, by decide +kernel, by decide +kernel⟩
theorem ok__law_classes (T : Txt K P mg ca f__law_pen d__law_pen f__law_draw d__law_draw f__law_pick d__law_pick f__law_value d__law_value f__law_made d__law_made f__law_fields d__law_fields f__law_classes d__law_classes f_law d_law)  : FnG P w K mg base 1 f__law_classes d__law_classes ["_law_error"] (spD K ca 1 mf__law_classes) := by
  refine fn_ok (m := m__law_classes) T.u__law_classes sc__law_classes (fun us μ h => rfl) fun cdv A outer s H E hr gd => ?_
  have tk := takes_of (X := cxOf (L2.CX P w) P w K mg base ["_law_error", "_law_told", "_law_spot"] "_law_classes" (defScope s__law_classes) f__law_classes cdv A outer s H E) (E := E) (E₁ := _) rfl rfl rfl rfl
  have S := sc__law_classes
  exact (rss_cons (rs_set 1 S.nd (re_lst (ra_cons (re_callB (c_isi T.isi) rfl T.n_isinstance bb_isinstance (ra_cons (re_var 0) (ra_cons (re_cls 1 T.g_BadValue) ra_nil))) (ra_cons (re_callB (c_isi T.isi) rfl T.n_isinstance bb_isinstance (ra_cons (re_var 0) (ra_cons (re_cls 2 T.g_BadName) ra_nil))) (ra_cons (re_callB (c_isi T.isi) rfl T.n_isinstance bb_isinstance (ra_cons (re_var 0) (ra_cons (re_cls 3 T.g_BadTold) ra_nil))) ra_nil)))))
    (rss_cons (rs_set 1 S.nd (re_bin o_add (re_var 1) (re_lst (ra_cons (re_callB (c_isi T.isi) rfl T.n_isinstance bb_isinstance (ra_cons (re_var 0) (ra_cons (re_cls 4 T.g_BadHead) ra_nil))) (ra_cons (re_callB (c_isi T.isi) rfl T.n_isinstance bb_isinstance (ra_cons (re_var 0) (ra_cons (re_cls 5 T.g_BadFilter) ra_nil))) (ra_cons (re_callB (c_isi T.isi) rfl T.n_isinstance bb_isinstance (ra_cons (re_var 0) (ra_cons (re_cls 6 T.g_BadRow) ra_nil))) ra_nil))))))
    (rss_cons (rs_set 1 S.nd (re_bin o_add (re_var 1) (re_lst (ra_cons (re_callB (c_isi T.isi) rfl T.n_isinstance bb_isinstance (ra_cons (re_var 0) (ra_cons (re_cls 7 T.g_BadLots) ra_nil))) (ra_cons (re_callB (c_isi T.isi) rfl T.n_isinstance bb_isinstance (ra_cons (re_var 0) (ra_cons (re_cls 8 T.g_BadShelf) ra_nil))) (ra_cons (re_callB (c_isi T.isi) rfl T.n_isinstance bb_isinstance (ra_cons (re_var 0) (ra_cons (re_cls 9 T.g_BadTable) ra_nil))) ra_nil))))))
    (rss_cons (rs_set 1 S.nd (re_bin o_add (re_var 1) (re_lst (ra_cons (re_callB (c_isi T.isi) rfl T.n_isinstance bb_isinstance (ra_cons (re_var 0) (ra_cons (re_cls 10 T.g_BadQuestion) ra_nil))) (ra_cons (re_callB (c_isi T.isi) rfl T.n_isinstance bb_isinstance (ra_cons (re_var 0) (ra_cons (re_cls 11 T.g_BadRead) ra_nil))) (ra_cons (re_callB (c_isi T.isi) rfl T.n_isinstance bb_isinstance (ra_cons (re_var 0) (ra_cons (re_cls 12 T.g_BadUpkeep) ra_nil))) ra_nil))))))
    (rss_cons (rs_set 1 S.nd (re_bin o_add (re_var 1) (re_lst (ra_cons (re_callB (c_isi T.isi) rfl T.n_isinstance bb_isinstance (ra_cons (re_var 0) (ra_cons (re_cls 13 T.g_BadBook) ra_nil))) (ra_cons (re_callB (c_isi T.isi) rfl T.n_isinstance bb_isinstance (ra_cons (re_var 0) (ra_cons (re_cls 14 T.g_BadText) ra_nil))) (ra_cons (re_callB (c_isi T.isi) rfl T.n_isinstance bb_isinstance (ra_cons (re_var 0) (ra_cons (re_cls 15 T.g_BadLine) ra_nil))) ra_nil))))))
    (rss_cons (rs_set 1 S.nd (re_bin o_add (re_var 1) (re_lst (ra_cons (re_callB (c_isi T.isi) rfl T.n_isinstance bb_isinstance (ra_cons (re_var 0) (ra_cons (re_cls 16 T.g_NoName) ra_nil))) (ra_cons (re_callB (c_isi T.isi) rfl T.n_isinstance bb_isinstance (ra_cons (re_var 0) (ra_cons (re_cls 17 T.g_NoBlock) ra_nil))) (ra_cons (re_callB (c_isi T.isi) rfl T.n_isinstance bb_isinstance (ra_cons (re_var 0) (ra_cons (re_cls 18 T.g_NoCount) ra_nil))) ra_nil))))))
    (rss_cons (rs_set 1 S.nd (re_bin o_add (re_var 1) (re_lst (ra_cons (re_callB (c_isi T.isi) rfl T.n_isinstance bb_isinstance (ra_cons (re_var 0) (ra_cons (re_cls 19 T.g_Taken) ra_nil))) (ra_cons (re_callB (c_isi T.isi) rfl T.n_isinstance bb_isinstance (ra_cons (re_var 0) (ra_cons (re_cls 20 T.g_TooMany) ra_nil))) (ra_cons (re_callB (c_isi T.isi) rfl T.n_isinstance bb_isinstance (ra_cons (re_var 0) (ra_cons (re_cls 21 T.g_NoChange) ra_nil))) ra_nil))))))
    (rss_one (rs_ret (re_lcR (own := [("_law_spot", 2)]) rfl S.nd T.n_range (ra_cons (re_callB c_len rfl T.n_len bb_len (ra_cons (re_var 1) ra_nil)) ra_nil) ⟨rfl, of_decide_eq_true rfl, of_decide_eq_true rfl, of_decide_eq_true rfl, of_decide_eq_true rfl⟩ (fun _ _ _ _ _ => rg_name 2 S.nd) (fun _ _ _ _ _ => (rts_one (rt_val (re_ix (re_var 1) (re_var 2))))) (fun _ _ _ _ _ => (re_var 2))))))))))))
theorem sc_law : FnScope ["_law_script", "_law_pen_here", "_law_places", "_law_turn", "_law_made_here", "_law_spot", "_law_one", "_law_two", "_law_error", "_law_names", "_law_fields_here"] ["_law_script"] (defScope s_law) := ⟨rfl, rfl, rfl, by decide +kernel, rfl, by decide +kernel, by decide +kernel⟩
theorem ok_law (T : Txt K P mg ca f__law_pen d__law_pen f__law_draw d__law_draw f__law_pick d__law_pick f__law_value d__law_value f__law_made d__law_made f__law_fields d__law_fields f__law_classes d__law_classes f_law d_law) (F__law_pen : FnG P w K mg base 1 f__law_pen d__law_pen ["_law_script"] (spD K ca 1 mf__law_pen)) (F__law_value : FnG P w K mg base 3 f__law_value d__law_value ["_law_pen_here"] (spD K ca 1 mf__law_value)) (F__law_made : FnG P w K mg base 1 f__law_made d__law_made ["_law_one", "_law_two"] (spD K ca 2 mf__law_made)) (F__law_fields : FnG P w K mg base 1 f__law_fields d__law_fields ["_law_error", "_law_names"] (spD K ca 2 mf__law_fields)) (F__law_classes : FnG P w K mg base 1 f__law_classes d__law_classes ["_law_error"] (spD K ca 1 mf__law_classes)) : FnG P w K mg base 4 f_law d_law ["_law_script"] (spD K ca 1 mf_law) := by
  refine fn_ok (m := m_law) T.u_law sc_law (fun us μ h => rfl) fun cdv A outer s H E hr gd => ?_
  have tk := takes_of (X := cxOf (L2.CX P w) P w K mg base ["_law_script", "_law_pen_here", "_law_places", "_law_turn", "_law_made_here", "_law_spot", "_law_one", "_law_two", "_law_error", "_law_names", "_law_fields_here"] "law" (defScope s_law) f_law cdv A outer s H E) (E := E) (E₁ := _) rfl rfl rfl rfl
  have S := sc_law
  exact (rss_cons (rs_set 1 S.nd (re_fn F__law_pen (hr.mono (by decide)) gd tk T.g__law_pen T.k__law_pen T.b__law_pen (ra_cons (re_var 0) ra_nil)))
    (rss_cons (rs_set 2 S.nd (re_lst (ra_cons re_int (ra_cons re_int (ra_cons re_int (ra_cons re_int (ra_cons re_int (ra_cons re_int (ra_cons re_int (ra_cons re_int (ra_cons re_int (ra_cons re_int (ra_cons re_int (ra_cons re_int (ra_cons re_int (ra_cons re_int (ra_cons re_int (ra_cons re_int (ra_cons re_int (ra_cons re_int (ra_cons re_int (ra_cons re_int (ra_cons re_int (ra_cons re_int (ra_cons re_int ra_nil)))))))))))))))))))))))))
    (rss_cons (rs_forR1 (passes_of rfl) rfl T.n_range (ra_cons re_int ra_nil) (rg_name 3 S.nd) (rss_cons (rs_par (i := 6) (j := 7) S.nd rfl (ra_cons (re_fn F__law_value (hr.mono (by decide)) gd tk T.g__law_value T.k__law_value T.b__law_value (ra_cons (re_var 1) ra_nil)) (ra_cons (re_fn F__law_value (hr.mono (by decide)) gd tk T.g__law_value T.k__law_value T.b__law_value (ra_cons (re_var 1) ra_nil)) ra_nil)))
    (rss_cons (rs_set 4 S.nd (re_fn F__law_made (hr.mono (by decide)) gd tk T.g__law_made T.k__law_made T.b__law_made (ra_cons (re_var 6) (ra_cons (re_var 7) ra_nil))))
    (rss_one (rs_forR1 (passes_of rfl) rfl T.n_range (ra_cons (re_callB c_len rfl T.n_len bb_len (ra_cons (re_var 4) ra_nil)) ra_nil) (rg_name 5 S.nd) (rss_cons (rs_asg (rg_tup rfl (rgs_cons 8 S.nd (rgs_cons 9 S.nd (rgs_cons 10 S.nd rgs_nil)))) (re_ix (re_var 4) (re_var 5)))
    (rss_cons (rs_if (PW.pt (rw_or (rt_cmp (o_ne hr.units) (re_callB (c_repr gd hr.units) rfl T.n_repr bb_repr (ra_cons (re_fn F__law_fields (hr.mono (by decide)) gd tk T.g__law_fields T.k__law_fields T.b__law_fields (ra_cons (re_var 8) (ra_cons (re_var 9) ra_nil))) ra_nil)) (re_callB (c_repr gd hr.units) rfl T.n_repr bb_repr (ra_cons (re_var 10) ra_nil))) (rw_or1 (rt_cmp (o_ne hr.units) (re_fn F__law_classes (hr.mono (by decide)) gd tk T.g__law_classes T.k__law_classes T.b__law_classes (ra_cons (re_var 8) ra_nil)) (re_lst (ra_cons (re_ix (re_var 2) (re_var 5)) ra_nil)))))) (rss_one (rs_ret re_bl)) rss_nil)
    (rss_cons (rs_if (PW.pt (rw_or (rt_not (rt_val (re_callB (c_isi T.isi) rfl T.n_isinstance bb_isinstance (ra_cons (re_var 8) (ra_cons (re_cls 0 T.g_SkipError) ra_nil))))) (rw_or1 (rt_not (rt_val (re_callB (c_isi T.isi) rfl T.n_isinstance bb_isinstance (ra_cons (re_var 8) (ra_cons (re_ty T.n_ValueError bb_ValueError) ra_nil)))))))) (rss_one (rs_ret re_bl)) rss_nil)
    (rss_one (rs_if (PW.pt (rw_or (rt_val (re_callB (c_isi T.isi) rfl T.n_isinstance bb_isinstance (ra_cons (re_var 8) (ra_cons (re_ty T.n_LookupError bb_LookupError) ra_nil)))) (rw_or (rt_val (re_callB (c_isi T.isi) rfl T.n_isinstance bb_isinstance (ra_cons (re_var 8) (ra_cons (re_ty T.n_TypeError bb_TypeError) ra_nil)))) (rw_or1 (rt_val (re_callB (c_isi T.isi) rfl T.n_isinstance bb_isinstance (ra_cons (re_var 8) (ra_cons (re_ty T.n_ArithmeticError bb_ArithmeticError) ra_nil)))))))) (rss_one (rs_ret re_bl)) rss_nil))))))))))
    (rss_one (rs_ret (re_and (re_not (re_callB (c_isi T.isi) rfl T.n_isinstance bb_isinstance (ra_cons (re_errP F.excBase_ValueError T.x_SkipError T.g_SkipError T.k_SkipError) (ra_cons (re_cls 1 T.g_BadValue) ra_nil)))) (re_one (re_callB (c_isi T.isi) rfl T.n_isinstance bb_isinstance (ra_cons (re_errP F.excBase_ValueError T.x_SkipError T.g_SkipError T.k_SkipError) (ra_cons (re_ty T.n_ValueError bb_ValueError) ra_nil))))))))))
end
end K01
end Dv
namespace Dv
open PySem L2
def penM (cs : List Int) (sp re : Int) : Mem := [some (.lst [.lst (cs.map .int), .int sp, .int re])]
theorem pdL_ints : ∀ cs : List Int, pdL (cs.map .int) = some (cs.map .int)
  | [] => rfl
  | c :: cs => by simp only [List.map_cons, pdL, pd, Option.bind_some, pdL_ints cs]
theorem lay_ints : ∀ cs : List Int, PyData.canLayAll0 (cs.map .int) = true
  | [] => rfl
  | c :: cs => by simp only [List.map_cons, PyData.canLayAll0, PyData.canLay0, Bool.true_and, lay_ints cs]
theorem deep_ints : ∀ cs : List Int, PyData.depthAll (cs.map .int) = 0
  | [] => rfl
  | c :: cs => by simp only [List.map_cons, PyData.depthAll, PyData.depth, deep_ints cs]; rfl
theorem ne_nil (μ : Mem) (cs : List Int) : neU μ (.d (.lst (cs.map .int))) (.d (.lst [])) = some (!cs.isEmpty) := by
  have h1 : SeqAt.shaped (.list (cs.map PyData.int)) = true := by
    unfold SeqAt.shaped
    simp only [PyData.canLay0, lay_ints, PyData.depth, deep_ints]
    decide
  have h2 : SeqAt.shaped (.list []) = true := by decide
  unfold neU eqU
  simp only [scalD]
  unfold eqP
  simp only [pdU, pd, pdL_ints, pdL, Option.map_some, Option.bind_some, h1, h2, Bool.and_self, if_true]
  cases cs with
  | nil => rfl
  | cons c cs => rfl
theorem ix_ints {cs : List Int} {i : Int} (h0 : 0 ≤ i) (h1 : i < cs.length) : ∃ c, atI (cs.map D.int) i = some (.int c) := by
  unfold atI ixN
  have hl : i.toNat < cs.length := by omega
  refine ⟨cs[i.toNat], ?_⟩
  simp [h0, h1, hl]
/-! the words of the mirror, by what they give -/
theorem var_eq {ρ : Env} {i : Nat} {u : U} {μ : Mem} (h : ρ[i]? = some (some u)) : mVar i ρ μ = .val u μ := by
  unfold mVar
  rw [h]
theorem bin_eq {f : Mem → U → U → Option D} {a b : MD} {ρ : Env} {μ : Mem} {x y : U} {d : D} (ha : a ρ μ = .val x μ) (hb : b ρ μ = .val y μ) (hf : f μ x y = some d) : mBin f a b ρ μ = .val (.d d) μ := by
  unfold mBin
  rw [ha, bind_val, hb, bind_val, hf]
  rfl
theorem un_eq {f : Mem → U → Option D} {a : MD} {ρ : Env} {μ : Mem} {x : U} {d : D} (ha : a ρ μ = .val x μ) (hf : f μ x = some d) : mUn f a ρ μ = .val (.d d) μ := by
  unfold mUn
  rw [ha, bind_val, hf]
  rfl
theorem c1_eq {f : Mem → U → Option D} {a : MD} {ρ : Env} {μ : Mem} {x : U} {d : D} (ha : a ρ μ = .val x μ) (hf : f μ x = some d) : mCall (one f) (mCons a mNil) ρ μ = .val (.d d) μ := by
  unfold mCall mCons
  rw [ha]
  simp only [bind_val, mNil, one, hf, ofO_some]
theorem cmp_eq {f : Mem → U → U → Option Bool} {a b : MD} {ρ : Env} {μ : Mem} {x y : U} {d : Bool} (ha : a ρ μ = .val x μ) (hb : b ρ μ = .val y μ) (hf : f μ x y = some d) : mCmpB f a b ρ μ = .val d μ := by
  unfold mCmpB
  rw [ha, bind_val, hb, bind_val, hf]
  rfl
theorem and_eq {a b : MT} {ρ : Env} {μ : Mem} {c d : Bool} (ha : a ρ μ = .val c μ) (hb : c = true → b ρ μ = .val d μ) : mAndT a b ρ μ = .val (c && d) μ := by
  unfold mAndT
  rw [ha, bind_val]
  cases c with
  | true => rw [if_pos rfl, hb rfl]; rfl
  | false => rfl
theorem val_eq {a : MT} {ρ : Env} {μ : Mem} {c : Bool} (ha : a ρ μ = .val c μ) : mVal a ρ μ = .val (.d (.bl c)) μ := by
  unfold mVal
  rw [ha]
  rfl
theorem seq_eq {m n : MS} {ρ ρ1 : Env} {μ μ1 : Mem} {r : RS} (hm : m ρ μ = .next ρ1 μ1) (hn : n ρ1 μ1 = r) : mSeq m n ρ μ = r := by
  unfold mSeq
  rw [hm]
  exact hn
theorem seq_ret {m n : MS} {ρ : Env} {μ μ1 : Mem} {v : U} (hm : m ρ μ = .ret v μ1) : mSeq m n ρ μ = .ret v μ1 := by
  unfold mSeq
  rw [hm]
  rfl
theorem set_eq {m : MD} {ρ : Env} {μ μ1 : Mem} {i : Nat} {u : U} (hm : m ρ μ = .val u μ1) (hi : i < ρ.length) : mSet i m ρ μ = .next (ρ.set i (some u)) μ1 := by
  unfold mSet
  rw [hm]
  simp only [RS.of, putE, if_pos hi]
theorem ret_eq {m : MD} {ρ : Env} {μ μ1 : Mem} {u : U} (hm : m ρ μ = .val u μ1) : mRet m ρ μ = .ret u μ1 := by
  unfold mRet
  rw [hm]
  rfl
theorem if_eq {t : MT} {m n : MS} {ρ : Env} {μ μ1 : Mem} {c : Bool} {r : RS} (ht : t ρ μ = .val c μ1) (h1 : c = true → m ρ μ1 = r) (h2 : c = false → n ρ μ1 = r) : mIf t m n ρ μ = r := by
  unfold mIf
  rw [ht]
  cases c with
  | true => exact h1 rfl
  | false => exact h2 rfl
theorem ix0 {cs : List Int} {sp re : Int} : ixD (penM cs sp re) (.cell 0) (.d (.int 0)) = some (.lst (cs.map .int)) := rfl
theorem ix1 {cs : List Int} {sp re : Int} : ixD (penM cs sp re) (.cell 0) (.d (.int 1)) = some (.int sp) := rfl
theorem ix2 {cs : List Int} {sp re : Int} : ixD (penM cs sp re) (.cell 0) (.d (.int 2)) = some (.int re) := rfl
theorem set1 {cs : List Int} {sp re z : Int} : setAt (penM cs sp re) (.cell 0) (.d (.int 1)) (.int z) = some (penM cs z re) := rfl
theorem set2 {cs : List Int} {sp re z : Int} : setAt (penM cs sp re) (.cell 0) (.d (.int 2)) (.int z) = some (penM cs sp z) := rfl
theorem setIx_eq {me mo mi : MD} {ρ : Env} {μ μ1 : Mem} {x : D} {o i : U} (he : me ρ μ = .val (.d x) μ) (ho : mo ρ μ = .val o μ) (hi : mi ρ μ = .val i μ) (hs : setAt μ o i x = some μ1) : mSetIx me mo mi ρ μ = .next ρ μ1 := by
  unfold mSetIx
  rw [he]
  simp only [RS.of, toD]
  rw [ho]
  simp only [RS.of]
  rw [hi]
  simp only [RS.of, hs]
theorem len_ints {μ : Mem} {cs : List Int} : lenD μ (.d (.lst (cs.map .int))) = some (.int cs.length) := by
  simp [lenD, itemsU, asL]
theorem mod_eq {μ : Mem} {i j : Int} (h : 0 < j) : modD μ (.d (.int i)) (.d (.int j)) = some (.int (i % j)) := by
  simp only [modD, intOp, if_neg (show ¬ j = 0 by omega), Int.fmod_eq_emod_of_nonneg i (show 0 ≤ j by omega)]
theorem div_eq {μ : Mem} {i j : Int} (h : 0 < j) (h2 : j < 1073741824) : divD μ (.d (.int i)) (.d (.int j)) = some (.int (i / j)) := by
  have e : (decide (j ≠ 0) && decide (j.natAbs < 1073741824)) = true := by
    simp only [Bool.and_eq_true, decide_eq_true_eq]
    omega
  simp only [divD, intOp, e, if_true, Int.fdiv_eq_ediv_of_nonneg i (show 0 ≤ j by omega)]
theorem mul_eq {μ : Mem} {i j : Int} (h : small64 i = true ∨ small64 j = true) : mulD μ (.d (.int i)) (.d (.int j)) = some (.int (i * j)) := by
  have e : (small64 i || small64 j) = true := by simpa using h
  simp only [mulD, intOp, e, if_true]
theorem pow_eq {μ : Mem} {i j : Int} (h : 0 ≤ j) (h1 : j ≤ 1000) (h2 : i.natAbs < 2 ^ 64) : powD μ (.d (.int i)) (.d (.int j)) = some (.int (i ^ j.toNat)) := by
  have e : (decide (0 ≤ j) && decide (j ≤ 1000000) && decide (i.natAbs < 2 ^ 64)) = true := by
    simp only [Bool.and_eq_true, decide_eq_true_eq]
    omega
  simp only [powD, intOp, e, if_true]
theorem sm {i : Int} (h0 : 0 ≤ i) (h1 : i < 2 ^ 64) : small64 i = true := by
  simp only [small64, Bool.and_eq_true, decide_eq_true_eq]
  omega
/-- the draw, its numbers left open -/
def drawM (kA kB kP kC kD kQ kE kF kG kR ke kf kS : Int) : MS := (mSeq (mIf (mCmpB (ltB fun i j => decide (j < i)) (mIx (mVar 0) (mC (.int 2))) (mC (.int 0))) (mSeq (mSet 5 (mBin modD (mCall (one intD) (mCons (mIx (mVar 0) (mC (.int 2))) mNil)) (mVar 1)))
    (mSeq (mSetIx (mBin divD (mCall (one intD) (mCons (mIx (mVar 0) (mC (.int 2))) mNil)) (mVar 1)) (mVar 0) (mC (.int 2)))
    (mRet (mVar 5)))) mNop)
    (mSeq (mSet 2 (mIx (mVar 0) (mC (.int 1))))
    (mSeq (mSetIx (mBin addD (mVar 2) (mC (.int 1))) (mVar 0) (mC (.int 1)))
    (mSeq (mSet 3 (mBin addD (mBin mulD (mC (.int kA)) (mVar 2)) (mC (.int kB))))
    (mSeq (mIf (mCmpB neU (mIx (mVar 0) (mC (.int 0))) (mLst mNil)) (mSet 3 (mIx (mIx (mVar 0) (mC (.int 0))) (mBin modD (mCall (one intD) (mCons (mVar 2) mNil)) (mCall (one lenD) (mCons (mIx (mVar 0) (mC (.int 0))) mNil))))) mNop)
    (mSeq (mIf (mAndT (mCmpB (ltB fun i j => decide (i < j)) (mVar 2) (mCall (one lenD) (mCons (mIx (mVar 0) (mC (.int 0))) mNil))) (mCmpB (ltB fun i j => decide (j ≤ i)) (mCall (one absD) (mCons (mVar 3) mNil)) (mBin powD (mC (.int 10)) (mC (.int 18))))) (mSeq (mSet 6 (mBin addD (mBin mulD (mC (.int 2)) (mBin subD (mCall (one absD) (mCons (mVar 3) mNil)) (mBin powD (mC (.int 10)) (mC (.int 18))))) (mCall (one intD) (mCons (mVal (mCmpB (ltB fun i j => decide (i < j)) (mVar 3) (mC (.int 0)))) mNil))))
    (mSeq (mSetIx (mBin divD (mCall (one intD) (mCons (mVar 6) mNil)) (mVar 1)) (mVar 0) (mC (.int 2)))
    (mRet (mBin modD (mCall (one intD) (mCons (mVar 6) mNil)) (mVar 1))))) mNop)
    (mSeq (mSet 4 (mBin modD (mCall (one intD) (mCons (mBin powD (mBin addD (mBin addD (mBin modD (mCall (one intD) (mCons (mVar 3) mNil)) (mC (.int kP))) (mBin mulD (mC (.int kC)) (mVar 2))) (mC (.int kD))) (mC (.int ke))) mNil)) (mC (.int kQ))))
    (mSeq (mSet 4 (mBin modD (mCall (one intD) (mCons (mBin powD (mBin addD (mBin addD (mBin mulD (mVar 4) (mBin addD (mBin mulD (mC (.int 2)) (mVar 2)) (mC (.int kE)))) (mBin mulD (mBin mulD (mC (.int kF)) (mVar 2)) (mVar 2))) (mC (.int kG))) (mC (.int kf))) mNil)) (mC (.int kR))))
    (mRet (mBin modD (mCall (one intD) (mCons (mBin divD (mVar 4) (mC (.int kS))) mNil)) (mVar 1)))))))))))
theorem run_ret {n : Nat} {m : MS} {us : List U} {μ μ1 : Mem} {v : U} (h : m (us.map some ++ List.replicate (n - us.length) none) μ = .ret v μ1) : runB n m us μ = .val v μ1 := by
  unfold runB
  rw [h]
theorem if_skip {t : MT} {m n : MS} {ρ ρ1 : Env} {μ : Mem} {c : Bool} (ht : t ρ μ = .val c μ) (hm : c = true → m ρ μ = .next ρ1 μ) (hn : c = false → n ρ μ = .next ρ1 μ) : mIf t m n ρ μ = .next ρ1 μ := if_eq ht hm hn
theorem draw_ok {kA kB kP kC kD kQ kE kF kG kR ke kf kS : Int} (hA : 0 ≤ kA ∧ kA < 2 ^ 31) (hP : 0 < kP ∧ kP < 2 ^ 32) (hC : 0 ≤ kC ∧ kC < 2 ^ 31) (hD : 0 ≤ kD ∧ kD < 2 ^ 31) (hQ : 0 < kQ ∧ kQ < 2 ^ 32) (hE : 0 ≤ kE ∧ kE < 2 ^ 20) (hF : 0 ≤ kF ∧ kF < 2 ^ 31) (hG : 0 ≤ kG ∧ kG < 2 ^ 31) (hR : 0 < kR) (he : 0 ≤ ke ∧ ke ≤ 1000) (hf : 0 ≤ kf ∧ kf ≤ 1000) (hS : 0 < kS ∧ kS < 1073741824)
    {cs : List Int} {sp re many : Int} (hm : 0 < many ∧ many < 1073741824) (hs : 0 ≤ sp ∧ sp ≤ 1000) (hr : 0 ≤ re) :
    ∃ r sp' re', runB 7 (drawM kA kB kP kC kD kQ kE kF kG kR ke kf kS) [.cell 0, .d (.int many)] (penM cs sp re) = .val (.d (.int r)) (penM cs sp' re') ∧ (0 ≤ r ∧ r < many) ∧ (sp ≤ sp' ∧ sp' ≤ sp + 1) ∧ 0 ≤ re' := by
  have mm : ∀ z : Int, 0 ≤ z % many ∧ z % many < many := fun z => ⟨Int.emod_nonneg z (by omega), Int.emod_lt_of_pos z hm.1⟩
  have i0 : ∀ {ρ : Env} {cs sp re}, ρ[0]? = some (some (U.cell 0)) → mIx (mVar 0) (mC (.int 0)) ρ (penM cs sp re) = .val (.d (.lst (cs.map .int))) (penM cs sp re) := fun h => bin_eq (var_eq h) rfl ix0
  have i1 : ∀ {ρ : Env} {cs sp re}, ρ[0]? = some (some (U.cell 0)) → mIx (mVar 0) (mC (.int 1)) ρ (penM cs sp re) = .val (.d (.int sp)) (penM cs sp re) := fun h => bin_eq (var_eq h) rfl ix1
  have i2 : ∀ {ρ : Env} {cs sp re}, ρ[0]? = some (some (U.cell 0)) → mIx (mVar 0) (mC (.int 2)) ρ (penM cs sp re) = .val (.d (.int re)) (penM cs sp re) := fun h => bin_eq (var_eq h) rfl ix2
  by_cases h0 : 0 < re
  · refine ⟨re % many, sp, re / many, run_ret ?_, mm re, by omega, Int.ediv_nonneg hr (by omega)⟩
    refine seq_ret (if_eq (c := true) (cmp_eq (i2 rfl) rfl (by simp [ltB, h0])) (fun _ => ?_) (fun z => by cases z))
    refine seq_eq (set_eq (bin_eq (c1_eq (i2 rfl) rfl) (var_eq rfl) (mod_eq hm.1)) (by simp)) ?_
    refine seq_eq (setIx_eq (bin_eq (c1_eq (i2 rfl) rfl) (var_eq rfl) (div_eq hm.1 hm.2)) (var_eq rfl) rfl set2) ?_
    exact ret_eq (var_eq rfl)
  · have r0 : re = 0 := by omega
    subst r0
    -- the cell
    obtain ⟨cell, hcell⟩ : ∃ cell : Int, mIf (mCmpB neU (mIx (mVar 0) (mC (.int 0))) (mLst mNil)) (mSet 3 (mIx (mIx (mVar 0) (mC (.int 0))) (mBin modD (mCall (one intD) (mCons (mVar 2) mNil)) (mCall (one lenD) (mCons (mIx (mVar 0) (mC (.int 0))) mNil))))) mNop
        [some (.cell 0), some (.d (.int many)), some (.d (.int sp)), some (.d (.int (kA * sp + kB))), none, none, none] (penM cs (sp + 1) 0) = .next [some (.cell 0), some (.d (.int many)), some (.d (.int sp)), some (.d (.int cell)), none, none, none] (penM cs (sp + 1) 0) := by
      cases hc : cs.isEmpty with
      | true => exact ⟨_, if_eq (c := false) (cmp_eq (i0 rfl) rfl (by rw [ne_nil, hc]; rfl)) (fun z => by cases z) (fun _ => rfl)⟩
      | false =>
        have hl : 0 < (cs.length : Int) := by
          cases cs with
          | nil => cases hc
          | cons c cs => simp
        obtain ⟨c, e⟩ := ix_ints (cs := cs) (Int.emod_nonneg sp (by omega)) (Int.emod_lt_of_pos sp hl)
        exact ⟨c, if_eq (c := true) (cmp_eq (i0 rfl) rfl (by rw [ne_nil, hc]; rfl)) (fun _ => set_eq (bin_eq (i0 rfl) (bin_eq (c1_eq (var_eq rfl) rfl) (c1_eq (i0 rfl) len_ints) (mod_eq hl)) e) (by simp)) (fun z => by cases z)⟩
    have pre : ∀ {m : MS} {v : U} {μ1 : Mem}, m [some (.cell 0), some (.d (.int many)), some (.d (.int sp)), some (.d (.int cell)), none, none, none] (penM cs (sp + 1) 0) = .ret v μ1 →
        mSeq (mIf (mCmpB (ltB fun i j => decide (j < i)) (mIx (mVar 0) (mC (.int 2))) (mC (.int 0))) (mSeq (mSet 5 (mBin modD (mCall (one intD) (mCons (mIx (mVar 0) (mC (.int 2))) mNil)) (mVar 1))) (mSeq (mSetIx (mBin divD (mCall (one intD) (mCons (mIx (mVar 0) (mC (.int 2))) mNil)) (mVar 1)) (mVar 0) (mC (.int 2))) (mRet (mVar 5)))) mNop)
        (mSeq (mSet 2 (mIx (mVar 0) (mC (.int 1)))) (mSeq (mSetIx (mBin addD (mVar 2) (mC (.int 1))) (mVar 0) (mC (.int 1))) (mSeq (mSet 3 (mBin addD (mBin mulD (mC (.int kA)) (mVar 2)) (mC (.int kB))))
        (mSeq (mIf (mCmpB neU (mIx (mVar 0) (mC (.int 0))) (mLst mNil)) (mSet 3 (mIx (mIx (mVar 0) (mC (.int 0))) (mBin modD (mCall (one intD) (mCons (mVar 2) mNil)) (mCall (one lenD) (mCons (mIx (mVar 0) (mC (.int 0))) mNil))))) mNop) m))))
        [some (.cell 0), some (.d (.int many)), none, none, none, none, none] (penM cs sp 0) = .ret v μ1 := fun h =>
      seq_eq (if_eq (c := false) (cmp_eq (i2 rfl) rfl (by simp [ltB])) (fun z => by cases z) (fun _ => rfl)) (seq_eq (set_eq (i1 rfl) (by simp)) (seq_eq (setIx_eq (bin_eq (var_eq rfl) rfl rfl) (var_eq rfl) rfl set1) (seq_eq (set_eq (bin_eq (bin_eq rfl (var_eq rfl) (mul_eq (.inl (sm hA.1 (by omega))))) rfl rfl) (by simp)) (seq_eq hcell h))))
    have ct : mAndT (mCmpB (ltB fun i j => decide (i < j)) (mVar 2) (mCall (one lenD) (mCons (mIx (mVar 0) (mC (.int 0))) mNil))) (mCmpB (ltB fun i j => decide (j ≤ i)) (mCall (one absD) (mCons (mVar 3) mNil)) (mBin powD (mC (.int 10)) (mC (.int 18))))
        [some (.cell 0), some (.d (.int many)), some (.d (.int sp)), some (.d (.int cell)), none, none, none] (penM cs (sp + 1) 0) = .val (decide (sp < cs.length) && decide ((10 : Int) ^ 18 ≤ if cell < 0 then -cell else cell)) (penM cs (sp + 1) 0) :=
      and_eq (cmp_eq (var_eq rfl) (c1_eq (i0 rfl) len_ints) rfl) fun _ => cmp_eq (c1_eq (var_eq rfl) rfl) (bin_eq rfl rfl rfl) rfl
    by_cases hg : (decide (sp < cs.length) && decide ((10 : Int) ^ 18 ≤ if cell < 0 then -cell else cell)) = true
    · have hge : (10 : Int) ^ 18 ≤ if cell < 0 then -cell else cell := by
        simp only [Bool.and_eq_true, decide_eq_true_eq] at hg
        exact hg.2
      generalize hgr : 2 * ((if cell < 0 then -cell else cell) - (10 : Int) ^ 18) + (if decide (cell < 0) = true then 1 else 0) = gr
      have g0 : 0 ≤ gr := by
        rw [← hgr]
        split <;> omega
      refine ⟨gr % many, sp + 1, gr / many, run_ret (pre ?_), mm gr, by omega, Int.ediv_nonneg g0 (by omega)⟩
      refine seq_ret (if_eq ct (fun _ => ?_) (fun z => by rw [hg] at z; cases z))
      refine seq_eq (set_eq (u := .d (.int gr)) (μ1 := penM cs (sp + 1) 0) ?_ (by simp)) ?_
      · rw [← hgr]
        exact bin_eq (bin_eq rfl (bin_eq (c1_eq (var_eq rfl) rfl) (bin_eq rfl rfl rfl) rfl) (mul_eq (.inl rfl))) (c1_eq (val_eq (cmp_eq (var_eq rfl) rfl rfl)) rfl) rfl
      refine seq_eq (setIx_eq (bin_eq (c1_eq (var_eq rfl) rfl) (var_eq rfl) (div_eq hm.1 hm.2)) (var_eq rfl) rfl set2) ?_
      exact ret_eq (bin_eq (c1_eq (var_eq rfl) rfl) (var_eq rfl) (mod_eq hm.1))
    · have m0 : 0 ≤ cell % kP ∧ cell % kP < kP := ⟨Int.emod_nonneg _ (by omega), Int.emod_lt_of_pos _ hP.1⟩
      have p1 : 0 ≤ kC * sp ∧ kC * sp ≤ 2 ^ 31 * 1000 := ⟨Int.mul_nonneg hC.1 hs.1, Int.mul_le_mul (by omega) hs.2 hs.1 (by omega)⟩
      generalize hz1 : (cell % kP + kC * sp + kD) ^ ke.toNat % kQ = z1
      have q1 : 0 ≤ z1 ∧ z1 < kQ := by
        rw [← hz1]
        exact ⟨Int.emod_nonneg _ (by omega), Int.emod_lt_of_pos _ hQ.1⟩
      have p2 : 0 ≤ z1 * (2 * sp + kE) ∧ z1 * (2 * sp + kE) ≤ 2 ^ 32 * 2 ^ 21 := ⟨Int.mul_nonneg q1.1 (by omega), Int.mul_le_mul (by omega) (by omega) (by omega) (by omega)⟩
      have p3 : 0 ≤ kF * sp ∧ kF * sp ≤ 2 ^ 31 * 1000 := ⟨Int.mul_nonneg hF.1 hs.1, Int.mul_le_mul (by omega) hs.2 hs.1 (by omega)⟩
      have p4 : 0 ≤ kF * sp * sp ∧ kF * sp * sp ≤ 2 ^ 31 * 1000 * 1000 := ⟨Int.mul_nonneg p3.1 hs.1, Int.mul_le_mul p3.2 hs.2 hs.1 (by omega)⟩
      generalize hz2 : (z1 * (2 * sp + kE) + kF * sp * sp + kG) ^ kf.toNat % kR = z2
      refine ⟨(z2 / kS) % many, sp + 1, 0, run_ret (pre ?_), mm _, by omega, by omega⟩
      refine seq_eq (if_eq ct (fun z => absurd z hg) (fun _ => rfl)) ?_
      refine seq_eq (set_eq (u := .d (.int z1)) (μ1 := penM cs (sp + 1) 0) ?_ (by simp)) ?_
      · rw [← hz1]
        exact bin_eq (c1_eq (bin_eq (bin_eq (bin_eq (bin_eq (c1_eq (var_eq rfl) rfl) rfl (mod_eq hP.1)) (bin_eq rfl (var_eq rfl) (mul_eq (.inl (sm hC.1 (by omega))))) rfl) rfl rfl) rfl (pow_eq he.1 he.2 (by omega))) rfl) rfl (mod_eq hQ.1)
      refine seq_eq (set_eq (u := .d (.int z2)) (μ1 := penM cs (sp + 1) 0) ?_ (by simp)) ?_
      · rw [← hz2]
        exact bin_eq (c1_eq (bin_eq (bin_eq (bin_eq (bin_eq (var_eq rfl) (bin_eq (bin_eq rfl (var_eq rfl) (mul_eq (.inl rfl))) rfl rfl) (mul_eq (.inl (sm q1.1 (by omega))))) (bin_eq (bin_eq rfl (var_eq rfl) (mul_eq (.inl (sm hF.1 (by omega))))) (var_eq rfl) (mul_eq (.inl (sm p3.1 (by omega))))) rfl) rfl rfl) rfl (pow_eq hf.1 hf.2 (by omega))) rfl) rfl (mod_eq hR)
      exact ret_eq (bin_eq (c1_eq (bin_eq (var_eq rfl) rfl (div_eq hS.1 hS.2)) rfl) (var_eq rfl) (mod_eq hm.1))
end Dv
namespace Dv
namespace K01
open PySem L2
theorem draw_is : m__law_draw = drawM 40158 1038 2147483543 61228 400 2147483563 177 51104 136 2147483629 5 3 32 := rfl
theorem draw1 {cs : List Int} {sp re many : Int} (hm : 0 < many ∧ many < 1073741824) (hs : 0 ≤ sp ∧ sp ≤ 1000) (hr : 0 ≤ re) :
    ∃ r sp' re', mf__law_draw [.cell 0, .d (.int many)] (penM cs sp re) = .val (.d (.int r)) (penM cs sp' re') ∧ (0 ≤ r ∧ r < many) ∧ (sp ≤ sp' ∧ sp' ≤ sp + 1) ∧ 0 ≤ re' := by
  unfold mf__law_draw
  rw [draw_is]
  exact draw_ok (by decide) (by decide) (by decide) (by decide) (by decide) (by decide) (by decide) (by decide) (by decide) (by decide) (by decide) (by decide) hm hs hr
theorem cons_eq {a : MD} {r : ML} {ρ : Env} {μ : Mem} {x : U} {xs : List U} (ha : a ρ μ = .val x μ) (hr : r ρ μ = .val xs μ) : mCons a r ρ μ = .val (x :: xs) μ := by
  unfold mCons
  rw [ha, bind_val, hr]
  rfl
theorem fn_eq {mf : MF} {ml : ML} {ρ : Env} {μ μ1 : Mem} {us : List U} (h : ml ρ μ = .val us μ1) : mFn mf ml ρ μ = mf us μ1 := by
  unfold mFn
  rw [h]
  rfl
theorem bin2_eq {f : Mem → U → U → Option D} {a b : MD} {ρ : Env} {μ μ1 : Mem} {x y : U} {d : D} (ha : a ρ μ = .val x μ) (hb : b ρ μ = .val y μ1) (hf : f μ1 x y = some d) : mBin f a b ρ μ = .val (.d d) μ1 := by
  unfold mBin
  rw [ha, bind_val, hb, bind_val, hf]
  rfl
theorem at_mem {xs : List D} {i : Int} (h0 : 0 ≤ i) (h1 : i < xs.length) : ∃ x, x ∈ xs ∧ atI xs i = some x := by
  unfold atI ixN
  have hl : i.toNat < xs.length := by omega
  exact ⟨xs[i.toNat], List.getElem_mem hl, by simp [h0, h1, hl]⟩
theorem pick1 {cs : List Int} {sp re : Int} {xs : List D} (hx : 0 < xs.length ∧ xs.length ≤ 1000) (hs : 0 ≤ sp ∧ sp ≤ 1000) (hr : 0 ≤ re) :
    ∃ x sp' re', x ∈ xs ∧ mf__law_pick [.cell 0, .d (.lst xs)] (penM cs sp re) = .val (.d x) (penM cs sp' re') ∧ (sp ≤ sp' ∧ sp' ≤ sp + 1) ∧ 0 ≤ re' := by
  obtain ⟨r, sp', re', e, hr1, h2, h3⟩ := draw1 (cs := cs) (sp := sp) (re := re) (many := (xs.length : Int)) (by omega) hs hr
  obtain ⟨x, hm, hx1⟩ := at_mem hr1.1 hr1.2
  refine ⟨x, sp', re', hm, run_ret (ret_eq ?_), h2, h3⟩
  have hl : mCall (one lenD) (mCons (mVar 1) mNil) [some (.cell 0), some (.d (.lst xs))] (penM cs sp re) = .val (.d (.int xs.length)) (penM cs sp re) := c1_eq (var_eq rfl) rfl
  exact bin2_eq (var_eq rfl) ((fn_eq (cons_eq (var_eq rfl) (cons_eq hl rfl))).trans e) (by simp only [ixD, itemsU, asL, Option.bind_some, hx1])
def menu : List D := [.non, .bl true, .int 0, .int (-1), .int (10 ^ 39), .str "", .str "a", .str "two words", .tup [], .tup [.str "a", .int 1], .lst [], .dic [], .bl false]
theorem value1 {cs : List Int} {sp re : Int} (hs : 0 ≤ sp ∧ sp ≤ 1000) (hr : 0 ≤ re) :
    ∃ x sp' re', x ∈ menu ∧ mf__law_value [.cell 0] (penM cs sp re) = .val (.d x) (penM cs sp' re') ∧ (sp ≤ sp' ∧ sp' ≤ sp + 1) ∧ 0 ≤ re' := by
  obtain ⟨x, sp', re', hm, e, h2, h3⟩ := pick1 (cs := cs) (sp := sp) (re := re) (xs := menu) (by decide) hs hr
  refine ⟨x, sp', re', hm, run_ret (seq_eq (set_eq (u := .d (.lst menu)) (μ1 := penM cs sp re) rfl (by simp)) (ret_eq ?_)), h2, h3⟩
  exact e
theorem menu_pz : ∀ x ∈ menu, ∃ d, pz x = some d ∧ d.showable = true ∧ d.depth ≤ 2 ∧ d.shown.length ≤ 100 := by
  intro x hx
  simp only [menu, List.mem_cons, List.not_mem_nil, or_false] at hx
  rcases hx with rfl | rfl | rfl | rfl | rfl | rfl | rfl | rfl | rfl | rfl | rfl | rfl | rfl <;> exact ⟨_, rfl, by decide +kernel, by decide +kernel, by decide +kernel⟩
def made (x y : D) : List D := [.tup [.err 1 [("value", x)], .str "value", .lst [x]], .tup [.err 2 [("value", x)], .str "value", .lst [x]], .tup [.err 3 [("part", x)], .str "part", .lst [x]], .tup [.err 4 [("part", x)], .str "part", .lst [x]], .tup [.err 5 [("part", x)], .str "part", .lst [x]], .tup [.err 6 [("part", x)], .str "part", .lst [x]], .tup [.err 7 [("part", x)], .str "part", .lst [x]], .tup [.err 8 [("part", x)], .str "part", .lst [x]], .tup [.err 9 [("at", x)], .str "at", .lst [x]], .tup [.err 10 [("part", x)], .str "part", .lst [x]], .tup [.err 11 [("at", x)], .str "at", .lst [x]], .tup [.err 12 [("part", x)], .str "part", .lst [x]], .tup [.err 13 [("part", x)], .str "part", .lst [x]], .tup [.err 14 [("line", x), ("word", y)], .str "line word", .lst [x, y]], .tup [.err 15 [("word", x)], .str "word", .lst [x]], .tup [.err 16 [("name", x)], .str "name", .lst [x]], .tup [.err 17 [("at", x)], .str "at", .lst [x]], .tup [.err 18 [("many", x)], .str "many", .lst [x]], .tup [.err 19 [("name", x)], .str "name", .lst [x]], .tup [.err 6 [("part", x)], .str "part", .lst [x]], .tup [.err 20 [("what", x), ("most", y)], .str "what most", .lst [x, y]], .tup [.err 21 [], .str "", .lst []], .tup [.err 9 [("at", x)], .str "at", .lst [x]]]
def places : List D := [0, 1, 2, 3, 4, 5, 6, 7, 8, 9, 10, 11, 12, 13, 14, 15, 16, 17, 18, 5, 19, 20, 8].map .int
theorem made1 (x y : D) (μ : Mem) : mf__law_made [.d x, .d y] μ = .val (.d (.lst (made x y))) μ := by kernel_rfl
theorem classes1 (fs : List (Str × D)) (μ : Mem) : ∀ c : Nat, 0 < c → c < 22 → mf__law_classes [.d (.err c fs)] μ = .val (.d (.lst [.int ((c : Int) - 1)])) μ
  | 0, h, _ => absurd h (by decide)
  | 1, _, _ => by kernel_rfl
  | 2, _, _ => by kernel_rfl
  | 3, _, _ => by kernel_rfl
  | 4, _, _ => by kernel_rfl
  | 5, _, _ => by kernel_rfl
  | 6, _, _ => by kernel_rfl
  | 7, _, _ => by kernel_rfl
  | 8, _, _ => by kernel_rfl
  | 9, _, _ => by kernel_rfl
  | 10, _, _ => by kernel_rfl
  | 11, _, _ => by kernel_rfl
  | 12, _, _ => by kernel_rfl
  | 13, _, _ => by kernel_rfl
  | 14, _, _ => by kernel_rfl
  | 15, _, _ => by kernel_rfl
  | 16, _, _ => by kernel_rfl
  | 17, _, _ => by kernel_rfl
  | 18, _, _ => by kernel_rfl
  | 19, _, _ => by kernel_rfl
  | 20, _, _ => by kernel_rfl
  | 21, _, _ => by kernel_rfl
  | n + 22, _, h => absurd h (by omega)
end K01
end Dv
namespace Dv
namespace K01
open PySem L2
def innerB : MS := (mSeq (mAsg (gTupE [8, 9, 10]) (mIx (mVar 4) (mVar 5)))
    (mSeq (mIf (mOrT (mCmpB neU (mCall (one reprD) (mCons (mFn mf__law_fields (mCons (mVar 8) (mCons (mVar 9) mNil))) mNil)) (mCall (one reprD) (mCons (mVar 10) mNil))) (mCmpB neU (mFn mf__law_classes (mCons (mVar 8) mNil)) (mLst (mCons (mIx (mVar 2) (mVar 5)) mNil)))) (mRet (mC (.bl false))) mNop)
    (mSeq (mIf (mOrT (mNotT (mTest (mCall (isiD tb) (mCons (mVar 8) (mCons (mC (.cls 0)) mNil))))) (mNotT (mTest (mCall (isiD tb) (mCons (mVar 8) (mCons (mC (.ty "ValueError")) mNil)))))) (mRet (mC (.bl false))) mNop)
    (mIf (mOrT (mTest (mCall (isiD tb) (mCons (mVar 8) (mCons (mC (.ty "LookupError")) mNil)))) (mOrT (mTest (mCall (isiD tb) (mCons (mVar 8) (mCons (mC (.ty "TypeError")) mNil)))) (mTest (mCall (isiD tb) (mCons (mVar 8) (mCons (mC (.ty "ArithmeticError")) mNil)))))) (mRet (mC (.bl false))) mNop))))
def outerB : MS := (mSeq (mPar 6 7 (mCons (mFn mf__law_value (mCons (mVar 1) mNil)) (mCons (mFn mf__law_value (mCons (mVar 1) mNil)) mNil)))
    (mSeq (mSet 4 (mFn mf__law_made (mCons (mVar 6) (mCons (mVar 7) mNil))))
    (mForR rng1 (mCons (mCall (one lenD) (mCons (mVar 4) mNil)) mNil) (gNameE 5) innerB)))
theorem len_join {x y : Str} : (x ++ y).length = x.length + y.length := strLen_append ..
theorem repr1 {x : D} (hx : x ∈ menu) {μ : Mem} : ∃ t, reprD μ (.d (.lst [x])) = some (.str t) := by
  obtain ⟨d, h1, h2, h3, h4⟩ := menu_pz x hx
  refine ⟨listText (PyData.shownAll [d]), ?_⟩
  unfold reprD
  simp only [asL, Option.bind_some, pzL, h1]
  have c : (PyData.showableAll [d] && decide (PyData.depthAll [d] ≤ 60) && decide ((listText (PyData.shownAll [d])).length ≤ 1000000)) = true := by
    simp only [PyData.showableAll, PyData.depthAll, PyData.shownAll, h2, Bool.true_and, Bool.and_eq_true]
    refine ⟨decide_eq_true (by omega), decide_eq_true ?_⟩
    show (("[" : Str) ++ d.shown ++ ("]" : Str)).length ≤ 1000000
    rw [len_join, len_join]
    have e1 : (("[" : Str)).length = 1 := rfl
    have e2 : (("]" : Str)).length = 1 := rfl
    omega
  rw [if_pos c]
theorem repr2 {x y : D} (hx : x ∈ menu) (hy : y ∈ menu) {μ : Mem} : ∃ t, reprD μ (.d (.lst [x, y])) = some (.str t) := by
  obtain ⟨d, h1, h2, h3, h4⟩ := menu_pz x hx
  obtain ⟨d', g1, g2, g3, g4⟩ := menu_pz y hy
  refine ⟨listText (PyData.shownAll [d, d']), ?_⟩
  unfold reprD
  simp only [asL, Option.bind_some, pzL, h1, g1]
  have c : (PyData.showableAll [d, d'] && decide (PyData.depthAll [d, d'] ≤ 60) && decide ((listText (PyData.shownAll [d, d'])).length ≤ 1000000)) = true := by
    simp only [PyData.showableAll, PyData.depthAll, PyData.shownAll, h2, g2, Bool.true_and, Bool.and_eq_true]
    refine ⟨decide_eq_true (by omega), decide_eq_true ?_⟩
    show (("[" : Str) ++ d.shown ++ (", " : Str) ++ d'.shown ++ ("]" : Str)).length ≤ 1000000
    rw [len_join, len_join, len_join, len_join]
    have e1 : (("[" : Str)).length = 1 := rfl
    have e2 : (("]" : Str)).length = 1 := rfl
    have e3 : ((", " : Str)).length = 2 := rfl
    omega
  rw [if_pos c]
theorem str_ne {μ : Mem} {t : Str} : neU μ (.d (.str t)) (.d (.str t)) = some false := by
  unfold neU eqU
  simp [scalD, scal]
theorem int_ne {μ : Mem} {k : Int} : neU μ (.d (.lst [.int k])) (.d (.lst [.int k])) = some false := by
  have h1 : SeqAt.shaped (.list [PyData.int k]) = true := rfl
  unfold neU eqU
  simp only [scalD]
  unfold eqP
  simp only [pdU, pd, pdL, Option.map_some, Option.bind_some, h1, Bool.and_self, if_true]
  simp [PyData.eqv, PyData.eqvAll]
theorem call_eq {f : Mem → List U → Option D} {ml : ML} {ρ : Env} {μ : Mem} {us : List U} {d : D} (h : ml ρ μ = .val us μ) (hf : f μ us = some d) : mCall f ml ρ μ = .val (.d d) μ := by
  unfold mCall
  rw [h, bind_val, hf]
  rfl
theorem or_eq {a b : MT} {ρ : Env} {μ : Mem} {d : Bool} (ha : a ρ μ = .val false μ) (hb : b ρ μ = .val d μ) : mOrT a b ρ μ = .val d μ := by
  unfold mOrT
  rw [ha, bind_val, if_neg (by decide), hb]
theorem isi_eq {ρ : Env} {μ : Mem} {i : Nat} {c : Nat} {fs : List (Str × D)} {k : D} {b : Bool} (h : ρ[i]? = some (some (.d (.err c fs)))) (ht : tb c k = some b) : mTest (mCall (isiD tb) (mCons (mVar i) (mCons (mC k) mNil))) ρ μ = .val b μ := by
  unfold mTest mCall
  rw [cons_eq (var_eq h) (cons_eq (x := .d k) rfl rfl), bind_val]
  simp only [isiD, ht, Option.map_some, ofO_some, bind_val]
theorem not_eq {a : MT} {ρ : Env} {μ : Mem} {c : Bool} (ha : a ρ μ = .val c μ) : mNotT a ρ μ = .val (!c) μ := by
  unfold mNotT
  rw [ha]
  rfl
theorem if_no {t : MT} {m : MS} {ρ : Env} {μ : Mem} (ht : t ρ μ = .val false μ) : mIf t m mNop ρ μ = .next ρ μ := if_eq ht (fun z => by cases z) (fun _ => rfl)
theorem turn1 {μ : Mem} {s t one two o8 o9 o10 : Option U} {md : List D} {i : Int} {c : Nat} {fs : List (Str × D)} {nm : Str} {vs : List D} (hix : atI md i = some (.tup [.err c fs, .str nm, .lst vs])) (hpl : atI places i = some (.int ((c : Int) - 1)))
    (hf : mf__law_fields [.d (.err c fs), .d (.str nm)] μ = .val (.d (.lst vs)) μ) (hr : ∃ tx, reprD μ (.d (.lst vs)) = some (.str tx)) (h1 : 0 < c) (h2 : c < 22) :
    innerB [s, some (.cell 0), some (.d (.lst places)), t, some (.d (.lst md)), some (.d (.int i)), one, two, o8, o9, o10] μ = .next [s, some (.cell 0), some (.d (.lst places)), t, some (.d (.lst md)), some (.d (.int i)), one, two, some (.d (.err c fs)), some (.d (.str nm)), some (.d (.lst vs))] μ := by
  obtain ⟨tx, hr⟩ := hr
  have k0 : tb c (.cls 0) = some true := by simp [tb, h2]
  have k1 : tb c (.ty "ValueError") = some true := by simp [tb, h2]
  have k2 : ∀ n : String, n = "LookupError" ∨ n = "TypeError" ∨ n = "ArithmeticError" → tb c (.ty n) = some false := fun n hn => by
    rcases hn with rfl | rfl | rfl <;> simp [tb, h2]
  refine seq_eq (ρ1 := [s, some (.cell 0), some (.d (.lst places)), t, some (.d (.lst md)), some (.d (.int i)), one, two, some (.d (.err c fs)), some (.d (.str nm)), some (.d (.lst vs))]) (μ1 := μ) ?_ ?_
  · unfold mAsg
    rw [show mIx (mVar 4) (mVar 5) [s, some (.cell 0), some (.d (.lst places)), t, some (.d (.lst md)), some (.d (.int i)), one, two, o8, o9, o10] μ = .val (.d (.tup [.err c fs, .str nm, .lst vs])) μ from bin_eq (var_eq rfl) (var_eq rfl) (by simp only [ixD, itemsU, asL, Option.bind_some, hix])]
    rfl
  refine seq_eq (if_no (or_eq ?_ ?_)) (seq_eq (if_no (or_eq (not_eq (isi_eq rfl k0)) (not_eq (isi_eq rfl k1)))) (if_no (or_eq (isi_eq rfl (k2 _ (.inl rfl))) (or_eq (isi_eq rfl (k2 _ (.inr (.inl rfl)))) (isi_eq rfl (k2 _ (.inr (.inr rfl)))))))) 
  · exact cmp_eq (c1_eq ((fn_eq (cons_eq (var_eq rfl) (cons_eq (var_eq rfl) rfl))).trans hf) hr) (c1_eq (var_eq rfl) hr) str_ne
  · refine cmp_eq ((fn_eq (cons_eq (var_eq rfl) rfl)).trans (classes1 fs μ c h1 h2)) (y := .d (.lst [.int ((c : Int) - 1)])) ?_ int_ne
    exact call_eq (cons_eq (x := .d (.int ((c : Int) - 1))) (bin_eq (f := ixD) (var_eq rfl) (var_eq rfl) (by simp only [ixD, itemsU, asL, Option.bind_some, hpl])) rfl) rfl
theorem t_0 {x y : D} (hx : x ∈ menu) (hy : y ∈ menu) {μ : Mem} {s t one two o8 o9 o10 : Option U} : ∃ a b d, innerB [s, some (.cell 0), some (.d (.lst places)), t, some (.d (.lst (made x y))), some (.d (.int 0)), one, two, o8, o9, o10] μ = .next [s, some (.cell 0), some (.d (.lst places)), t, some (.d (.lst (made x y))), some (.d (.int 0)), one, two, a, b, d] μ :=
  ⟨_, _, _, turn1 (c := 1) (fs := [("value", x)]) (nm := "value") (vs := [x]) rfl rfl (by kernel_rfl) (repr1 hx) (by decide) (by decide)⟩
theorem t_1 {x y : D} (hx : x ∈ menu) (hy : y ∈ menu) {μ : Mem} {s t one two o8 o9 o10 : Option U} : ∃ a b d, innerB [s, some (.cell 0), some (.d (.lst places)), t, some (.d (.lst (made x y))), some (.d (.int 1)), one, two, o8, o9, o10] μ = .next [s, some (.cell 0), some (.d (.lst places)), t, some (.d (.lst (made x y))), some (.d (.int 1)), one, two, a, b, d] μ :=
  ⟨_, _, _, turn1 (c := 2) (fs := [("value", x)]) (nm := "value") (vs := [x]) rfl rfl (by kernel_rfl) (repr1 hx) (by decide) (by decide)⟩
theorem t_2 {x y : D} (hx : x ∈ menu) (hy : y ∈ menu) {μ : Mem} {s t one two o8 o9 o10 : Option U} : ∃ a b d, innerB [s, some (.cell 0), some (.d (.lst places)), t, some (.d (.lst (made x y))), some (.d (.int 2)), one, two, o8, o9, o10] μ = .next [s, some (.cell 0), some (.d (.lst places)), t, some (.d (.lst (made x y))), some (.d (.int 2)), one, two, a, b, d] μ :=
  ⟨_, _, _, turn1 (c := 3) (fs := [("part", x)]) (nm := "part") (vs := [x]) rfl rfl (by kernel_rfl) (repr1 hx) (by decide) (by decide)⟩
theorem t_3 {x y : D} (hx : x ∈ menu) (hy : y ∈ menu) {μ : Mem} {s t one two o8 o9 o10 : Option U} : ∃ a b d, innerB [s, some (.cell 0), some (.d (.lst places)), t, some (.d (.lst (made x y))), some (.d (.int 3)), one, two, o8, o9, o10] μ = .next [s, some (.cell 0), some (.d (.lst places)), t, some (.d (.lst (made x y))), some (.d (.int 3)), one, two, a, b, d] μ :=
  ⟨_, _, _, turn1 (c := 4) (fs := [("part", x)]) (nm := "part") (vs := [x]) rfl rfl (by kernel_rfl) (repr1 hx) (by decide) (by decide)⟩
theorem t_4 {x y : D} (hx : x ∈ menu) (hy : y ∈ menu) {μ : Mem} {s t one two o8 o9 o10 : Option U} : ∃ a b d, innerB [s, some (.cell 0), some (.d (.lst places)), t, some (.d (.lst (made x y))), some (.d (.int 4)), one, two, o8, o9, o10] μ = .next [s, some (.cell 0), some (.d (.lst places)), t, some (.d (.lst (made x y))), some (.d (.int 4)), one, two, a, b, d] μ :=
  ⟨_, _, _, turn1 (c := 5) (fs := [("part", x)]) (nm := "part") (vs := [x]) rfl rfl (by kernel_rfl) (repr1 hx) (by decide) (by decide)⟩
theorem t_5 {x y : D} (hx : x ∈ menu) (hy : y ∈ menu) {μ : Mem} {s t one two o8 o9 o10 : Option U} : ∃ a b d, innerB [s, some (.cell 0), some (.d (.lst places)), t, some (.d (.lst (made x y))), some (.d (.int 5)), one, two, o8, o9, o10] μ = .next [s, some (.cell 0), some (.d (.lst places)), t, some (.d (.lst (made x y))), some (.d (.int 5)), one, two, a, b, d] μ :=
  ⟨_, _, _, turn1 (c := 6) (fs := [("part", x)]) (nm := "part") (vs := [x]) rfl rfl (by kernel_rfl) (repr1 hx) (by decide) (by decide)⟩
theorem t_6 {x y : D} (hx : x ∈ menu) (hy : y ∈ menu) {μ : Mem} {s t one two o8 o9 o10 : Option U} : ∃ a b d, innerB [s, some (.cell 0), some (.d (.lst places)), t, some (.d (.lst (made x y))), some (.d (.int 6)), one, two, o8, o9, o10] μ = .next [s, some (.cell 0), some (.d (.lst places)), t, some (.d (.lst (made x y))), some (.d (.int 6)), one, two, a, b, d] μ :=
  ⟨_, _, _, turn1 (c := 7) (fs := [("part", x)]) (nm := "part") (vs := [x]) rfl rfl (by kernel_rfl) (repr1 hx) (by decide) (by decide)⟩
theorem t_7 {x y : D} (hx : x ∈ menu) (hy : y ∈ menu) {μ : Mem} {s t one two o8 o9 o10 : Option U} : ∃ a b d, innerB [s, some (.cell 0), some (.d (.lst places)), t, some (.d (.lst (made x y))), some (.d (.int 7)), one, two, o8, o9, o10] μ = .next [s, some (.cell 0), some (.d (.lst places)), t, some (.d (.lst (made x y))), some (.d (.int 7)), one, two, a, b, d] μ :=
  ⟨_, _, _, turn1 (c := 8) (fs := [("part", x)]) (nm := "part") (vs := [x]) rfl rfl (by kernel_rfl) (repr1 hx) (by decide) (by decide)⟩
theorem t_8 {x y : D} (hx : x ∈ menu) (hy : y ∈ menu) {μ : Mem} {s t one two o8 o9 o10 : Option U} : ∃ a b d, innerB [s, some (.cell 0), some (.d (.lst places)), t, some (.d (.lst (made x y))), some (.d (.int 8)), one, two, o8, o9, o10] μ = .next [s, some (.cell 0), some (.d (.lst places)), t, some (.d (.lst (made x y))), some (.d (.int 8)), one, two, a, b, d] μ :=
  ⟨_, _, _, turn1 (c := 9) (fs := [("at", x)]) (nm := "at") (vs := [x]) rfl rfl (by kernel_rfl) (repr1 hx) (by decide) (by decide)⟩
theorem t_9 {x y : D} (hx : x ∈ menu) (hy : y ∈ menu) {μ : Mem} {s t one two o8 o9 o10 : Option U} : ∃ a b d, innerB [s, some (.cell 0), some (.d (.lst places)), t, some (.d (.lst (made x y))), some (.d (.int 9)), one, two, o8, o9, o10] μ = .next [s, some (.cell 0), some (.d (.lst places)), t, some (.d (.lst (made x y))), some (.d (.int 9)), one, two, a, b, d] μ :=
  ⟨_, _, _, turn1 (c := 10) (fs := [("part", x)]) (nm := "part") (vs := [x]) rfl rfl (by kernel_rfl) (repr1 hx) (by decide) (by decide)⟩
theorem t_10 {x y : D} (hx : x ∈ menu) (hy : y ∈ menu) {μ : Mem} {s t one two o8 o9 o10 : Option U} : ∃ a b d, innerB [s, some (.cell 0), some (.d (.lst places)), t, some (.d (.lst (made x y))), some (.d (.int 10)), one, two, o8, o9, o10] μ = .next [s, some (.cell 0), some (.d (.lst places)), t, some (.d (.lst (made x y))), some (.d (.int 10)), one, two, a, b, d] μ :=
  ⟨_, _, _, turn1 (c := 11) (fs := [("at", x)]) (nm := "at") (vs := [x]) rfl rfl (by kernel_rfl) (repr1 hx) (by decide) (by decide)⟩
theorem t_11 {x y : D} (hx : x ∈ menu) (hy : y ∈ menu) {μ : Mem} {s t one two o8 o9 o10 : Option U} : ∃ a b d, innerB [s, some (.cell 0), some (.d (.lst places)), t, some (.d (.lst (made x y))), some (.d (.int 11)), one, two, o8, o9, o10] μ = .next [s, some (.cell 0), some (.d (.lst places)), t, some (.d (.lst (made x y))), some (.d (.int 11)), one, two, a, b, d] μ :=
  ⟨_, _, _, turn1 (c := 12) (fs := [("part", x)]) (nm := "part") (vs := [x]) rfl rfl (by kernel_rfl) (repr1 hx) (by decide) (by decide)⟩
theorem t_12 {x y : D} (hx : x ∈ menu) (hy : y ∈ menu) {μ : Mem} {s t one two o8 o9 o10 : Option U} : ∃ a b d, innerB [s, some (.cell 0), some (.d (.lst places)), t, some (.d (.lst (made x y))), some (.d (.int 12)), one, two, o8, o9, o10] μ = .next [s, some (.cell 0), some (.d (.lst places)), t, some (.d (.lst (made x y))), some (.d (.int 12)), one, two, a, b, d] μ :=
  ⟨_, _, _, turn1 (c := 13) (fs := [("part", x)]) (nm := "part") (vs := [x]) rfl rfl (by kernel_rfl) (repr1 hx) (by decide) (by decide)⟩
theorem t_13 {x y : D} (hx : x ∈ menu) (hy : y ∈ menu) {μ : Mem} {s t one two o8 o9 o10 : Option U} : ∃ a b d, innerB [s, some (.cell 0), some (.d (.lst places)), t, some (.d (.lst (made x y))), some (.d (.int 13)), one, two, o8, o9, o10] μ = .next [s, some (.cell 0), some (.d (.lst places)), t, some (.d (.lst (made x y))), some (.d (.int 13)), one, two, a, b, d] μ :=
  ⟨_, _, _, turn1 (c := 14) (fs := [("line", x), ("word", y)]) (nm := "line word") (vs := [x, y]) rfl rfl (by kernel_rfl) (repr2 hx hy) (by decide) (by decide)⟩
theorem t_14 {x y : D} (hx : x ∈ menu) (hy : y ∈ menu) {μ : Mem} {s t one two o8 o9 o10 : Option U} : ∃ a b d, innerB [s, some (.cell 0), some (.d (.lst places)), t, some (.d (.lst (made x y))), some (.d (.int 14)), one, two, o8, o9, o10] μ = .next [s, some (.cell 0), some (.d (.lst places)), t, some (.d (.lst (made x y))), some (.d (.int 14)), one, two, a, b, d] μ :=
  ⟨_, _, _, turn1 (c := 15) (fs := [("word", x)]) (nm := "word") (vs := [x]) rfl rfl (by kernel_rfl) (repr1 hx) (by decide) (by decide)⟩
theorem t_15 {x y : D} (hx : x ∈ menu) (hy : y ∈ menu) {μ : Mem} {s t one two o8 o9 o10 : Option U} : ∃ a b d, innerB [s, some (.cell 0), some (.d (.lst places)), t, some (.d (.lst (made x y))), some (.d (.int 15)), one, two, o8, o9, o10] μ = .next [s, some (.cell 0), some (.d (.lst places)), t, some (.d (.lst (made x y))), some (.d (.int 15)), one, two, a, b, d] μ :=
  ⟨_, _, _, turn1 (c := 16) (fs := [("name", x)]) (nm := "name") (vs := [x]) rfl rfl (by kernel_rfl) (repr1 hx) (by decide) (by decide)⟩
theorem t_16 {x y : D} (hx : x ∈ menu) (hy : y ∈ menu) {μ : Mem} {s t one two o8 o9 o10 : Option U} : ∃ a b d, innerB [s, some (.cell 0), some (.d (.lst places)), t, some (.d (.lst (made x y))), some (.d (.int 16)), one, two, o8, o9, o10] μ = .next [s, some (.cell 0), some (.d (.lst places)), t, some (.d (.lst (made x y))), some (.d (.int 16)), one, two, a, b, d] μ :=
  ⟨_, _, _, turn1 (c := 17) (fs := [("at", x)]) (nm := "at") (vs := [x]) rfl rfl (by kernel_rfl) (repr1 hx) (by decide) (by decide)⟩
theorem t_17 {x y : D} (hx : x ∈ menu) (hy : y ∈ menu) {μ : Mem} {s t one two o8 o9 o10 : Option U} : ∃ a b d, innerB [s, some (.cell 0), some (.d (.lst places)), t, some (.d (.lst (made x y))), some (.d (.int 17)), one, two, o8, o9, o10] μ = .next [s, some (.cell 0), some (.d (.lst places)), t, some (.d (.lst (made x y))), some (.d (.int 17)), one, two, a, b, d] μ :=
  ⟨_, _, _, turn1 (c := 18) (fs := [("many", x)]) (nm := "many") (vs := [x]) rfl rfl (by kernel_rfl) (repr1 hx) (by decide) (by decide)⟩
theorem t_18 {x y : D} (hx : x ∈ menu) (hy : y ∈ menu) {μ : Mem} {s t one two o8 o9 o10 : Option U} : ∃ a b d, innerB [s, some (.cell 0), some (.d (.lst places)), t, some (.d (.lst (made x y))), some (.d (.int 18)), one, two, o8, o9, o10] μ = .next [s, some (.cell 0), some (.d (.lst places)), t, some (.d (.lst (made x y))), some (.d (.int 18)), one, two, a, b, d] μ :=
  ⟨_, _, _, turn1 (c := 19) (fs := [("name", x)]) (nm := "name") (vs := [x]) rfl rfl (by kernel_rfl) (repr1 hx) (by decide) (by decide)⟩
theorem t_19 {x y : D} (hx : x ∈ menu) (hy : y ∈ menu) {μ : Mem} {s t one two o8 o9 o10 : Option U} : ∃ a b d, innerB [s, some (.cell 0), some (.d (.lst places)), t, some (.d (.lst (made x y))), some (.d (.int 19)), one, two, o8, o9, o10] μ = .next [s, some (.cell 0), some (.d (.lst places)), t, some (.d (.lst (made x y))), some (.d (.int 19)), one, two, a, b, d] μ :=
  ⟨_, _, _, turn1 (c := 6) (fs := [("part", x)]) (nm := "part") (vs := [x]) rfl rfl (by kernel_rfl) (repr1 hx) (by decide) (by decide)⟩
theorem t_20 {x y : D} (hx : x ∈ menu) (hy : y ∈ menu) {μ : Mem} {s t one two o8 o9 o10 : Option U} : ∃ a b d, innerB [s, some (.cell 0), some (.d (.lst places)), t, some (.d (.lst (made x y))), some (.d (.int 20)), one, two, o8, o9, o10] μ = .next [s, some (.cell 0), some (.d (.lst places)), t, some (.d (.lst (made x y))), some (.d (.int 20)), one, two, a, b, d] μ :=
  ⟨_, _, _, turn1 (c := 20) (fs := [("what", x), ("most", y)]) (nm := "what most") (vs := [x, y]) rfl rfl (by kernel_rfl) (repr2 hx hy) (by decide) (by decide)⟩
theorem t_21 {x y : D} (hx : x ∈ menu) (hy : y ∈ menu) {μ : Mem} {s t one two o8 o9 o10 : Option U} : ∃ a b d, innerB [s, some (.cell 0), some (.d (.lst places)), t, some (.d (.lst (made x y))), some (.d (.int 21)), one, two, o8, o9, o10] μ = .next [s, some (.cell 0), some (.d (.lst places)), t, some (.d (.lst (made x y))), some (.d (.int 21)), one, two, a, b, d] μ :=
  ⟨_, _, _, turn1 (c := 21) (fs := []) (nm := "") (vs := []) rfl rfl (by kernel_rfl) (⟨_, rfl⟩) (by decide) (by decide)⟩
theorem t_22 {x y : D} (hx : x ∈ menu) (hy : y ∈ menu) {μ : Mem} {s t one two o8 o9 o10 : Option U} : ∃ a b d, innerB [s, some (.cell 0), some (.d (.lst places)), t, some (.d (.lst (made x y))), some (.d (.int 22)), one, two, o8, o9, o10] μ = .next [s, some (.cell 0), some (.d (.lst places)), t, some (.d (.lst (made x y))), some (.d (.int 22)), one, two, a, b, d] μ :=
  ⟨_, _, _, turn1 (c := 9) (fs := [("at", x)]) (nm := "at") (vs := [x]) rfl rfl (by kernel_rfl) (repr1 hx) (by decide) (by decide)⟩
end K01
end Dv
namespace Dv
namespace K01
open PySem L2
theorem cons2_eq {a : MD} {r : ML} {ρ : Env} {μ μ1 μ2 : Mem} {x : U} {xs : List U} (ha : a ρ μ = .val x μ1) (hr : r ρ μ1 = .val xs μ2) : mCons a r ρ μ = .val (x :: xs) μ2 := by
  unfold mCons
  rw [ha, bind_val, hr]
  rfl
theorem t_any {x y : D} (hx : x ∈ menu) (hy : y ∈ menu) {μ : Mem} {s t one two o8 o9 o10 : Option U} : ∀ i : Nat, i < 23 → ∃ a b d, innerB [s, some (.cell 0), some (.d (.lst places)), t, some (.d (.lst (made x y))), some (.d (.int (0 + (i : Int)))), one, two, o8, o9, o10] μ = .next [s, some (.cell 0), some (.d (.lst places)), t, some (.d (.lst (made x y))), some (.d (.int (0 + (i : Int)))), one, two, a, b, d] μ
  | 0, _ => t_0 hx hy
  | 1, _ => t_1 hx hy
  | 2, _ => t_2 hx hy
  | 3, _ => t_3 hx hy
  | 4, _ => t_4 hx hy
  | 5, _ => t_5 hx hy
  | 6, _ => t_6 hx hy
  | 7, _ => t_7 hx hy
  | 8, _ => t_8 hx hy
  | 9, _ => t_9 hx hy
  | 10, _ => t_10 hx hy
  | 11, _ => t_11 hx hy
  | 12, _ => t_12 hx hy
  | 13, _ => t_13 hx hy
  | 14, _ => t_14 hx hy
  | 15, _ => t_15 hx hy
  | 16, _ => t_16 hx hy
  | 17, _ => t_17 hx hy
  | 18, _ => t_18 hx hy
  | 19, _ => t_19 hx hy
  | 20, _ => t_20 hx hy
  | 21, _ => t_21 hx hy
  | 22, _ => t_22 hx hy
  | n + 23, h => absurd h (by omega)
theorem inner_all {x y : D} (hx : x ∈ menu) (hy : y ∈ menu) {μ : Mem} {s t one two : Option U} : ∀ (is : List Nat), (∀ i ∈ is, i < 23) → ∀ o5 o8 o9 o10 : Option U, ∃ p a b d, forL (gNameE 5) innerB (is.map fun (i : Nat) => D.int (0 + (i : Int))) [s, some (.cell 0), some (.d (.lst places)), t, some (.d (.lst (made x y))), o5, one, two, o8, o9, o10] μ = .next [s, some (.cell 0), some (.d (.lst places)), t, some (.d (.lst (made x y))), p, one, two, a, b, d] μ
  | [], _, o5, o8, o9, o10 => ⟨o5, o8, o9, o10, rfl⟩
  | i :: is, h, o5, o8, o9, o10 => by
    obtain ⟨a, b, d, e⟩ := t_any hx hy (μ := μ) (s := s) (t := t) (one := one) (two := two) (o8 := o8) (o9 := o9) (o10 := o10) i (h i List.mem_cons_self)
    obtain ⟨p, a', b', d', e'⟩ := inner_all hx hy (μ := μ) (s := s) (t := t) (one := one) (two := two) is (fun j hj => h j (List.mem_cons_of_mem _ hj)) (some (.d (.int (0 + (i : Int))))) a b d
    refine ⟨p, a', b', d', ?_⟩
    rw [List.map_cons]
    unfold forL
    show (match innerB [s, some (.cell 0), some (.d (.lst places)), t, some (.d (.lst (made x y))), some (.d (.int (0 + (i : Int)))), one, two, o8, o9, o10] μ with | .next ρ2 μ2 => forL (gNameE 5) innerB (is.map fun (i : Nat) => D.int (0 + (i : Int))) ρ2 μ2 | .cont ρ2 μ2 => forL (gNameE 5) innerB (is.map fun (i : Nat) => D.int (0 + (i : Int))) ρ2 μ2 | .brk ρ2 μ2 => .next ρ2 μ2 | r => r) = _
    rw [e]
    exact e'
/-- a turn -/
theorem outer1 {cs : List Int} {sp re : Int} {s t o4 o5 o6 o7 o8 o9 o10 : Option U} (hs : 0 ≤ sp ∧ sp ≤ 900) (hr : 0 ≤ re) :
    ∃ m p x y a b d sp' re', outerB [s, some (.cell 0), some (.d (.lst places)), t, o4, o5, o6, o7, o8, o9, o10] (penM cs sp re) = .next [s, some (.cell 0), some (.d (.lst places)), t, m, p, x, y, a, b, d] (penM cs sp' re') ∧ (0 ≤ sp' ∧ sp' ≤ sp + 2) ∧ 0 ≤ re' := by
  obtain ⟨x, sp1, re1, hx, e1, h1, g1⟩ := value1 (cs := cs) (sp := sp) (re := re) (by omega) hr
  obtain ⟨y, sp2, re2, hy, e2, h2, g2⟩ := value1 (cs := cs) (sp := sp1) (re := re1) (by omega) g1
  obtain ⟨p, a, b, d, e3⟩ := inner_all hx hy (μ := penM cs sp2 re2) (s := s) (t := t) (one := some (.d x)) (two := some (.d y)) (List.range 23) (fun i hi => List.mem_range.mp hi) o5 o8 o9 o10
  refine ⟨some (.d (.lst (made x y))), p, some (.d x), some (.d y), a, b, d, sp2, re2, ?_, by omega, g2⟩
  refine seq_eq (ρ1 := [s, some (.cell 0), some (.d (.lst places)), t, o4, o5, some (.d x), some (.d y), o8, o9, o10]) (μ1 := penM cs sp2 re2) ?_ (seq_eq (ρ1 := [s, some (.cell 0), some (.d (.lst places)), t, some (.d (.lst (made x y))), o5, some (.d x), some (.d y), o8, o9, o10]) (μ1 := penM cs sp2 re2) ?_ ?_)
  · unfold mPar
    rw [cons2_eq ((fn_eq (cons_eq (var_eq (u := .cell 0) rfl) rfl)).trans e1) (cons2_eq ((fn_eq (cons_eq (var_eq (u := .cell 0) rfl) rfl)).trans e2) rfl)]
    rfl
  · exact set_eq ((fn_eq (cons_eq (var_eq rfl) (cons_eq (var_eq rfl) rfl))).trans (made1 x y _)) (by simp)
  · unfold mForR
    rw [cons_eq (x := .d (.int 23)) (c1_eq (f := lenD) (x := .d (.lst (made x y))) (var_eq rfl) rfl) rfl]
    exact e3
theorem outer_all {cs : List Int} {s : Option U} : ∀ (is : List D) (n : Nat) (sp re : Int), is.length + n ≤ 8 → 0 ≤ sp → sp ≤ 2 * n → 0 ≤ re → ∀ t o4 o5 o6 o7 o8 o9 o10 : Option U,
    ∃ t' m p x y a b d sp' re', forL (gNameE 3) outerB is [s, some (.cell 0), some (.d (.lst places)), t, o4, o5, o6, o7, o8, o9, o10] (penM cs sp re) = .next [s, some (.cell 0), some (.d (.lst places)), t', m, p, x, y, a, b, d] (penM cs sp' re')
  | [], n, sp, re, _, _, _, _, t, o4, o5, o6, o7, o8, o9, o10 => ⟨_, _, _, _, _, _, _, _, sp, re, rfl⟩
  | i :: is, n, sp, re, hn, h0, h1, hr, t, o4, o5, o6, o7, o8, o9, o10 => by
    have hn' : is.length + 1 + n ≤ 8 := by simpa using hn
    obtain ⟨m, p, x, y, a, b, d, sp1, re1, e, hs1, hr1⟩ := outer1 (cs := cs) (sp := sp) (re := re) (s := s) (t := some (.d i)) (o4 := o4) (o5 := o5) (o6 := o6) (o7 := o7) (o8 := o8) (o9 := o9) (o10 := o10) (by omega) hr
    obtain ⟨t', m', p', x', y', a', b', d', sp', re', e'⟩ := outer_all (cs := cs) (s := s) is (n + 1) sp1 re1 (by omega) hs1.1 (by omega) hr1 (some (.d i)) m p x y a b d
    refine ⟨t', m', p', x', y', a', b', d', sp', re', ?_⟩
    unfold forL
    show (match outerB [s, some (.cell 0), some (.d (.lst places)), some (.d i), o4, o5, o6, o7, o8, o9, o10] (penM cs sp re) with | .next ρ2 μ2 => forL (gNameE 3) outerB is ρ2 μ2 | .cont ρ2 μ2 => forL (gNameE 3) outerB is ρ2 μ2 | .brk ρ2 μ2 => .next ρ2 μ2 | r => r) = _
    rw [e]
    exact e'
theorem cut_ints (js : List Int) (lo hi : Option Int) : cutD (js.map D.int) lo hi = (cutD js lo hi).map .int := by
  simp [cutD, List.map_drop, List.map_take]
theorem pen1 (js : List Int) : ∃ cs, mf__law_pen [.d (.scr (js.map .int))] [] = .val (.cell 0) (penM cs 0 0) := by
  refine ⟨cutD js none (some 61), run_ret (ret_eq ?_)⟩
  have e : mSl (mVar 0) mNoPart (mPart (mC (.int 61))) [some (.d (.scr (js.map .int)))] [] = .val (.d (.lst ((cutD js none (some 61)).map .int))) [] := by
    unfold mSl
    rw [var_eq (u := .d (.scr (js.map .int))) rfl, bind_val]
    simp only [mNoPart, mPart, mC, bind_val, slD, cut_ints, ofO_some, Option.bind_some]
  have e2 : mCons (mCall (one listD) (mCons (mSl (mVar 0) mNoPart (mPart (mC (.int 61)))) mNil)) (mCons (mC (.int 0)) (mCons (mC (.int 0)) mNil)) [some (.d (.scr (js.map .int)))] [] = .val [.d (.lst ((cutD js none (some 61)).map .int)), .d (.int 0), .d (.int 0)] [] :=
    cons_eq (c1_eq e rfl) rfl
  unfold mLstC
  show (mCons (mCall (one listD) (mCons (mSl (mVar 0) mNoPart (mPart (mC (.int 61)))) mNil)) (mCons (mC (.int 0)) (mCons (mC (.int 0)) mNil)) [some (.d (.scr (js.map .int)))] []).bind _ = _
  rw [e2]
  rfl
theorem law_true (js : List Int) (h : js.length ≤ 63) : ∃ μ, mf_law [.d (.scr (js.map .int))] [] = .val (.d (.bl true)) μ := by
  obtain ⟨cs, e⟩ := pen1 js
  obtain ⟨t', m, p, x, y, a, b, d, sp', re', e2⟩ := outer_all (cs := cs) (s := some (.d (.scr (js.map .int)))) (rangeD 0 8) 0 0 0 (by decide) (by decide) (by decide) (by decide) none none none none none none none none
  refine ⟨penM cs sp' re', run_ret ?_⟩
  refine seq_eq (ρ1 := [some (.d (.scr (js.map .int))), some (.cell 0), none, none, none, none, none, none, none, none, none]) (μ1 := penM cs 0 0) (set_eq ((fn_eq (cons_eq (var_eq rfl) rfl)).trans e) (by simp)) ?_
  refine seq_eq (ρ1 := [some (.d (.scr (js.map .int))), some (.cell 0), some (.d (.lst places)), none, none, none, none, none, none, none, none]) (μ1 := penM cs 0 0) rfl ?_
  refine seq_eq (ρ1 := [some (.d (.scr (js.map .int))), some (.cell 0), some (.d (.lst places)), t', m, p, x, y, a, b, d]) (μ1 := penM cs sp' re') ?_ ?_
  · exact e2
  · rfl
end K01
end Dv
namespace Dv
open PySem L2 PySem.W PySem.HandSPX PySem.DvX
namespace K01
def ckT (K : Frag) (as : List Addr) : Bool := (List.range 22).all fun c => ckC K (as.getD c 0) && ((List.range 22).all fun k => kitOne K (.ref (as.getD c 0)) (.ref (as.getD k 0)) == some (k == 0 || c == k)) && ((["ValueError", "LookupError", "TypeError", "ArithmeticError"] : List String).all fun n => kitOne K (.ref (as.getD c 0)) (.type n) == some (decide (n = "ValueError")))
theorem ckT_all {K : Frag} {as : List Addr} (h : ckT K as = true) (c : Nat) (hc : c < 22) : (ckC K (as.getD c 0) = true ∧ ∀ k, k < 22 → kitOne K (.ref (as.getD c 0)) (.ref (as.getD k 0)) = some (k == 0 || c == k)) ∧ ∀ n ∈ (["ValueError", "LookupError", "TypeError", "ArithmeticError"] : List String), kitOne K (.ref (as.getD c 0)) (.type n) = some (decide (n = "ValueError")) := by
  have z := List.all_eq_true.mp h c (List.mem_range.mpr hc)
  simp only [Bool.and_eq_true] at z
  exact ⟨⟨z.1.1, fun k hk => beq_iff_eq.mp (List.all_eq_true.mp z.1.2 k (List.mem_range.mpr hk))⟩, fun n hn => beq_iff_eq.mp (List.all_eq_true.mp z.2 n hn)⟩
theorem ckT_c {K : Frag} {as : List Addr} (h : ckT K as = true) (c : Nat) (hc : c < 22) : ckC K (as.getD c 0) = true := (ckT_all h c hc).1.1
theorem isi_of {K : Frag} {as : List Addr} (h : ckT K as = true) (hn : specialIn K (.builtin "object.__class__") "__get__" = some (some (.builtin "getset_descriptor.__get__"))) (ht : takesIn K (.builtin "object.__class__") = some true) :
    ∀ c k b, tb c k = some b → IsF K (as.getD c 0) ∧ ∃ v, clsV (fun n => as.getD n 0) k = some v ∧ kitOne K (.ref (as.getD c 0)) v = some b := by
  intro c k b e
  unfold tb at e
  split at e
  · rename_i j
    split at e
    · rename_i hc
      cases e
      obtain ⟨⟨a1, a2⟩, _⟩ := ckT_all h c hc.1
      obtain ⟨T, b1, b2⟩ := cf_of a1
      exact ⟨⟨T, b1, hn, ht, b2⟩, _, rfl, a2 j hc.2⟩
    · cases e
  · rename_i n
    split at e
    · rename_i hc
      obtain ⟨⟨a1, _⟩, a3⟩ := ckT_all h c hc
      obtain ⟨T, b1, b2⟩ := cf_of a1
      refine ⟨⟨T, b1, hn, ht, b2⟩, _, rfl, ?_⟩
      split at e
      · rename_i hv
        cases e
        rw [a3 n (by rw [hv]; simp), hv]
        rfl
      · split at e
        · rename_i hv hw
          cases e
          rw [a3 n (by rcases hw with rfl | rfl | rfl <;> simp)]
          simp [hv]
        · cases e
    · cases e
  · cases e
theorem okA_lt {f : Str} {c : Nat} (h : okA f c = true) : c < 22 := by
  unfold okA at h
  split at h
  · rename_i fs hf
    exact (List.getElem?_eq_some_iff.mp hf).1
  · cases h
theorem er_no {K : Frag} {P : Program} {mg : Str → Option Value} {C : Addr} {x f : Str} {fs : List Str} (E : ErF K P mg C x fs) (h : fs.contains f = true) : findIn K (.ref C) f = some none := by
  obtain ⟨fI, cc, cda, name, qual, par, body, sc, J, B, hf, hnd, b1, b2, b3⟩ := E.ex
  exact (hf f (by simpa using h)).no
theorem tx_BadValue : TxI (defArgs s_BadValue) (defBody s_BadValue) (defScope s_BadValue) ["value"] := ⟨.inr (.inl ⟨_, _, _, _, _, _, _, _, _, _, _, rfl, rfl, fun _ _ _ _ _ => ⟨_, rfl⟩⟩), rfl, rfl, rfl, rfl, rfl, rfl, by decide +kernel, ⟨_, rfl, rfl⟩, by decide +kernel, by decide +kernel, fun _ _ _ _ us h s x doc pm an ct => match us, h with | [_], _ => .of_eq (by first | rfl | with_unfolding_all rfl), fun _ _ _ _ us h s x doc pm an ct => match us, h with | [_], _ => .of_eq (by first | rfl | with_unfolding_all rfl), fun _ _ _ _ us h s x doc pm an ct => match us, h with | [_], _ => .of_eq (by first | rfl | with_unfolding_all rfl)⟩
theorem tx_BadName : TxI (defArgs s_BadName) (defBody s_BadName) (defScope s_BadName) ["value"] := ⟨.inr (.inl ⟨_, _, _, _, _, _, _, _, _, _, _, rfl, rfl, fun _ _ _ _ _ => ⟨_, rfl⟩⟩), rfl, rfl, rfl, rfl, rfl, rfl, by decide +kernel, ⟨_, rfl, rfl⟩, by decide +kernel, by decide +kernel, fun _ _ _ _ us h s x doc pm an ct => match us, h with | [_], _ => .of_eq (by first | rfl | with_unfolding_all rfl), fun _ _ _ _ us h s x doc pm an ct => match us, h with | [_], _ => .of_eq (by first | rfl | with_unfolding_all rfl), fun _ _ _ _ us h s x doc pm an ct => match us, h with | [_], _ => .of_eq (by first | rfl | with_unfolding_all rfl)⟩
theorem tx_BadTold : TxI (defArgs s_BadTold) (defBody s_BadTold) (defScope s_BadTold) ["part"] := ⟨.inr (.inl ⟨_, _, _, _, _, _, _, _, _, _, _, rfl, rfl, fun _ _ _ _ _ => ⟨_, rfl⟩⟩), rfl, rfl, rfl, rfl, rfl, rfl, by decide +kernel, ⟨_, rfl, rfl⟩, by decide +kernel, by decide +kernel, fun _ _ _ _ us h s x doc pm an ct => match us, h with | [_], _ => .of_eq (by first | rfl | with_unfolding_all rfl), fun _ _ _ _ us h s x doc pm an ct => match us, h with | [_], _ => .of_eq (by first | rfl | with_unfolding_all rfl), fun _ _ _ _ us h s x doc pm an ct => match us, h with | [_], _ => .of_eq (by first | rfl | with_unfolding_all rfl)⟩
theorem tx_BadHead : TxI (defArgs s_BadHead) (defBody s_BadHead) (defScope s_BadHead) ["part"] := ⟨.inr (.inl ⟨_, _, _, _, _, _, _, _, _, _, _, rfl, rfl, fun _ _ _ _ _ => ⟨_, rfl⟩⟩), rfl, rfl, rfl, rfl, rfl, rfl, by decide +kernel, ⟨_, rfl, rfl⟩, by decide +kernel, by decide +kernel, fun _ _ _ _ us h s x doc pm an ct => match us, h with | [_], _ => .of_eq (by first | rfl | with_unfolding_all rfl), fun _ _ _ _ us h s x doc pm an ct => match us, h with | [_], _ => .of_eq (by first | rfl | with_unfolding_all rfl), fun _ _ _ _ us h s x doc pm an ct => match us, h with | [_], _ => .of_eq (by first | rfl | with_unfolding_all rfl)⟩
theorem tx_BadFilter : TxI (defArgs s_BadFilter) (defBody s_BadFilter) (defScope s_BadFilter) ["part"] := ⟨.inr (.inl ⟨_, _, _, _, _, _, _, _, _, _, _, rfl, rfl, fun _ _ _ _ _ => ⟨_, rfl⟩⟩), rfl, rfl, rfl, rfl, rfl, rfl, by decide +kernel, ⟨_, rfl, rfl⟩, by decide +kernel, by decide +kernel, fun _ _ _ _ us h s x doc pm an ct => match us, h with | [_], _ => .of_eq (by first | rfl | with_unfolding_all rfl), fun _ _ _ _ us h s x doc pm an ct => match us, h with | [_], _ => .of_eq (by first | rfl | with_unfolding_all rfl), fun _ _ _ _ us h s x doc pm an ct => match us, h with | [_], _ => .of_eq (by first | rfl | with_unfolding_all rfl)⟩
theorem tx_BadRow : TxI (defArgs s_BadRow) (defBody s_BadRow) (defScope s_BadRow) ["part"] := ⟨.inr (.inl ⟨_, _, _, _, _, _, _, _, _, _, _, rfl, rfl, fun _ _ _ _ _ => ⟨_, rfl⟩⟩), rfl, rfl, rfl, rfl, rfl, rfl, by decide +kernel, ⟨_, rfl, rfl⟩, by decide +kernel, by decide +kernel, fun _ _ _ _ us h s x doc pm an ct => match us, h with | [_], _ => .of_eq (by first | rfl | with_unfolding_all rfl), fun _ _ _ _ us h s x doc pm an ct => match us, h with | [_], _ => .of_eq (by first | rfl | with_unfolding_all rfl), fun _ _ _ _ us h s x doc pm an ct => match us, h with | [_], _ => .of_eq (by first | rfl | with_unfolding_all rfl)⟩
theorem tx_BadLots : TxI (defArgs s_BadLots) (defBody s_BadLots) (defScope s_BadLots) ["part"] := ⟨.inr (.inl ⟨_, _, _, _, _, _, _, _, _, _, _, rfl, rfl, fun _ _ _ _ _ => ⟨_, rfl⟩⟩), rfl, rfl, rfl, rfl, rfl, rfl, by decide +kernel, ⟨_, rfl, rfl⟩, by decide +kernel, by decide +kernel, fun _ _ _ _ us h s x doc pm an ct => match us, h with | [_], _ => .of_eq (by first | rfl | with_unfolding_all rfl), fun _ _ _ _ us h s x doc pm an ct => match us, h with | [_], _ => .of_eq (by first | rfl | with_unfolding_all rfl), fun _ _ _ _ us h s x doc pm an ct => match us, h with | [_], _ => .of_eq (by first | rfl | with_unfolding_all rfl)⟩
theorem tx_BadShelf : TxI (defArgs s_BadShelf) (defBody s_BadShelf) (defScope s_BadShelf) ["part"] := ⟨.inr (.inl ⟨_, _, _, _, _, _, _, _, _, _, _, rfl, rfl, fun _ _ _ _ _ => ⟨_, rfl⟩⟩), rfl, rfl, rfl, rfl, rfl, rfl, by decide +kernel, ⟨_, rfl, rfl⟩, by decide +kernel, by decide +kernel, fun _ _ _ _ us h s x doc pm an ct => match us, h with | [_], _ => .of_eq (by first | rfl | with_unfolding_all rfl), fun _ _ _ _ us h s x doc pm an ct => match us, h with | [_], _ => .of_eq (by first | rfl | with_unfolding_all rfl), fun _ _ _ _ us h s x doc pm an ct => match us, h with | [_], _ => .of_eq (by first | rfl | with_unfolding_all rfl)⟩
theorem tx_BadTable : TxI (defArgs s_BadTable) (defBody s_BadTable) (defScope s_BadTable) ["at"] := ⟨.inr (.inl ⟨_, _, _, _, _, _, _, _, _, _, _, rfl, rfl, fun _ _ _ _ _ => ⟨_, rfl⟩⟩), rfl, rfl, rfl, rfl, rfl, rfl, by decide +kernel, ⟨_, rfl, rfl⟩, by decide +kernel, by decide +kernel, fun _ _ _ _ us h s x doc pm an ct => match us, h with | [_], _ => .of_eq (by first | rfl | with_unfolding_all rfl), fun _ _ _ _ us h s x doc pm an ct => match us, h with | [_], _ => .of_eq (by first | rfl | with_unfolding_all rfl), fun _ _ _ _ us h s x doc pm an ct => match us, h with | [_], _ => .of_eq (by first | rfl | with_unfolding_all rfl)⟩
theorem tx_BadQuestion : TxI (defArgs s_BadQuestion) (defBody s_BadQuestion) (defScope s_BadQuestion) ["part"] := ⟨.inr (.inl ⟨_, _, _, _, _, _, _, _, _, _, _, rfl, rfl, fun _ _ _ _ _ => ⟨_, rfl⟩⟩), rfl, rfl, rfl, rfl, rfl, rfl, by decide +kernel, ⟨_, rfl, rfl⟩, by decide +kernel, by decide +kernel, fun _ _ _ _ us h s x doc pm an ct => match us, h with | [_], _ => .of_eq (by first | rfl | with_unfolding_all rfl), fun _ _ _ _ us h s x doc pm an ct => match us, h with | [_], _ => .of_eq (by first | rfl | with_unfolding_all rfl), fun _ _ _ _ us h s x doc pm an ct => match us, h with | [_], _ => .of_eq (by first | rfl | with_unfolding_all rfl)⟩
theorem tx_BadRead : TxI (defArgs s_BadRead) (defBody s_BadRead) (defScope s_BadRead) ["at"] := ⟨.inr (.inl ⟨_, _, _, _, _, _, _, _, _, _, _, rfl, rfl, fun _ _ _ _ _ => ⟨_, rfl⟩⟩), rfl, rfl, rfl, rfl, rfl, rfl, by decide +kernel, ⟨_, rfl, rfl⟩, by decide +kernel, by decide +kernel, fun _ _ _ _ us h s x doc pm an ct => match us, h with | [_], _ => .of_eq (by first | rfl | with_unfolding_all rfl), fun _ _ _ _ us h s x doc pm an ct => match us, h with | [_], _ => .of_eq (by first | rfl | with_unfolding_all rfl), fun _ _ _ _ us h s x doc pm an ct => match us, h with | [_], _ => .of_eq (by first | rfl | with_unfolding_all rfl)⟩
theorem tx_BadUpkeep : TxI (defArgs s_BadUpkeep) (defBody s_BadUpkeep) (defScope s_BadUpkeep) ["part"] := ⟨.inr (.inl ⟨_, _, _, _, _, _, _, _, _, _, _, rfl, rfl, fun _ _ _ _ _ => ⟨_, rfl⟩⟩), rfl, rfl, rfl, rfl, rfl, rfl, by decide +kernel, ⟨_, rfl, rfl⟩, by decide +kernel, by decide +kernel, fun _ _ _ _ us h s x doc pm an ct => match us, h with | [_], _ => .of_eq (by first | rfl | with_unfolding_all rfl), fun _ _ _ _ us h s x doc pm an ct => match us, h with | [_], _ => .of_eq (by first | rfl | with_unfolding_all rfl), fun _ _ _ _ us h s x doc pm an ct => match us, h with | [_], _ => .of_eq (by first | rfl | with_unfolding_all rfl)⟩
theorem tx_BadBook : TxI (defArgs s_BadBook) (defBody s_BadBook) (defScope s_BadBook) ["part"] := ⟨.inr (.inl ⟨_, _, _, _, _, _, _, _, _, _, _, rfl, rfl, fun _ _ _ _ _ => ⟨_, rfl⟩⟩), rfl, rfl, rfl, rfl, rfl, rfl, by decide +kernel, ⟨_, rfl, rfl⟩, by decide +kernel, by decide +kernel, fun _ _ _ _ us h s x doc pm an ct => match us, h with | [_], _ => .of_eq (by first | rfl | with_unfolding_all rfl), fun _ _ _ _ us h s x doc pm an ct => match us, h with | [_], _ => .of_eq (by first | rfl | with_unfolding_all rfl), fun _ _ _ _ us h s x doc pm an ct => match us, h with | [_], _ => .of_eq (by first | rfl | with_unfolding_all rfl)⟩
theorem tx_BadText : TxI (defArgs s_BadText) (defBody s_BadText) (defScope s_BadText) ["line", "word"] := ⟨.inr (.inr ⟨_, _, _, _, _, _, _, _, _, _, _, _, _, _, _, _, _, rfl, rfl, fun _ _ _ _ _ => ⟨_, rfl⟩⟩), rfl, rfl, rfl, rfl, rfl, rfl, by decide +kernel, ⟨_, rfl, rfl⟩, by decide +kernel, by decide +kernel, fun _ _ _ _ us h s x doc pm an ct => match us, h with | [_, _], _ => .of_eq (by first | rfl | with_unfolding_all rfl), fun _ _ _ _ us h s x doc pm an ct => match us, h with | [_, _], _ => .of_eq (by first | rfl | with_unfolding_all rfl), fun _ _ _ _ us h s x doc pm an ct => match us, h with | [_, _], _ => .of_eq (by first | rfl | with_unfolding_all rfl)⟩
theorem tx_BadLine : TxI (defArgs s_BadLine) (defBody s_BadLine) (defScope s_BadLine) ["word"] := ⟨.inr (.inl ⟨_, _, _, _, _, _, _, _, _, _, _, rfl, rfl, fun _ _ _ _ _ => ⟨_, rfl⟩⟩), rfl, rfl, rfl, rfl, rfl, rfl, by decide +kernel, ⟨_, rfl, rfl⟩, by decide +kernel, by decide +kernel, fun _ _ _ _ us h s x doc pm an ct => match us, h with | [_], _ => .of_eq (by first | rfl | with_unfolding_all rfl), fun _ _ _ _ us h s x doc pm an ct => match us, h with | [_], _ => .of_eq (by first | rfl | with_unfolding_all rfl), fun _ _ _ _ us h s x doc pm an ct => match us, h with | [_], _ => .of_eq (by first | rfl | with_unfolding_all rfl)⟩
theorem tx_NoName : TxI (defArgs s_NoName) (defBody s_NoName) (defScope s_NoName) ["name"] := ⟨.inr (.inl ⟨_, _, _, _, _, _, _, _, _, _, _, rfl, rfl, fun _ _ _ _ _ => ⟨_, rfl⟩⟩), rfl, rfl, rfl, rfl, rfl, rfl, by decide +kernel, ⟨_, rfl, rfl⟩, by decide +kernel, by decide +kernel, fun _ _ _ _ us h s x doc pm an ct => match us, h with | [_], _ => .of_eq (by first | rfl | with_unfolding_all rfl), fun _ _ _ _ us h s x doc pm an ct => match us, h with | [_], _ => .of_eq (by first | rfl | with_unfolding_all rfl), fun _ _ _ _ us h s x doc pm an ct => match us, h with | [_], _ => .of_eq (by first | rfl | with_unfolding_all rfl)⟩
theorem tx_NoBlock : TxI (defArgs s_NoBlock) (defBody s_NoBlock) (defScope s_NoBlock) ["at"] := ⟨.inr (.inl ⟨_, _, _, _, _, _, _, _, _, _, _, rfl, rfl, fun _ _ _ _ _ => ⟨_, rfl⟩⟩), rfl, rfl, rfl, rfl, rfl, rfl, by decide +kernel, ⟨_, rfl, rfl⟩, by decide +kernel, by decide +kernel, fun _ _ _ _ us h s x doc pm an ct => match us, h with | [_], _ => .of_eq (by first | rfl | with_unfolding_all rfl), fun _ _ _ _ us h s x doc pm an ct => match us, h with | [_], _ => .of_eq (by first | rfl | with_unfolding_all rfl), fun _ _ _ _ us h s x doc pm an ct => match us, h with | [_], _ => .of_eq (by first | rfl | with_unfolding_all rfl)⟩
theorem tx_NoCount : TxI (defArgs s_NoCount) (defBody s_NoCount) (defScope s_NoCount) ["many"] := ⟨.inr (.inl ⟨_, _, _, _, _, _, _, _, _, _, _, rfl, rfl, fun _ _ _ _ _ => ⟨_, rfl⟩⟩), rfl, rfl, rfl, rfl, rfl, rfl, by decide +kernel, ⟨_, rfl, rfl⟩, by decide +kernel, by decide +kernel, fun _ _ _ _ us h s x doc pm an ct => match us, h with | [_], _ => .of_eq (by first | rfl | with_unfolding_all rfl), fun _ _ _ _ us h s x doc pm an ct => match us, h with | [_], _ => .of_eq (by first | rfl | with_unfolding_all rfl), fun _ _ _ _ us h s x doc pm an ct => match us, h with | [_], _ => .of_eq (by first | rfl | with_unfolding_all rfl)⟩
theorem tx_Taken : TxI (defArgs s_Taken) (defBody s_Taken) (defScope s_Taken) ["name"] := ⟨.inr (.inl ⟨_, _, _, _, _, _, _, _, _, _, _, rfl, rfl, fun _ _ _ _ _ => ⟨_, rfl⟩⟩), rfl, rfl, rfl, rfl, rfl, rfl, by decide +kernel, ⟨_, rfl, rfl⟩, by decide +kernel, by decide +kernel, fun _ _ _ _ us h s x doc pm an ct => match us, h with | [_], _ => .of_eq (by first | rfl | with_unfolding_all rfl), fun _ _ _ _ us h s x doc pm an ct => match us, h with | [_], _ => .of_eq (by first | rfl | with_unfolding_all rfl), fun _ _ _ _ us h s x doc pm an ct => match us, h with | [_], _ => .of_eq (by first | rfl | with_unfolding_all rfl)⟩
theorem tx_TooMany : TxI (defArgs s_TooMany) (defBody s_TooMany) (defScope s_TooMany) ["what", "most"] := ⟨.inr (.inr ⟨_, _, _, _, _, _, _, _, _, _, _, _, _, _, _, _, _, rfl, rfl, fun _ _ _ _ _ => ⟨_, rfl⟩⟩), rfl, rfl, rfl, rfl, rfl, rfl, by decide +kernel, ⟨_, rfl, rfl⟩, by decide +kernel, by decide +kernel, fun _ _ _ _ us h s x doc pm an ct => match us, h with | [_, _], _ => .of_eq (by first | rfl | with_unfolding_all rfl), fun _ _ _ _ us h s x doc pm an ct => match us, h with | [_, _], _ => .of_eq (by first | rfl | with_unfolding_all rfl), fun _ _ _ _ us h s x doc pm an ct => match us, h with | [_, _], _ => .of_eq (by first | rfl | with_unfolding_all rfl)⟩
theorem tx_NoChange : TxI (defArgs s_NoChange) (defBody s_NoChange) (defScope s_NoChange) [] := ⟨.inl ⟨_, _, _, _, _, _, _, _, rfl, rfl, fun _ _ _ _ _ => ⟨_, rfl⟩⟩, rfl, rfl, rfl, rfl, rfl, rfl, by decide +kernel, ⟨_, rfl, rfl⟩, by decide +kernel, by decide +kernel, fun _ _ _ _ us h s x doc pm an ct => match us, h with | [], _ => .of_eq (by first | rfl | with_unfolding_all rfl), fun _ _ _ _ us h s x doc pm an ct => match us, h with | [], _ => .of_eq (by first | rfl | with_unfolding_all rfl), fun _ _ _ _ us h s x doc pm an ct => match us, h with | [], _ => .of_eq (by first | rfl | with_unfolding_all rfl)⟩
set_option maxHeartbeats 8000000 in
theorem all_mk {P : Program} {w : World} {K : Frag} {h : Heap} {mg : Str → Option Value} {fa : Addr} {fl : Str} {C_SkipError : Addr}
    {C_BadValue : Addr}
    {i_BadValue cc_BadValue cd_BadValue : Addr} {oc_BadValue doc_BadValue pm_BadValue ct_BadValue : Value} {od_BadValue an_BadValue : Option Addr} {sl_BadValue : Array (Option Value)}
    {C_BadName : Addr}
    {i_BadName cc_BadName cd_BadName : Addr} {oc_BadName doc_BadName pm_BadName ct_BadName : Value} {od_BadName an_BadName : Option Addr} {sl_BadName : Array (Option Value)}
    {C_BadTold : Addr}
    {i_BadTold cc_BadTold cd_BadTold : Addr} {oc_BadTold doc_BadTold pm_BadTold ct_BadTold : Value} {od_BadTold an_BadTold : Option Addr} {sl_BadTold : Array (Option Value)}
    {C_BadHead : Addr}
    {i_BadHead cc_BadHead cd_BadHead : Addr} {oc_BadHead doc_BadHead pm_BadHead ct_BadHead : Value} {od_BadHead an_BadHead : Option Addr} {sl_BadHead : Array (Option Value)}
    {C_BadFilter : Addr}
    {i_BadFilter cc_BadFilter cd_BadFilter : Addr} {oc_BadFilter doc_BadFilter pm_BadFilter ct_BadFilter : Value} {od_BadFilter an_BadFilter : Option Addr} {sl_BadFilter : Array (Option Value)}
    {C_BadRow : Addr}
    {i_BadRow cc_BadRow cd_BadRow : Addr} {oc_BadRow doc_BadRow pm_BadRow ct_BadRow : Value} {od_BadRow an_BadRow : Option Addr} {sl_BadRow : Array (Option Value)}
    {C_BadLots : Addr}
    {i_BadLots cc_BadLots cd_BadLots : Addr} {oc_BadLots doc_BadLots pm_BadLots ct_BadLots : Value} {od_BadLots an_BadLots : Option Addr} {sl_BadLots : Array (Option Value)}
    {C_BadShelf : Addr}
    {i_BadShelf cc_BadShelf cd_BadShelf : Addr} {oc_BadShelf doc_BadShelf pm_BadShelf ct_BadShelf : Value} {od_BadShelf an_BadShelf : Option Addr} {sl_BadShelf : Array (Option Value)}
    {C_BadTable : Addr}
    {i_BadTable cc_BadTable cd_BadTable : Addr} {oc_BadTable doc_BadTable pm_BadTable ct_BadTable : Value} {od_BadTable an_BadTable : Option Addr} {sl_BadTable : Array (Option Value)}
    {C_BadQuestion : Addr}
    {i_BadQuestion cc_BadQuestion cd_BadQuestion : Addr} {oc_BadQuestion doc_BadQuestion pm_BadQuestion ct_BadQuestion : Value} {od_BadQuestion an_BadQuestion : Option Addr} {sl_BadQuestion : Array (Option Value)}
    {C_BadRead : Addr}
    {i_BadRead cc_BadRead cd_BadRead : Addr} {oc_BadRead doc_BadRead pm_BadRead ct_BadRead : Value} {od_BadRead an_BadRead : Option Addr} {sl_BadRead : Array (Option Value)}
    {C_BadUpkeep : Addr}
    {i_BadUpkeep cc_BadUpkeep cd_BadUpkeep : Addr} {oc_BadUpkeep doc_BadUpkeep pm_BadUpkeep ct_BadUpkeep : Value} {od_BadUpkeep an_BadUpkeep : Option Addr} {sl_BadUpkeep : Array (Option Value)}
    {C_BadBook : Addr}
    {i_BadBook cc_BadBook cd_BadBook : Addr} {oc_BadBook doc_BadBook pm_BadBook ct_BadBook : Value} {od_BadBook an_BadBook : Option Addr} {sl_BadBook : Array (Option Value)}
    {C_BadText : Addr}
    {i_BadText cc_BadText cd_BadText : Addr} {oc_BadText doc_BadText pm_BadText ct_BadText : Value} {od_BadText an_BadText : Option Addr} {sl_BadText : Array (Option Value)}
    {C_BadLine : Addr}
    {i_BadLine cc_BadLine cd_BadLine : Addr} {oc_BadLine doc_BadLine pm_BadLine ct_BadLine : Value} {od_BadLine an_BadLine : Option Addr} {sl_BadLine : Array (Option Value)}
    {C_NoName : Addr}
    {i_NoName cc_NoName cd_NoName : Addr} {oc_NoName doc_NoName pm_NoName ct_NoName : Value} {od_NoName an_NoName : Option Addr} {sl_NoName : Array (Option Value)}
    {C_NoBlock : Addr}
    {i_NoBlock cc_NoBlock cd_NoBlock : Addr} {oc_NoBlock doc_NoBlock pm_NoBlock ct_NoBlock : Value} {od_NoBlock an_NoBlock : Option Addr} {sl_NoBlock : Array (Option Value)}
    {C_NoCount : Addr}
    {i_NoCount cc_NoCount cd_NoCount : Addr} {oc_NoCount doc_NoCount pm_NoCount ct_NoCount : Value} {od_NoCount an_NoCount : Option Addr} {sl_NoCount : Array (Option Value)}
    {C_Taken : Addr}
    {i_Taken cc_Taken cd_Taken : Addr} {oc_Taken doc_Taken pm_Taken ct_Taken : Value} {od_Taken an_Taken : Option Addr} {sl_Taken : Array (Option Value)}
    {C_TooMany : Addr}
    {i_TooMany cc_TooMany cd_TooMany : Addr} {oc_TooMany doc_TooMany pm_TooMany ct_TooMany : Value} {od_TooMany an_TooMany : Option Addr} {sl_TooMany : Array (Option Value)}
    {C_NoChange : Addr}
    {i_NoChange cc_NoChange cd_NoChange : Addr} {oc_NoChange doc_NoChange pm_NoChange ct_NoChange : Value} {od_NoChange an_NoChange : Option Addr} {sl_NoChange : Array (Option Value)}
    {f__law_pen : Addr} {oc__law_pen kV__law_pen doc__law_pen pm__law_pen cdv__law_pen ct__law_pen : Value} {od__law_pen an__law_pen : Option Addr} {sl__law_pen : Array (Option Value)}
    {f__law_draw : Addr} {oc__law_draw kV__law_draw doc__law_draw pm__law_draw cdv__law_draw ct__law_draw : Value} {od__law_draw an__law_draw : Option Addr} {sl__law_draw : Array (Option Value)}
    {f__law_pick : Addr} {oc__law_pick kV__law_pick doc__law_pick pm__law_pick cdv__law_pick ct__law_pick : Value} {od__law_pick an__law_pick : Option Addr} {sl__law_pick : Array (Option Value)}
    {f__law_value : Addr} {oc__law_value kV__law_value doc__law_value pm__law_value cdv__law_value ct__law_value : Value} {od__law_value an__law_value : Option Addr} {sl__law_value : Array (Option Value)}
    {f__law_made : Addr} {oc__law_made kV__law_made doc__law_made pm__law_made cdv__law_made ct__law_made : Value} {od__law_made an__law_made : Option Addr} {sl__law_made : Array (Option Value)}
    {f__law_fields : Addr} {oc__law_fields kV__law_fields doc__law_fields pm__law_fields cdv__law_fields ct__law_fields : Value} {od__law_fields an__law_fields : Option Addr} {sl__law_fields : Array (Option Value)}
    {f__law_classes : Addr} {oc__law_classes kV__law_classes doc__law_classes pm__law_classes cdv__law_classes ct__law_classes : Value} {od__law_classes an__law_classes : Option Addr} {sl__law_classes : Array (Option Value)}
    {f_law : Addr} {oc_law kV_law doc_law pm_law cdv_law ct_law : Value} {od_law an_law : Option Addr} {sl_law : Array (Option Value)}
    (yes : ∀ js : List Int, js.length ≤ 63 → ∃ μ, mf_law [.d (.scr (js.map .int))] [] = .val (.d (.bl true)) μ) (X : K.In h) (G : h.Ns mainGlobals mg) (hfa : mg "law" = some (.ref fa)) (hfl : (P.main.file : Str) = fl) (tops : (P.main.scope.names.lookup ("super" : Str)).isSome = false)
    (op : nsIn K cStatics "thirdparty.any" = some none)
    (sup : nsIn K mainGlobals "super" = some none)
    (hn : specialIn K (.builtin "object.__class__") "__get__" = some (some (.builtin "getset_descriptor.__get__")))
    (ht : takesIn K (.builtin "object.__class__") = some true)
    (n_abs : nsIn K mainGlobals "abs" = some none)
    (n_int : nsIn K mainGlobals "int" = some none)
    (n_isinstance : nsIn K mainGlobals "isinstance" = some none)
    (n_len : nsIn K mainGlobals "len" = some none)
    (n_list : nsIn K mainGlobals "list" = some none)
    (n_range : nsIn K mainGlobals "range" = some none)
    (n_repr : nsIn K mainGlobals "repr" = some none)
    (n_ArithmeticError : nsIn K mainGlobals "ArithmeticError" = some none)
    (n_LookupError : nsIn K mainGlobals "LookupError" = some none)
    (n_TypeError : nsIn K mainGlobals "TypeError" = some none)
    (n_ValueError : nsIn K mainGlobals "ValueError" = some none)
    (a_SkipError : nsIn K mainGlobals "SkipError" = some (some (.ref C_SkipError)))
    (x_SkipError : excIn K C_SkipError veTail "ValueError.__new__" = true)
    (a_BadValue : nsIn K mainGlobals "BadValue" = some (some (.ref C_BadValue)))
    (h_BadValue : findIn K (.ref C_BadValue) "__init__" = some (some (.ref i_BadValue)))
    (l_BadValue : K.lookup i_BadValue = some ⟨oc_BadValue, od_BadValue, .func (ksFn "__init__" "BadValue.__init__" (defArgs s_BadValue) (defBody s_BadValue) (defScope s_BadValue) .none .none doc_BadValue pm_BadValue an_BadValue (.ref cd_BadValue) ct_BadValue cc_BadValue), sl_BadValue⟩)
    (o_BadValue : codeIn K (.ref cd_BadValue) "BadValue.__init__" = true)
    (q_BadValue : ckI K C_BadValue i_BadValue cc_BadValue cd_BadValue fl ["value"] = true)
    (a_BadName : nsIn K mainGlobals "BadName" = some (some (.ref C_BadName)))
    (h_BadName : findIn K (.ref C_BadName) "__init__" = some (some (.ref i_BadName)))
    (l_BadName : K.lookup i_BadName = some ⟨oc_BadName, od_BadName, .func (ksFn "__init__" "BadName.__init__" (defArgs s_BadName) (defBody s_BadName) (defScope s_BadName) .none .none doc_BadName pm_BadName an_BadName (.ref cd_BadName) ct_BadName cc_BadName), sl_BadName⟩)
    (o_BadName : codeIn K (.ref cd_BadName) "BadName.__init__" = true)
    (q_BadName : ckI K C_BadName i_BadName cc_BadName cd_BadName fl ["value"] = true)
    (a_BadTold : nsIn K mainGlobals "BadTold" = some (some (.ref C_BadTold)))
    (h_BadTold : findIn K (.ref C_BadTold) "__init__" = some (some (.ref i_BadTold)))
    (l_BadTold : K.lookup i_BadTold = some ⟨oc_BadTold, od_BadTold, .func (ksFn "__init__" "BadTold.__init__" (defArgs s_BadTold) (defBody s_BadTold) (defScope s_BadTold) .none .none doc_BadTold pm_BadTold an_BadTold (.ref cd_BadTold) ct_BadTold cc_BadTold), sl_BadTold⟩)
    (o_BadTold : codeIn K (.ref cd_BadTold) "BadTold.__init__" = true)
    (q_BadTold : ckI K C_BadTold i_BadTold cc_BadTold cd_BadTold fl ["part"] = true)
    (a_BadHead : nsIn K mainGlobals "BadHead" = some (some (.ref C_BadHead)))
    (h_BadHead : findIn K (.ref C_BadHead) "__init__" = some (some (.ref i_BadHead)))
    (l_BadHead : K.lookup i_BadHead = some ⟨oc_BadHead, od_BadHead, .func (ksFn "__init__" "BadHead.__init__" (defArgs s_BadHead) (defBody s_BadHead) (defScope s_BadHead) .none .none doc_BadHead pm_BadHead an_BadHead (.ref cd_BadHead) ct_BadHead cc_BadHead), sl_BadHead⟩)
    (o_BadHead : codeIn K (.ref cd_BadHead) "BadHead.__init__" = true)
    (q_BadHead : ckI K C_BadHead i_BadHead cc_BadHead cd_BadHead fl ["part"] = true)
    (a_BadFilter : nsIn K mainGlobals "BadFilter" = some (some (.ref C_BadFilter)))
    (h_BadFilter : findIn K (.ref C_BadFilter) "__init__" = some (some (.ref i_BadFilter)))
    (l_BadFilter : K.lookup i_BadFilter = some ⟨oc_BadFilter, od_BadFilter, .func (ksFn "__init__" "BadFilter.__init__" (defArgs s_BadFilter) (defBody s_BadFilter) (defScope s_BadFilter) .none .none doc_BadFilter pm_BadFilter an_BadFilter (.ref cd_BadFilter) ct_BadFilter cc_BadFilter), sl_BadFilter⟩)
    (o_BadFilter : codeIn K (.ref cd_BadFilter) "BadFilter.__init__" = true)
    (q_BadFilter : ckI K C_BadFilter i_BadFilter cc_BadFilter cd_BadFilter fl ["part"] = true)
    (a_BadRow : nsIn K mainGlobals "BadRow" = some (some (.ref C_BadRow)))
    (h_BadRow : findIn K (.ref C_BadRow) "__init__" = some (some (.ref i_BadRow)))
    (l_BadRow : K.lookup i_BadRow = some ⟨oc_BadRow, od_BadRow, .func (ksFn "__init__" "BadRow.__init__" (defArgs s_BadRow) (defBody s_BadRow) (defScope s_BadRow) .none .none doc_BadRow pm_BadRow an_BadRow (.ref cd_BadRow) ct_BadRow cc_BadRow), sl_BadRow⟩)
    (o_BadRow : codeIn K (.ref cd_BadRow) "BadRow.__init__" = true)
    (q_BadRow : ckI K C_BadRow i_BadRow cc_BadRow cd_BadRow fl ["part"] = true)
    (a_BadLots : nsIn K mainGlobals "BadLots" = some (some (.ref C_BadLots)))
    (h_BadLots : findIn K (.ref C_BadLots) "__init__" = some (some (.ref i_BadLots)))
    (l_BadLots : K.lookup i_BadLots = some ⟨oc_BadLots, od_BadLots, .func (ksFn "__init__" "BadLots.__init__" (defArgs s_BadLots) (defBody s_BadLots) (defScope s_BadLots) .none .none doc_BadLots pm_BadLots an_BadLots (.ref cd_BadLots) ct_BadLots cc_BadLots), sl_BadLots⟩)
    (o_BadLots : codeIn K (.ref cd_BadLots) "BadLots.__init__" = true)
    (q_BadLots : ckI K C_BadLots i_BadLots cc_BadLots cd_BadLots fl ["part"] = true)
    (a_BadShelf : nsIn K mainGlobals "BadShelf" = some (some (.ref C_BadShelf)))
    (h_BadShelf : findIn K (.ref C_BadShelf) "__init__" = some (some (.ref i_BadShelf)))
    (l_BadShelf : K.lookup i_BadShelf = some ⟨oc_BadShelf, od_BadShelf, .func (ksFn "__init__" "BadShelf.__init__" (defArgs s_BadShelf) (defBody s_BadShelf) (defScope s_BadShelf) .none .none doc_BadShelf pm_BadShelf an_BadShelf (.ref cd_BadShelf) ct_BadShelf cc_BadShelf), sl_BadShelf⟩)
    (o_BadShelf : codeIn K (.ref cd_BadShelf) "BadShelf.__init__" = true)
    (q_BadShelf : ckI K C_BadShelf i_BadShelf cc_BadShelf cd_BadShelf fl ["part"] = true)
    (a_BadTable : nsIn K mainGlobals "BadTable" = some (some (.ref C_BadTable)))
    (h_BadTable : findIn K (.ref C_BadTable) "__init__" = some (some (.ref i_BadTable)))
    (l_BadTable : K.lookup i_BadTable = some ⟨oc_BadTable, od_BadTable, .func (ksFn "__init__" "BadTable.__init__" (defArgs s_BadTable) (defBody s_BadTable) (defScope s_BadTable) .none .none doc_BadTable pm_BadTable an_BadTable (.ref cd_BadTable) ct_BadTable cc_BadTable), sl_BadTable⟩)
    (o_BadTable : codeIn K (.ref cd_BadTable) "BadTable.__init__" = true)
    (q_BadTable : ckI K C_BadTable i_BadTable cc_BadTable cd_BadTable fl ["at"] = true)
    (a_BadQuestion : nsIn K mainGlobals "BadQuestion" = some (some (.ref C_BadQuestion)))
    (h_BadQuestion : findIn K (.ref C_BadQuestion) "__init__" = some (some (.ref i_BadQuestion)))
    (l_BadQuestion : K.lookup i_BadQuestion = some ⟨oc_BadQuestion, od_BadQuestion, .func (ksFn "__init__" "BadQuestion.__init__" (defArgs s_BadQuestion) (defBody s_BadQuestion) (defScope s_BadQuestion) .none .none doc_BadQuestion pm_BadQuestion an_BadQuestion (.ref cd_BadQuestion) ct_BadQuestion cc_BadQuestion), sl_BadQuestion⟩)
    (o_BadQuestion : codeIn K (.ref cd_BadQuestion) "BadQuestion.__init__" = true)
    (q_BadQuestion : ckI K C_BadQuestion i_BadQuestion cc_BadQuestion cd_BadQuestion fl ["part"] = true)
    (a_BadRead : nsIn K mainGlobals "BadRead" = some (some (.ref C_BadRead)))
    (h_BadRead : findIn K (.ref C_BadRead) "__init__" = some (some (.ref i_BadRead)))
    (l_BadRead : K.lookup i_BadRead = some ⟨oc_BadRead, od_BadRead, .func (ksFn "__init__" "BadRead.__init__" (defArgs s_BadRead) (defBody s_BadRead) (defScope s_BadRead) .none .none doc_BadRead pm_BadRead an_BadRead (.ref cd_BadRead) ct_BadRead cc_BadRead), sl_BadRead⟩)
    (o_BadRead : codeIn K (.ref cd_BadRead) "BadRead.__init__" = true)
    (q_BadRead : ckI K C_BadRead i_BadRead cc_BadRead cd_BadRead fl ["at"] = true)
    (a_BadUpkeep : nsIn K mainGlobals "BadUpkeep" = some (some (.ref C_BadUpkeep)))
    (h_BadUpkeep : findIn K (.ref C_BadUpkeep) "__init__" = some (some (.ref i_BadUpkeep)))
    (l_BadUpkeep : K.lookup i_BadUpkeep = some ⟨oc_BadUpkeep, od_BadUpkeep, .func (ksFn "__init__" "BadUpkeep.__init__" (defArgs s_BadUpkeep) (defBody s_BadUpkeep) (defScope s_BadUpkeep) .none .none doc_BadUpkeep pm_BadUpkeep an_BadUpkeep (.ref cd_BadUpkeep) ct_BadUpkeep cc_BadUpkeep), sl_BadUpkeep⟩)
    (o_BadUpkeep : codeIn K (.ref cd_BadUpkeep) "BadUpkeep.__init__" = true)
    (q_BadUpkeep : ckI K C_BadUpkeep i_BadUpkeep cc_BadUpkeep cd_BadUpkeep fl ["part"] = true)
    (a_BadBook : nsIn K mainGlobals "BadBook" = some (some (.ref C_BadBook)))
    (h_BadBook : findIn K (.ref C_BadBook) "__init__" = some (some (.ref i_BadBook)))
    (l_BadBook : K.lookup i_BadBook = some ⟨oc_BadBook, od_BadBook, .func (ksFn "__init__" "BadBook.__init__" (defArgs s_BadBook) (defBody s_BadBook) (defScope s_BadBook) .none .none doc_BadBook pm_BadBook an_BadBook (.ref cd_BadBook) ct_BadBook cc_BadBook), sl_BadBook⟩)
    (o_BadBook : codeIn K (.ref cd_BadBook) "BadBook.__init__" = true)
    (q_BadBook : ckI K C_BadBook i_BadBook cc_BadBook cd_BadBook fl ["part"] = true)
    (a_BadText : nsIn K mainGlobals "BadText" = some (some (.ref C_BadText)))
    (h_BadText : findIn K (.ref C_BadText) "__init__" = some (some (.ref i_BadText)))
    (l_BadText : K.lookup i_BadText = some ⟨oc_BadText, od_BadText, .func (ksFn "__init__" "BadText.__init__" (defArgs s_BadText) (defBody s_BadText) (defScope s_BadText) .none .none doc_BadText pm_BadText an_BadText (.ref cd_BadText) ct_BadText cc_BadText), sl_BadText⟩)
    (o_BadText : codeIn K (.ref cd_BadText) "BadText.__init__" = true)
    (q_BadText : ckI K C_BadText i_BadText cc_BadText cd_BadText fl ["line", "word"] = true)
    (a_BadLine : nsIn K mainGlobals "BadLine" = some (some (.ref C_BadLine)))
    (h_BadLine : findIn K (.ref C_BadLine) "__init__" = some (some (.ref i_BadLine)))
    (l_BadLine : K.lookup i_BadLine = some ⟨oc_BadLine, od_BadLine, .func (ksFn "__init__" "BadLine.__init__" (defArgs s_BadLine) (defBody s_BadLine) (defScope s_BadLine) .none .none doc_BadLine pm_BadLine an_BadLine (.ref cd_BadLine) ct_BadLine cc_BadLine), sl_BadLine⟩)
    (o_BadLine : codeIn K (.ref cd_BadLine) "BadLine.__init__" = true)
    (q_BadLine : ckI K C_BadLine i_BadLine cc_BadLine cd_BadLine fl ["word"] = true)
    (a_NoName : nsIn K mainGlobals "NoName" = some (some (.ref C_NoName)))
    (h_NoName : findIn K (.ref C_NoName) "__init__" = some (some (.ref i_NoName)))
    (l_NoName : K.lookup i_NoName = some ⟨oc_NoName, od_NoName, .func (ksFn "__init__" "NoName.__init__" (defArgs s_NoName) (defBody s_NoName) (defScope s_NoName) .none .none doc_NoName pm_NoName an_NoName (.ref cd_NoName) ct_NoName cc_NoName), sl_NoName⟩)
    (o_NoName : codeIn K (.ref cd_NoName) "NoName.__init__" = true)
    (q_NoName : ckI K C_NoName i_NoName cc_NoName cd_NoName fl ["name"] = true)
    (a_NoBlock : nsIn K mainGlobals "NoBlock" = some (some (.ref C_NoBlock)))
    (h_NoBlock : findIn K (.ref C_NoBlock) "__init__" = some (some (.ref i_NoBlock)))
    (l_NoBlock : K.lookup i_NoBlock = some ⟨oc_NoBlock, od_NoBlock, .func (ksFn "__init__" "NoBlock.__init__" (defArgs s_NoBlock) (defBody s_NoBlock) (defScope s_NoBlock) .none .none doc_NoBlock pm_NoBlock an_NoBlock (.ref cd_NoBlock) ct_NoBlock cc_NoBlock), sl_NoBlock⟩)
    (o_NoBlock : codeIn K (.ref cd_NoBlock) "NoBlock.__init__" = true)
    (q_NoBlock : ckI K C_NoBlock i_NoBlock cc_NoBlock cd_NoBlock fl ["at"] = true)
    (a_NoCount : nsIn K mainGlobals "NoCount" = some (some (.ref C_NoCount)))
    (h_NoCount : findIn K (.ref C_NoCount) "__init__" = some (some (.ref i_NoCount)))
    (l_NoCount : K.lookup i_NoCount = some ⟨oc_NoCount, od_NoCount, .func (ksFn "__init__" "NoCount.__init__" (defArgs s_NoCount) (defBody s_NoCount) (defScope s_NoCount) .none .none doc_NoCount pm_NoCount an_NoCount (.ref cd_NoCount) ct_NoCount cc_NoCount), sl_NoCount⟩)
    (o_NoCount : codeIn K (.ref cd_NoCount) "NoCount.__init__" = true)
    (q_NoCount : ckI K C_NoCount i_NoCount cc_NoCount cd_NoCount fl ["many"] = true)
    (a_Taken : nsIn K mainGlobals "Taken" = some (some (.ref C_Taken)))
    (h_Taken : findIn K (.ref C_Taken) "__init__" = some (some (.ref i_Taken)))
    (l_Taken : K.lookup i_Taken = some ⟨oc_Taken, od_Taken, .func (ksFn "__init__" "Taken.__init__" (defArgs s_Taken) (defBody s_Taken) (defScope s_Taken) .none .none doc_Taken pm_Taken an_Taken (.ref cd_Taken) ct_Taken cc_Taken), sl_Taken⟩)
    (o_Taken : codeIn K (.ref cd_Taken) "Taken.__init__" = true)
    (q_Taken : ckI K C_Taken i_Taken cc_Taken cd_Taken fl ["name"] = true)
    (a_TooMany : nsIn K mainGlobals "TooMany" = some (some (.ref C_TooMany)))
    (h_TooMany : findIn K (.ref C_TooMany) "__init__" = some (some (.ref i_TooMany)))
    (l_TooMany : K.lookup i_TooMany = some ⟨oc_TooMany, od_TooMany, .func (ksFn "__init__" "TooMany.__init__" (defArgs s_TooMany) (defBody s_TooMany) (defScope s_TooMany) .none .none doc_TooMany pm_TooMany an_TooMany (.ref cd_TooMany) ct_TooMany cc_TooMany), sl_TooMany⟩)
    (o_TooMany : codeIn K (.ref cd_TooMany) "TooMany.__init__" = true)
    (q_TooMany : ckI K C_TooMany i_TooMany cc_TooMany cd_TooMany fl ["what", "most"] = true)
    (a_NoChange : nsIn K mainGlobals "NoChange" = some (some (.ref C_NoChange)))
    (h_NoChange : findIn K (.ref C_NoChange) "__init__" = some (some (.ref i_NoChange)))
    (l_NoChange : K.lookup i_NoChange = some ⟨oc_NoChange, od_NoChange, .func (ksFn "__init__" "NoChange.__init__" (defArgs s_NoChange) (defBody s_NoChange) (defScope s_NoChange) .none .none doc_NoChange pm_NoChange an_NoChange (.ref cd_NoChange) ct_NoChange cc_NoChange), sl_NoChange⟩)
    (o_NoChange : codeIn K (.ref cd_NoChange) "NoChange.__init__" = true)
    (q_NoChange : ckI K C_NoChange i_NoChange cc_NoChange cd_NoChange fl [] = true)
    (a__law_pen : nsIn K mainGlobals "_law_pen" = some (some (.ref f__law_pen)))
    (l__law_pen : K.lookup f__law_pen = some ⟨oc__law_pen, od__law_pen, .func (fnOf "_law_pen" "_law_pen" (defArgs s__law_pen) (defBody s__law_pen) (defScope s__law_pen) .none kV__law_pen doc__law_pen pm__law_pen an__law_pen cdv__law_pen ct__law_pen), sl__law_pen⟩)
    (c__law_pen : codeIn K cdv__law_pen "_law_pen" = true)
    (k__law_pen : keepIn K (.ref f__law_pen) = true)
    (a__law_draw : nsIn K mainGlobals "_law_draw" = some (some (.ref f__law_draw)))
    (l__law_draw : K.lookup f__law_draw = some ⟨oc__law_draw, od__law_draw, .func (fnOf "_law_draw" "_law_draw" (defArgs s__law_draw) (defBody s__law_draw) (defScope s__law_draw) .none kV__law_draw doc__law_draw pm__law_draw an__law_draw cdv__law_draw ct__law_draw), sl__law_draw⟩)
    (c__law_draw : codeIn K cdv__law_draw "_law_draw" = true)
    (k__law_draw : keepIn K (.ref f__law_draw) = true)
    (a__law_pick : nsIn K mainGlobals "_law_pick" = some (some (.ref f__law_pick)))
    (l__law_pick : K.lookup f__law_pick = some ⟨oc__law_pick, od__law_pick, .func (fnOf "_law_pick" "_law_pick" (defArgs s__law_pick) (defBody s__law_pick) (defScope s__law_pick) .none kV__law_pick doc__law_pick pm__law_pick an__law_pick cdv__law_pick ct__law_pick), sl__law_pick⟩)
    (c__law_pick : codeIn K cdv__law_pick "_law_pick" = true)
    (k__law_pick : keepIn K (.ref f__law_pick) = true)
    (a__law_value : nsIn K mainGlobals "_law_value" = some (some (.ref f__law_value)))
    (l__law_value : K.lookup f__law_value = some ⟨oc__law_value, od__law_value, .func (fnOf "_law_value" "_law_value" (defArgs s__law_value) (defBody s__law_value) (defScope s__law_value) .none kV__law_value doc__law_value pm__law_value an__law_value cdv__law_value ct__law_value), sl__law_value⟩)
    (c__law_value : codeIn K cdv__law_value "_law_value" = true)
    (k__law_value : keepIn K (.ref f__law_value) = true)
    (a__law_made : nsIn K mainGlobals "_law_made" = some (some (.ref f__law_made)))
    (l__law_made : K.lookup f__law_made = some ⟨oc__law_made, od__law_made, .func (fnOf "_law_made" "_law_made" (defArgs s__law_made) (defBody s__law_made) (defScope s__law_made) .none kV__law_made doc__law_made pm__law_made an__law_made cdv__law_made ct__law_made), sl__law_made⟩)
    (c__law_made : codeIn K cdv__law_made "_law_made" = true)
    (k__law_made : keepIn K (.ref f__law_made) = true)
    (a__law_fields : nsIn K mainGlobals "_law_fields" = some (some (.ref f__law_fields)))
    (l__law_fields : K.lookup f__law_fields = some ⟨oc__law_fields, od__law_fields, .func (fnOf "_law_fields" "_law_fields" (defArgs s__law_fields) (defBody s__law_fields) (defScope s__law_fields) .none kV__law_fields doc__law_fields pm__law_fields an__law_fields cdv__law_fields ct__law_fields), sl__law_fields⟩)
    (c__law_fields : codeIn K cdv__law_fields "_law_fields" = true)
    (k__law_fields : keepIn K (.ref f__law_fields) = true)
    (a__law_classes : nsIn K mainGlobals "_law_classes" = some (some (.ref f__law_classes)))
    (l__law_classes : K.lookup f__law_classes = some ⟨oc__law_classes, od__law_classes, .func (fnOf "_law_classes" "_law_classes" (defArgs s__law_classes) (defBody s__law_classes) (defScope s__law_classes) .none kV__law_classes doc__law_classes pm__law_classes an__law_classes cdv__law_classes ct__law_classes), sl__law_classes⟩)
    (c__law_classes : codeIn K cdv__law_classes "_law_classes" = true)
    (k__law_classes : keepIn K (.ref f__law_classes) = true)
    (a_law : nsIn K mainGlobals "law" = some (some (.ref f_law)))
    (l_law : K.lookup f_law = some ⟨oc_law, od_law, .func (fnOf "law" "law" (defArgs s_law) (defBody s_law) (defScope s_law) .none kV_law doc_law pm_law an_law cdv_law ct_law), sl_law⟩)
    (c_law : codeIn K cdv_law "law" = true)
    (k_law : keepIn K (.ref f_law) = true)
    (tk : ckT K [C_SkipError, C_BadValue, C_BadName, C_BadTold, C_BadHead, C_BadFilter, C_BadRow, C_BadLots, C_BadShelf, C_BadTable, C_BadQuestion, C_BadRead, C_BadUpkeep, C_BadBook, C_BadText, C_BadLine, C_NoName, C_NoBlock, C_NoCount, C_Taken, C_TooMany, C_NoChange] = true)
    : ∃ (fd : FuncData) (ca : Nat → Addr) (mf : MF), (∀ (s : Shared) (u : Value), BindsTo s fd ⟨[u], []⟩ [("_law_script", u)]) ∧ (∀ js : List Int, js.length ≤ 63 → ∃ μ, mf [.d (.scr (js.map .int))] [] = .val (.d (.bl true)) μ) ∧ ∀ base : Heap, K.In base → base.Ns mainGlobals mg → FnG P w K mg base 4 fa fd ["_law_script"] (spD K ca 1 mf) := by
  subst hfl
  have e : f_law = fa := by have e := (mg_of X G a_law).symm.trans hfa; cases e; rfl
  subst e
  have sg := mg_none_of X G sup
  have E_BadValue := er_mk (P := P) X G tx_BadValue op sg tops a_BadValue (ckT_c tk 1 (by decide)) l_BadValue o_BadValue q_BadValue
  have E_BadName := er_mk (P := P) X G tx_BadName op sg tops a_BadName (ckT_c tk 2 (by decide)) l_BadName o_BadName q_BadName
  have E_BadTold := er_mk (P := P) X G tx_BadTold op sg tops a_BadTold (ckT_c tk 3 (by decide)) l_BadTold o_BadTold q_BadTold
  have E_BadHead := er_mk (P := P) X G tx_BadHead op sg tops a_BadHead (ckT_c tk 4 (by decide)) l_BadHead o_BadHead q_BadHead
  have E_BadFilter := er_mk (P := P) X G tx_BadFilter op sg tops a_BadFilter (ckT_c tk 5 (by decide)) l_BadFilter o_BadFilter q_BadFilter
  have E_BadRow := er_mk (P := P) X G tx_BadRow op sg tops a_BadRow (ckT_c tk 6 (by decide)) l_BadRow o_BadRow q_BadRow
  have E_BadLots := er_mk (P := P) X G tx_BadLots op sg tops a_BadLots (ckT_c tk 7 (by decide)) l_BadLots o_BadLots q_BadLots
  have E_BadShelf := er_mk (P := P) X G tx_BadShelf op sg tops a_BadShelf (ckT_c tk 8 (by decide)) l_BadShelf o_BadShelf q_BadShelf
  have E_BadTable := er_mk (P := P) X G tx_BadTable op sg tops a_BadTable (ckT_c tk 9 (by decide)) l_BadTable o_BadTable q_BadTable
  have E_BadQuestion := er_mk (P := P) X G tx_BadQuestion op sg tops a_BadQuestion (ckT_c tk 10 (by decide)) l_BadQuestion o_BadQuestion q_BadQuestion
  have E_BadRead := er_mk (P := P) X G tx_BadRead op sg tops a_BadRead (ckT_c tk 11 (by decide)) l_BadRead o_BadRead q_BadRead
  have E_BadUpkeep := er_mk (P := P) X G tx_BadUpkeep op sg tops a_BadUpkeep (ckT_c tk 12 (by decide)) l_BadUpkeep o_BadUpkeep q_BadUpkeep
  have E_BadBook := er_mk (P := P) X G tx_BadBook op sg tops a_BadBook (ckT_c tk 13 (by decide)) l_BadBook o_BadBook q_BadBook
  have E_BadText := er_mk (P := P) X G tx_BadText op sg tops a_BadText (ckT_c tk 14 (by decide)) l_BadText o_BadText q_BadText
  have E_BadLine := er_mk (P := P) X G tx_BadLine op sg tops a_BadLine (ckT_c tk 15 (by decide)) l_BadLine o_BadLine q_BadLine
  have E_NoName := er_mk (P := P) X G tx_NoName op sg tops a_NoName (ckT_c tk 16 (by decide)) l_NoName o_NoName q_NoName
  have E_NoBlock := er_mk (P := P) X G tx_NoBlock op sg tops a_NoBlock (ckT_c tk 17 (by decide)) l_NoBlock o_NoBlock q_NoBlock
  have E_NoCount := er_mk (P := P) X G tx_NoCount op sg tops a_NoCount (ckT_c tk 18 (by decide)) l_NoCount o_NoCount q_NoCount
  have E_Taken := er_mk (P := P) X G tx_Taken op sg tops a_Taken (ckT_c tk 19 (by decide)) l_Taken o_Taken q_Taken
  have E_TooMany := er_mk (P := P) X G tx_TooMany op sg tops a_TooMany (ckT_c tk 20 (by decide)) l_TooMany o_TooMany q_TooMany
  have E_NoChange := er_mk (P := P) X G tx_NoChange op sg tops a_NoChange (ckT_c tk 21 (by decide)) l_NoChange o_NoChange q_NoChange
  have F__law_pen := fun_mk (st := s__law_pen) l__law_pen c__law_pen k__law_pen
  have F__law_draw := fun_mk (st := s__law_draw) l__law_draw c__law_draw k__law_draw
  have F__law_pick := fun_mk (st := s__law_pick) l__law_pick c__law_pick k__law_pick
  have F__law_value := fun_mk (st := s__law_value) l__law_value c__law_value k__law_value
  have F__law_made := fun_mk (st := s__law_made) l__law_made c__law_made k__law_made
  have F__law_fields := fun_mk (st := s__law_fields) l__law_fields c__law_fields k__law_fields
  have F__law_classes := fun_mk (st := s__law_classes) l__law_classes c__law_classes k__law_classes
  have F_law := fun_mk (st := s_law) l_law c_law k_law
  have T : Txt K P mg (fun n => ([C_SkipError, C_BadValue, C_BadName, C_BadTold, C_BadHead, C_BadFilter, C_BadRow, C_BadLots, C_BadShelf, C_BadTable, C_BadQuestion, C_BadRead, C_BadUpkeep, C_BadBook, C_BadText, C_BadLine, C_NoName, C_NoBlock, C_NoCount, C_Taken, C_TooMany, C_NoChange] : List Addr).getD n 0) f__law_pen (fnOf "_law_pen" "_law_pen" (defArgs s__law_pen) (defBody s__law_pen) (defScope s__law_pen) .none kV__law_pen doc__law_pen pm__law_pen an__law_pen cdv__law_pen ct__law_pen) f__law_draw (fnOf "_law_draw" "_law_draw" (defArgs s__law_draw) (defBody s__law_draw) (defScope s__law_draw) .none kV__law_draw doc__law_draw pm__law_draw an__law_draw cdv__law_draw ct__law_draw) f__law_pick (fnOf "_law_pick" "_law_pick" (defArgs s__law_pick) (defBody s__law_pick) (defScope s__law_pick) .none kV__law_pick doc__law_pick pm__law_pick an__law_pick cdv__law_pick ct__law_pick) f__law_value (fnOf "_law_value" "_law_value" (defArgs s__law_value) (defBody s__law_value) (defScope s__law_value) .none kV__law_value doc__law_value pm__law_value an__law_value cdv__law_value ct__law_value) f__law_made (fnOf "_law_made" "_law_made" (defArgs s__law_made) (defBody s__law_made) (defScope s__law_made) .none kV__law_made doc__law_made pm__law_made an__law_made cdv__law_made ct__law_made) f__law_fields (fnOf "_law_fields" "_law_fields" (defArgs s__law_fields) (defBody s__law_fields) (defScope s__law_fields) .none kV__law_fields doc__law_fields pm__law_fields an__law_fields cdv__law_fields ct__law_fields) f__law_classes (fnOf "_law_classes" "_law_classes" (defArgs s__law_classes) (defBody s__law_classes) (defScope s__law_classes) .none kV__law_classes doc__law_classes pm__law_classes an__law_classes cdv__law_classes ct__law_classes) f_law (fnOf "law" "law" (defArgs s_law) (defBody s_law) (defScope s_law) .none kV_law doc_law pm_law an_law cdv_law ct_law) := by
    refine ⟨mg_none_of X G n_abs,
      mg_none_of X G n_int,
      mg_none_of X G n_isinstance,
      mg_none_of X G n_len,
      mg_none_of X G n_list,
      mg_none_of X G n_range,
      mg_none_of X G n_repr,
      mg_none_of X G n_ArithmeticError,
      mg_none_of X G n_LookupError,
      mg_none_of X G n_TypeError,
      mg_none_of X G n_ValueError,
      mg_of X G a_SkipError,
      x_SkipError,
      (cf_of (ckT_c tk 0 (by decide))).1.kC,
      mg_of X G a_BadValue,
      E_BadValue,
      mg_of X G a_BadName,
      E_BadName,
      mg_of X G a_BadTold,
      E_BadTold,
      mg_of X G a_BadHead,
      E_BadHead,
      mg_of X G a_BadFilter,
      E_BadFilter,
      mg_of X G a_BadRow,
      E_BadRow,
      mg_of X G a_BadLots,
      E_BadLots,
      mg_of X G a_BadShelf,
      E_BadShelf,
      mg_of X G a_BadTable,
      E_BadTable,
      mg_of X G a_BadQuestion,
      E_BadQuestion,
      mg_of X G a_BadRead,
      E_BadRead,
      mg_of X G a_BadUpkeep,
      E_BadUpkeep,
      mg_of X G a_BadBook,
      E_BadBook,
      mg_of X G a_BadText,
      E_BadText,
      mg_of X G a_BadLine,
      E_BadLine,
      mg_of X G a_NoName,
      E_NoName,
      mg_of X G a_NoBlock,
      E_NoBlock,
      mg_of X G a_NoCount,
      E_NoCount,
      mg_of X G a_Taken,
      E_Taken,
      mg_of X G a_TooMany,
      E_TooMany,
      mg_of X G a_NoChange,
      E_NoChange,
      ?_,
      isi_of tk hn ht,
      F__law_pen,
      mg_of X G a__law_pen,
      k__law_pen,
      F__law_pen.binds (ps := ["_law_script"]) fun _ _ _ _ _ _ us hl => match us, hl with | [_], _ => rfl,
      F__law_draw,
      mg_of X G a__law_draw,
      k__law_draw,
      F__law_draw.binds (ps := ["_law_pen_here", "_law_many"]) fun _ _ _ _ _ _ us hl => match us, hl with | [_, _], _ => rfl,
      F__law_pick,
      mg_of X G a__law_pick,
      k__law_pick,
      F__law_pick.binds (ps := ["_law_pen_here", "_law_some"]) fun _ _ _ _ _ _ us hl => match us, hl with | [_, _], _ => rfl,
      F__law_value,
      mg_of X G a__law_value,
      k__law_value,
      F__law_value.binds (ps := ["_law_pen_here"]) fun _ _ _ _ _ _ us hl => match us, hl with | [_], _ => rfl,
      F__law_made,
      mg_of X G a__law_made,
      k__law_made,
      F__law_made.binds (ps := ["_law_one", "_law_two"]) fun _ _ _ _ _ _ us hl => match us, hl with | [_, _], _ => rfl,
      F__law_fields,
      mg_of X G a__law_fields,
      k__law_fields,
      F__law_fields.binds (ps := ["_law_error", "_law_names"]) fun _ _ _ _ _ _ us hl => match us, hl with | [_, _], _ => rfl,
      F__law_classes,
      mg_of X G a__law_classes,
      k__law_classes,
      F__law_classes.binds (ps := ["_law_error"]) fun _ _ _ _ _ _ us hl => match us, hl with | [_], _ => rfl,
      F_law,
      mg_of X G a_law,
      k_law,
      F_law.binds (ps := ["_law_script"]) fun _ _ _ _ _ _ us hl => match us, hl with | [_], _ => rfl⟩
    intro f c hc
    refine ⟨(cf_of (ckT_c tk c (okA_lt hc))).1, ?_⟩
    have hlt := okA_lt hc
    unfold okA at hc
    match c, hc, hlt with
    | 1, hc, _ => exact er_no E_BadValue hc
    | 2, hc, _ => exact er_no E_BadName hc
    | 3, hc, _ => exact er_no E_BadTold hc
    | 4, hc, _ => exact er_no E_BadHead hc
    | 5, hc, _ => exact er_no E_BadFilter hc
    | 6, hc, _ => exact er_no E_BadRow hc
    | 7, hc, _ => exact er_no E_BadLots hc
    | 8, hc, _ => exact er_no E_BadShelf hc
    | 9, hc, _ => exact er_no E_BadTable hc
    | 10, hc, _ => exact er_no E_BadQuestion hc
    | 11, hc, _ => exact er_no E_BadRead hc
    | 12, hc, _ => exact er_no E_BadUpkeep hc
    | 13, hc, _ => exact er_no E_BadBook hc
    | 14, hc, _ => exact er_no E_BadText hc
    | 15, hc, _ => exact er_no E_BadLine hc
    | 16, hc, _ => exact er_no E_NoName hc
    | 17, hc, _ => exact er_no E_NoBlock hc
    | 18, hc, _ => exact er_no E_NoCount hc
    | 19, hc, _ => exact er_no E_Taken hc
    | 20, hc, _ => exact er_no E_TooMany hc
    | 21, hc, _ => exact absurd hc (by show ¬ ((([] : List Str).contains f) = true); simp)
    | n + 22, _, hlt => exact absurd hlt (by omega)
  have O__law_pen := fun base => ok__law_pen (w := w) (base := base) T 
  have O__law_draw := fun base => ok__law_draw (w := w) (base := base) T 
  have O__law_pick := fun base => ok__law_pick (w := w) (base := base) T (O__law_draw base)
  have O__law_value := fun base => ok__law_value (w := w) (base := base) T (O__law_pick base)
  have O__law_made := fun base => ok__law_made (w := w) (base := base) T 
  have O__law_fields := fun base => ok__law_fields (w := w) (base := base) T 
  have O__law_classes := fun base => ok__law_classes (w := w) (base := base) T 
  have O_law := fun base => ok_law (w := w) (base := base) T (O__law_pen base) (O__law_value base) (O__law_made base) (O__law_fields base) (O__law_classes base)
  exact ⟨_, _, mf_law, fun s u => .of_eq rfl, yes, fun base _ _ => O_law base⟩
-- HY op sup hn ht n_abs n_int n_isinstance n_len n_list n_range n_repr n_ArithmeticError n_LookupError n_TypeError n_ValueError a_SkipError x_SkipError a_BadValue h_BadValue l_BadValue o_BadValue q_BadValue a_BadName h_BadName l_BadName o_BadName q_BadName a_BadTold h_BadTold l_BadTold o_BadTold q_BadTold a_BadHead h_BadHead l_BadHead o_BadHead q_BadHead a_BadFilter h_BadFilter l_BadFilter o_BadFilter q_BadFilter a_BadRow h_BadRow l_BadRow o_BadRow q_BadRow a_BadLots h_BadLots l_BadLots o_BadLots q_BadLots a_BadShelf h_BadShelf l_BadShelf o_BadShelf q_BadShelf a_BadTable h_BadTable l_BadTable o_BadTable q_BadTable a_BadQuestion h_BadQuestion l_BadQuestion o_BadQuestion q_BadQuestion a_BadRead h_BadRead l_BadRead o_BadRead q_BadRead a_BadUpkeep h_BadUpkeep l_BadUpkeep o_BadUpkeep q_BadUpkeep a_BadBook h_BadBook l_BadBook o_BadBook q_BadBook a_BadText h_BadText l_BadText o_BadText q_BadText a_BadLine h_BadLine l_BadLine o_BadLine q_BadLine a_NoName h_NoName l_NoName o_NoName q_NoName a_NoBlock h_NoBlock l_NoBlock o_NoBlock q_NoBlock a_NoCount h_NoCount l_NoCount o_NoCount q_NoCount a_Taken h_Taken l_Taken o_Taken q_Taken a_TooMany h_TooMany l_TooMany o_TooMany q_TooMany a_NoChange h_NoChange l_NoChange o_NoChange q_NoChange a__law_pen l__law_pen c__law_pen k__law_pen a__law_draw l__law_draw c__law_draw k__law_draw a__law_pick l__law_pick c__law_pick k__law_pick a__law_value l__law_value c__law_value k__law_value a__law_made l__law_made c__law_made k__law_made a__law_fields l__law_fields c__law_fields k__law_fields a__law_classes l__law_classes c__law_classes k__law_classes a_law l_law c_law k_law tk
end K01
end Dv
open PySem PySem.W PyProof.Rows
set_option maxRecDepth 100000 in
set_option maxHeartbeats 0 in
theorem PySem.Challenge.cw_headskip_k01_errors_and_their_fields_holds : PySem.Challenge.rw_headskip_k01_errors_and_their_fields.Holds := by
  w_on; o_law; k_headL; (case hw => w_witness2)
  k_fill
  refine Dv.walkD (l := PySem.Challenge.rw_headskip_k01_errors_and_their_fields) (n := 63) (k := 4) (x := "_law_script") rfl (by decide) rfl ⟨rfl, by decide, by decide⟩ (fun w h Y => PySem.W.kIn_of Y) ?F
  case F =>
    intro w mg fa h KX G hmg
    refine' Dv.K01.all_mk (w := w) Dv.K01.law_true KX G hmg ?hfl ?tops ?op ?sup ?hn ?ht ?n_abs ?n_int ?n_isinstance ?n_len ?n_list ?n_range ?n_repr ?n_ArithmeticError ?n_LookupError ?n_TypeError ?n_ValueError ?a_SkipError ?x_SkipError ?a_BadValue ?h_BadValue ?l_BadValue ?o_BadValue ?q_BadValue ?a_BadName ?h_BadName ?l_BadName ?o_BadName ?q_BadName ?a_BadTold ?h_BadTold ?l_BadTold ?o_BadTold ?q_BadTold ?a_BadHead ?h_BadHead ?l_BadHead ?o_BadHead ?q_BadHead ?a_BadFilter ?h_BadFilter ?l_BadFilter ?o_BadFilter ?q_BadFilter ?a_BadRow ?h_BadRow ?l_BadRow ?o_BadRow ?q_BadRow ?a_BadLots ?h_BadLots ?l_BadLots ?o_BadLots ?q_BadLots ?a_BadShelf ?h_BadShelf ?l_BadShelf ?o_BadShelf ?q_BadShelf ?a_BadTable ?h_BadTable ?l_BadTable ?o_BadTable ?q_BadTable ?a_BadQuestion ?h_BadQuestion ?l_BadQuestion ?o_BadQuestion ?q_BadQuestion ?a_BadRead ?h_BadRead ?l_BadRead ?o_BadRead ?q_BadRead ?a_BadUpkeep ?h_BadUpkeep ?l_BadUpkeep ?o_BadUpkeep ?q_BadUpkeep ?a_BadBook ?h_BadBook ?l_BadBook ?o_BadBook ?q_BadBook ?a_BadText ?h_BadText ?l_BadText ?o_BadText ?q_BadText ?a_BadLine ?h_BadLine ?l_BadLine ?o_BadLine ?q_BadLine ?a_NoName ?h_NoName ?l_NoName ?o_NoName ?q_NoName ?a_NoBlock ?h_NoBlock ?l_NoBlock ?o_NoBlock ?q_NoBlock ?a_NoCount ?h_NoCount ?l_NoCount ?o_NoCount ?q_NoCount ?a_Taken ?h_Taken ?l_Taken ?o_Taken ?q_Taken ?a_TooMany ?h_TooMany ?l_TooMany ?o_TooMany ?q_TooMany ?a_NoChange ?h_NoChange ?l_NoChange ?o_NoChange ?q_NoChange ?a__law_pen ?l__law_pen ?c__law_pen ?k__law_pen ?a__law_draw ?l__law_draw ?c__law_draw ?k__law_draw ?a__law_pick ?l__law_pick ?c__law_pick ?k__law_pick ?a__law_value ?l__law_value ?c__law_value ?k__law_value ?a__law_made ?l__law_made ?c__law_made ?k__law_made ?a__law_fields ?l__law_fields ?c__law_fields ?k__law_fields ?a__law_classes ?l__law_classes ?c__law_classes ?k__law_classes ?a_law ?l_law ?c_law ?k_law ?tk
    (case hfl => rfl)
    (case tops => rfl)
    (case op => k_is)
    (case sup => k_is)
    (case hn => k_is)
    (case ht => k_is)
    (case n_abs => k_is)
    (case n_int => k_is)
    (case n_isinstance => k_is)
    (case n_len => k_is)
    (case n_list => k_is)
    (case n_range => k_is)
    (case n_repr => k_is)
    (case n_ArithmeticError => k_is)
    (case n_LookupError => k_is)
    (case n_TypeError => k_is)
    (case n_ValueError => k_is)
    (case a_SkipError => k_is)
    (case x_SkipError => first | kernel_rfl | rfl)
    (case a_BadValue => k_is)
    (case h_BadValue => k_is)
    (case l_BadValue => k_is)
    (case o_BadValue => k_is)
    (case q_BadValue => first | kernel_rfl | rfl)
    (case a_BadName => k_is)
    (case h_BadName => k_is)
    (case l_BadName => k_is)
    (case o_BadName => k_is)
    (case q_BadName => first | kernel_rfl | rfl)
    (case a_BadTold => k_is)
    (case h_BadTold => k_is)
    (case l_BadTold => k_is)
    (case o_BadTold => k_is)
    (case q_BadTold => first | kernel_rfl | rfl)
    (case a_BadHead => k_is)
    (case h_BadHead => k_is)
    (case l_BadHead => k_is)
    (case o_BadHead => k_is)
    (case q_BadHead => first | kernel_rfl | rfl)
    (case a_BadFilter => k_is)
    (case h_BadFilter => k_is)
    (case l_BadFilter => k_is)
    (case o_BadFilter => k_is)
    (case q_BadFilter => first | kernel_rfl | rfl)
    (case a_BadRow => k_is)
    (case h_BadRow => k_is)
    (case l_BadRow => k_is)
    (case o_BadRow => k_is)
    (case q_BadRow => first | kernel_rfl | rfl)
    (case a_BadLots => k_is)
    (case h_BadLots => k_is)
    (case l_BadLots => k_is)
    (case o_BadLots => k_is)
    (case q_BadLots => first | kernel_rfl | rfl)
    (case a_BadShelf => k_is)
    (case h_BadShelf => k_is)
    (case l_BadShelf => k_is)
    (case o_BadShelf => k_is)
    (case q_BadShelf => first | kernel_rfl | rfl)
    (case a_BadTable => k_is)
    (case h_BadTable => k_is)
    (case l_BadTable => k_is)
    (case o_BadTable => k_is)
    (case q_BadTable => first | kernel_rfl | rfl)
    (case a_BadQuestion => k_is)
    (case h_BadQuestion => k_is)
    (case l_BadQuestion => k_is)
    (case o_BadQuestion => k_is)
    (case q_BadQuestion => first | kernel_rfl | rfl)
    (case a_BadRead => k_is)
    (case h_BadRead => k_is)
    (case l_BadRead => k_is)
    (case o_BadRead => k_is)
    (case q_BadRead => first | kernel_rfl | rfl)
    (case a_BadUpkeep => k_is)
    (case h_BadUpkeep => k_is)
    (case l_BadUpkeep => k_is)
    (case o_BadUpkeep => k_is)
    (case q_BadUpkeep => first | kernel_rfl | rfl)
    (case a_BadBook => k_is)
    (case h_BadBook => k_is)
    (case l_BadBook => k_is)
    (case o_BadBook => k_is)
    (case q_BadBook => first | kernel_rfl | rfl)
    (case a_BadText => k_is)
    (case h_BadText => k_is)
    (case l_BadText => k_is)
    (case o_BadText => k_is)
    (case q_BadText => first | kernel_rfl | rfl)
    (case a_BadLine => k_is)
    (case h_BadLine => k_is)
    (case l_BadLine => k_is)
    (case o_BadLine => k_is)
    (case q_BadLine => first | kernel_rfl | rfl)
    (case a_NoName => k_is)
    (case h_NoName => k_is)
    (case l_NoName => k_is)
    (case o_NoName => k_is)
    (case q_NoName => first | kernel_rfl | rfl)
    (case a_NoBlock => k_is)
    (case h_NoBlock => k_is)
    (case l_NoBlock => k_is)
    (case o_NoBlock => k_is)
    (case q_NoBlock => first | kernel_rfl | rfl)
    (case a_NoCount => k_is)
    (case h_NoCount => k_is)
    (case l_NoCount => k_is)
    (case o_NoCount => k_is)
    (case q_NoCount => first | kernel_rfl | rfl)
    (case a_Taken => k_is)
    (case h_Taken => k_is)
    (case l_Taken => k_is)
    (case o_Taken => k_is)
    (case q_Taken => first | kernel_rfl | rfl)
    (case a_TooMany => k_is)
    (case h_TooMany => k_is)
    (case l_TooMany => k_is)
    (case o_TooMany => k_is)
    (case q_TooMany => first | kernel_rfl | rfl)
    (case a_NoChange => k_is)
    (case h_NoChange => k_is)
    (case l_NoChange => k_is)
    (case o_NoChange => k_is)
    (case q_NoChange => first | kernel_rfl | rfl)
    (case a__law_pen => k_is)
    (case l__law_pen => k_is)
    (case c__law_pen => k_is)
    (case k__law_pen => k_is)
    (case a__law_draw => k_is)
    (case l__law_draw => k_is)
    (case c__law_draw => k_is)
    (case k__law_draw => k_is)
    (case a__law_pick => k_is)
    (case l__law_pick => k_is)
    (case c__law_pick => k_is)
    (case k__law_pick => k_is)
    (case a__law_value => k_is)
    (case l__law_value => k_is)
    (case c__law_value => k_is)
    (case k__law_value => k_is)
    (case a__law_made => k_is)
    (case l__law_made => k_is)
    (case c__law_made => k_is)
    (case k__law_made => k_is)
    (case a__law_fields => k_is)
    (case l__law_fields => k_is)
    (case c__law_fields => k_is)
    (case k__law_fields => k_is)
    (case a__law_classes => k_is)
    (case l__law_classes => k_is)
    (case c__law_classes => k_is)
    (case k__law_classes => k_is)
    (case a_law => k_is)
    (case l_law => k_is)
    (case c_law => k_is)
    (case k_law => k_is)
    (case tk => first | kernel_rfl | rfl)
#print axioms PySem.Challenge.cw_headskip_k01_errors_and_their_fields_holds
