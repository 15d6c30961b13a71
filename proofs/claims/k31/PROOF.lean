import PyProof.Rows.All
import Wide.All
import OpenK.AllK
import Wide.FinOn
import HandS.Base
import HandS.Call
import HandS.List
import HandS.Comp
import HandS.Ends
import HandS.Iter
import HandS.Words
import HandS.TupAny
import HandS.Deep
import HandS.IsInst
import HandS.Wide
import HandS.ForMost
import KE.GoesEnum
import KE.GoesMore
import HandS.EndBits
import PySem.Challenge.RW_thinsnaps_k31_whole_rules
set_option Elab.async false
set_option linter.all false
set_option maxRecDepth 100000
set_option maxHeartbeats 4000000
/-! Mv: a functional layer over HandS: deep values, a small heap, one lemma a construct. -/
namespace Mv
open PySem PySem.Spec L2

/-! ### values, objects -/
inductive MV where
  | non | bl (b : Bool) | int (i : Int) | str (x : Str) | ref (n : Nat) | tup (xs : List MV)
inductive MO where
  | lst (xs : List MV) | frz (xs : List MV) | dct (kvs : List (MV × MV)) | ins (c : Nat) (fs : List (Nat × MV))
abbrev MH := List MO
abbrev MEnv := List (Option MV)

mutual
inductive IsV (K : PySem.W.Frag) (φ : List Addr) (H : Hp) : MV → V → Prop
  | non : IsV K φ H .non .non
  | bl (b : Bool) : IsV K φ H (.bl b) (.bl b)
  | int (i : Int) : IsV K φ H (.int i) (.int i)
  | str (x : Str) : IsV K φ H (.str x) (.str x)
  | ref {n : Nat} {a : Addr} : φ[n]? = some a → IsV K φ H (.ref n) (.ref a)
  | tup {a : Addr} {vs : List V} {xs : List MV} : SqT K H a vs → IsVs K φ H xs vs → IsV K φ H (.tup xs) (.ref a)
inductive IsVs (K : PySem.W.Frag) (φ : List Addr) (H : Hp) : List MV → List V → Prop
  | nil : IsVs K φ H [] []
  | cons {x : MV} {v : V} {xs : List MV} {vs : List V} : IsV K φ H x v → IsVs K φ H xs vs → IsVs K φ H (x :: xs) (v :: vs)
end

/-- φ, H go on as φ', H' -/
structure Keep (φ : List Addr) (H : Hp) (φ' : List Addr) (H' : Hp) : Prop where
  ext : ∃ more, φ' = φ ++ more ∧ ∀ b ∈ more, H b = none
  dom : ∀ b o, H b = some o → ∃ o', H' b = some o'
  out : ∀ b o, H b = some o → b ∉ φ → H' b = some o
  tup : ∀ b xs, H b = some (.tup xs) → H' b = some (.tup xs)
  frz : ∀ b o u, H b = some (.frz o u) → H' b = some (.frz o u)

section
variable {K : PySem.W.Frag} {φ φ1 φ2 : List Addr} {H H1 H2 : Hp}
theorem Keep.refl : Keep φ H φ H := ⟨⟨[], by simp⟩, fun _ o e => ⟨o, e⟩, fun _ _ e _ => e, fun _ _ e => e, fun _ _ _ e => e⟩
theorem Keep.back (a : Keep φ H φ1 H1) {b : Addr} (h : H1 b = none) : H b = none := by
  cases q : H b with
  | none => rfl
  | some o =>
    obtain ⟨o', e⟩ := a.dom b o q
    rw [h] at e; cases e
theorem Keep.trans (a : Keep φ H φ1 H1) (b : Keep φ1 H1 φ2 H2) : Keep φ H φ2 H2 := by
  obtain ⟨m1, e1, f1⟩ := a.ext
  obtain ⟨m2, e2, f2⟩ := b.ext
  have nn : ∀ c o, H c = some o → c ∉ φ → c ∉ φ1 := fun c o h n z => by
    rw [e1] at z
    rcases List.mem_append.mp z with z | z
    · exact n z
    · rw [f1 c z] at h; cases h
  refine ⟨⟨m1 ++ m2, by rw [e2, e1, List.append_assoc], fun c hc => ?_⟩, fun c o h => ?_, fun c o h n => b.out c o (a.out c o h n) (nn c o h n), fun c xs h => b.tup c xs (a.tup c xs h), fun c o u h => b.frz c o u (a.frz c o u h)⟩
  · rcases List.mem_append.mp hc with hc | hc
    · exact f1 c hc
    · exact a.back (f2 c hc)
  · obtain ⟨o', e⟩ := a.dom c o h
    exact b.dom c o' e
/-- an untracked new object is laid -/
theorem Keep.new {p : Addr} {o : HO} (h : H p = none) : Keep φ H φ (upd H p o) := by
  have k : ∀ b u, H b = some u → upd H p o b = some u := fun b u e => by rw [upd_ne (ne_of_none e h)]; exact e
  exact ⟨⟨[], by simp⟩, fun b u e => ⟨u, k b u e⟩, fun b u e _ => k b u e, fun b xs e => k b _ e, fun b u v e => k b _ e⟩
theorem Keep.lay {p : Addr} {o : HO} (h : H p = none) : Keep φ H (φ ++ [p]) (upd H p o) := by
  have k : ∀ b u, H b = some u → upd H p o b = some u := fun b u e => by rw [upd_ne (ne_of_none e h)]; exact e
  exact ⟨⟨[p], rfl, fun b hb => by rw [List.mem_singleton.mp hb]; exact h⟩, fun b u e => ⟨u, k b u e⟩, fun b u e _ => k b u e, fun b xs e => k b _ e, fun b u v e => k b _ e⟩
theorem Keep.get (a : Keep φ H φ1 H1) {n : Nat} {p : Addr} (e : φ[n]? = some p) : φ1[n]? = some p := by
  obtain ⟨m, rfl, _⟩ := a.ext
  rw [List.getElem?_append_left (List.getElem?_eq_some_iff.mp e).1]
  exact e
theorem Keep.sqT (a : Keep φ H φ1 H1) {p : Addr} {vs : List V} (h : SqT K H p vs) : SqT K H1 p vs := by
  rcases h with (h | ⟨o, h⟩) | h
  · exact .inl (.inl (a.tup _ _ h))
  · exact .inl (.inr ⟨o, a.frz _ _ _ h⟩)
  · exact .inr h
mutual
theorem IsV.keep (a : Keep φ H φ1 H1) : ∀ {x : MV} {v : V}, IsV K φ H x v → IsV K φ1 H1 x v
  | _, _, .non => .non
  | _, _, .bl b => .bl b
  | _, _, .int i => .int i
  | _, _, .str s => .str s
  | _, _, .ref e => .ref (a.get e)
  | _, _, .tup h t => .tup (a.sqT h) (IsVs.keep a t)
theorem IsVs.keep (a : Keep φ H φ1 H1) : ∀ {xs : List MV} {vs : List V}, IsVs K φ H xs vs → IsVs K φ1 H1 xs vs
  | _, _, .nil => .nil
  | _, _, .cons h t => .cons (IsV.keep a h) (IsVs.keep a t)
end
theorem IsVs.length : ∀ {xs : List MV} {vs : List V}, IsVs K φ H xs vs → vs.length = xs.length
  | _, _, .nil => rfl
  | _, _, .cons _ t => by simp [IsVs.length t]
theorem IsVs.get : ∀ {xs : List MV} {vs : List V} {i : Nat} {x : MV}, IsVs K φ H xs vs → xs[i]? = some x → ∃ v, vs[i]? = some v ∧ IsV K φ H x v
  | _, _, _, _, .nil, e => by simp at e
  | _, _, 0, _, .cons h t, e => by simp at e; subst e; exact ⟨_, rfl, h⟩
  | _, _, i + 1, _, .cons h t, e => by
    obtain ⟨v, e1, h1⟩ := IsVs.get t (by simpa using e)
    exact ⟨v, by simpa using e1, h1⟩
theorem IsVs.append : ∀ {xs ys : List MV} {vs ws : List V}, IsVs K φ H xs vs → IsVs K φ H ys ws → IsVs K φ H (xs ++ ys) (vs ++ ws)
  | _, _, _, _, .nil, h => h
  | _, _, _, _, .cons a t, h => .cons a (IsVs.append t h)
theorem IsVs.drop : ∀ {xs : List MV} {vs : List V} (n : Nat), IsVs K φ H xs vs → IsVs K φ H (xs.drop n) (vs.drop n)
  | _, _, 0, h => h
  | _, _, _ + 1, .nil => .nil
  | _, _, n + 1, .cons _ t => IsVs.drop n t
theorem IsVs.take : ∀ {xs : List MV} {vs : List V} (n : Nat), IsVs K φ H xs vs → IsVs K φ H (xs.take n) (vs.take n)
  | _, _, 0, h => .nil
  | _, _, _ + 1, .nil => .nil
  | _, _, n + 1, .cons a t => .cons a (IsVs.take n t)
theorem IsVs.set {x : MV} {v : V} (h : IsV K φ H x v) : ∀ {xs : List MV} {vs : List V} (n : Nat), IsVs K φ H xs vs → IsVs K φ H (xs.set n x) (vs.set n v)
  | _, _, _, .nil => .nil
  | _, _, 0, .cons _ t => .cons h t
  | _, _, n + 1, .cons a t => .cons a (IsVs.set h n t)
end

/-- an object of the small heap, as it stands -/
def OR (K : PySem.W.Frag) (φ : List Addr) (H : Hp) (a : Addr) : MO → Prop
  | .lst xs => xs.length ≤ sizeLine ∧ ∃ vs, H a = some (.lst vs) ∧ IsVs K φ H xs vs
  | .frz xs => xs.length ≤ sizeLine ∧ ∃ o vs, H a = some (.frz o (.lst vs)) ∧ IsVs K φ H xs vs
  | _ => False
structure HR (K : PySem.W.Frag) (φ : List Addr) (H : Hp) (h : MH) : Prop where
  len : φ.length = h.length
  nd : φ.Nodup
  at_ : ∀ (n : Nat) (a : Addr) (o : MO), φ[n]? = some a → h[n]? = some o → OR K φ H a o
structure ER (K : PySem.W.Frag) (φ : List Addr) (H : Hp) (σ : St) (env : MEnv) : Prop where
  len : σ.length = env.length
  at_ : ∀ (i : Nat) (x : MV), env[i]? = some (some x) → ∃ v, σ[i]? = some (some v) ∧ IsV K φ H x v

section
variable {K : PySem.W.Frag} {φ φ1 φ2 : List Addr} {H H1 H2 : Hp} {h : MH} {σ : St} {env : MEnv}
theorem OR.ex {a : Addr} {o : MO} (r : OR K φ H a o) : ∃ u, H a = some u := by
  cases o with
  | lst xs => obtain ⟨_, vs, e, _⟩ := r; exact ⟨_, e⟩
  | frz xs => obtain ⟨_, o, vs, e, _⟩ := r; exact ⟨_, e⟩
  | dct _ => exact r.elim
  | ins _ _ => exact r.elim
theorem HR.ex (r : HR K φ H h) {a : Addr} (ha : a ∈ φ) : ∃ u, H a = some u := by
  obtain ⟨n, e⟩ := List.mem_iff_getElem?.mp ha
  have hn : n < h.length := by rw [← r.len]; exact (List.getElem?_eq_some_iff.mp e).1
  exact (r.at_ n a _ e (List.getElem?_eq_getElem hn)).ex
theorem HR.fresh (r : HR K φ H h) {p : Addr} (hp : H p = none) : p ∉ φ := fun z => by
  obtain ⟨u, e⟩ := r.ex z
  rw [hp] at e; cases e
theorem HR.addr (r : HR K φ H h) {n : Nat} {o : MO} (e : h[n]? = some o) : ∃ a, φ[n]? = some a := by
  have hn : n < φ.length := by rw [r.len]; exact (List.getElem?_eq_some_iff.mp e).1
  exact ⟨_, List.getElem?_eq_getElem hn⟩
theorem OR.keepH {a : Addr} {o : MO} (r : OR K φ H a o) (k : Keep φ H φ1 H1) (e : H1 a = H a) : OR K φ1 H1 a o := by
  cases o with
  | lst xs => obtain ⟨l, vs, q, t⟩ := r; exact ⟨l, vs, e.trans q, t.keep k⟩
  | frz xs => obtain ⟨l, o, vs, q, t⟩ := r; exact ⟨l, o, vs, e.trans q, t.keep k⟩
  | dct _ => exact r.elim
  | ins _ _ => exact r.elim
/-- what is laid beside the small heap -/
theorem HR.new (r : HR K φ H h) {p : Addr} {o : HO} (hp : H p = none) : HR K φ (upd H p o) h :=
  ⟨r.len, r.nd, fun n a u e1 e2 => (r.at_ n a u e1 e2).keepH (Keep.new hp) (upd_ne fun z => r.fresh hp (z ▸ List.mem_of_getElem? e1))⟩
theorem HR.lay (r : HR K φ H h) {p : Addr} {xs : List MV} {vs : List V} (hp : H p = none) (hl : xs.length ≤ sizeLine) (t : IsVs K φ H xs vs) :
    HR K (φ ++ [p]) (upd H p (.lst vs)) (h ++ [.lst xs]) := by
  have np := r.fresh hp
  have k : Keep φ H (φ ++ [p]) (upd H p (.lst vs)) := Keep.lay hp
  refine ⟨by simp [r.len], ?_, fun n a u e1 e2 => ?_⟩
  · rw [List.nodup_append]
    refine ⟨r.nd, by simp, fun a ha b hb z => ?_⟩
    rw [List.mem_singleton.mp hb] at z
    exact np (z ▸ ha)
  · by_cases hn : n < φ.length
    · rw [List.getElem?_append_left hn] at e1
      rw [List.getElem?_append_left (by rw [← r.len]; exact hn)] at e2
      exact (r.at_ n a u e1 e2).keepH k (upd_ne fun z => np (z ▸ List.mem_of_getElem? e1))
    · have hn' : n = φ.length := by
        have := (List.getElem?_eq_some_iff.mp e1).1
        simp at this; omega
      subst hn'
      rw [List.getElem?_append_right (Nat.le_refl _)] at e1
      rw [List.getElem?_append_right (by rw [r.len]; exact Nat.le_refl _)] at e2
      simp at e1
      rw [r.len] at e2
      simp at e2
      subst e1 e2
      exact ⟨hl, vs, upd_same, t.keep k⟩
theorem lay_at (r : HR K φ H h) {p : Addr} : (φ ++ [p])[h.length]? = some p := by
  rw [← r.len, List.getElem?_append_right (Nat.le_refl _)]
  simp
/-- a list is changed -/
theorem Keep.put {a : Addr} {vs ws : List V} (ha : a ∈ φ) (e : H a = some (.lst vs)) : Keep φ H φ (upd H a (.lst ws)) := by
  refine ⟨⟨[], by simp⟩, fun b o q => ?_, fun b o q n => ?_, fun b xs q => ?_, fun b o u q => ?_⟩
  · by_cases hb : b = a
    · subst hb; exact ⟨_, upd_same⟩
    · exact ⟨o, by rw [upd_ne hb]; exact q⟩
  · rw [upd_ne fun z => n (by rw [z]; exact ha)]; exact q
  · rw [upd_ne fun z => by rw [z, e] at q; cases q]; exact q
  · rw [upd_ne fun z => by rw [z, e] at q; cases q]; exact q
theorem HR.put (r : HR K φ H h) {n : Nat} {a : Addr} {xs ys : List MV} {vs ws : List V} (e1 : φ[n]? = some a) (e2 : h[n]? = some (.lst xs)) (e : H a = some (.lst vs)) (hl : ys.length ≤ sizeLine) (t : IsVs K φ H ys ws) :
    HR K φ (upd H a (.lst ws)) (h.set n (.lst ys)) := by
  have ha := List.mem_of_getElem? e1
  have k : Keep φ H φ (upd H a (.lst ws)) := Keep.put ha e
  refine ⟨by simp [r.len], r.nd, fun m b u q1 q2 => ?_⟩
  by_cases hm : m = n
  · subst hm
    rw [e1] at q1; cases q1
    rw [List.getElem?_set_self (List.getElem?_eq_some_iff.mp e2).1] at q2
    cases q2
    exact ⟨hl, ws, upd_same, t.keep k⟩
  · rw [List.getElem?_set_ne (Ne.symm hm)] at q2
    refine (r.at_ m b u q1 q2).keepH k (upd_ne fun z => hm ?_)
    subst z
    obtain ⟨h1, x1⟩ := List.getElem?_eq_some_iff.mp q1
    obtain ⟨h2, x2⟩ := List.getElem?_eq_some_iff.mp e1
    exact (List.getElem_inj r.nd).mp (x1.trans x2.symm)
theorem ER.keep (r : ER K φ H σ env) (k : Keep φ H φ1 H1) : ER K φ1 H1 σ env :=
  ⟨r.len, fun i x e => let ⟨v, e1, t⟩ := r.at_ i x e; ⟨v, e1, t.keep k⟩⟩
theorem ER.set (r : ER K φ H σ env) {i : Nat} {x : MV} {v : V} (t : IsV K φ H x v) : ER K φ H (σ.set i (some v)) (env.set i (some x)) := by
  refine ⟨by simp [r.len], fun j y e => ?_⟩
  by_cases hj : i = j
  · subst hj
    have hi : i < env.length := by
      have := (List.getElem?_eq_some_iff.mp e).1
      simpa using this
    rw [List.getElem?_set_self hi] at e
    cases e
    exact ⟨v, by rw [List.getElem?_set_self (by rw [r.len]; exact hi)], t⟩
  · rw [List.getElem?_set_ne hj] at e
    obtain ⟨w, e1, t1⟩ := r.at_ j y e
    exact ⟨w, by rw [List.getElem?_set_ne hj]; exact e1, t1⟩
theorem ER.unset (r : ER K φ H σ env) (i : Nat) : ER K φ H (σ.set i none) (env.set i none) := by
  refine ⟨by simp [r.len], fun j y e => ?_⟩
  by_cases hj : i = j
  · subst hj
    have hi : i < env.length := by
      have := (List.getElem?_eq_some_iff.mp e).1
      simpa using this
    rw [List.getElem?_set_self hi] at e
    cases e
  · rw [List.getElem?_set_ne hj] at e
    obtain ⟨w, e1, t1⟩ := r.at_ j y e
    exact ⟨w, by rw [List.getElem?_set_ne hj]; exact e1, t1⟩
end

/-! ### what is computed -/
structure MX where
  cls : Nat
  arg : Option MV
inductive R (α : Type) where
  | ok (a : α) (h : MH) | exc (x : MX) (h : MH) | bad
def R.bind {α β : Type} (r : R α) (f : α → MH → R β) : R β := match r with
  | .ok a h => f a h
  | .exc x h => .exc x h
  | .bad => .bad
@[simp] theorem R.bind_ok {α β : Type} (a : α) (h : MH) (f : α → MH → R β) : (R.ok a h).bind f = f a h := rfl
@[simp] theorem R.bind_exc {α β : Type} (x : MX) (h : MH) (f : α → MH → R β) : (R.exc x h).bind f = .exc x h := rfl
@[simp] theorem R.bind_bad {α β : Type} (f : α → MH → R β) : (R.bad).bind f = .bad := rfl
abbrev ME := MEnv → MH → R MV
abbrev MT := MEnv → MH → R Bool
abbrev MA := MEnv → MH → R (List MV)
/-- what is wanted at an exception -/
abbrev XW := List Addr → Hp → MX → MH → Prop
abbrev WT := St → MEnv → XW
def W0 : WT := fun _ _ _ _ _ _ => False

def OkG {α β : Type} (K : PySem.W.Frag) (isA : List Addr → Hp → α → β → Prop) (W : XW) (φ : List Addr) (H : Hp) (r : R α) (Q : β → Hp → Prop) : Prop := match r with
  | .ok a h' => ∀ φ' H' b, Keep φ H φ' H' → HR K φ' H' h' → isA φ' H' a b → Q b H'
  | .exc x h' => ∀ φ' H', Keep φ H φ' H' → HR K φ' H' h' → W φ' H' x h'
  | .bad => False
def tG {α β : Type} (K : PySem.W.Frag) (isA : List Addr → Hp → α → β → Prop) (W : WT) (m : MEnv → MH → R α) : St → Hp → (β → Hp → Prop) → Prop := fun σ H Q =>
  ∃ φ env h, HR K φ H h ∧ ER K φ H σ env ∧ OkG K isA (W σ env) φ H (m env h) Q
def isB : List Addr → Hp → Bool → Bool → Prop := fun _ _ a b => a = b
abbrev tE (K : PySem.W.Frag) (W : WT) (m : ME) : TE := tG K (IsV K) W m
abbrev tT (K : PySem.W.Frag) (W : WT) (m : MT) : TT := tG K isB W m
abbrev tA (K : PySem.W.Frag) (W : WT) (m : MA) : TA := tG K (IsVs K) W m

section
variable {K : PySem.W.Frag} {W : WT} {φ φ1 : List Addr} {H H1 : Hp} {h : MH} {σ : St} {env : MEnv} {α β γ δ : Type}
theorem OkG.mono {isA : List Addr → Hp → α → β → Prop} {V : XW} {r : R α} {Q : β → Hp → Prop} (o : OkG K isA V φ H r Q) (k : Keep φ H φ1 H1) : OkG K isA V φ1 H1 r Q := by
  cases r with
  | ok a h' => exact fun φ' H' b k' r t => o φ' H' b (k.trans k') r t
  | exc x h' => exact fun φ' H' k' r => o φ' H' (k.trans k') r
  | bad => exact o
theorem OkG.imp {isA : List Addr → Hp → α → β → Prop} {V : XW} {r : R α} {Q Q' : β → Hp → Prop} (o : OkG K isA V φ H r Q) (q : ∀ b H', Q b H' → Q' b H') : OkG K isA V φ H r Q' := by
  cases r with
  | ok a h' => exact fun φ' H' b k' r t => q _ _ (o φ' H' b k' r t)
  | exc x h' => exact o
  | bad => exact o
theorem OkG.ok_here {isA : List Addr → Hp → α → β → Prop} {V : XW} {a : α} {b : β} {Q : β → Hp → Prop} (o : OkG K isA V φ H (.ok a h) Q) (r : HR K φ H h) (t : isA φ H a b) : Q b H := o φ H b Keep.refl r t
/-- first m, then what its value makes -/
theorem tG_step {isA : List Addr → Hp → α → β → Prop} {isC : List Addr → Hp → γ → δ → Prop} {m : MEnv → MH → R α} {k : α → MH → R γ} {P : β → Hp → Prop} {Q : δ → Hp → Prop} (hr : HR K φ H h) (er : ER K φ H σ env)
    (o : OkG K isC (W σ env) φ H ((m env h).bind k) Q)
    (n : ∀ φ1 H1 h1 a b, Keep φ H φ1 H1 → HR K φ1 H1 h1 → ER K φ1 H1 σ env → isA φ1 H1 a b → OkG K isC (W σ env) φ1 H1 (k a h1) Q → P b H1) : tG K isA W m σ H P := by
  refine ⟨φ, env, h, hr, er, ?_⟩
  cases e : m env h with
  | ok a h1 =>
    rw [e] at o
    exact fun φ1 H1 b kp r t => n φ1 H1 h1 a b kp r (er.keep kp) t (OkG.mono o kp)
  | exc x h1 => rw [e] at o; exact o
  | bad => rw [e] at o; exact o.elim
end

/-! ### weakening the judgements -/
section
variable {X : Cx}
theorem _root_.L2.PE.imp {e : Expr} {t t' : TE} (p : PE X e t) (q : ∀ σ H Q, t' σ H Q → t σ H Q) : PE X e t' := ⟨fun pins s σ H Q I h => p.run pins s σ H Q I (q σ H Q h)⟩
theorem _root_.L2.PT.imp {e : Expr} {t t' : TT} (p : PT X e t) (q : ∀ σ H Q, t' σ H Q → t σ H Q) : PT X e t' := ⟨fun pins s σ H Q I h => p.run pins s σ H Q I (q σ H Q h)⟩
theorem _root_.L2.PW.imp {e : Expr} {t t' : TT} (p : PW X e t) (q : ∀ σ H Q, t' σ H Q → t σ H Q) : PW X e t' := ⟨fun wh pins s σ H Q I h => p.run wh pins s σ H Q I (q σ H Q h)⟩
theorem _root_.L2.PA.imp {e : List Expr} {t t' : TA} (p : PA X e t) (q : ∀ σ H Q, t' σ H Q → t σ H Q) : PA X e t' := ⟨fun pos pins s σ H Q I h => p.run pos pins s σ H Q I (q σ H Q h)⟩
theorem _root_.L2.PS.imp {e : Stmt} {t t' : TS} (p : PS X e t) (q : ∀ D σ H, t' D σ H → t D σ H) : PS X e t' := ⟨fun pins s σ H D I h => p.run pins s σ H D I (q D σ H h)⟩
theorem _root_.L2.PSs.imp {e : List Stmt} {t t' : TS} (p : PSs X e t) (q : ∀ D σ H, t' D σ H → t D σ H) : PSs X e t' := ⟨fun pins s σ H D I h => p.run pins s σ H D I (q D σ H h)⟩
theorem _root_.L2.PI.imp {tg e : Expr} {t t' : TI} (p : PI X tg e t) (q : ∀ σ H R, t' σ H R → t σ H R) : PI X tg e t' := ⟨fun pins s σ H R I h => p.run pins s σ H R I (q σ H R h)⟩
end
end Mv

set_option maxHeartbeats 4000000
namespace Mv
open PySem PySem.Spec L2

/-- lists and texts stay below this -/
abbrev cap : Nat := 100000
theorem cap_line {n : Nat} (h : n ≤ cap) : n ≤ sizeLine := Nat.le_trans h (by rw [sizeLine_eq]; decide)
theorem cap_lt {n : Nat} (h : n ≤ cap) : n < sizeLine := Nat.lt_of_le_of_lt h (by rw [sizeLine_eq]; decide)

/-! ### names and constants -/
def mVar (i : Nat) : ME := fun env h => match env[i]? with
  | some (some v) => .ok v h
  | _ => .bad
def mC (v : MV) : ME := fun _ h => .ok v h
section
variable {X : Cx} {W : WT} {pos : Pos} {a b c : Expr} {ma mb mc : ME}
theorem se_var (i : Nat) {x : Str} (hN : X.N[i]? = some x := by rfl) (hv : Vis X.env.scope x := by first | exact Or.inl rfl | exact Or.inr (Or.inl rfl) | exact Or.inr (Or.inr rfl)) (hd : (x == ("__debug__" : Str)) = false := by decide)
    (hcd : (x == ("__classdict__" : Str)) = false := by decide) : PE X (.Name x pos) (tE X.K W (mVar i)) := (pe_var hN hv hd hcd).imp fun σ H Q => by
  rintro ⟨φ, env, h, hr, er, o⟩
  unfold mVar at o
  split at o
  · rename_i v e
    obtain ⟨u, e1, t⟩ := er.at_ i v e
    exact ⟨u, e1, o.ok_here hr t⟩
  · exact o.elim
theorem se_c {e : Expr} {v : MV} {u : V} (p : PE X e (tC u)) (t : ∀ φ H, IsV X.K φ H v u) : PE X e (tE X.K W (mC v)) := p.imp fun σ H Q => by
  rintro ⟨φ, env, h, hr, er, o⟩
  exact OkG.ok_here o hr (t φ H)
theorem se_int {i j} : PE X (.Constant (.int i) j pos) (tE X.K W (mC (.int i))) := se_c pe_int fun _ _ => .int i
theorem se_bl {b j} : PE X (.Constant (.bool b) j pos) (tE X.K W (mC (.bl b))) := se_c pe_bl fun _ _ => .bl b
theorem se_non {j} : PE X (.Constant .none j pos) (tE X.K W (mC .non)) := se_c pe_non fun _ _ => .non
theorem se_str {x j} : PE X (.Constant (.str x) j pos) (tE X.K W (mC (.str x))) := se_c pe_str fun _ _ => .str x
/-- a whole number of the module -/
theorem se_globI {x : Str} {i : Int} (hg : Gl X x) (hm : ∃ t, X.mg x = some (.int i t)) (hd : (x == ("__debug__" : Str)) = false := by decide) : PE X (.Name x pos) (tE X.K W (mC (.int i))) := by
  obtain ⟨t, hm⟩ := hm
  exact se_c (u := V.int i) (pe_glob hg hm ⟨t, rfl⟩ hd) fun _ _ => .int i
theorem se_globS {x : Str} {i : Str} (hg : Gl X x) (hm : ∃ t, X.mg x = some (.str i t)) (hd : (x == ("__debug__" : Str)) = false := by decide) : PE X (.Name x pos) (tE X.K W (mC (.str i))) := by
  obtain ⟨t, hm⟩ := hm
  exact se_c (u := V.str i) (pe_glob hg hm ⟨t, rfl⟩ hd) fun _ _ => .str i

/-! ### two operands -/
def mBin (f : MV → MV → MH → R MV) (ma mb : ME) : ME := fun env h => (ma env h).bind fun x h1 => (mb env h1).bind fun y h2 => f x y h2
theorem tOp_of {r : R2} {f : MV → MV → MH → R MV} {K : PySem.W.Frag} (hs : ∀ (Z : XW) φ H h x y u v Q, HR K φ H h → IsV K φ H x u → IsV K φ H y v → OkG K (IsV K) Z φ H (f x y h) Q → r u v H Q) {σ : St} {H : Hp} {Q : VK} (o : tE K W (mBin f ma mb) σ H Q) : tOp r (tE K W ma) (tE K W mb) σ H Q := by
  obtain ⟨φ, env, h, hr, er, o⟩ := o
  refine tG_step hr er o fun φ1 H1 h1 x u k1 hr1 er1 t1 o1 => ?_
  refine tG_step hr1 er1 o1 fun φ2 H2 h2 y v k2 hr2 er2 t2 o2 => ?_
  exact hs _ φ2 H2 h2 x y u v Q hr2 (t1.keep k2) t2 o2
/-- r asks what f computes -/
def OpF (K : PySem.W.Frag) (r : R2) (f : MV → MV → MH → R MV) : Prop := ∀ (Z : XW) φ H h x y u v Q, HR K φ H h → IsV K φ H x u → IsV K φ H y v → OkG K (IsV K) Z φ H (f x y h) Q → r u v H Q
theorem se_op {op : Operator} {r : R2} {f : MV → MV → MH → R MV} (ho : OpR X (binaryOp op) r) (hs : OpF X.K r f) (ha : PE X a (tE X.K W ma)) (hb : PE X b (tE X.K W mb)) : PE X (.BinOp a op b pos) (tE X.K W (mBin f ma mb)) :=
  (pe_op ho ha hb).imp fun _ _ _ o => tOp_of hs o
theorem se_cmp {op : CmpOp} {r : R2} {f : MV → MV → MH → R MV} (ho : OpR X (compareOp op) r) (hs : OpF X.K r f) (ha : PE X a (tE X.K W ma)) (hb : PE X b (tE X.K W mb)) (hm : behindInMarks op b = false := by first | exact nobehind _ (by decide) (by decide) | rfl) :
    PE X (.Compare a [op] [b] pos) (tE X.K W (mBin f ma mb)) := (pe_cmpR ho ha hb hm).imp fun _ _ _ o => tOp_of hs o
/-- a value as a test -/
def mAsB (m : ME) : MT := fun env h => (m env h).bind fun x h1 => match x with
  | .bl b => .ok b h1
  | _ => .bad
theorem tTest_of {t : TE} {K : PySem.W.Frag} {m : ME} (ht : ∀ σ H Q, tE K W m σ H Q → t σ H Q) {σ : St} {H : Hp} {Q : Bool → Hp → Prop} (o : tT K W (mAsB m) σ H Q) : t σ H fun x H' => ∃ k, x = .bl k ∧ Q k H' := by
  obtain ⟨φ, env, h, hr, er, o⟩ := o
  refine ht _ _ _ (tG_step hr er o fun φ1 H1 h1 x u k1 hr1 er1 t1 o1 => ?_)
  cases t1 with
  | bl b => exact ⟨b, rfl, OkG.ok_here o1 hr1 rfl⟩
  | _ => exact o1.elim
theorem st_cmp {op : CmpOp} {r : R2} {f : MV → MV → MH → R MV} (ho : OpR X (compareOp op) r) (hs : OpF X.K r f) (ha : PE X a (tE X.K W ma)) (hb : PE X b (tE X.K W mb)) (hm : behindInMarks op b = false := by first | exact nobehind _ (by decide) (by decide) | rfl) :
    PT X (.Compare a [op] [b] pos) (tT X.K W (mAsB (mBin f ma mb))) := (pt_cmpR ho ha hb hm).imp fun _ _ _ o => tTest_of (fun _ _ _ q => tOp_of hs q) o
theorem st_val {e : Expr} {m : ME} (h : PE X e (tE X.K W m)) (he : ∀ whole, isTrue e X.env whole = (do let v ← whole; standAt e.pos; holding [v] (truthy v)) := by intro _; rfl) : PT X e (tT X.K W (mAsB m)) :=
  (pt_val h he).imp fun _ _ _ o => tTest_of (fun _ _ _ q => q) o
/-- a op b op' c -/
def mChain (f g : MV → MV → MH → R MV) (ma mb mc : ME) : ME := fun env h => (ma env h).bind fun x h1 => (mb env h1).bind fun y h2 => (f x y h2).bind fun z h3 => match z with
  | .bl true => (mc env h3).bind fun w h4 => g y w h4
  | .bl false => .ok (.bl false) h3
  | _ => .bad
/-- f's answer leaves the heap -/
def Quiet (f : MV → MV → MH → R MV) : Prop := ∀ x y h, f x y h = .bad ∨ ∃ b, f x y h = .ok (.bl b) h
theorem tChain_of {r r' : R2} {f g : MV → MV → MH → R MV} {K : PySem.W.Frag} (hs : OpF K r f) (hs' : OpF K r' g) {σ : St} {H : Hp} {Q : VK} (o : tE K W (mChain f g ma mb mc) σ H Q) : tChain r r' (tE K W ma) (tE K W mb) (tE K W mc) σ H Q := by
  obtain ⟨φ, env, h, hr, er, o⟩ := o
  refine tG_step hr er o fun φ1 H1 h1 x u k1 hr1 er1 t1 o1 => ?_
  refine tG_step hr1 er1 o1 fun φ2 H2 h2 y v k2 hr2 er2 t2 o2 => ?_
  refine hs (W σ env) φ2 H2 h2 x y u v _ hr2 (t1.keep k2) t2 ?_
  cases e : f x y h2 with
  | ok z h3 =>
    rw [e] at o2
    intro φ3 H3 w k3 hr3 t3
    have o3 := OkG.mono o2 k3
    cases t3 with
    | bl b =>
      refine ⟨b, rfl, ?_⟩
      cases b with
      | true =>
        rw [if_pos rfl]
        refine tG_step hr3 (er2.keep k3) o3 fun φ4 H4 h4 y' v' k4 hr4 er4 t4 o4 => ?_
        exact hs' _ φ4 H4 h4 y y' v v' Q hr4 ((t2.keep k3).keep k4) t4 o4
      | false =>
        rw [if_neg Bool.false_ne_true]
        exact OkG.ok_here o3 hr3 (.bl false)
    | _ => exact o3.elim
  | exc z h3 => rw [e] at o2; exact o2
  | bad => rw [e] at o2; exact o2.elim
theorem se_chain {op op' : CmpOp} {r r' : R2} {f g : MV → MV → MH → R MV} (ho : OpR X (compareOp op) r) (hs : OpF X.K r f) (ho' : OpR X (compareOp op') r') (hs' : OpF X.K r' g) (ha : PE X a (tE X.K W ma)) (hb : PE X b (tE X.K W mb)) (hc : PE X c (tE X.K W mc))
    (hm : lastMarks [op, op'] [b, c] = false := by with_unfolding_all rfl) : PE X (.Compare a [op, op'] [b, c] pos) (tE X.K W (mChain f g ma mb mc)) := (pe_chain ho ho' ha hb hc hm).imp fun _ _ _ o => tChain_of hs hs' o
theorem st_chain {op op' : CmpOp} {r r' : R2} {f g : MV → MV → MH → R MV} (ho : OpR X (compareOp op) r) (hs : OpF X.K r f) (ho' : OpR X (compareOp op') r') (hs' : OpF X.K r' g) (ha : PE X a (tE X.K W ma)) (hb : PE X b (tE X.K W mb)) (hc : PE X c (tE X.K W mc))
    (hm : lastMarks [op, op'] [b, c] = false := by with_unfolding_all rfl) : PT X (.Compare a [op, op'] [b, c] pos) (tT X.K W (mAsB (mChain f g ma mb mc))) := (pt_chain ho ho' ha hb hc hm).imp fun _ _ _ o => tTest_of (fun _ _ _ q => tChain_of hs hs' q) o

/-! ### and, or, not, if -/
def mAndV (ma mb : ME) : ME := fun env h => (ma env h).bind fun x h1 => match x with
  | .bl true => mb env h1
  | .bl false => .ok (.bl false) h1
  | _ => .bad
def mOrV (ma mb : ME) : ME := fun env h => (ma env h).bind fun x h1 => match x with
  | .bl true => .ok (.bl true) h1
  | .bl false => mb env h1
  | _ => .bad
def mNotV (ma : ME) : ME := fun env h => (ma env h).bind fun x h1 => match x with
  | .bl b => .ok (.bl (!b)) h1
  | _ => .bad
variable {rest : List Expr} {ta tb : MT}
theorem se_one {op} (h : PE X a (tE X.K W ma)) : PE X (.BoolOp op [a] pos) (tE X.K W ma) := pe_one h
theorem se_and (ha : PE X a (tE X.K W ma)) (hb : PE X (.BoolOp .And (b :: rest) pos) (tE X.K W mb)) : PE X (.BoolOp .And (a :: b :: rest) pos) (tE X.K W (mAndV ma mb)) := (pe_and ha hb).imp fun σ H Q => by
  rintro ⟨φ, env, h, hr, er, o⟩
  refine tG_step hr er o fun φ1 H1 h1 x u k1 hr1 er1 t1 o1 => ?_
  cases t1 with
  | bl b =>
    refine ⟨b, rfl, ?_⟩
    cases b with
    | true => rw [if_pos rfl]; exact ⟨φ1, env, h1, hr1, er1, o1⟩
    | false => rw [if_neg Bool.false_ne_true]; exact OkG.ok_here o1 hr1 (.bl false)
  | _ => exact o1.elim
theorem se_or (ha : PE X a (tE X.K W ma)) (hb : PE X (.BoolOp .Or (b :: rest) pos) (tE X.K W mb)) : PE X (.BoolOp .Or (a :: b :: rest) pos) (tE X.K W (mOrV ma mb)) := (pe_or ha hb).imp fun σ H Q => by
  rintro ⟨φ, env, h, hr, er, o⟩
  refine tG_step hr er o fun φ1 H1 h1 x u k1 hr1 er1 t1 o1 => ?_
  cases t1 with
  | bl b =>
    refine ⟨b, rfl, ?_⟩
    cases b with
    | true => rw [if_pos rfl]; exact OkG.ok_here o1 hr1 (.bl true)
    | false => rw [if_neg Bool.false_ne_true]; exact ⟨φ1, env, h1, hr1, er1, o1⟩
  | _ => exact o1.elim
theorem se_not (ha : PE X a (tE X.K W ma)) : PE X (.UnaryOp .Not a pos) (tE X.K W (mNotV ma)) := (pe_not ha).imp fun σ H Q => by
  rintro ⟨φ, env, h, hr, er, o⟩
  refine tG_step hr er o fun φ1 H1 h1 x u k1 hr1 er1 t1 o1 => ?_
  cases t1 with
  | bl b => exact ⟨b, rfl, OkG.ok_here o1 hr1 (.bl _)⟩
  | _ => exact o1.elim
def mAndT (ta tb : MT) : MT := fun env h => (ta env h).bind fun c h1 => if c = true then tb env h1 else .ok false h1
def mOrT (ta tb : MT) : MT := fun env h => (ta env h).bind fun c h1 => if c = true then .ok true h1 else tb env h1
def mNotT (ta : MT) : MT := fun env h => (ta env h).bind fun c h1 => .ok (!c) h1
theorem sw_and1 (ha : PT X a (tT X.K W ta)) : PW X (.BoolOp .And [a] pos) (tT X.K W ta) := pw_and1 ha
theorem sw_or1 (ha : PT X a (tT X.K W ta)) : PW X (.BoolOp .Or [a] pos) (tT X.K W ta) := pw_or1 ha
theorem sw_and (ha : PT X a (tT X.K W ta)) (hb : PW X (.BoolOp .And (b :: rest) pos) (tT X.K W tb)) : PW X (.BoolOp .And (a :: b :: rest) pos) (tT X.K W (mAndT ta tb)) := (pw_and ha hb).imp fun σ H Q => by
  rintro ⟨φ, env, h, hr, er, o⟩
  refine tG_step hr er o fun φ1 H1 h1 x u k1 hr1 er1 t1 o1 => ?_
  cases t1
  cases x with
  | true => rw [if_pos rfl]; exact ⟨φ1, env, h1, hr1, er1, o1⟩
  | false => rw [if_neg Bool.false_ne_true]; exact OkG.ok_here o1 hr1 rfl
theorem sw_or (ha : PT X a (tT X.K W ta)) (hb : PW X (.BoolOp .Or (b :: rest) pos) (tT X.K W tb)) : PW X (.BoolOp .Or (a :: b :: rest) pos) (tT X.K W (mOrT ta tb)) := (pw_or ha hb).imp fun σ H Q => by
  rintro ⟨φ, env, h, hr, er, o⟩
  refine tG_step hr er o fun φ1 H1 h1 x u k1 hr1 er1 t1 o1 => ?_
  cases t1
  cases x with
  | true => rw [if_pos rfl]; exact OkG.ok_here o1 hr1 rfl
  | false => rw [if_neg Bool.false_ne_true]; exact ⟨φ1, env, h1, hr1, er1, o1⟩
theorem st_w {e : Expr} (h : PW X e (tT X.K W ta)) : PT X e (tT X.K W ta) := h.pt
theorem st_not (ha : PT X a (tT X.K W ta)) : PT X (.UnaryOp .Not a pos) (tT X.K W (mNotT ta)) := (pt_not ha).imp fun σ H Q => by
  rintro ⟨φ, env, h, hr, er, o⟩
  refine tG_step hr er o fun φ1 H1 h1 x u k1 hr1 er1 t1 o1 => ?_
  cases t1
  exact OkG.ok_here o1 hr1 rfl
def mIf (t : MT) (ma mb : ME) : ME := fun env h => (t env h).bind fun c h1 => if c = true then ma env h1 else mb env h1
theorem se_if (hc : PT X c (tT X.K W ta)) (ha : PE X a (tE X.K W ma)) (hb : PE X b (tE X.K W mb)) : PE X (.IfExp c a b pos) (tE X.K W (mIf ta ma mb)) := (pe_ifExp hc ha hb).imp fun σ H Q => by
  rintro ⟨φ, env, h, hr, er, o⟩
  refine tG_step hr er o fun φ1 H1 h1 x u k1 hr1 er1 t1 o1 => ?_
  cases t1
  cases x with
  | true => rw [if_pos rfl]; exact ⟨φ1, env, h1, hr1, er1, o1⟩
  | false => rw [if_neg Bool.false_ne_true]; exact ⟨φ1, env, h1, hr1, er1, o1⟩

/-! ### argument lists, displays -/
def mNil : MA := fun _ h => .ok [] h
def mCons (ma : ME) (r : MA) : MA := fun env h => (ma env h).bind fun x h1 => (r env h1).bind fun xs h2 => .ok (x :: xs) h2
/-- a list's items; a tuple's -/
def itemsOf (h : MH) : MV → Option (List MV)
  | .tup xs => some xs
  | .ref n => match h[n]? with
    | some (.lst xs) => some xs
    | some (.frz xs) => some xs
    | _ => none
  | _ => none
def mStar (ma : ME) (r : MA) : MA := fun env h => (ma env h).bind fun x h1 => match itemsOf h1 x with
  | some xs => (r env h1).bind fun ys h2 => .ok (xs ++ ys) h2
  | none => .bad
variable {es : List Expr} {mr : MA}
theorem sa_nil : PA X [] (tA X.K W mNil) := pa_nil.imp fun σ H Q => by
  rintro ⟨φ, env, h, hr, er, o⟩
  exact OkG.ok_here o hr .nil
theorem sa_cons (ha : PE X a (tE X.K W ma)) (hr : PA X es (tA X.K W mr)) (hs : starEach (a :: es) X.env = (false, eval a X.env) :: starEach es X.env := by rfl) : PA X (a :: es) (tA X.K W (mCons ma mr)) := (pa_cons ha hr hs).imp fun σ H Q => by
  rintro ⟨φ, env, h, hr, er, o⟩
  refine tG_step hr er o fun φ1 H1 h1 x u k1 hr1 er1 t1 o1 => ?_
  refine tG_step hr1 er1 o1 fun φ2 H2 h2 xs us k2 hr2 er2 t2 o2 => ?_
  exact OkG.ok_here o2 hr2 (.cons (t1.keep k2) t2)
def mTup (r : MA) : ME := fun env h => (r env h).bind fun xs h1 => if xs.length ≤ cap then .ok (.tup xs) h1 else .bad
def mLst (r : MA) : ME := fun env h => (r env h).bind fun xs h1 => if xs.length ≤ cap then .ok (.ref h1.length) (h1 ++ [.lst xs]) else .bad
/-- a new list -/
theorem lay_ok {K : PySem.W.Frag} {Z : XW} {φ : List Addr} {H : Hp} {h : MH} {xs : List MV} {vs : List V} {p : Addr} {Q : VK} (hr : HR K φ H h) (t : IsVs K φ H xs vs) (hl : xs.length ≤ cap) (hp : H p = none) (o : OkG K (IsV K) Z φ H (.ok (.ref h.length) (h ++ [.lst xs])) Q) : Q (.ref p) (upd H p (.lst vs)) :=
  o (φ ++ [p]) _ (.ref p) (Keep.lay hp) (hr.lay hp (cap_line hl) t) (.ref (lay_at hr))
theorem tup_ok {K : PySem.W.Frag} {Z : XW} {φ : List Addr} {H : Hp} {h : MH} {xs : List MV} {vs : List V} {p : Addr} {Q : VK} (hr : HR K φ H h) (t : IsVs K φ H xs vs) (hp : H p = none) (o : OkG K (IsV K) Z φ H (.ok (.tup xs) h) Q) : Q (.ref p) (upd H p (.tup vs)) :=
  o φ _ (.ref p) (Keep.new hp) (hr.new hp) (.tup (SqT.of upd_same) (t.keep (Keep.new hp)))
theorem se_tup {x1} (hr : PA X es (tA X.K W mr)) : PE X (.Tuple es x1 pos) (tE X.K W (mTup mr)) := (pe_tup hr).imp fun σ H Q => by
  rintro ⟨φ, env, h, hr, er, o⟩
  refine tG_step hr er o fun φ1 H1 h1 xs us k1 hr1 er1 t1 o1 => ?_
  split at o1
  · rename_i hl
    exact ⟨by rw [t1.length]; exact cap_line hl, fun p hp => tup_ok hr1 t1 hp o1⟩
  · exact o1.elim
theorem se_lst (hr : PA X es (tA X.K W mr)) : PE X (.List es pos) (tE X.K W (mLst mr)) := (pe_lst hr).imp fun σ H Q => by
  rintro ⟨φ, env, h, hr, er, o⟩
  refine tG_step hr er o fun φ1 H1 h1 xs us k1 hr1 er1 t1 o1 => ?_
  split at o1
  · rename_i hl
    exact ⟨by rw [t1.length]; exact cap_line hl, fun p hp => lay_ok hr1 t1 hl hp o1⟩
  · exact o1.elim
/-- what a list's or a tuple's items are in the heap -/
theorem seq_of {K : PySem.W.Frag} {φ : List Addr} {H : Hp} {h : MH} {x : MV} {u : V} {xs : List MV} (hr : HR K φ H h) (t : IsV K φ H x u) (e : itemsOf h x = some xs) : ∃ a vs, u = .ref a ∧ (SqT K H a vs ∨ SqL K H a vs) ∧ IsVs K φ H xs vs := by
  cases t with
  | tup hq ts => cases e; exact ⟨_, _, rfl, .inl hq, ts⟩
  | @ref n a ea =>
    unfold itemsOf at e
    cases q : h[n]? with
    | none => simp only [q] at e; cases e
    | some ob =>
      have w := hr.at_ n a ob ea q
      cases ob with
      | lst ys => simp only [q] at e; cases e; obtain ⟨_, vs, e1, t1⟩ := w; exact ⟨a, vs, rfl, .inr (SqL.of e1), t1⟩
      | frz ys => simp only [q] at e; cases e; obtain ⟨_, ob, vs, e1, t1⟩ := w; exact ⟨a, vs, rfl, .inr (.inl (.inr ⟨ob, e1⟩)), t1⟩
      | dct _ => exact w.elim
      | ins _ _ => exact w.elim
  | _ => cases e

/-! ### calls -/
def mCall (F : List MV → MH → R MV) (r : MA) : ME := fun env h => (r env h).bind fun xs h1 => F xs h1
/-- r asks what f computes -/
def CallF (K : PySem.W.Frag) (r : List V → Hp → VK → Prop) (f : List MV → MH → R MV) : Prop := ∀ (Z : XW) φ H h xs us Q, HR K φ H h → IsVs K φ H xs us → OkG K (IsV K) Z φ H (f xs h) Q → r us H Q
theorem tCB_of {r : List V → Hp → VK → Prop} {f : List MV → MH → R MV} {K : PySem.W.Frag} (hs : CallF K r f) {σ : St} {H : Hp} {Q : VK} (o : tE K W (mCall f mr) σ H Q) : tCB r (tA K W mr) σ H Q := by
  obtain ⟨φ, env, h, hr, er, o⟩ := o
  refine tG_step hr er o fun φ1 H1 h1 xs us k1 hr1 er1 t1 o1 => ?_
  exact hs _ φ1 H1 h1 xs us Q hr1 t1 o1
theorem se_callB {id : String} {x : Str} {p : Pos} {r : List V → Hp → VK → Prop} {f : List MV → MH → R MV} (hc : CallR X (.builtin id) r) (hs : CallF X.K r f) (hg : Gl X x) (hm : X.mg x = none) (hv : bootBuiltins x = some (.builtin id)) (ha : PA X (a :: es) (tA X.K W mr)) (hn : x ≠ "__name__" := by decide) (hdb : (x == ("__debug__" : Str)) = false := by decide)
    (he : starEach (a :: es) X.env = (false, eval a X.env) :: starEach es X.env := by rfl) (hpl : (backTo pos (starEach es X.env)).any (·.1) = false := by rfl) : PE X (.Call (.Name x p) (a :: es) [] pos) (tE X.K W (mCall f mr)) :=
  (pe_callB hc hg hm hv ha hn hdb he hpl).imp fun _ _ _ o => tCB_of hs o
theorem se_callTy {T : String} {x : Str} {p : Pos} {r : List V → Hp → VK → Prop} {f : List MV → MH → R MV} (hc : CallR X (.type T) r) (hs : CallF X.K r f) (hg : Gl X x) (hm : X.mg x = none) (hv : bootBuiltins x = some (.type T)) (ha : PA X (a :: es) (tA X.K W mr)) (hn : x ≠ "__name__" := by decide) (hdb : (x == ("__debug__" : Str)) = false := by decide)
    (he : starEach (a :: es) X.env = (false, eval a X.env) :: starEach es X.env := by rfl) (hpl : (backTo pos (starEach es X.env)).any (·.1) = false := by rfl) : PE X (.Call (.Name x p) (a :: es) [] pos) (tE X.K W (mCall f mr)) :=
  (pe_callTy hc hg hm hv ha hn hdb he hpl).imp fun _ _ _ o => tCB_of hs o
/-- a def that computes F; nothing is raised -/
def spM (K : PySem.W.Frag) (np : Nat) (F : List MV → MH → R MV) : Sp := fun vs H Q E => vs.length = np ∧ ∃ φ xs h, HR K φ H h ∧ IsVs K φ H xs vs ∧ OkG K (IsV K) (fun _ _ _ _ => False) φ H (F xs h) Q
def R.noX {α : Type} : R α → R α
  | .exc _ _ => .bad
  | r => r
@[simp] theorem R.noX_ok {α : Type} (a : α) (h : MH) : (R.ok a h).noX = .ok a h := rfl
def mDo (np : Nat) (F : List MV → MH → R MV) (r : MA) : ME := fun env h => (r env h).bind fun xs h1 => if xs.length = np then (F xs h1).noX else .bad
theorem noX_ok {α β : Type} {K : PySem.W.Frag} {isA : List Addr → Hp → α → β → Prop} {V V' : XW} {φ : List Addr} {H : Hp} {r : R α} {Q : β → Hp → Prop} (o : OkG K isA V φ H r.noX Q) : OkG K isA V' φ H r Q := by
  cases r with
  | ok a h => exact o
  | exc x h => exact o.elim
  | bad => exact o
theorem tDo_of {K : PySem.W.Frag} {np : Nat} {F : List MV → MH → R MV} {σ : St} {H : Hp} {Q : VK} {E : XK} (o : tE K W (mDo np F mr) σ H Q) : tA K W mr σ H fun vs H1 => spM K np F vs H1 Q E := by
  obtain ⟨φ, env, h, hr, er, o⟩ := o
  refine tG_step hr er o fun φ1 H1 h1 xs us k1 hr1 er1 t1 o1 => ?_
  split at o1
  · rename_i hl
    exact ⟨t1.length.trans hl, φ1, xs, h1, hr1, t1, noX_ok o1⟩
  · exact o1.elim
theorem se_call {k np : Nat} {f : Addr} {fd : FuncData} {ps : List Str} {x : Str} {p : Pos} {F : List MV → MH → R MV} (hF : FnOk X.prog X.w X.K X.mg X.base CX0 k f fd ps (spM X.K np F)) (hr : Room k X.A) (hg : Gl X x) (hm : X.mg x = some (.ref f)) (hk : PySem.W.keepIn X.K (.ref f) = true) (hb : Binds X.K fd ps [])
    (ha : PA X (a :: es) (tA X.K W mr)) (hd : (x == ("__debug__" : Str)) = false := by decide)
    (he : starEach (a :: es) X.env = (false, eval a X.env) :: starEach es X.env := by rfl) (hpl : (backTo pos (starEach es X.env)).any (·.1) = false := by rfl) : PE X (.Call (.Name x p) (a :: es) [] pos) (tE X.K W (mDo np F mr)) :=
  (pe_call hF hr hg hm hk hb (dvs := []) .nil pass0 ha hd he hpl).imp fun σ H Q o => by
    show tA X.K W mr σ H fun vs H1 => spM X.K np F (vs ++ []) H1 Q E0
    have q := tDo_of (E := E0) o
    simpa using q
end
end Mv

set_option maxHeartbeats 4000000
namespace Mv
open PySem PySem.Spec PyProof.Rows L2

/-! ### arithmetic -/
def fI (g : Int → Int → MV) (C : Int → Int → Bool) : MV → MV → MH → R MV := fun x y h => match x, y with
  | .int i, .int j => if C i j = true then .ok (g i j) h else .bad
  | _, _ => .bad
theorem opF_I {K : PySem.W.Frag} {r : R2} {g : Int → Int → MV} {C : Int → Int → Bool} (v : Int → Int → V) (hv : ∀ i j φ H, IsV K φ H (g i j) (v i j)) (hr : ∀ i j H Q, C i j = true → Q (v i j) H → r (.int i) (.int j) H Q) : OpF K r (fI g C) := by
  intro Z φ H h x y u w Q hr' t1 t2 o
  cases t1 <;> cases t2 <;> first
    | exact o.elim
    | (unfold fI at o
       simp only at o
       split at o
       · rename_i hc
         exact hr _ _ _ _ hc (OkG.ok_here o hr' (hv _ _ _ _))
       · exact o.elim)
def yes2 : Int → Int → Bool := fun _ _ => true
section
variable {X : Cx}
/-- * of ints of together less than 130 million bits -/
def CMulB (i j : Int) : Bool := decide (i.natAbs.log2 + j.natAbs.log2 < 100000000)
theorem CMulB.ok {i j : Int} (h : CMulB i j = true) : IntMulOk i j := by
  have b : ∀ x : Int, Builtin.Int.intBits x ≤ x.natAbs.log2 + 1 := fun x => by
    unfold Builtin.Int.intBits
    split <;> omega
  have h1 := b i
  have h2 := b j
  have h3 : i.natAbs.log2 + j.natAbs.log2 < 100000000 := of_decide_eq_true h
  have e : bitsLine = 134217728 := by decide
  unfold IntMulOk
  intro z
  rw [Bool.and_eq_true] at z
  have z2 := z.2
  unfold Builtin.Int.intTooBig at z2
  have z3 := of_decide_eq_true z2
  rw [e] at z3
  omega
theorem op_mulB : OpR X (binaryOp .Mult) (rI (fun i j => CMulB i j = true) fun i j => .int (i * j)) := opI fun _ _ _ _ _ _ _ hc q => mul_int q (CMulB.ok hc)
def fSub := fI (fun i j => .int (i - j)) yes2
def fMul := fI (fun i j => .int (i * j)) CMulB
def CDivB (_ j : Int) : Bool := decide (0 < j ∧ j.natAbs.log2 < 9000)
def fDiv := fI (fun i j => .int (i / j)) CDivB
def fMod := fI (fun i j => .int (i % j)) fun _ j => decide (0 < j)
def fPow := fI (fun i j => .int (i ^ j.toNat)) fun i j => decide (0 ≤ i ∧ i ≤ 1000 ∧ 0 ≤ j ∧ j ≤ 1000)
def fLt := fI (fun i j => .bl (decide (i < j))) yes2
def fLe := fI (fun i j => .bl (decide (i ≤ j))) yes2
def fGt := fI (fun i j => .bl (decide (j < i))) yes2
def fGe := fI (fun i j => .bl (decide (j ≤ i))) yes2
theorem os_sub : OpF X.K (rI0 fun i j => .int (i - j)) fSub := opF_I (fun i j => .int (i - j)) (fun _ _ _ _ => .int _) fun i j H Q _ q => ⟨i, j, rfl, rfl, q⟩
theorem os_mul : OpF X.K (rI (fun i j => CMulB i j = true) fun i j => .int (i * j)) fMul := opF_I (fun i j => .int (i * j)) (fun _ _ _ _ => .int _) fun i j H Q c q => ⟨i, j, rfl, rfl, c, q⟩
theorem os_div : OpF X.K (rI CDivW fun i j => .int (i / j)) fDiv := opF_I (fun i j => .int (i / j)) (fun _ _ _ _ => .int _) fun i j H Q c q => ⟨i, j, rfl, rfl, by simpa [CDivB, CDivW] using c, q⟩
theorem os_mod : OpF X.K (rI (fun _ j => 0 < j) fun i j => .int (i % j)) fMod := opF_I (fun i j => .int (i % j)) (fun _ _ _ _ => .int _) fun i j H Q c q => ⟨i, j, rfl, rfl, by simpa [CDivB, CDivW] using c, q⟩
theorem os_lt : OpF X.K (rI0 fun i j => .bl (decide (i < j))) fLt := opF_I (fun i j => .bl (decide (i < j))) (fun _ _ _ _ => .bl _) fun i j H Q _ q => ⟨i, j, rfl, rfl, q⟩
theorem os_le : OpF X.K (rI0 fun i j => .bl (decide (i ≤ j))) fLe := opF_I (fun i j => .bl (decide (i ≤ j))) (fun _ _ _ _ => .bl _) fun i j H Q _ q => ⟨i, j, rfl, rfl, q⟩
theorem os_gt : OpF X.K (rI0 fun i j => .bl (decide (j < i))) fGt := opF_I (fun i j => .bl (decide (j < i))) (fun _ _ _ _ => .bl _) fun i j H Q _ q => ⟨i, j, rfl, rfl, q⟩
theorem os_ge : OpF X.K (rI0 fun i j => .bl (decide (j ≤ i))) fGe := opF_I (fun i j => .bl (decide (j ≤ i))) (fun _ _ _ _ => .bl _) fun i j H Q _ q => ⟨i, j, rfl, rfl, q⟩

/-- + of ints, texts, lists, tuples -/
def lstOf (h : MH) (n : Nat) : Option (List MV) := match h[n]? with
  | some (.lst xs) => some xs
  | _ => none
theorem lst_of {K : PySem.W.Frag} {φ : List Addr} {H : Hp} {h : MH} {n : Nat} {a : Addr} {xs : List MV} (hr : HR K φ H h) (ea : φ[n]? = some a) (e : lstOf h n = some xs) : h[n]? = some (.lst xs) ∧ ∃ vs, H a = some (.lst vs) ∧ IsVs K φ H xs vs := by
  unfold lstOf at e
  cases q : h[n]? with
  | none => simp only [q] at e; cases e
  | some ob =>
    have w := hr.at_ n a ob ea q
    cases ob with
    | lst ys => simp only [q] at e; cases e; exact ⟨rfl, w.2⟩
    | _ => simp only [q] at e; cases e
def fAdd : MV → MV → MH → R MV := fun x y h => match x, y with
  | .int i, .int j => .ok (.int (i + j)) h
  | .str i, .str j => if i.length + j.length ≤ cap then .ok (.str (i ++ j)) h else .bad
  | .ref n, .ref m => match lstOf h n, lstOf h m with
    | some xs, some ys => if xs.length + ys.length ≤ cap then .ok (.ref h.length) (h ++ [.lst (xs ++ ys)]) else .bad
    | _, _ => .bad
  | .tup xs, .tup ys => if xs.length + ys.length ≤ cap then .ok (.tup (xs ++ ys)) h else .bad
  | _, _ => .bad
def rAddU (K : PySem.W.Frag) : R2 := fun x y H Q => (rI0 fun i j => .int (i + j)) x y H Q ∨ (∃ i j, x = .str i ∧ y = .str j ∧ i.length + j.length ≤ sizeLine ∧ Q (.str (i ++ j)) H) ∨ rCat x y H Q ∨ rCatA K x y H Q
theorem op_addU : OpR X (binaryOp .Add) (rAddU X.K) := op_add.or (op_add_str.or (op_cat.or op_catA))
theorem os_add : OpF X.K (rAddU X.K) fAdd := by
  intro Z φ H h x y u w Q hr t1 t2 o
  cases t1 with
  | int i =>
    cases t2 with
    | int j => exact .inl ⟨i, j, rfl, rfl, OkG.ok_here o hr (.int _)⟩
    | _ => exact o.elim
  | str i =>
    cases t2 with
    | str j =>
      simp only [fAdd] at o
      split at o
      · rename_i hl
        exact .inr (.inl ⟨i, j, rfl, rfl, cap_line hl, OkG.ok_here o hr (.str _)⟩)
      · exact o.elim
    | _ => exact o.elim
  | @ref n a ea =>
    cases t2 with
    | @ref m b eb =>
      simp only [fAdd] at o
      cases q1 : lstOf h n with
      | none => simp only [q1] at o; exact o.elim
      | some xs =>
        cases q2 : lstOf h m with
        | none => simp only [q1, q2] at o; exact o.elim
        | some ys =>
          simp only [q1, q2] at o
          split at o
          · rename_i hl
            obtain ⟨_, vs, e1, s1⟩ := lst_of hr ea q1
            obtain ⟨_, ws, e2, s2⟩ := lst_of hr eb q2
            exact .inr (.inr (.inl ⟨a, b, vs, ws, rfl, rfl, e1, e2, by rw [s1.length, s2.length]; exact cap_line hl, fun p hp => lay_ok hr (s1.append s2) (by simpa using hl) hp o⟩))
          · exact o.elim
    | _ => exact o.elim
  | @tup a vs xs ha s1 =>
    cases t2 with
    | @tup b ws ys hb s2 =>
      simp only [fAdd] at o
      split at o
      · rename_i hl
        refine .inr (.inr (.inr ⟨a, b, vs, ws, rfl, rfl, ha, hb, by rw [s1.length, s2.length]; exact cap_line hl, fun e => ?_, fun _ e => ?_, fun _ _ p hp => tup_ok hr (s1.append s2) hp o⟩))
        · subst e; cases s1; exact OkG.ok_here o hr (.tup hb s2)
        · subst e; cases s2
          simp only [List.append_nil] at o
          exact OkG.ok_here o hr (.tup ha s1)
      · exact o.elim
    | _ => exact o.elim
  | _ => cases t2 <;> exact o.elim

/-! ### a value as data: == -/
def allSome {α : Type} : List (Option α) → Option (List α)
  | [] => some []
  | none :: _ => none
  | some x :: r => match allSome r with
    | some ys => some (x :: ys)
    | none => none
def dataOf : Nat → MH → MV → Option PyData
  | 0, _, _ => none
  | n + 1, h, v => match v with
    | .non => some .none
    | .bl b => some (.bool b)
    | .int i => some (.int i)
    | .str x => if PyData.strOk x = true then some (.str x) else none
    | .tup xs => (allSome (xs.map (dataOf n h))).map .tuple
    | .ref k => match h[k]? with
      | some (.lst xs) => (allSome (xs.map (dataOf n h))).map .list
      | some (.frz xs) => (allSome (xs.map (dataOf n h))).map .list
      | _ => none
theorem data_ok {K : PySem.W.Frag} {φ : List Addr} {H : Hp} {h : MH} (hr : HR K φ H h) : ∀ (n : Nat) (x : MV) (u : V) (d : PyData), IsV K φ H x u → dataOf n h x = some d → Dp K H u d ∧ d.canLay0 = true ∧ d.depth ≤ n := by
  intro n
  induction n with
  | zero => intro x u d t e; cases e
  | succ n ih =>
    have all : ∀ (xs : List MV) (vs : List V) (ds : List PyData), IsVs K φ H xs vs → allSome (xs.map (dataOf n h)) = some ds → DpAll K H vs ds ∧ PyData.canLayAll0 ds = true ∧ PyData.depthAll ds ≤ n := by
      intro xs
      induction xs with
      | nil =>
        intro vs ds t e
        cases t
        simp only [List.map_nil, allSome] at e
        cases e
        exact ⟨.nil, by simp [PyData.canLayAll0], by simp [PyData.depthAll]⟩
      | cons x xs ih2 =>
        intro vs ds t e
        cases t with
        | cons t1 t2 =>
          simp only [List.map_cons] at e
          cases e1 : dataOf n h x with
          | none => simp only [e1, allSome] at e; cases e
          | some d1 =>
            simp only [e1, allSome] at e
            cases e2 : allSome (xs.map (dataOf n h)) with
            | none => simp only [e2] at e; cases e
            | some dr =>
              simp only [e2] at e
              cases e
              obtain ⟨p1, p2, p3⟩ := ih _ _ _ t1 e1
              obtain ⟨q1, q2, q3⟩ := ih2 _ _ t2 e2
              refine ⟨.cons p1 q1, by simp [PyData.canLayAll0, p2, q2], ?_⟩
              simp only [PyData.depthAll]
              omega
    intro x u d t e
    cases t with
    | non => simp only [dataOf] at e; cases e; exact ⟨.non, by simp [PyData.canLay0], by simp [PyData.depth]⟩
    | bl b => simp only [dataOf] at e; cases e; exact ⟨.bl b, by simp [PyData.canLay0], by simp [PyData.depth]⟩
    | int i => simp only [dataOf] at e; cases e; exact ⟨.int i, by simp [PyData.canLay0], by simp [PyData.depth]⟩
    | str s =>
      simp only [dataOf] at e
      split at e
      · rename_i ho
        cases e; exact ⟨.str s, by simp [PyData.canLay0, ho], by simp [PyData.depth]⟩
      · cases e
    | @tup a vs xs hq ts =>
      simp only [dataOf] at e
      cases q : allSome (xs.map (dataOf n h)) with
      | none => rw [q] at e; cases e
      | some ds =>
        rw [q] at e
        cases e
        obtain ⟨p1, p2, p3⟩ := all xs vs ds ts q
        refine ⟨.tup hq p1, by simp [PyData.canLay0, p2], ?_⟩
        simp only [PyData.depth]; omega
    | @ref k a ea =>
      simp only [dataOf] at e
      cases q : h[k]? with
      | none => simp only [q] at e; cases e
      | some ob =>
        have w := hr.at_ k a ob ea q
        cases ob with
        | lst xs =>
          simp only [q] at e
          obtain ⟨_, vs, e1, ts⟩ := w
          cases q2 : allSome (xs.map (dataOf n h)) with
          | none => rw [q2] at e; cases e
          | some ds =>
            rw [q2] at e
            cases e
            obtain ⟨p1, p2, p3⟩ := all xs vs ds ts q2
            refine ⟨.lst (SqL.of e1) p1, by simp [PyData.canLay0, p2], ?_⟩
            simp only [PyData.depth]; omega
        | frz xs =>
          simp only [q] at e
          obtain ⟨_, o', vs, e1, ts⟩ := w
          cases q2 : allSome (xs.map (dataOf n h)) with
          | none => rw [q2] at e; cases e
          | some ds =>
            rw [q2] at e
            cases e
            obtain ⟨p1, p2, p3⟩ := all xs vs ds ts q2
            refine ⟨.lst (.inl (.inr ⟨o', e1⟩)) p1, by simp [PyData.canLay0, p2], ?_⟩
            simp only [PyData.depth]; omega
        | dct _ => exact w.elim
        | ins _ _ => exact w.elim
theorem shaped_ok {d : PyData} {n : Nat} (h1 : d.canLay0 = true) (h2 : d.depth ≤ n) (hn : n ≤ 64) : SeqAt.shaped d = true := by
  unfold SeqAt.shaped
  rw [h1, Bool.true_and]
  exact decide_eq_true (Nat.le_trans h2 hn)
def fEq : MV → MV → MH → R MV := fun x y h => match dataOf 12 h x, dataOf 12 h y with
  | some d, some e => .ok (.bl (PyData.eqv d e)) h
  | _, _ => .bad
def fNe : MV → MV → MH → R MV := fun x y h => match dataOf 12 h x, dataOf 12 h y with
  | some d, some e => .ok (.bl (!PyData.eqv d e)) h
  | _, _ => .bad
theorem os_eq : OpF X.K (rEqD X.K) fEq := by
  intro Z φ H h x y u w Q hr t1 t2 o
  unfold fEq at o
  cases q1 : dataOf 12 h x with
  | none => simp only [q1] at o; exact o.elim
  | some d =>
    cases q2 : dataOf 12 h y with
    | none => simp only [q1, q2] at o; exact o.elim
    | some e =>
      simp only [q1, q2] at o
      obtain ⟨a1, a2, a3⟩ := data_ok hr 12 x u d t1 q1
      obtain ⟨b1, b2, b3⟩ := data_ok hr 12 y w e t2 q2
      exact ⟨d, e, a1, b1, shaped_ok a2 a3 (by decide), shaped_ok b2 b3 (by decide), OkG.ok_here o hr (.bl _)⟩
theorem os_ne : OpF X.K (rNeD X.K) fNe := by
  intro Z φ H h x y u w Q hr t1 t2 o
  unfold fNe at o
  cases q1 : dataOf 12 h x with
  | none => simp only [q1] at o; exact o.elim
  | some d =>
    cases q2 : dataOf 12 h y with
    | none => simp only [q1, q2] at o; exact o.elim
    | some e =>
      simp only [q1, q2] at o
      obtain ⟨a1, a2, a3⟩ := data_ok hr 12 x u d t1 q1
      obtain ⟨b1, b2, b3⟩ := data_ok hr 12 y w e t2 q2
      exact ⟨d, e, a1, b1, shaped_ok a2 a3 (by decide), shaped_ok b2 b3 (by decide), OkG.ok_here o hr (.bl _)⟩
/-- is None, is not None -/
def isNon : MV → Bool
  | .non => true
  | _ => false
theorem isNon_ok {K : PySem.W.Frag} {φ : List Addr} {H : Hp} {x : MV} {u : V} (t : IsV K φ H x u) : decide (u = .non) = isNon x := by
  cases t <;> simp [isNon]
def fIsN : MV → MV → MH → R MV := fun x y h => match y with
  | .non => .ok (.bl (isNon x)) h
  | _ => .bad
def fNotN : MV → MV → MH → R MV := fun x y h => match y with
  | .non => .ok (.bl (!isNon x)) h
  | _ => .bad
theorem os_isN : OpF X.K (fun x y H Q => y = .non ∧ Q (.bl (decide (x = .non))) H) fIsN := by
  intro Z φ H h x y u w Q hr t1 t2 o
  cases t2 with
  | non => exact ⟨rfl, by rw [isNon_ok t1]; exact OkG.ok_here o hr (.bl _)⟩
  | _ => exact o.elim
theorem os_notN : OpF X.K (fun x y H Q => y = .non ∧ Q (.bl (!decide (x = .non))) H) fNotN := by
  intro Z φ H h x y u w Q hr t1 t2 o
  cases t2 with
  | non => exact ⟨rfl, by rw [isNon_ok t1]; exact OkG.ok_here o hr (.bl _)⟩
  | _ => exact o.elim
/-- x in a list -/
def fIn : MV → MV → MH → R MV := fun x y h => match dataOf 12 h x, dataOf 12 h y with
  | some d, some (.list ds) => .ok (.bl (ds.any fun z => PyData.eqv z d)) h
  | _, _ => .bad
def fNotIn : MV → MV → MH → R MV := fun x y h => match dataOf 12 h x, dataOf 12 h y with
  | some d, some (.list ds) => .ok (.bl (!ds.any fun z => PyData.eqv z d)) h
  | _, _ => .bad
theorem os_in : OpF X.K (rInD X.K) fIn := by
  intro Z φ H h x y u w Q hr t1 t2 o
  unfold fIn at o
  cases q1 : dataOf 12 h x with
  | none => simp only [q1] at o; exact o.elim
  | some d =>
    cases q2 : dataOf 12 h y with
    | none => simp only [q1, q2] at o; exact o.elim
    | some e =>
      cases e with
      | list ds =>
        simp only [q1, q2] at o
        obtain ⟨a1, a2, a3⟩ := data_ok hr 12 x u d t1 q1
        obtain ⟨b1, b2, b3⟩ := data_ok hr 12 y w _ t2 q2
        exact ⟨d, ds, a1, b1, shaped_ok a2 a3 (by decide), shaped_ok b2 b3 (by decide), OkG.ok_here o hr (.bl _)⟩
      | _ => simp only [q1, q2] at o; exact o.elim
theorem os_notIn : OpF X.K (rNotInD X.K) fNotIn := by
  intro Z φ H h x y u w Q hr t1 t2 o
  unfold fNotIn at o
  cases q1 : dataOf 12 h x with
  | none => simp only [q1] at o; exact o.elim
  | some d =>
    cases q2 : dataOf 12 h y with
    | none => simp only [q1, q2] at o; exact o.elim
    | some e =>
      cases e with
      | list ds =>
        simp only [q1, q2] at o
        obtain ⟨a1, a2, a3⟩ := data_ok hr 12 x u d t1 q1
        obtain ⟨b1, b2, b3⟩ := data_ok hr 12 y w _ t2 q2
        exact ⟨d, ds, a1, b1, shaped_ok a2 a3 (by decide), shaped_ok b2 b3 (by decide), OkG.ok_here o hr (.bl _)⟩
      | _ => simp only [q1, q2] at o; exact o.elim
end
end Mv

set_option maxHeartbeats 4000000
namespace Mv
open PySem PySem.Spec PyProof.Rows L2

/-! ### items -/
theorem IsVs.atI {K : PySem.W.Frag} {φ : List Addr} {H : Hp} {xs : List MV} {vs : List V} {i : Int} {x : MV} (t : IsVs K φ H xs vs) (e : atI xs i = some x) : ∃ v, atI vs i = some v ∧ IsV K φ H x v := by
  unfold L2.atI at e ⊢
  rw [t.length]
  cases q : ixN xs.length i with
  | none => rw [q] at e; cases e
  | some j =>
    rw [q] at e
    exact t.get e
def fIx : MV → MV → MH → R MV := fun x y h => match y with
  | .int i => match x with
    | .str z => if z.length ≤ cap then (match atI z.cps.toList i with
      | some c => .ok (.str ⟨#[c]⟩) h
      | none => .bad) else .bad
    | _ => match itemsOf h x with
      | some xs => (match atI xs i with
        | some v => .ok v h
        | none => .bad)
      | none => .bad
  | _ => .bad
section
variable {X : Cx} {W : WT} {pos : Pos} {a b c : Expr} {ma mb mc : ME}
theorem os_ix : OpF X.K (rIx X.K) fIx := by
  intro Z φ H h x y u w Q hr t1 t2 o
  cases t2 with
  | int i =>
    cases t1 with
    | str z =>
      simp only [fIx] at o
      split at o
      · rename_i hl
        cases q : atI z.cps.toList i with
        | none => simp only [q] at o; exact o.elim
        | some c =>
          simp only [q] at o
          exact .inr (.inr ⟨z, i, c, rfl, rfl, cap_line hl, q, OkG.ok_here o hr (.str _)⟩)
      · exact o.elim
    | @tup p vs xs hq ts =>
      simp only [fIx, itemsOf] at o
      cases q : atI xs i with
      | none => simp only [q] at o; exact o.elim
      | some v =>
        simp only [q] at o
        obtain ⟨v', e, t⟩ := ts.atI q
        exact .inr (.inl ⟨p, vs, i, v', rfl, rfl, hq, e, OkG.ok_here o hr t⟩)
    | @ref n p ea =>
      simp only [fIx] at o
      cases q0 : itemsOf h (.ref n) with
      | none => simp only [q0] at o; exact o.elim
      | some xs =>
        simp only [q0] at o
        cases q : atI xs i with
        | none => simp only [q] at o; exact o.elim
        | some v =>
          simp only [q] at o
          obtain ⟨p', vs, e1, hs, ts⟩ := seq_of hr (.ref ea) q0
          obtain ⟨v', e, t⟩ := ts.atI q
          rcases hs with hs | hs
          · exact .inr (.inl ⟨p', vs, i, v', e1, rfl, hs, e, OkG.ok_here o hr t⟩)
          · exact .inl ⟨p', vs, i, v', e1, rfl, hs, e, OkG.ok_here o hr t⟩
    | _ => simp only [fIx, itemsOf] at o; exact o.elim
  | _ => exact o.elim
theorem se_ix (ha : PE X a (tE X.K W ma)) (hb : PE X b (tE X.K W mb)) (hs : PlainIx b := by exact fun _ _ => rfl) : PE X (.Subscript a b pos) (tE X.K W (mBin fIx ma mb)) := (pe_ix ix_seq ha hb hs).imp fun _ _ _ o => tOp_of os_ix o

/-! ### slices -/
abbrev MP := MEnv → MH → R (Option Int)
def isO : List Addr → Hp → Option Int → Option Int → Prop := fun _ _ a b => a = b
abbrev tO (K : PySem.W.Frag) (W : WT) (m : MP) : TO := tG K isO W m
def mNoP : MP := fun _ h => .ok none h
def mPart (m : ME) : MP := fun env h => (m env h).bind fun x h1 => match x with
  | .int i => .ok (some i) h1
  | _ => .bad
theorem _root_.L2.PO.imp {e : Option Expr} {t t' : TO} (p : PO X e t) (q : ∀ σ H Q, t' σ H Q → t σ H Q) : PO X e t' := ⟨fun pins s σ H Q I h => p.run pins s σ H Q I (q σ H Q h)⟩
theorem so_none : PO X none (tO X.K W mNoP) := po_none.imp fun σ H Q => by
  rintro ⟨φ, env, h, hr, er, o⟩
  exact OkG.ok_here o hr rfl
theorem so_some {e : Expr} (ha : PE X e (tE X.K W ma)) : PO X (some e) (tO X.K W (mPart ma)) := (po_some ha).imp fun σ H Q => by
  rintro ⟨φ, env, h, hr, er, o⟩
  refine tG_step hr er o fun φ1 H1 h1 x u k1 hr1 er1 t1 o1 => ?_
  cases t1 with
  | int i => exact ⟨i, rfl, OkG.ok_here o1 hr1 rfl⟩
  | _ => exact o1.elim
def cutM (xs : List MV) (lo hi : Option Int) : List MV := (xs.drop (HT.sIx xs.length 0 lo)).take (HT.sIx xs.length xs.length hi - HT.sIx xs.length 0 lo)
theorem IsVs.cut {K : PySem.W.Frag} {φ : List Addr} {H : Hp} {xs : List MV} {vs : List V} (t : IsVs K φ H xs vs) (lo hi : Option Int) : IsVs K φ H (cutM xs lo hi) (cutV vs lo hi) := by
  unfold cutM cutV
  rw [t.length]
  exact (t.drop _).take _
theorem cutM_length (xs : List MV) (lo hi : Option Int) : (cutM xs lo hi).length ≤ xs.length := by
  unfold cutM
  rw [List.length_take, List.length_drop]
  omega
def fSl (x : MV) (lo hi : Option Int) (h : MH) : R MV := match x with
  | .str z => if z.length ≤ cap then .ok (.str (cutS z lo hi)) h else .bad
  | .tup xs => .ok (.tup (cutM xs lo hi)) h
  | x => match itemsOf h x with
    | some xs => if xs.length ≤ cap then .ok (.ref h.length) (h ++ [.lst (cutM xs lo hi)]) else .bad
    | none => .bad
def mSl (m : ME) (ml mh : MP) : ME := fun env h => (m env h).bind fun x h1 => (ml env h1).bind fun lo h2 => (mh env h2).bind fun hi h3 => fSl x lo hi h3
def rSlU (K : PySem.W.Frag) : V → Option Int → Option Int → Hp → VK → Prop := fun x lo hi H Q => rSlL K x lo hi H Q ∨ rSlA K x lo hi H Q ∨ rSlS x lo hi H Q
theorem sl_U : SlR X (rSlU X.K) := sl_list.or (sl_tupA.or sl_str)
theorem se_slice {lo hi : Option Expr} {p2 : Pos} {ml mh : MP} (ha : PE X a (tE X.K W ma)) (hl : PO X lo (tO X.K W ml)) (hh : PO X hi (tO X.K W mh)) : PE X (.Subscript a (.Slice lo hi none p2) pos) (tE X.K W (mSl ma ml mh)) := (pe_slice sl_U ha hl hh).imp fun σ H Q => by
  rintro ⟨φ, env, h, hr, er, o⟩
  refine tG_step hr er o fun φ1 H1 h1 x u k1 hr1 er1 t1 o1 => ?_
  refine tG_step hr1 er1 o1 fun φ2 H2 h2 l l' k2 hr2 er2 t2 o2 => ?_
  cases t2
  refine tG_step hr2 er2 o2 fun φ3 H3 h3 g g' k3 hr3 er3 t3 o3 => ?_
  cases t3
  have t := (t1.keep k2).keep k3
  cases t with
  | str z =>
    simp only [fSl] at o3
    split at o3
    · rename_i hz
      exact .inr (.inr ⟨z, rfl, cap_line hz, OkG.ok_here o3 hr3 (.str _)⟩)
    · exact o3.elim
  | @tup p vs xs hq ts =>
    simp only [fSl] at o3
    refine .inr (.inl ⟨p, vs, rfl, hq, fun e => ?_, fun _ q hp => tup_ok hr3 (ts.cut l g) hp o3⟩)
    have e2 : cutM xs l g = xs := by
      rw [ts.length] at e
      unfold cutM
      rw [e.1, e.2]
      simp
    rw [e2] at o3
    exact OkG.ok_here o3 hr3 (.tup hq ts)
  | @ref n p ea =>
    simp only [fSl] at o3
    cases q0 : itemsOf h3 (.ref n) with
    | none => simp only [q0] at o3; exact o3.elim
    | some xs =>
      simp only [q0] at o3
      split at o3
      · rename_i hz
        have he := q0
        unfold itemsOf at he
        cases q : h3[n]? with
        | none => simp only [q] at he; cases he
        | some ob =>
          have w := hr3.at_ n p ob ea q
          cases ob with
          | lst ys =>
            simp only [q] at he; cases he
            obtain ⟨_, vs, e1, ts⟩ := w
            exact .inl ⟨p, vs, rfl, SqL.of e1, fun r hp => lay_ok hr3 (ts.cut l g) (Nat.le_trans (cutM_length xs l g) hz) hp o3⟩
          | frz ys =>
            simp only [q] at he; cases he
            obtain ⟨_, o', vs, e1, ts⟩ := w
            exact .inl ⟨p, vs, rfl, .inl (.inr ⟨o', e1⟩), fun r hp => lay_ok hr3 (ts.cut l g) (Nat.le_trans (cutM_length xs l g) hz) hp o3⟩
          | dct _ => exact w.elim
          | ins _ _ => exact w.elim
      · exact o3.elim
  | _ => simp only [fSl, itemsOf] at o3; exact o3.elim

/-! ### built-in functions -/
def fLen : List MV → MH → R MV := fun xs h => match xs with
  | [.str z] => if z.length ≤ cap then .ok (.int z.length) h else .bad
  | [x] => match itemsOf h x with
    | some ys => .ok (.int ys.length) h
    | none => .bad
  | _ => .bad
def rLenU (K : PySem.W.Frag) : List V → Hp → VK → Prop := fun xs H Q => (∃ p ys, xs = [.ref p] ∧ (SqL K H p ys ∨ SqT K H p ys) ∧ Q (.int ys.length) H) ∨ (∃ z, xs = [.str z] ∧ z.length ≤ sizeLine ∧ Q (.int z.length) H)
theorem call_lenU : CallR X (.builtin "len") (rLenU X.K) := call_len_seq.or call_len_str
theorem one_of {K : PySem.W.Frag} {φ : List Addr} {H : Hp} {x : MV} {us : List V} (t : IsVs K φ H [x] us) : ∃ u, us = [u] ∧ IsV K φ H x u := by
  cases t with
  | cons t1 t2 => cases t2; exact ⟨_, rfl, t1⟩
theorem two_of {K : PySem.W.Frag} {φ : List Addr} {H : Hp} {x y : MV} {us : List V} (t : IsVs K φ H [x, y] us) : ∃ u v, us = [u, v] ∧ IsV K φ H x u ∧ IsV K φ H y v := by
  cases t with
  | cons t1 t2 =>
    obtain ⟨v, rfl, t3⟩ := one_of t2
    exact ⟨_, _, rfl, t1, t3⟩
theorem cs_len : CallF X.K (rLenU X.K) fLen := by
  intro Z φ H h xs us Q hr t o
  unfold fLen at o
  split at o
  · rename_i z
    obtain ⟨u, rfl, t1⟩ := one_of t
    cases t1
    split at o
    · rename_i hz
      exact .inr ⟨z, rfl, cap_line hz, OkG.ok_here o hr (.int _)⟩
    · exact o.elim
  · rename_i x _
    obtain ⟨u, rfl, t1⟩ := one_of t
    cases q : itemsOf h x with
    | none => simp only [q] at o; exact o.elim
    | some ys =>
      simp only [q] at o
      obtain ⟨p, vs, rfl, hs, ts⟩ := seq_of hr t1 q
      refine .inl ⟨p, vs, rfl, hs.symm, ?_⟩
      rw [ts.length]
      exact OkG.ok_here o hr (.int _)
  · exact o.elim
/-- whole numbers, bools of a list -/
def asInts : List MV → Option (List Int)
  | [] => some []
  | .int i :: r => match asInts r with
    | some is => some (i :: is)
    | none => none
  | _ :: _ => none
def asBools : List MV → Option (List Bool)
  | [] => some []
  | .bl i :: r => match asBools r with
    | some is => some (i :: is)
    | none => none
  | _ :: _ => none
theorem asInts_eq : ∀ {xs : List MV} {ns : List Int}, asInts xs = some ns → xs = ns.map MV.int
  | [], _, e => by simp only [asInts] at e; cases e; rfl
  | .int i :: r, _, e => by
    simp only [asInts] at e
    split at e
    · rename_i is q
      cases e
      rw [asInts_eq q]; rfl
    · cases e
  | .non :: _, _, e => by simp [asInts] at e
  | .bl _ :: _, _, e => by simp [asInts] at e
  | .str _ :: _, _, e => by simp [asInts] at e
  | .ref _ :: _, _, e => by simp [asInts] at e
  | .tup _ :: _, _, e => by simp [asInts] at e
theorem asBools_eq : ∀ {xs : List MV} {ns : List Bool}, asBools xs = some ns → xs = ns.map MV.bl
  | [], _, e => by simp only [asBools] at e; cases e; rfl
  | .bl i :: r, _, e => by
    simp only [asBools] at e
    split at e
    · rename_i is q
      cases e
      rw [asBools_eq q]; rfl
    · cases e
  | .non :: _, _, e => by simp [asBools] at e
  | .int _ :: _, _, e => by simp [asBools] at e
  | .str _ :: _, _, e => by simp [asBools] at e
  | .ref _ :: _, _, e => by simp [asBools] at e
  | .tup _ :: _, _, e => by simp [asBools] at e
@[simp] theorem asInts_map (ns : List Int) : asInts (ns.map MV.int) = some ns := by
  induction ns with
  | nil => rfl
  | cons i r ih => simp [asInts, ih]
@[simp] theorem asBools_map (ns : List Bool) : asBools (ns.map MV.bl) = some ns := by
  induction ns with
  | nil => rfl
  | cons i r ih => simp [asBools, ih]
theorem IsVs.ints {K : PySem.W.Frag} {φ : List Addr} {H : Hp} : ∀ {ns : List Int} {vs : List V}, IsVs K φ H (ns.map MV.int) vs → vs = ns.map V.int
  | [], _, .nil => rfl
  | _ :: _, _, .cons (.int _) t => by rw [IsVs.ints t]; rfl
theorem IsVs.bools {K : PySem.W.Frag} {φ : List Addr} {H : Hp} : ∀ {ns : List Bool} {vs : List V}, IsVs K φ H (ns.map MV.bl) vs → vs = ns.map V.bl
  | [], _, .nil => rfl
  | _ :: _, _, .cons (.bl _) t => by rw [IsVs.bools t]; rfl
/-- the items of a list (no tuple) -/
def listOf (h : MH) : MV → Option (List MV)
  | .ref n => itemsOf h (.ref n)
  | _ => none
theorem list_of {K : PySem.W.Frag} {φ : List Addr} {H : Hp} {h : MH} {x : MV} {u : V} {xs : List MV} (hr : HR K φ H h) (t : IsV K φ H x u) (e : listOf h x = some xs) : ∃ a vs, u = .ref a ∧ SqL K H a vs ∧ IsVs K φ H xs vs := by
  cases t with
  | @ref n a ea =>
    simp only [listOf, itemsOf] at e
    cases q : h[n]? with
    | none => simp only [q] at e; cases e
    | some ob =>
      have w := hr.at_ n a ob ea q
      cases ob with
      | lst ys => simp only [q] at e; cases e; obtain ⟨_, vs, e1, t1⟩ := w; exact ⟨a, vs, rfl, SqL.of e1, t1⟩
      | frz ys => simp only [q] at e; cases e; obtain ⟨_, ob, vs, e1, t1⟩ := w; exact ⟨a, vs, rfl, .inl (.inr ⟨ob, e1⟩), t1⟩
      | dct _ => exact w.elim
      | ins _ _ => exact w.elim
  | _ => cases e
def maxL : Int → List Int → Int
  | m, [] => m
  | m, x :: r => maxL (if m < x then x else m) r
def minL : Int → List Int → Int
  | m, [] => m
  | m, x :: r => minL (if x < m then x else m) r
theorem maxL_spec : ∀ (r : List Int) (m : Int), (maxL m r = m ∨ maxL m r ∈ r) ∧ m ≤ maxL m r ∧ ∀ y ∈ r, y ≤ maxL m r
  | [], m => ⟨.inl rfl, Int.le_refl _, fun _ h => by cases h⟩
  | x :: r, m => by
    obtain ⟨h1, h2, h3⟩ := maxL_spec r (if m < x then x else m)
    unfold maxL
    refine ⟨?_, ?_, fun y hy => ?_⟩
    · rcases h1 with h1 | h1
      · rw [h1]
        split
        · exact .inr (List.mem_cons_self ..)
        · exact .inl rfl
      · exact .inr (List.mem_cons_of_mem _ h1)
    · refine Int.le_trans ?_ h2
      split <;> omega
    · rcases List.mem_cons.mp hy with e | e
      · subst e
        refine Int.le_trans ?_ h2
        split <;> omega
      · exact h3 y e
theorem minL_spec : ∀ (r : List Int) (m : Int), (minL m r = m ∨ minL m r ∈ r) ∧ minL m r ≤ m ∧ ∀ y ∈ r, minL m r ≤ y
  | [], m => ⟨.inl rfl, Int.le_refl _, fun _ h => by cases h⟩
  | x :: r, m => by
    obtain ⟨h1, h2, h3⟩ := minL_spec r (if x < m then x else m)
    unfold minL
    refine ⟨?_, ?_, fun y hy => ?_⟩
    · rcases h1 with h1 | h1
      · rw [h1]
        split
        · exact .inr (List.mem_cons_self ..)
        · exact .inl rfl
      · exact .inr (List.mem_cons_of_mem _ h1)
    · refine Int.le_trans h2 ?_
      split <;> omega
    · rcases List.mem_cons.mp hy with e | e
      · subst e
        refine Int.le_trans h2 ?_
        split <;> omega
      · exact h3 y e
def fMax : List MV → MH → R MV := fun xs h => match xs with
  | [.int i, .int j] => .ok (.int (if j > i then j else i)) h
  | [x] => match (listOf h x).bind asInts with
    | some (m :: r) => .ok (.int (maxL m r)) h
    | _ => .bad
  | _ => .bad
def fMin : List MV → MH → R MV := fun xs h => match xs with
  | [.int i, .int j] => .ok (.int (if j < i then j else i)) h
  | [x] => match (listOf h x).bind asInts with
    | some (m :: r) => .ok (.int (minL m r)) h
    | _ => .bad
  | _ => .bad
def rMaxU (K : PySem.W.Frag) : List V → Hp → VK → Prop := fun xs H Q => (∃ i j, xs = [.int i, .int j] ∧ Q (.int (if j > i then j else i)) H) ∨ rMax K xs H Q
def rMinU (K : PySem.W.Frag) : List V → Hp → VK → Prop := fun xs H Q => (∃ i j, xs = [.int i, .int j] ∧ Q (.int (if j < i then j else i)) H) ∨ rMin K xs H Q
theorem call_maxU (hc : X.calm = true) : CallR X (.builtin "max") (rMaxU X.K) := (call_max2 hc).or (cr_max hc)
theorem call_minU (hc : X.calm = true) : CallR X (.builtin "min") (rMinU X.K) := (call_min2 hc).or (cr_min hc)
theorem ints_of {K : PySem.W.Frag} {φ : List Addr} {H : Hp} {h : MH} {x : MV} {u : V} {ns : List Int} (hr : HR K φ H h) (t : IsV K φ H x u) (e : (listOf h x).bind asInts = some ns) : ∃ a, u = .ref a ∧ SqL K H a (ns.map V.int) := by
  cases q : listOf h x with
  | none => rw [q] at e; cases e
  | some ys =>
    rw [q] at e
    have e2 := asInts_eq (show asInts ys = some ns from e)
    subst e2
    obtain ⟨a, vs, rfl, hs, ts⟩ := list_of hr t q
    exact ⟨a, rfl, by rw [← ts.ints]; exact hs⟩
theorem cs_max : CallF X.K (rMaxU X.K) fMax := by
  intro Z φ H h xs us Q hr t o
  unfold fMax at o
  split at o
  · rename_i i j
    obtain ⟨u, v, rfl, t1, t2⟩ := two_of t
    cases t1; cases t2
    exact .inl ⟨i, j, rfl, OkG.ok_here o hr (.int _)⟩
  · rename_i x
    obtain ⟨u, rfl, t1⟩ := one_of t
    split at o
    · rename_i m r q
      obtain ⟨a, rfl, hs⟩ := ints_of hr t1 q
      refine .inr ⟨a, m :: r, rfl, hs, by simp, fun k hk hm => ?_⟩
      obtain ⟨h1, h2, h3⟩ := maxL_spec r m
      have e : k = maxL m r := by
        refine Int.le_antisymm ?_ (hm _ ?_)
        · rcases List.mem_cons.mp hk with z | z
          · rw [z]; exact h2
          · exact h3 k z
        · rcases h1 with z | z
          · rw [z]; exact List.mem_cons_self ..
          · exact List.mem_cons_of_mem _ z
      rw [e]
      exact OkG.ok_here o hr (.int _)
    · exact o.elim
  · exact o.elim
theorem cs_min : CallF X.K (rMinU X.K) fMin := by
  intro Z φ H h xs us Q hr t o
  unfold fMin at o
  split at o
  · rename_i i j
    obtain ⟨u, v, rfl, t1, t2⟩ := two_of t
    cases t1; cases t2
    exact .inl ⟨i, j, rfl, OkG.ok_here o hr (.int _)⟩
  · rename_i x
    obtain ⟨u, rfl, t1⟩ := one_of t
    split at o
    · rename_i m r q
      obtain ⟨a, rfl, hs⟩ := ints_of hr t1 q
      refine .inr ⟨a, m :: r, rfl, hs, by simp, fun k hk hm => ?_⟩
      obtain ⟨h1, h2, h3⟩ := minL_spec r m
      have e : k = minL m r := by
        refine Int.le_antisymm (hm _ ?_) ?_
        · rcases h1 with z | z
          · rw [z]; exact List.mem_cons_self ..
          · exact List.mem_cons_of_mem _ z
        · rcases List.mem_cons.mp hk with z | z
          · rw [z]; exact h2
          · exact h3 k z
      rw [e]
      exact OkG.ok_here o hr (.int _)
    · exact o.elim
  · exact o.elim
def fSum : List MV → MH → R MV := fun xs h => match xs with
  | [x] => match (listOf h x).bind asInts with
    | some ns => .ok (.int ns.sum) h
    | _ => .bad
  | _ => .bad
theorem cs_sum : CallF X.K (rSum X.K) fSum := by
  intro Z φ H h xs us Q hr t o
  unfold fSum at o
  split at o
  · rename_i x
    obtain ⟨u, rfl, t1⟩ := one_of t
    split at o
    · rename_i ns q
      obtain ⟨a, rfl, hs⟩ := ints_of hr t1 q
      exact ⟨a, ns, rfl, hs, OkG.ok_here o hr (.int _)⟩
    · exact o.elim
  · exact o.elim
theorem bools_of {K : PySem.W.Frag} {φ : List Addr} {H : Hp} {h : MH} {x : MV} {u : V} {ns : List Bool} (hr : HR K φ H h) (t : IsV K φ H x u) (e : (listOf h x).bind asBools = some ns) : ∃ a, u = .ref a ∧ SqL K H a (ns.map V.bl) := by
  cases q : listOf h x with
  | none => rw [q] at e; cases e
  | some ys =>
    rw [q] at e
    have e2 := asBools_eq (show asBools ys = some ns from e)
    subst e2
    obtain ⟨a, vs, rfl, hs, ts⟩ := list_of hr t q
    exact ⟨a, rfl, by rw [← ts.bools]; exact hs⟩
def fAny : List MV → MH → R MV := fun xs h => match xs with
  | [x] => match (listOf h x).bind asBools with
    | some ns => .ok (.bl (ns.any id)) h
    | _ => .bad
  | _ => .bad
def fAll : List MV → MH → R MV := fun xs h => match xs with
  | [x] => match (listOf h x).bind asBools with
    | some ns => .ok (.bl (ns.all id)) h
    | _ => .bad
  | _ => .bad
theorem cs_any : CallF X.K (rAny X.K) fAny := by
  intro Z φ H h xs us Q hr t o
  unfold fAny at o
  split at o
  · rename_i x
    obtain ⟨u, rfl, t1⟩ := one_of t
    split at o
    · rename_i ns q
      obtain ⟨a, rfl, hs⟩ := bools_of hr t1 q
      exact ⟨a, ns, rfl, hs, OkG.ok_here o hr (.bl _)⟩
    · exact o.elim
  · exact o.elim
theorem cs_all : CallF X.K (rAll X.K) fAll := by
  intro Z φ H h xs us Q hr t o
  unfold fAll at o
  split at o
  · rename_i x
    obtain ⟨u, rfl, t1⟩ := one_of t
    split at o
    · rename_i ns q
      obtain ⟨a, rfl, hs⟩ := bools_of hr t1 q
      exact ⟨a, ns, rfl, hs, OkG.ok_here o hr (.bl _)⟩
    · exact o.elim
  · exact o.elim
def fTuple : List MV → MH → R MV := fun xs h => match xs with
  | [.tup ys] => .ok (.tup ys) h
  | [x] => match listOf h x with
    | some ys => .ok (.tup ys) h
    | none => .bad
  | _ => .bad
theorem cs_tuple : CallF X.K (fun xs H Q => ∃ p ys, xs = [.ref p] ∧ ((SqL X.K H p ys ∧ ∀ l, H l = none → Q (.ref l) (upd H l (.tup ys))) ∨ (SqT X.K H p ys ∧ Q (.ref p) H))) fTuple := by
  intro Z φ H h xs us Q hr t o
  unfold fTuple at o
  split at o
  · rename_i ys
    obtain ⟨u, rfl, t1⟩ := one_of t
    cases t1 with
    | @tup p vs _ hq ts => exact ⟨p, vs, rfl, .inr ⟨hq, OkG.ok_here o hr (.tup hq ts)⟩⟩
  · rename_i x _
    obtain ⟨u, rfl, t1⟩ := one_of t
    split at o
    · rename_i ys q
      obtain ⟨a, vs, rfl, hs, ts⟩ := list_of hr t1 q
      exact ⟨a, vs, rfl, .inl ⟨hs, fun l hl => tup_ok hr ts hl o⟩⟩
    · exact o.elim
  · exact o.elim
def fList : List MV → MH → R MV := fun xs h => match xs with
  | [x] => match itemsOf h x with
    | some ys => if ys.length ≤ cap then .ok (.ref h.length) (h ++ [.lst ys]) else .bad
    | none => .bad
  | _ => .bad
theorem cs_list : CallF X.K (fun xs H Q => ∃ p ys, xs = [.ref p] ∧ (SqL X.K H p ys ∨ SqT X.K H p ys) ∧ ∀ l, H l = none → Q (.ref l) (upd H l (.lst ys))) fList := by
  intro Z φ H h xs us Q hr t o
  unfold fList at o
  split at o
  · rename_i x
    obtain ⟨u, rfl, t1⟩ := one_of t
    split at o
    · rename_i ys q
      split at o
      · rename_i hl
        obtain ⟨a, vs, rfl, hs, ts⟩ := seq_of hr t1 q
        exact ⟨a, vs, rfl, hs.symm, fun l hn => lay_ok hr ts hl hn o⟩
      · exact o.elim
    · exact o.elim
  · exact o.elim
def fInt : List MV → MH → R MV := fun xs h => match xs with
  | [.int i] => .ok (.int i) h
  | [.bl b] => .ok (.int (if b then 1 else 0)) h
  | _ => .bad
theorem cs_int : CallF X.K (fun xs H Q => (∃ i, xs = [.int i] ∧ Q (.int i) H) ∨ ∃ k, xs = [.bl k] ∧ Q (.int (if k then 1 else 0)) H) fInt := by
  intro Z φ H h xs us Q hr t o
  unfold fInt at o
  split at o
  · rename_i i
    obtain ⟨u, rfl, t1⟩ := one_of t
    cases t1
    exact .inl ⟨i, rfl, OkG.ok_here o hr (.int _)⟩
  · rename_i b
    obtain ⟨u, rfl, t1⟩ := one_of t
    cases t1
    exact .inr ⟨b, rfl, OkG.ok_here o hr (.int _)⟩
  · exact o.elim
def fAbs : List MV → MH → R MV := fun xs h => match xs with
  | [.int i] => .ok (.int (if i < 0 then -i else i)) h
  | _ => .bad
theorem cs_abs : CallF X.K (fun xs H Q => ∃ i, xs = [.int i] ∧ Q (.int (if i < 0 then -i else i)) H) fAbs := by
  intro Z φ H h xs us Q hr t o
  unfold fAbs at o
  split at o
  · rename_i i
    obtain ⟨u, rfl, t1⟩ := one_of t
    cases t1
    exact ⟨i, rfl, OkG.ok_here o hr (.int _)⟩
  · exact o.elim

/-! ### isinstance of a built-in type -/
inductive TK where | int | bool | str | tuple | list | dict
  deriving DecidableEq
def TK.name : TK → String
  | .int => "int" | .bool => "bool" | .str => "str" | .tuple => "tuple" | .list => "list" | .dict => "dict"
def isT (t : TK) (h : MH) : MV → Option Bool
  | .non => some false
  | .bl _ => some (match t with | .int => true | .bool => true | _ => false)
  | .int _ => some (match t with | .int => true | _ => false)
  | .str _ => some (match t with | .str => true | _ => false)
  | .tup _ => some (match t with | .tuple => true | _ => false)
  | .ref n => match h[n]? with
    | some (.lst _) => some (match t with | .list => true | _ => false)
    | some (.frz _) => some (match t with | .list => true | _ => false)
    | _ => none
theorem kit_all : ∀ t : TK, kitB "NoneType" t.name = some false ∧ kitB "bool" t.name = some (match t with | .int => true | .bool => true | _ => false) ∧ kitB "int" t.name = some (match t with | .int => true | _ => false) ∧
    kitB "str" t.name = some (match t with | .str => true | _ => false) ∧ kitB "tuple" t.name = some (match t with | .tuple => true | _ => false) ∧ kitB "list" t.name = some (match t with | .list => true | _ => false) := by
  intro t
  cases t <;> decide +kernel
theorem isT_ok {K : PySem.W.Frag} {φ : List Addr} {H : Hp} {h : MH} {x : MV} {u : V} {t : TK} {b : Bool} (hr : HR K φ H h) (tx : IsV K φ H x u) (e : isT t h x = some b) : ∃ T, TyX K H u (.type T) ∧ kitB T t.name = some b := by
  obtain ⟨k1, k2, k3, k4, k5, k6⟩ := kit_all t
  cases tx with
  | non => simp only [isT] at e; exact ⟨"NoneType", .base .non, k1.trans e⟩
  | bl y => simp only [isT] at e; exact ⟨"bool", .base (.bl y), k2.trans e⟩
  | int y => simp only [isT] at e; exact ⟨"int", .base (.int y), k3.trans e⟩
  | str y => simp only [isT] at e; exact ⟨"str", .base (.str y), k4.trans e⟩
  | tup hq ts =>
    simp only [isT] at e
    refine ⟨"tuple", ?_, k5.trans e⟩
    rcases hq with (hq | ⟨o, hq⟩) | ⟨o, its, n, hl, hc, _⟩
    · exact .base (.tup hq)
    · exact .fTuple hq
    · exact .kTuple hl hc
  | @ref n a ea =>
    simp only [isT] at e
    cases q : h[n]? with
    | none => simp only [q] at e; cases e
    | some ob =>
      have w := hr.at_ n a ob ea q
      cases ob with
      | lst ys => simp only [q] at e; obtain ⟨_, vs, e1, _⟩ := w; exact ⟨"list", .base (.lst e1), k6.trans e⟩
      | frz ys => simp only [q] at e; obtain ⟨_, o', vs, e1, _⟩ := w; exact ⟨"list", .base (.frz e1), k6.trans e⟩
      | dct _ => exact w.elim
      | ins _ _ => exact w.elim
def mIsi (t : TK) (m : ME) : ME := fun env h => (m env h).bind fun x h1 => match isT t h1 x with
  | some b => .ok (.bl b) h1
  | none => .bad
theorem se_isi {p p2 : Pos} {T : Str} (t : TK) (hg : Gl X "isinstance") (hm : X.mg "isinstance" = none) (hg2 : Gl X T) (hm2 : X.mg T = none) (hv2 : bootBuiltins T = some (.type t.name)) (ha : PE X a (tE X.K W ma)) (hn2 : T ≠ "__name__" := by decide) (hd2 : (T == ("__debug__" : Str)) = false := by decide)
    (he : starEach [a, .Name T p2] X.env = (false, eval a X.env) :: starEach [.Name T p2] X.env := by rfl) (he2 : starEach [.Name T p2] X.env = (false, eval (.Name T p2) X.env) :: starEach [] X.env := by rfl) (hpl : (backTo pos (starEach [.Name T p2] X.env)).any (·.1) = false := by rfl) :
    PE X (.Call (.Name "isinstance" p) [a, .Name T p2] [] pos) (tE X.K W (mIsi t ma)) :=
  (pe_callB call_isi hg hm boot_isinstance (pa_cons ha (pa_cons (pe_bltn (v := .ty t.name) hg2 hm2 hv2 rfl hn2 hd2) pa_nil he2) he) (by decide) (by decide) he hpl).imp fun σ H Q => by
  rintro ⟨φ, env, h, hr, er, o⟩
  refine tG_step hr er o fun φ1 H1 h1 x u k1 hr1 er1 t1 o1 => ?_
  cases q : isT t h1 x with
  | none => simp only [q] at o1; exact o1.elim
  | some b =>
    simp only [q] at o1
    obtain ⟨T', ty, kb⟩ := isT_ok hr1 t1 q
    exact ⟨u, _, _, _, b, rfl, .ty t.name, ty, kit_ty kb, OkG.ok_here o1 hr1 (.bl b)⟩
end
end Mv

set_option maxHeartbeats 4000000
namespace Mv
open PySem PySem.Spec L2
open PyProof.Rows hiding St

/-! ### methods of lists -/
section
variable {X : Cx} {W : WT} {pos : Pos} {a b c : Expr} {ma mb mc : ME} {es : List Expr} {mr : MA}
/-- o.m(e, ..), o a list -/
def mLm (f : MV → List MV → MH → R MV) (mo : ME) (mr : MA) : ME := fun env h => (mo env h).bind fun x h1 => match listOf h1 x with
  | some _ => (mr env h1).bind fun xs h2 => f x xs h2
  | none => .bad
def MethF (K : PySem.W.Frag) (r : V → List V → Hp → VK → Prop) (f : MV → List MV → MH → R MV) : Prop := ∀ (Z : XW) φ H h x xs u us Q, HR K φ H h → IsV K φ H x u → IsVs K φ H xs us → OkG K (IsV K) Z φ H (f x xs h) Q → r u us H Q
theorem tLm_of {r : V → List V → Hp → VK → Prop} {f : MV → List MV → MH → R MV} {K : PySem.W.Frag} (hs : MethF K r f) {σ : St} {H : Hp} {Q : VK} (o : tE K W (mLm f ma mr) σ H Q) : tBM K "list" r (tE K W ma) (tA K W mr) σ H Q := by
  obtain ⟨φ, env, h, hr, er, o⟩ := o
  refine tG_step hr er o fun φ1 H1 h1 x u k1 hr1 er1 t1 o1 => ?_
  split at o1
  · rename_i xs0 q
    obtain ⟨p, vs, rfl, hl, ts⟩ := list_of hr1 t1 q
    refine ⟨.inl ⟨rfl, vs, hl⟩, tG_step hr1 er1 o1 fun φ2 H2 h2 xs us k2 hr2 er2 t2 o2 => ?_⟩
    exact hs _ φ2 H2 h2 x xs _ us Q hr2 (t1.keep k2) t2 o2
  · exact o1.elim
def fAppend : MV → List MV → MH → R MV := fun x xs h => match x, xs with
  | .ref n, [y] => match lstOf h n with
    | some ys => if ys.length < cap then .ok .non (h.set n (.lst (ys ++ [y]))) else .bad
    | none => .bad
  | _, _ => .bad
theorem ms_append : MethF X.K rAppend fAppend := by
  intro Z φ H h x xs u us Q hr t ts o
  cases t with
  | @ref n p ea =>
    unfold fAppend at o
    split at o
    · rename_i n' y e
      cases e
      obtain ⟨v, rfl, tv⟩ := one_of ts
      split at o
      · rename_i ys q
        split at o
        · rename_i hl
          obtain ⟨e1, vs, e2, t2⟩ := lst_of hr ea q
          refine ⟨p, vs, v, rfl, rfl, e2, by rw [t2.length]; exact cap_lt (Nat.le_of_lt hl), ?_⟩
          exact o φ _ .non (Keep.put (List.mem_of_getElem? ea) e2) (hr.put ea e1 e2 (by simp; exact cap_lt (Nat.le_of_lt hl)) (t2.append (.cons tv .nil))) .non
        · exact o.elim
      · exact o.elim
    · exact o.elim
  | _ => exact o.elim
theorem se_append {apos cpos : Pos} (ho : PE X a (tE X.K W ma)) (ha : PA X (b :: es) (tA X.K W mr))
    (hbase : attributeBase a "append" X.env (eval a X.env) = eval a X.env := by rfl)
    (hfew : ((backTo cpos (starEach (b :: es) X.env)).all (fun x => !x.1) && (backToKw cpos (keywordEach [] X.env)).all (fun x => x.1.isSome)
      && decide ((b :: es).length + ([] : List Keyword).length + (if ([] : List Keyword).isEmpty then 0 else 1) < 30)) = true := by rfl)
    (hline : (apos.endLine == cpos.line) = true := by rfl) (hs : starEach (b :: es) X.env = (false, eval b X.env) :: starEach es X.env := by rfl) (hplain : (backTo cpos (starEach es X.env)).any (·.1) = false := by rfl) :
    PE X (.Call (.Attribute a "append" apos) (b :: es) [] cpos) (tE X.K W (mLm fAppend ma mr)) :=
  (pe_bm PySem.F.plainAttrs_list PySem.F.slot_list_append PySem.F.type_list_append mt_append ho ha hbase hfew hline hs hplain).imp fun _ _ _ o => tLm_of ms_append o
end

/-! ### iterators -/
inductive Nx where
  | item (x : MV) | stop | bad
abbrev MIt := Nat → MH → Nx
structure WalksM (K : PySem.W.Frag) (J : It) (it : MIt) (φ0 : List Addr) (H0 : Hp) : Prop where
  go : ∀ φ H h i x, Keep φ0 H0 φ H → HR K φ H h → it i h = .item x → J.go i H ∧ ∀ u H', J.yld i H u H' → Keep φ H φ H' ∧ HR K φ H' h ∧ IsV K φ H' x u
  stop : ∀ φ H h i, Keep φ0 H0 φ H → HR K φ H h → it i h = .stop → J.stop i H
abbrev MI := MEnv → MH → R MIt
def isI (K : PySem.W.Frag) : List Addr → Hp → MIt → It → Prop := fun φ H it J => WalksM K J it φ H
abbrev tI (K : PySem.W.Frag) (W : WT) (m : MI) : TI := tG K (isI K) W m
def nxOf : Option MV → Nx
  | some x => .item x
  | none => .stop
def itL (n : Nat) : MIt := fun i h => match itemsOf h (.ref n) with
  | some xs => nxOf xs[i]?
  | none => .bad
def itT (xs : List MV) : MIt := fun i _ => nxOf xs[i]?
def itR (lo c : Int) (n : Nat) : MIt := fun i _ => if i < n then .item (.int (lo + (i : Nat) * c)) else .stop
/-- (i, x) for x in a list, in a tuple -/
def itE (it : MIt) : MIt := fun i h => match it i h with
  | .item x => .item (.tup [.int (i : Nat), x])
  | r => r
def itZ (it jt : MIt) : MIt := fun i h => match it i h, jt i h with
  | .item x, .item y => .item (.tup [x, y])
  | .bad, _ => .bad
  | _, .bad => .bad
  | _, _ => .stop
theorem nx_item {xs : List MV} {i : Nat} {x : MV} (e : nxOf xs[i]? = .item x) : xs[i]? = some x := by
  cases q : xs[i]? with
  | none => rw [q] at e; cases e
  | some y => rw [q] at e; cases e; rfl
theorem nx_stop {xs : List MV} {i : Nat} (e : nxOf xs[i]? = .stop) : xs.length ≤ i := by
  cases q : xs[i]? with
  | none => exact List.getElem?_eq_none_iff.mp q
  | some y => rw [q] at e; cases e
section
variable {K : PySem.W.Frag} {φ0 : List Addr} {H0 : Hp}
theorem items_list {φ : List Addr} {H : Hp} {h : MH} {n : Nat} {a : Addr} {xs : List MV} (hr : HR K φ H h) (ea : φ[n]? = some a) (e : itemsOf h (.ref n) = some xs) : ∃ vs, SqL K H a vs ∧ IsVs K φ H xs vs := by
  obtain ⟨a', vs, e1, hs, ts⟩ := list_of (x := .ref n) (u := .ref a) hr (.ref ea) e
  cases e1
  exact ⟨vs, hs, ts⟩
/-- one list at an address -/
theorem SqL.one {φ : List Addr} {H : Hp} {h : MH} {n : Nat} {a : Addr} {xs : List MV} {vs ws : List V} (hr : HR K φ H h) (ea : φ[n]? = some a) (e : itemsOf h (.ref n) = some xs) (hs : SqL K H a vs) (hw : SqL K H a ws) (ts : IsVs K φ H xs vs) : True := trivial
theorem walksL {n : Nat} {a : Addr} (ea : φ0[n]? = some a) : WalksM K (Itl K a) (itL n) φ0 H0 := by
  constructor
  · intro φ H h i x k hr e
    unfold itL at e
    split at e
    · rename_i xs q
      obtain ⟨vs, hs, ts⟩ := items_list hr (k.get ea) q
      obtain ⟨v, e1, t⟩ := ts.get (nx_item e)
      refine ⟨⟨vs, v, hs, e1⟩, fun u H' y => ?_⟩
      obtain ⟨rfl, y⟩ := y
      have e2 := y vs hs
      rw [e1] at e2
      cases e2
      exact ⟨Keep.refl, hr, t⟩
    · cases e
  · intro φ H h i k hr e
    unfold itL at e
    split at e
    · rename_i xs q
      obtain ⟨vs, hs, ts⟩ := items_list hr (k.get ea) q
      exact ⟨vs, hs, by rw [ts.length]; exact nx_stop e⟩
    · cases e
theorem walksT {xs : List MV} {vs : List V} {a : Addr} (ha : SqT K H0 a vs) (ts : IsVs K φ0 H0 xs vs) : WalksM K (Itt K a) (itT xs) φ0 H0 := by
  constructor
  · intro φ H h i x k hr e
    obtain ⟨v, e1, t⟩ := (ts.keep k).get (nx_item e)
    refine ⟨⟨vs, v, k.sqT ha, e1⟩, fun u H' y => ?_⟩
    obtain ⟨rfl, y⟩ := y
    have e2 := y vs (k.sqT ha)
    rw [e1] at e2
    cases e2
    exact ⟨Keep.refl, hr, t⟩
  · intro φ H h i k hr e
    exact ⟨vs, k.sqT ha, by rw [ts.length]; exact nx_stop e⟩
theorem walksR {lo : Int} {n : Nat} : WalksM K (Itr lo n) (itR lo 1 n) φ0 H0 := by
  constructor
  · intro φ H h i x k hr e
    unfold itR at e
    split at e
    · rename_i hi
      cases e
      refine ⟨hi, fun u H' y => ?_⟩
      obtain ⟨rfl, rfl⟩ := y
      refine ⟨Keep.refl, hr, ?_⟩
      rw [Int.mul_one]
      exact .int _
    · cases e
  · intro φ H h i k hr e
    unfold itR at e
    split at e
    · cases e
    · rename_i hi
      exact Nat.le_of_not_lt hi
theorem walksC {lo c : Int} {n : Nat} : WalksM K (Itc lo c n) (itR lo c n) φ0 H0 := by
  constructor
  · intro φ H h i x k hr e
    unfold itR at e
    split at e
    · rename_i hi
      cases e
      refine ⟨hi, fun u H' y => ?_⟩
      obtain ⟨rfl, rfl⟩ := y
      exact ⟨Keep.refl, hr, .int _⟩
    · cases e
  · intro φ H h i k hr e
    unfold itR at e
    split at e
    · cases e
    · rename_i hi
      exact Nat.le_of_not_lt hi
theorem walksE {n : Nat} {a : Addr} (ea : φ0[n]? = some a) : WalksM K (Ite K a) (itE (itL n)) φ0 H0 := by
  constructor
  · intro φ H h i x k hr e
    unfold itE at e
    cases q0 : itL n i h with
    | item y =>
      simp only [q0] at e
      cases e
      unfold itL at q0
      split at q0
      · rename_i xs q
        obtain ⟨vs, hs, ts⟩ := items_list hr (k.get ea) q
        obtain ⟨v, e1, t⟩ := ts.get (nx_item q0)
        refine ⟨⟨vs, v, hs, e1⟩, fun u H' z => ?_⟩
        obtain ⟨T, x', rfl, hT, rfl, z⟩ := z
        have e2 := z vs hs
        rw [e1] at e2
        cases e2
        exact ⟨Keep.new hT, hr.new hT, .tup (SqT.of upd_same) (.cons (.int _) (.cons (t.keep (Keep.new hT)) .nil))⟩
      · cases q0
    | stop => simp only [q0] at e; cases e
    | bad => simp only [q0] at e; cases e
  · intro φ H h i k hr e
    unfold itE at e
    cases q0 : itL n i h with
    | item y => simp only [q0] at e; cases e
    | stop =>
      unfold itL at q0
      split at q0
      · rename_i xs q
        obtain ⟨vs, hs, ts⟩ := items_list hr (k.get ea) q
        exact ⟨vs, hs, by rw [ts.length]; exact nx_stop q0⟩
      · cases q0
    | bad => simp only [q0] at e; cases e
theorem walksZ {n m : Nat} {a b : Addr} (ea : φ0[n]? = some a) (eb : φ0[m]? = some b) : WalksM K (Itz K a b) (itZ (itL n) (itL m)) φ0 H0 := by
  have ok : ∀ φ H h i, Keep φ0 H0 φ H → HR K φ H h → itZ (itL n) (itL m) i h ≠ .bad → ∃ xs ys vs ws, itL n i h = nxOf xs[i]? ∧ itL m i h = nxOf ys[i]? ∧ SqL K H a vs ∧ IsVs K φ H xs vs ∧ SqL K H b ws ∧ IsVs K φ H ys ws := by
    intro φ H h i k hr e
    cases q1 : itemsOf h (.ref n) with
    | none =>
      have z : itL n i h = .bad := by unfold itL; rw [q1]
      exact absurd (by unfold itZ; rw [z]) e
    | some xs =>
      have z1 : itL n i h = nxOf xs[i]? := by unfold itL; rw [q1]
      cases q2 : itemsOf h (.ref m) with
      | none =>
        have z : itL m i h = .bad := by unfold itL; rw [q2]
        exact absurd (by unfold itZ; rw [z]; cases itL n i h <;> rfl) e
      | some ys =>
        have z2 : itL m i h = nxOf ys[i]? := by unfold itL; rw [q2]
        obtain ⟨vs, hs, ts⟩ := items_list hr (k.get ea) q1
        obtain ⟨ws, hs2, ts2⟩ := items_list hr (k.get eb) q2
        exact ⟨xs, ys, vs, ws, z1, z2, hs, ts, hs2, ts2⟩
  constructor
  · intro φ H h i x k hr e
    obtain ⟨xs, ys, vs, ws, z1, z2, hs, ts, hs2, ts2⟩ := ok φ H h i k hr (by rw [e]; intro z; cases z)
    unfold itZ at e
    rw [z1, z2] at e
    cases g1 : xs[i]? with
    | none =>
      rw [g1] at e
      cases g2 : ys[i]? <;> (rw [g2] at e; cases e)
    | some x1 =>
      cases g2 : ys[i]? with
      | none => rw [g1, g2] at e; cases e
      | some y1 =>
        rw [g1, g2] at e
        cases e
        obtain ⟨v, e1, t⟩ := ts.get g1
        obtain ⟨w, e2, t2⟩ := ts2.get g2
        refine ⟨⟨vs, ws, v, w, hs, hs2, e1, e2⟩, fun u H' z => ?_⟩
        obtain ⟨T, x', y', rfl, hT, rfl, p1, p2⟩ := z
        have f1 := p1 vs hs
        have f2 := p2 ws hs2
        rw [e1] at f1; cases f1
        rw [e2] at f2; cases f2
        exact ⟨Keep.new hT, hr.new hT, .tup (SqT.of upd_same) (.cons (t.keep (Keep.new hT)) (.cons (t2.keep (Keep.new hT)) .nil))⟩
  · intro φ H h i k hr e
    obtain ⟨xs, ys, vs, ws, z1, z2, hs, ts, hs2, ts2⟩ := ok φ H h i k hr (by rw [e]; intro z; cases z)
    unfold itZ at e
    rw [z1, z2] at e
    refine ⟨vs, ws, hs, hs2, ?_⟩
    rw [ts.length, ts2.length]
    cases g1 : xs[i]? with
    | none => exact .inl (List.getElem?_eq_none_iff.mp g1)
    | some x1 =>
      cases g2 : ys[i]? with
      | none => exact .inr (List.getElem?_eq_none_iff.mp g2)
      | some y1 => rw [g1, g2] at e; cases e
end
section
variable {X : Cx} {W : WT} {pos : Pos} {a b c : Expr} {ma mb mc : ME} {es : List Expr} {mr : MA} {tg : Expr}
theorem _root_.L2.PI.or {e : Expr} {t t' : TI} (h : PI X tg e t) (h' : PI X tg e t') : PI X tg e (fun σ H R => t σ H R ∨ t' σ H R) := ⟨fun pins s σ H R I q => q.elim (fun q => h.run pins s σ H R I q) fun q => h'.run pins s σ H R I q⟩
def mItL (m : ME) : MI := fun env h => (m env h).bind fun x h1 => match x with
  | .ref n => .ok (itL n) h1
  | _ => .bad
def mItT (m : ME) : MI := fun env h => (m env h).bind fun x h1 => match x with
  | .tup xs => .ok (itT xs) h1
  | _ => .bad
/-- a list is walked (at the start it is one) -/
theorem si_list (ha : PE X a (tE X.K W ma)) : PI X tg a (tI X.K W (fun env h => (ma env h).bind fun x h1 => match listOf h1 x, x with
  | some _, .ref n => .ok (itL n) h1
  | _, _ => .bad)) := (pi_list ha).imp fun σ H R => by
  rintro ⟨φ, env, h, hr, er, o⟩
  refine tG_step hr er o fun φ1 H1 h1 x u k1 hr1 er1 t1 o1 => ?_
  cases t1 with
  | @ref n p ea =>
    cases q : listOf h1 (.ref n) with
    | none => simp only [q] at o1; exact o1.elim
    | some xs =>
      simp only [q] at o1
      obtain ⟨p', vs, e1, hs, ts⟩ := list_of (x := .ref n) (u := .ref p) hr1 (.ref ea) q
      cases e1
      exact ⟨p, rfl, ⟨vs, hs⟩, OkG.ok_here o1 hr1 (walksL ea)⟩
  | _ => simp only [listOf] at o1; exact o1.elim
theorem si_tup (ha : PE X a (tE X.K W ma)) : PI X tg a (tI X.K W (mItT ma)) := (pi_tup ha).imp fun σ H R => by
  rintro ⟨φ, env, h, hr, er, o⟩
  refine tG_step hr er o fun φ1 H1 h1 x u k1 hr1 er1 t1 o1 => ?_
  cases t1 with
  | @tup p vs xs hq ts => exact ⟨p, rfl, ⟨vs, hq⟩, OkG.ok_here o1 hr1 (walksT hq ts)⟩
  | _ => exact o1.elim
/-- a list or a tuple -/
def mItV (m : ME) : MI := fun env h => (m env h).bind fun x h1 => match x with
  | .tup xs => .ok (itT xs) h1
  | .ref n => match itemsOf h1 (.ref n) with
    | some _ => .ok (itL n) h1
    | none => .bad
  | _ => .bad
theorem si_seq (ha : PE X a (tE X.K W ma)) : PI X tg a (tI X.K W (mItV ma)) := by
  have q : PI X tg a (fun σ H R => tE X.K W ma σ H fun x H1 => ∃ p, x = .ref p ∧ (((∃ xs, SqL X.K H1 p xs) ∧ R (Itl X.K p) H1) ∨ ((∃ xs, SqT X.K H1 p xs) ∧ R (Itt X.K p) H1))) := by
    refine ⟨fun pins s σ H R I h => ?_⟩
    refine thn (ha.run pins s σ H _ I h) fun v s1 ⟨x, H1, I1, r1, p, e, q⟩ => ?_
    subst e
    cases r1
    rcases q with ⟨⟨xs, hq⟩, q⟩ | ⟨⟨xs, hq⟩, q⟩
    · obtain ⟨its, rv, pl, hz⟩ := I1.list hq
      refine wpAny_pyIter_list pl.isList ?_
      refine ⟨s1.heap.objs.size, [s1.heap.objs.size], _, _, H1, rfl, I1.kept (t' := s1.toks) fun b o e => Heap.get?_push_of_some _ e, turn_list p _, ⟨_, Heap.get?_push_size _ rfl, rfl, rfl⟩, fun b hb => ?_, q⟩
      have e : b = s1.heap.objs.size := by simpa using hb
      subst e
      exact I1.fpOk (Nat.le_refl _) (I1.hok.fresh (Nat.le_refl _))
    · obtain ⟨its, rv, pl, hz⟩ := I1.tuple hq
      refine wpAny_pyIter_tuple (show s1.heap.IsTuple p its.toArray from pl) ?_
      refine ⟨s1.heap.objs.size, [s1.heap.objs.size], _, _, H1, rfl, I1.kept (t' := s1.toks) fun b o e => Heap.get?_push_of_some _ e, turn_tuple p _, ⟨_, Heap.get?_push_size _ rfl, rfl, rfl⟩, fun b hb => ?_, q⟩
      have e : b = s1.heap.objs.size := by simpa using hb
      subst e
      exact I1.fpOk (Nat.le_refl _) (I1.hok.fresh (Nat.le_refl _))
  refine q.imp fun σ H R => ?_
  rintro ⟨φ, env, h, hr, er, o⟩
  refine tG_step hr er o fun φ1 H1 h1 x u k1 hr1 er1 t1 o1 => ?_
  cases t1 with
  | @ref n p ea =>
    cases q : itemsOf h1 (.ref n) with
    | none => simp only [q] at o1; exact o1.elim
    | some xs =>
      simp only [q] at o1
      obtain ⟨vs, hs, ts⟩ := items_list hr1 ea q
      exact ⟨p, rfl, .inl ⟨⟨vs, hs⟩, OkG.ok_here o1 hr1 (walksL ea)⟩⟩
  | @tup p vs xs hq ts => exact ⟨p, rfl, .inr ⟨⟨vs, hq⟩, OkG.ok_here o1 hr1 (walksT hq ts)⟩⟩
  | _ => exact o1.elim
/-- the bounds of a range -/
def inR (i : Int) : Bool := Nat.ble i.natAbs 1000000000
theorem inR_of {i : Int} (h : -1000000000 ≤ i ∧ i ≤ 1000000000) : inR i = true := Nat.ble_eq_true_of_le (by omega)
theorem of_inR {i : Int} (h : inR i = true) : -1000000000 ≤ i ∧ i ≤ 1000000000 := by
  have := Nat.le_of_ble_eq_true h
  omega
def rngN (i j c : Int) : Nat := if i < j then ((j - i - 1) / c + 1).toNat else 0
def mRng1 (r : MA) : MI := fun env h => (r env h).bind fun xs h1 => match xs with
  | [.int j] => if inR j = true then .ok (itR 0 1 j.toNat) h1 else .bad
  | _ => .bad
def mRng2 (r : MA) : MI := fun env h => (r env h).bind fun xs h1 => match xs with
  | [.int i, .int j] => if inR i = true ∧ inR j = true then .ok (itR i 1 (j - i).toNat) h1 else .bad
  | _ => .bad
def mRng3 (r : MA) : MI := fun env h => (r env h).bind fun xs h1 => match xs with
  | [.int i, .int j, .int c] => if inR i = true ∧ inR j = true ∧ 0 < c ∧ c < 1000000 then .ok (itR i c (rngN i j c)) h1 else .bad
  | _ => .bad
theorem inR_ok {i : Int} (h : inR i = true) : -(2 ^ 62) ≤ i ∧ i < 2 ^ 62 := by
  have := of_inR h
  omega
theorem rgC_ok {i j c : Int} (hi : inR i = true) (hj : inR j = true) (h0 : 0 < c) (h1 : c < 1000000) : RgC i j c (rngN i j c) := by
  have a := of_inR hi
  have b := of_inR hj
  have sz : Builtin.Range.rangeSize i j c = (rngN i j c : Nat) := by
    unfold Builtin.Range.rangeSize rngN
    rw [if_pos (show c > 0 from h0)]
    split
    · have : 0 ≤ (j - i - 1) / c := Int.ediv_nonneg (by omega) (by omega)
      omega
    · rfl
  refine ⟨by omega, by omega, ?_, sz⟩
  have hn : Builtin.Range.rangeSize i j c ≤ 2000000001 := by
    unfold Builtin.Range.rangeSize
    rw [if_pos (show c > 0 from h0)]
    split
    · have : (j - i - 1) / c ≤ j - i - 1 := Int.ediv_le_self _ (by omega)
      omega
    · omega
  have hn0 : 0 ≤ Builtin.Range.rangeSize i j c := by rw [sz]; omega
  unfold Builtin.Range.small
  simp only [Builtin.Range.rangeFitsLong, Bool.and_eq_true, Bool.or_eq_true, decide_eq_true_eq, beq_iff_eq]
  generalize Builtin.Range.rangeSize i j c = n at *
  rw [if_pos (show c > 0 from h0)]
  refine ⟨⟨⟨⟨by omega, by omega⟩, by omega⟩, by omega⟩, .inr ?_⟩
  rw [Bool.and_eq_true, decide_eq_true_eq, decide_eq_true_eq]
  omega
theorem three_of {K : PySem.W.Frag} {φ : List Addr} {H : Hp} {x y z : MV} {us : List V} (t : IsVs K φ H [x, y, z] us) : ∃ u v w, us = [u, v, w] ∧ IsV K φ H x u ∧ IsV K φ H y v ∧ IsV K φ H z w := by
  cases t with
  | cons t1 t2 =>
    obtain ⟨v, w, rfl, t3, t4⟩ := two_of t2
    exact ⟨_, _, _, rfl, t1, t3, t4⟩
theorem si_range1 {p : Pos} (hg : Gl X "range") (hm : X.mg "range" = none) (ha : PA X [a] (tA X.K W mr))
    (hs : starEach [a] X.env = [(false, eval a X.env)] := by rfl) : PI X tg (.Call (.Name "range" p) [a] [] pos) (tI X.K W (mRng1 mr)) := by
  refine (pi_range1 hg hm ha hs).imp fun σ H R => ?_
  rintro ⟨φ, env, h, hr, er, o⟩
  refine tG_step hr er o fun φ1 H1 h1 xs us k1 hr1 er1 t1 o1 => ?_
  split at o1
  · rename_i j
    obtain ⟨u, rfl, t⟩ := one_of t1
    cases t
    split at o1
    · rename_i hj
      exact ⟨j, rfl, (inR_ok hj).1, (inR_ok hj).2, OkG.ok_here o1 hr1 walksR⟩
    · exact o1.elim
  · exact o1.elim
theorem si_range2 {p : Pos} (hg : Gl X "range") (hm : X.mg "range" = none) (ha : PA X [a, b] (tA X.K W mr))
    (hs : starEach [a, b] X.env = [(false, eval a X.env), (false, eval b X.env)] := by rfl) (hs2 : starEach [b] X.env = [(false, eval b X.env)] := by rfl) : PI X tg (.Call (.Name "range" p) [a, b] [] pos) (tI X.K W (mRng2 mr)) := by
  refine (pi_range2 hg hm ha hs hs2).imp fun σ H R => ?_
  rintro ⟨φ, env, h, hr, er, o⟩
  refine tG_step hr er o fun φ1 H1 h1 xs us k1 hr1 er1 t1 o1 => ?_
  split at o1
  · rename_i i j
    obtain ⟨u, v, rfl, t, t'⟩ := two_of t1
    cases t; cases t'
    split at o1
    · rename_i hj
      exact ⟨i, j, rfl, ⟨(inR_ok hj.1).1, (inR_ok hj.1).2, (inR_ok hj.2).1, (inR_ok hj.2).2⟩, OkG.ok_here o1 hr1 walksR⟩
    · exact o1.elim
  · exact o1.elim
theorem si_range3 {p : Pos} (hg : Gl X "range") (hm : X.mg "range" = none) (ha : PA X [a, b, c] (tA X.K W mr))
    (hs : starEach [a, b, c] X.env = (false, eval a X.env) :: starEach [b, c] X.env := by rfl) (hpl : (backTo pos (starEach [b, c] X.env)).any (·.1) = false := by rfl) : PI X tg (.Call (.Name "range" p) [a, b, c] [] pos) (tI X.K W (mRng3 mr)) := by
  refine (pi_range3 hg hm ha hs hpl).imp fun σ H R => ?_
  rintro ⟨φ, env, h, hr, er, o⟩
  refine tG_step hr er o fun φ1 H1 h1 xs us k1 hr1 er1 t1 o1 => ?_
  split at o1
  · rename_i i j k
    obtain ⟨u, v, w, rfl, t, t', t''⟩ := three_of t1
    cases t; cases t'; cases t''
    split at o1
    · rename_i hj
      exact ⟨i, j, k, _, rfl, rgC_ok hj.1 hj.2.1 hj.2.2.1 hj.2.2.2, OkG.ok_here o1 hr1 walksC⟩
    · exact o1.elim
  · exact o1.elim
/-- enumerate of a list, zip of two lists -/
def mEnum (r : MA) : MI := fun env h => (r env h).bind fun xs h1 => match xs with
  | [.ref n] => match itemsOf h1 (.ref n) with
    | some _ => .ok (itE (itL n)) h1
    | none => .bad
  | _ => .bad
theorem si_enum {p tpos : Pos} {elts : List Expr} {kk : Nat} (hg : Gl X "enumerate") (hm : X.mg "enumerate" = none) (ha : PA X [a] (tA X.K W mr)) (hs : starEach [a] X.env = [(false, eval a X.env)] := by rfl) :
    PI X (.Tuple elts kk tpos) (.Call (.Name "enumerate" p) [a] [] pos) (tI X.K W (mEnum mr)) := by
  refine (pi_enum hg hm ha hs).imp fun σ H R => ?_
  rintro ⟨φ, env, h, hr, er, o⟩
  refine tG_step hr er o fun φ1 H1 h1 xs us k1 hr1 er1 t1 o1 => ?_
  split at o1
  · rename_i n
    obtain ⟨u, rfl, t⟩ := one_of t1
    cases t with
    | @ref _ p ea =>
      split at o1
      · rename_i xs q
        obtain ⟨vs, hs, ts⟩ := items_list hr1 ea q
        exact ⟨p, vs, rfl, hs, OkG.ok_here o1 hr1 (walksE ea)⟩
      · exact o1.elim
  · exact o1.elim
def mZip (r : MA) : MI := fun env h => (r env h).bind fun xs h1 => match xs with
  | [.ref n, .ref m] => match itemsOf h1 (.ref n), itemsOf h1 (.ref m) with
    | some _, some _ => .ok (itZ (itL n) (itL m)) h1
    | _, _ => .bad
  | _ => .bad
theorem si_zip {p tpos : Pos} {elts : List Expr} {kk : Nat} (hg : Gl X "zip") (hm : X.mg "zip" = none) (ha : PA X [a, b] (tA X.K W mr))
    (hs : starEach [a, b] X.env = (false, eval a X.env) :: starEach [b] X.env := by rfl) (hpl : (backTo pos (starEach [b] X.env)).any (·.1) = false := by rfl) :
    PI X (.Tuple elts kk tpos) (.Call (.Name "zip" p) [a, b] [] pos) (tI X.K W (mZip mr)) := by
  refine (pi_zip hg hm ha hs hpl).imp fun σ H R => ?_
  rintro ⟨φ, env, h, hr, er, o⟩
  refine tG_step hr er o fun φ1 H1 h1 xs us k1 hr1 er1 t1 o1 => ?_
  split at o1
  · rename_i n m
    obtain ⟨u, v, rfl, t, t'⟩ := two_of t1
    cases t with
    | @ref _ p ea =>
      cases t' with
      | @ref _ p' eb =>
        split at o1
        · rename_i xs ys q q'
          obtain ⟨vs, hs, ts⟩ := items_list hr1 ea q
          obtain ⟨ws, hs', ts'⟩ := items_list hr1 eb q'
          exact ⟨p, p', vs, ws, rfl, hs, hs', OkG.ok_here o1 hr1 (walksZ ea eb)⟩
        · exact o1.elim
  · exact o1.elim
end

/-! ### targets -/
def setAll {α : Type} : List (Option α) → List Nat → List α → List (Option α)
  | σ, i :: is, v :: vs => setAll (σ.set i (some v)) is vs
  | σ, _, _ => σ
abbrev MG := MV → MEnv → Option MEnv
def gN (i : Nat) : MG := fun x env => some (env.set i (some x))
def gT (is : List Nat) : MG := fun x env => match x with
  | .tup xs => if xs.length = is.length then some (setAll env is xs) else none
  | _ => none
structure GOk (K : PySem.W.Frag) (g : TG) (own : List Nat) (m : MG) : Prop where
  run : ∀ φ H σ env x u env' (Q : St → Hp → Prop), ER K φ H σ env → IsV K φ H x u → m x env = some env' → (∀ σ', ER K φ H σ' env' → wipe σ' own = wipe σ own → Q σ' H) → g u σ H Q
theorem wipe_set {σ : St} {i : Nat} {v : Option V} : ∀ {own : List Nat}, i ∈ own → wipe (σ.set i v) own = wipe σ own
  | [], h => by cases h
  | j :: r, h => by
    unfold wipe
    by_cases e : i ∈ r
    · rw [wipe_set e]
    · have e2 : j = i := by
        rcases List.mem_cons.mp h with z | z
        · exact z.symm
        · exact absurd z e
      subst e2
      have : ∀ (r : List Nat) (τ : St), wipe (τ.set j v) r = (if j ∈ r then wipe τ r else (wipe τ r).set j v) := by
        intro r
        induction r with
        | nil => intro τ; simp [wipe]
        | cons k r ih =>
          intro τ
          unfold wipe
          rw [ih]
          by_cases hk : j = k
          · subst hk
            by_cases hm : j ∈ r
            · simp [hm]
            · simp [hm]
          · by_cases hm : j ∈ r
            · simp [hm]
            · have : ¬ j ∈ k :: r := by simp [hk, hm]
              rw [if_neg hm, if_neg this, List.set_comm _ _ hk]
      rw [this r σ, if_neg e]
      simp
theorem gok_N {K : PySem.W.Frag} {i : Nat} {own : List Nat} (hi : i ∈ own) : GOk K (gName i) own (gN i) := ⟨fun φ H σ env x u env' Q er t e k => by
  cases e
  exact k _ (er.set t) (wipe_set hi)⟩
@[reducible] def gNames : List Nat → TGs
  | [] => gNil
  | i :: r => gCons (gName i) (gNames r)
theorem gNames_ok {K : PySem.W.Frag} {φ : List Addr} {H : Hp} {own : List Nat} : ∀ (is : List Nat) (xs : List MV) (us : List V) (σ : St) (env : MEnv) (Q : St → Hp → Prop), (∀ i ∈ is, i ∈ own) → ER K φ H σ env → IsVs K φ H xs us → xs.length = is.length → (∀ σ', ER K φ H σ' (setAll env is xs) → wipe σ' own = wipe σ own → Q σ' H) → gNames is us σ H Q
  | [], [], _, σ, env, Q, ho, er, .nil, hl, k => ⟨rfl, k σ er rfl⟩
  | i :: is, x :: xs, u :: us, σ, env, Q, ho, er, .cons t ts, hl, k => by
    refine ⟨u, us, rfl, ?_⟩
    show gNames is us (σ.set i (some u)) H Q
    exact gNames_ok is xs us _ _ Q (fun j hj => ho j (List.mem_cons_of_mem _ hj)) (er.set t) ts (by simpa using hl) fun σ' e w => k σ' e (w.trans (wipe_set (ho i (List.mem_cons_self ..))))
theorem gok_T {K : PySem.W.Frag} {is : List Nat} {n : Nat} {own : List Nat} (hi : ∀ i ∈ is, i ∈ own) (hn : is.length = n) : GOk K (gTup K n (gNames is)) own (gT is) := ⟨fun φ H σ env x u env' Q er t e k => by
  cases t with
  | @tup a vs xs hq ts =>
    simp only [gT] at e
    split at e
    · rename_i hl
      cases e
      exact ⟨a, vs, rfl, hq, by rw [ts.length]; omega, gNames_ok is xs vs σ env Q hi er ts hl k⟩
    · cases e
  | _ => cases e⟩
end Mv

set_option maxHeartbeats 4000000
namespace Mv
open PySem PySem.Spec L2
open PyProof.Rows hiding St

theorem _root_.L2.PTs.imp {X : Cx} {e : List Expr} {t t' : TT} (p : PTs X e t) (q : ∀ σ H Q, t' σ H Q → t σ H Q) : PTs X e t' := ⟨fun pins s σ H Q I h => p.run pins s σ H Q I (q σ H Q h)⟩
/-! ### comprehensions -/
def mYes : MT := fun _ h => .ok true h
section
variable {X : Cx} {W : WT} {pos : Pos}
theorem sts_nil : PTs X [] (tT X.K W mYes) := pts_nil.imp fun σ H Q => by
  rintro ⟨φ, env, h, hr, er, o⟩
  exact OkG.ok_here o hr rfl
theorem sts_one {c : Expr} {m : MT} (h : PT X c (tT X.K W m)) : PTs X [c] (tT X.K W m) := pts_one h
def wipeM : MEnv → List Nat → MEnv
  | env, [] => env
  | env, v :: vs => (wipeM env vs).set v none
theorem ER.wipe {K : PySem.W.Frag} {φ : List Addr} {H : Hp} {σ : St} {env : MEnv} (er : ER K φ H σ env) : ∀ vs : List Nat, ER K φ H (L2.wipe σ vs) (wipeM env vs)
  | [] => er
  | v :: vs => (ER.wipe er vs).unset v
def compGo (it : MIt) (tg : MG) (c : MT) (m : ME) (own : List Nat) : Nat → Nat → MEnv → MH → List MV → R MV
  | 0, _, _, _, _ => .bad
  | n + 1, i, env, h, acc => match it i h with
    | .stop => .ok (.ref h.length) (h ++ [.lst acc.reverse])
    | .bad => .bad
    | .item x => match tg x (wipeM env own) with
      | none => .bad
      | some env' => ((c env' h).noX).bind fun b h1 => if b = true then ((m env' h1).noX).bind fun y h2 => if acc.length < cap then compGo it tg c m own n (i + 1) env h2 (y :: acc) else .bad else compGo it tg c m own n (i + 1) env h1 acc
/-- no loop turns oftener -/
theorem fuel_ex : ∃ n : Nat, 1000000 ≤ n := ⟨_, Nat.le_refl _⟩
noncomputable def fuel : Nat := Classical.choose fuel_ex
theorem fuel_ge : 1000000 ≤ fuel := Classical.choose_spec fuel_ex
noncomputable def mLc (mi : MI) (tg : MG) (c : MT) (m : ME) (own : List Nat) : ME := fun env h => (mi env h).bind fun it h1 => compGo it tg c m own fuel 0 env h1 []
theorem tG_W0 {α β : Type} {K : PySem.W.Frag} {isA : List Addr → Hp → α → β → Prop} {m : MEnv → MH → R α} {σ : St} {H : Hp} {Q : β → Hp → Prop} {φ : List Addr} {env : MEnv} {h : MH} {Z : XW} (hr : HR K φ H h) (er : ER K φ H σ env) (o : OkG K isA Z φ H (m env h).noX Q) : tG K isA W0 m σ H Q := ⟨φ, env, h, hr, er, noX_ok o⟩
theorem isVs_rev {K : PySem.W.Frag} {φ : List Addr} {H : Hp} {acc : List MV} {y : MV} {vs : List V} {v : V} (ts : IsVs K φ H acc.reverse vs) (t : IsV K φ H y v) : IsVs K φ H (y :: acc).reverse (vs ++ [v]) := by
  rw [List.reverse_cons]
  exact ts.append (.cons t .nil)
mutual
theorem IsV.more {K : PySem.W.Frag} {φ : List Addr} {H : Hp} (mo : List Addr) : ∀ {x : MV} {v : V}, IsV K φ H x v → IsV K (φ ++ mo) H x v
  | _, _, .non => .non
  | _, _, .bl b => .bl b
  | _, _, .int i => .int i
  | _, _, .str s => .str s
  | _, _, .ref e => .ref (by rw [List.getElem?_append_left (List.getElem?_eq_some_iff.mp e).1]; exact e)
  | _, _, .tup h t => .tup h (IsVs.more mo t)
theorem IsVs.more {K : PySem.W.Frag} {φ : List Addr} {H : Hp} (mo : List Addr) : ∀ {xs : List MV} {vs : List V}, IsVs K φ H xs vs → IsVs K (φ ++ mo) H xs vs
  | _, _, .nil => .nil
  | _, _, .cons h t => .cons (IsV.more mo h) (IsVs.more mo t)
end
theorem OR.more {K : PySem.W.Frag} {φ : List Addr} {H : Hp} {a : Addr} {o : MO} (mo : List Addr) (r : OR K φ H a o) : OR K (φ ++ mo) H a o := by
  cases o with
  | lst xs => obtain ⟨l, vs, q, t⟩ := r; exact ⟨l, vs, q, t.more mo⟩
  | frz xs => obtain ⟨l, o, vs, q, t⟩ := r; exact ⟨l, o, vs, q, t.more mo⟩
  | dct _ => exact r.elim
  | ins _ _ => exact r.elim
/-- a list that stands is taken into the small heap -/
theorem HR.adopt {K : PySem.W.Frag} {φ : List Addr} {H : Hp} {h : MH} {D : Addr} {xs : List MV} {vs : List V} (r : HR K φ H h) (nD : D ∉ φ) (e : H D = some (.lst vs)) (hl : xs.length ≤ sizeLine) (ts : IsVs K φ H xs vs) : HR K (φ ++ [D]) H (h ++ [.lst xs]) := by
  refine ⟨by simp [r.len], ?_, fun n a u e1 e2 => ?_⟩
  · rw [List.nodup_append]
    refine ⟨r.nd, by simp, fun a ha b hb z => ?_⟩
    rw [List.mem_singleton.mp hb] at z
    exact nD (z ▸ ha)
  · by_cases hn : n < φ.length
    · rw [List.getElem?_append_left hn] at e1
      rw [List.getElem?_append_left (by rw [← r.len]; exact hn)] at e2
      exact (r.at_ n a u e1 e2).more _
    · have hn' : n = φ.length := by
        have := (List.getElem?_eq_some_iff.mp e1).1
        simp at this; omega
      subst hn'
      rw [List.getElem?_append_right (Nat.le_refl _)] at e1
      rw [List.getElem?_append_right (by rw [r.len]; exact Nat.le_refl _)] at e2
      simp at e1
      rw [r.len] at e2
      simp at e2
      subst e1 e2
      exact ⟨hl, vs, e, ts.more _⟩
theorem Keep.adopt {φ1 φ : List Addr} {H1 H : Hp} {D : Addr} (k : Keep φ1 H1 φ H) (hD : H1 D = none) : Keep φ1 H1 (φ ++ [D]) H := by
  obtain ⟨mo, e, f⟩ := k.ext
  refine ⟨⟨mo ++ [D], by rw [e, List.append_assoc], fun b hb => ?_⟩, k.dom, k.out, k.tup, k.frz⟩
  rcases List.mem_append.mp hb with hb | hb
  · exact f b hb
  · rw [List.mem_singleton.mp hb]; exact hD
/-- an untracked list is changed -/
theorem Keep.side {φ1 φ : List Addr} {H1 H : Hp} {D : Addr} {vs ws : List V} (k : Keep φ1 H1 φ H) (hD : H1 D = none) (e : H D = some (.lst vs)) : Keep φ1 H1 φ (upd H D (.lst ws)) := by
  have ne : ∀ b o, H1 b = some o → b ≠ D := fun b o e => ne_of_none e hD
  refine ⟨k.ext, fun b o q => ?_, fun b o q n => ?_, fun b xs q => ?_, fun b o u q => ?_⟩
  · obtain ⟨o', z⟩ := k.dom b o q
    exact ⟨o', by rw [upd_ne (ne b o q)]; exact z⟩
  · rw [upd_ne (ne b o q)]; exact k.out b o q n
  · rw [upd_ne (ne b _ q)]; exact k.tup b xs q
  · rw [upd_ne (ne b _ q)]; exact k.frz b o u q
/-- values, objects beside an untracked list that is changed -/
theorem sqT_side {K : PySem.W.Frag} {H : Hp} {D : Addr} {vs ws : List V} (e : H D = some (.lst vs)) {b : Addr} {xs : List V} (h : SqT K H b xs) : SqT K (upd H D (.lst ws)) b xs := by
  rcases h with (h | ⟨o, h⟩) | h
  · exact .inl (.inl (by rw [upd_ne fun z => by rw [z, e] at h; cases h]; exact h))
  · exact .inl (.inr ⟨o, by rw [upd_ne fun z => by rw [z, e] at h; cases h]; exact h⟩)
  · exact .inr h
mutual
theorem IsV.side {K : PySem.W.Frag} {φ : List Addr} {H : Hp} {D : Addr} {vs ws : List V} (e : H D = some (.lst vs)) : ∀ {x : MV} {v : V}, IsV K φ H x v → IsV K φ (upd H D (.lst ws)) x v
  | _, _, .non => .non
  | _, _, .bl b => .bl b
  | _, _, .int i => .int i
  | _, _, .str s => .str s
  | _, _, .ref q => .ref q
  | _, _, .tup h t => .tup (sqT_side e h) (IsVs.side e t)
theorem IsVs.side {K : PySem.W.Frag} {φ : List Addr} {H : Hp} {D : Addr} {vs ws : List V} (e : H D = some (.lst vs)) : ∀ {xs : List MV} {us : List V}, IsVs K φ H xs us → IsVs K φ (upd H D (.lst ws)) xs us
  | _, _, .nil => .nil
  | _, _, .cons h t => .cons (IsV.side e h) (IsVs.side e t)
end
theorem HR.side {K : PySem.W.Frag} {φ : List Addr} {H : Hp} {h : MH} {D : Addr} {vs ws : List V} (r : HR K φ H h) (nD : D ∉ φ) (e : H D = some (.lst vs)) : HR K φ (upd H D (.lst ws)) h :=
  ⟨r.len, r.nd, fun n a o e1 e2 => by
    have q := r.at_ n a o e1 e2
    have ne : a ≠ D := fun z => nD (z ▸ List.mem_of_getElem? e1)
    cases o with
    | lst xs => obtain ⟨l, us, z, t⟩ := q; exact ⟨l, us, by rw [upd_ne ne]; exact z, t.side e⟩
    | frz xs => obtain ⟨l, o, us, z, t⟩ := q; exact ⟨l, o, us, by rw [upd_ne ne]; exact z, t.side e⟩
    | dct _ => exact q.elim
    | ins _ _ => exact q.elim⟩
theorem comp_ok {K : PySem.W.Frag} {J : It} {it : MIt} {g : TG} {tg : MG} {c : MT} {m : ME} {own : List Nat} {φ1 : List Addr} {H1 : Hp} {h1 : MH} {σ : St} {env : MEnv} {Q : VK} {D : Addr} {Z : XW} (hw : WalksM K J it φ1 H1) (hg : GOk K g own tg) (hr : HR K φ1 H1 h1) (er : ER K φ1 H1 σ env) (hD : H1 D = none)
    (o : OkG K (IsV K) Z φ1 H1 (compGo it tg c m own fuel 0 env h1 []) Q) :
    ∃ U : Nat → Nat → Hp → Prop, (∃ n, U 0 n (upd H1 D (.lst []))) ∧ ∀ i n H, U i n H → (J.stop i H ∧ Q (.ref D) H) ∨ (J.go i H ∧ ∃ Nw : Hp → Prop, (∀ H', Nw H' → ∃ n', n' < n ∧ U (i + 1) n' H') ∧ ∀ x H', J.yld i H x H' → g x (wipe σ own) H' fun σ2 H2 => wipe σ2 own = wipe σ own ∧ tT K W0 c σ2 H2 fun b H3 =>
      if b = true then tE K W0 m σ2 H3 fun y H4 => ∃ acc, H4 D = some (.lst acc) ∧ acc.length < sizeLine ∧ Nw (upd H4 D (.lst (acc ++ [y]))) else Nw H3) := by
  -- what holds between two turns
  let U : Nat → Nat → Hp → Prop := fun i n H => ∃ φ h acc vs, D ∉ φ ∧ Keep φ1 H1 φ H ∧ HR K φ H h ∧ H D = some (.lst vs) ∧ IsVs K φ H acc.reverse vs ∧ acc.length ≤ cap ∧ OkG K (IsV K) Z φ1 H1 (compGo it tg c m own n i env h acc) Q
  refine ⟨U, ⟨fuel, φ1, h1, [], [], hr.fresh hD, Keep.new hD, hr.new hD, upd_same, .nil, Nat.zero_le _, o⟩, ?_⟩
  rintro i n H ⟨φ, h, acc, vs, nD, k, hr, eD, ts, hl, o⟩
  have hDd : ∀ {φ' : List Addr} {H' : Hp}, Keep φ H φ' H' → D ∉ φ' ∧ H' D = some (.lst vs) := fun {φ' H'} k' => by
    refine ⟨fun z => ?_, k'.out D _ eD nD⟩
    obtain ⟨mo, e, f⟩ := k'.ext
    rw [e] at z
    rcases List.mem_append.mp z with z | z
    · exact nD z
    · rw [f D z] at eD; cases eD
  cases n with
  | zero => exact o.elim
  | succ n =>
    unfold compGo at o
    cases e : it i h with
    | bad => simp only [e] at o; exact o.elim
    | stop =>
      simp only [e] at o
      refine .inl ⟨hw.stop φ H h i k hr e, ?_⟩
      exact o (φ ++ [D]) H (.ref D) (k.adopt hD) (hr.adopt nD eD (by simp; exact cap_line hl) ts) (.ref (lay_at hr))
    | item x =>
      simp only [e] at o
      obtain ⟨hgo, hy⟩ := hw.go φ H h i x k hr e
      refine .inr ⟨hgo, U (i + 1) n, fun H' u => ⟨n, Nat.lt_succ_self n, u⟩, fun u H' y => ?_⟩
      obtain ⟨k2, hr2, t2⟩ := hy u H' y
      have er2 : ER K φ H' σ env := er.keep (k.trans k2)
      cases et : tg x (wipeM env own) with
      | none => simp only [et] at o; exact o.elim
      | some env' =>
        simp only [et] at o
        refine hg.run φ H' _ _ x u env' _ (er2.wipe own) t2 et fun σ2 er3 hwp => ⟨?_, φ, env', h, hr2, er3, ?_⟩
        · rw [hwp]
          have : ∀ (l : List Nat) (τ : St), wipe (wipe τ l) l = wipe τ l := by
            intro l
            have key : ∀ (i : Nat) (l : List Nat) (τ : St), i ∈ l → (wipe τ l).set i none = wipe τ l := by
              intro i l
              induction l with
              | nil => intro τ h; cases h
              | cons j r ih =>
                intro τ h
                unfold wipe
                by_cases hj : i = j
                · subst hj; simp
                · rw [List.set_comm _ _ (Ne.symm hj)]
                  rw [ih τ ((List.mem_cons.mp h).resolve_left hj)]
            have key2 : ∀ (r l : List Nat) (τ : St), (∀ j ∈ r, j ∈ l) → wipe (wipe τ l) r = wipe τ l := by
              intro r
              induction r with
              | nil => intro l τ _; rfl
              | cons j r ih =>
                intro l τ h
                show (wipe (wipe τ l) r).set j none = _
                rw [ih l τ fun q hq => h q (List.mem_cons_of_mem _ hq)]
                exact key j l τ (h j (List.mem_cons_self ..))
            intro τ
            exact key2 l l τ fun _ h => h
          exact this own σ
        · cases ec : c env' h with
          | bad => rw [ec] at o; exact o.elim
          | exc z h3 => rw [ec] at o; exact o.elim
          | ok b h3 =>
            rw [ec] at o
            intro φ3 H3 b' k3 hr3 tb
            cases tb
            have k13 := (k.trans k2).trans k3
            cases b with
            | false =>
              rw [if_neg Bool.false_ne_true]
              obtain ⟨n3, e3⟩ := hDd (k2.trans k3)
              exact ⟨φ3, h3, acc, vs, n3, k13, hr3, e3, ts.keep (k2.trans k3), hl, o⟩
            | true =>
              rw [if_pos rfl]
              refine ⟨φ3, env', h3, hr3, er3.keep k3, ?_⟩
              have o2 : OkG K (IsV K) Z φ1 H1 (((m env' h3).noX).bind fun y h2 => if acc.length < cap then compGo it tg c m own n (i + 1) env h2 (y :: acc) else .bad) Q := o
              cases em : m env' h3 with
              | bad => rw [em] at o2; exact o2.elim
              | exc z h4 => rw [em] at o2; exact o2.elim
              | ok w h4 =>
                rw [em] at o2
                intro φ4 H4 y4 k4 hr4 t4
                have kk := (k2.trans k3).trans k4
                obtain ⟨n4, e4⟩ := hDd kk
                have o' : OkG K (IsV K) Z φ1 H1 (if acc.length < cap then compGo it tg c m own n (i + 1) env h4 (w :: acc) else .bad) Q := o2
                split at o'
                · rename_i hc
                  refine ⟨vs, e4, by rw [ts.length, List.length_reverse]; exact cap_lt hl, φ4, h4, w :: acc, _, n4, (k.trans kk).side hD e4, hr4.side n4 e4, upd_same, ?_, hc, o'⟩
                  exact (isVs_rev (ts.keep kk) t4).side e4
                · exact o'.elim
theorem tLc_of {g : TG} {tg : MG} {K : PySem.W.Frag} {mi : MI} {c : MT} {m : ME} {own : List Nat} (hg : GOk K g own tg) {σ : St} {H : Hp} {Q : VK} (o : tE K W (mLc mi tg c m own) σ H Q) : tLc (tI K W mi) g (tT K W0 c) (tE K W0 m) own σ H Q := by
  obtain ⟨φ, env, h, hr, er, o⟩ := o
  refine tG_step hr er o fun φ1 H1 h1 it J k1 hr1 er1 hw o1 => ?_
  intro D hD
  exact comp_ok hw hg hr1 er1 hD o1
/-- [elt for target in iter if ..] -/
theorem se_lc {elt tg iter : Expr} {ifs : List Expr} {scope : Scope} {own : List (Str × Nat)} {g : TG} {mg : MG} {mi : MI} {c : MT} {m : ME} (hc : X.calm = true) (hN : X.N.Nodup) (hi : PI X tg iter (tI X.K W mi)) (ok : BlkOk X.N X.env.scope scope own)
    (hg : ∀ (s : Shared) (H : Hp) (C : Addr) (cl : List (Str × Addr)) (fp : List Addr), PG (X.blk s H scope (compEnvC scope cl C X.env) fp) tg g) (hgm : GOk X.K g (own.map (·.2)) mg) (ht : ∀ (s : Shared) (H : Hp) (C : Addr) (cl : List (Str × Addr)) (fp : List Addr), PTs (X.blk s H scope (compEnvC scope cl C X.env) fp) ifs (tT X.K W0 c))
    (he : ∀ (s : Shared) (H : Hp) (C : Addr) (cl : List (Str × Addr)) (fp : List Addr), PE (X.blk s H scope (compEnvC scope cl C X.env) fp) elt (tE X.K W0 m)) (hs : ∀ x, foldedSetIterable iter X.env x = pure x := by intro _; rfl) :
    PE X (.ListComp elt [⟨tg, iter, ifs, 0⟩] scope pos) (tE X.K W (mLc mi mg c m (own.map (·.2)))) := (pe_lc hc hN hi ok hg ht he hs).imp fun σ H Q o => tLc_of hgm o

/-! ### statements -/
inductive S where
  | nx (env : MEnv) (h : MH) | rt (v : MV) (h : MH) | bk (env : MEnv) (h : MH) | ct (env : MEnv) (h : MH) | exc (x : MX) (env : MEnv) (h : MH) | bad
abbrev MS := MEnv → MH → S
def R.andS {α : Type} (r : R α) (env : MEnv) (k : α → MH → S) : S := match r with
  | .ok a h => k a h
  | .exc x h => .exc x env h
  | .bad => .bad
@[simp] theorem R.andS_ok {α : Type} (a : α) (h : MH) (env : MEnv) (k : α → MH → S) : (R.ok a h).andS env k = k a h := rfl
@[simp] theorem R.andS_bad {α : Type} (env : MEnv) (k : α → MH → S) : (R.bad : R α).andS env k = .bad := rfl
def S.andS (r : S) (k : MS) : S := match r with
  | .nx env h => k env h
  | r => r
@[simp] theorem S.andS_nx (env : MEnv) (h : MH) (k : MS) : (S.nx env h).andS k = k env h := rfl
@[simp] theorem S.andS_rt (v : MV) (h : MH) (k : MS) : (S.rt v h).andS k = .rt v h := rfl
@[simp] theorem S.andS_bad (k : MS) : (S.bad).andS k = .bad := rfl
@[simp] theorem S.andS_bk (env : MEnv) (h : MH) (k : MS) : (S.bk env h).andS k = .bk env h := rfl
@[simp] theorem S.andS_ct (env : MEnv) (h : MH) (k : MS) : (S.ct env h).andS k = .ct env h := rfl
def OkS (K : PySem.W.Frag) (W : WT) (φ : List Addr) (H : Hp) (r : S) (D : Ends) : Prop := match r with
  | .nx env' h' => ∀ φ' σ' H', Keep φ H φ' H' → HR K φ' H' h' → ER K φ' H' σ' env' → D.nx σ' H'
  | .rt v h' => ∀ φ' H' u, Keep φ H φ' H' → HR K φ' H' h' → IsV K φ' H' v u → D.rt u H'
  | .bk env' h' => ∀ φ' σ' H', Keep φ H φ' H' → HR K φ' H' h' → ER K φ' H' σ' env' → D.bk σ' H'
  | .ct env' h' => ∀ φ' σ' H', Keep φ H φ' H' → HR K φ' H' h' → ER K φ' H' σ' env' → D.ct σ' H'
  | .exc x env' h' => ∀ φ' σ' H', Keep φ H φ' H' → HR K φ' H' h' → ER K φ' H' σ' env' → W σ' env' φ' H' x h'
  | .bad => False
def tS (K : PySem.W.Frag) (W : WT) (m : MS) : TS := fun D σ H => ∃ φ env h, HR K φ H h ∧ ER K φ H σ env ∧ OkS K W φ H (m env h) D
section
variable {K : PySem.W.Frag} {φ φ1 : List Addr} {H H1 : Hp} {h : MH} {σ : St} {env : MEnv} {α β : Type}
theorem OkS.mono {r : S} {D : Ends} (o : OkS K W φ H r D) (k : Keep φ H φ1 H1) : OkS K W φ1 H1 r D := by
  cases r with
  | nx e h' => exact fun φ' σ' H' k' r t => o φ' σ' H' (k.trans k') r t
  | rt v h' => exact fun φ' H' u k' r t => o φ' H' u (k.trans k') r t
  | bk e h' => exact fun φ' σ' H' k' r t => o φ' σ' H' (k.trans k') r t
  | ct e h' => exact fun φ' σ' H' k' r t => o φ' σ' H' (k.trans k') r t
  | exc x e h' => exact fun φ' σ' H' k' r t => o φ' σ' H' (k.trans k') r t
  | bad => exact o
theorem OkS.nx_here {D : Ends} (o : OkS K W φ H (.nx env h) D) (hr : HR K φ H h) (er : ER K φ H σ env) : D.nx σ H := o φ σ H Keep.refl hr er
/-- an expression, then what its value makes -/
theorem tS_step {isA : List Addr → Hp → α → β → Prop} {m : MEnv → MH → R α} {k : α → MH → S} {P : β → Hp → Prop} {D : Ends} (hr : HR K φ H h) (er : ER K φ H σ env) (o : OkS K W φ H ((m env h).andS env k) D)
    (n : ∀ φ1 H1 h1 a b, Keep φ H φ1 H1 → HR K φ1 H1 h1 → ER K φ1 H1 σ env → isA φ1 H1 a b → OkS K W φ1 H1 (k a h1) D → P b H1) : tG K isA W m σ H P := by
  refine ⟨φ, env, h, hr, er, ?_⟩
  cases e : m env h with
  | ok a h1 =>
    rw [e] at o
    exact fun φ1 H1 b kp r t => n φ1 H1 h1 a b kp r (er.keep kp) t (OkS.mono o kp)
  | exc x h1 =>
    rw [e] at o
    exact fun φ1 H1 kp r => o φ1 σ H1 kp r (er.keep kp)
  | bad => rw [e] at o; exact o.elim
end
end
end Mv

set_option maxHeartbeats 4000000
namespace Mv
open PySem PySem.Spec L2
open PyProof.Rows hiding St

section
variable {X : Cx} {W : WT} {pos : Pos} {a b c e : Expr} {ma mb mc : ME} {es : List Expr} {mr : MA} {st : Stmt} {rest : List Stmt} {m1 m2 : MS}
def mNext : MS := fun env h => .nx env h
def mBad : MS := fun _ _ => .bad
def mSeq (m1 m2 : MS) : MS := fun env h => (m1 env h).andS m2
theorem ss_nil : PSs X [] (tS X.K W mNext) := pss_nil.imp fun D σ H => by
  rintro ⟨φ, env, h, hr, er, o⟩
  exact OkS.nx_here o hr er
theorem ss_never : PS X st (tS X.K W mBad) := ps_never.imp fun D σ H => by
  rintro ⟨φ, env, h, hr, er, o⟩
  exact o
theorem seq_ok {K : PySem.W.Frag} {D : Ends} {σ : St} {H : Hp} (o : tS K W (mSeq m1 m2) D σ H) : tSeq (tS K W m1) (tS K W m2) D σ H := by
  obtain ⟨φ, env, h, hr, er, o⟩ := o
  refine ⟨φ, env, h, hr, er, ?_⟩
  unfold mSeq at o
  cases q : m1 env h with
  | nx env' h' =>
    rw [q] at o
    intro φ' σ' H' k hr' er'
    exact ⟨φ', env', h', hr', er', OkS.mono o k⟩
  | _ => rw [q] at o; exact o
theorem ss_cons (h1 : PS X st (tS X.K W m1)) (h2 : PSs X rest (tS X.K W m2)) : PSs X (st :: rest) (tS X.K W (mSeq m1 m2)) := (pss_cons h1 h2).imp fun _ _ _ o => seq_ok o
theorem ss_one (h1 : PS X st (tS X.K W m1)) : PSs X [st] (tS X.K W m1) := pss_one h1
theorem ss_doc {x j pos'} : PS X (.Expr (.Constant (.str x) j pos) pos') (tS X.K W mNext) := ps_doc.imp fun D σ H => by
  rintro ⟨φ, env, h, hr, er, o⟩
  exact OkS.nx_here o hr er
def mSet (i : Nat) (m : ME) : MS := fun env h => (m env h).andS env fun v h1 => .nx (env.set i (some v)) h1
theorem set_ok {K : PySem.W.Frag} {i : Nat} {D : Ends} {σ : St} {H : Hp} {t : TE} (ht : ∀ σ H Q, tE K W ma σ H Q → t σ H Q) (o : tS K W (mSet i ma) D σ H) : tAsg t (gName i) D σ H := by
  obtain ⟨φ, env, h, hr, er, o⟩ := o
  refine ht _ _ _ (tS_step hr er o fun φ1 H1 h1 x u k1 hr1 er1 t1 o1 => ?_)
  exact OkS.nx_here o1 hr1 (er1.set t1)
theorem ss_set {i : Nat} {x : Str} {pos' : Pos} (hN : X.N.Nodup) (hi : X.N[i]? = some x) (hx : Loc X.env.scope x) (he : PE X e (tE X.K W ma)) (hs : swapsWith e (some (.Name x pos')) pos.line X.env = pure false := by rfl) (hf : X.fn x = true ∨ X.env.scope.names.lookup x = some .local := by first | exact .inl rfl | exact .inr rfl | assumption) :
    PS X (.Assign [.Name x pos'] e pos) (tS X.K W (mSet i ma)) := (ps_set hN hi hx he hs hf).imp fun _ _ _ o => set_ok (fun _ _ _ q => q) o
/-- name = [.. for ..] -/
theorem ss_setLc {i : Nat} {y : Str} {py spos : Pos} {elt tg iter : Expr} {ifs : List Expr} {scope : Scope} {own : List (Str × Nat)} {g : TG} {mg : MG} {mi : MI} {c : MT} {m : ME} (hc : X.calm = true) (hN : X.N.Nodup) (hy : X.N[i]? = some y) (hyl : X.env.scope.names.lookup y = some .local)
    (hsw : swapsWith (.ListComp elt [⟨tg, iter, ifs, 0⟩] scope pos) (some (.Name y py)) spos.line X.env = pure true) (hi : PI X tg iter (tI X.K W mi)) (ok : BlkOk X.N X.env.scope scope own)
    (hg : ∀ (s : Shared) (H : Hp) (C : Addr) (cl : List (Str × Addr)) (fp : List Addr), PG (X.blk s H scope (compEnvC scope cl C X.env) fp) tg g) (hgm : GOk X.K g (own.map (·.2)) mg) (ht : ∀ (s : Shared) (H : Hp) (C : Addr) (cl : List (Str × Addr)) (fp : List Addr), PTs (X.blk s H scope (compEnvC scope cl C X.env) fp) ifs (tT X.K W0 c))
    (he : ∀ (s : Shared) (H : Hp) (C : Addr) (cl : List (Str × Addr)) (fp : List Addr), PE (X.blk s H scope (compEnvC scope cl C X.env) fp) elt (tE X.K W0 m)) (hs : ∀ x, foldedSetIterable iter X.env x = pure x := by intro _; rfl) :
    PS X (.Assign [.Name y py] (.ListComp elt [⟨tg, iter, ifs, 0⟩] scope pos) spos) (tS X.K W (mSet i (mLc mi mg c m (own.map (·.2))))) :=
  (ps_setLc (wi := tI X.K W mi) (tt := tT X.K W0 c) (te := tE X.K W0 m) hc hN hy hyl hsw hi ok hg ht he hs).imp fun _ _ _ o => set_ok (fun _ _ _ q => tLc_of hgm q) o
/-- a, b = e -/
def mAsg (mg : MG) (m : ME) : MS := fun env h => (m env h).andS env fun v h1 => match mg v env with
  | some env' => .nx env' h1
  | none => .bad
theorem ss_asg {tg : Expr} {g : TG} {mg : MG} {own : List Nat} (he : PE X e (tE X.K W ma)) (hg : PG X tg g) (hgm : GOk X.K g own mg) (hs : swapsWithSole [tg] e pos.line X.env = pure false := by rfl) (hw : swappedStores [tg] e X.env = pure none := by rfl)
    (h1 : (assignEach [tg] X.env).map (·.2) = [assign tg X.env] := by rfl) : PS X (.Assign [tg] e pos) (tS X.K W (mAsg mg ma)) := (ps_asg he hg hs hw h1).imp fun D σ H => by
  rintro ⟨φ, env, h, hr, er, o⟩
  refine tS_step hr er o fun φ1 H1 h1 x u k1 hr1 er1 t1 o1 => ?_
  cases q : mg x env with
  | none => simp only [q] at o1; exact o1.elim
  | some env' =>
    simp only [q] at o1
    exact hgm.run φ1 H1 σ env x u env' _ er1 t1 q fun σ' er' _ => OkS.nx_here o1 hr1 er'
/-- a, b = (x, y) -/
def mPar (i j : Nat) (r : MA) : MS := fun env h => (r env h).andS env fun xs h1 => match xs with
  | [x, y] => .nx ((env.set i (some x)).set j (some y)) h1
  | _ => .bad
theorem ss_par {i j : Nat} {x y : Str} {px py pt : Pos} {kt k2 pt2} (hc : X.calm = true) (hN : X.N.Nodup) (hi : X.N[i]? = some x) (hj : X.N[j]? = some y) (hij : i ≠ j)
    (hx : X.env.scope.names.lookup x = some .local) (hy : X.env.scope.names.lookup y = some .local) (ha : PA X [a, b] (tA X.K W mr))
    (hw : swappedStores [.Tuple [.Name x px, .Name y py] kt pt] (.Tuple [a, b] k2 pt2) X.env = pure (some [x, y]))
    (hs : swapsWithSole [.Tuple [.Name x px, .Name y py] kt pt] (.Tuple [a, b] k2 pt2) pos.line X.env = pure false := by rfl) :
    PS X (.Assign [.Tuple [.Name x px, .Name y py] kt pt] (.Tuple [a, b] k2 pt2) pos) (tS X.K W (mPar i j mr)) := (ps_par hc hN hi hj hij hx hy ha hw hs).imp fun D σ H => by
  rintro ⟨φ, env, h, hr, er, o⟩
  refine tS_step hr er o fun φ1 H1 h1 xs us k1 hr1 er1 t1 o1 => ?_
  split at o1
  · rename_i x y
    obtain ⟨u, v, rfl, t, t'⟩ := two_of t1
    exact ⟨u, v, rfl, OkS.nx_here o1 hr1 ((er1.set t).set t')⟩
  · exact o1.elim
/-- xs[i] = v -/
def mStore (m mo mi : ME) : MS := fun env h => (m env h).andS env fun v h1 => (mo env h1).andS env fun o h2 => (mi env h2).andS env fun i h3 => match o, i with
  | .ref n, .int k => match lstOf h3 n with
    | some xs => match ixN xs.length k with
      | some j => .nx env (h3.set n (.lst (xs.set j v)))
      | none => .bad
    | none => .bad
  | _, _ => .bad
theorem ss_store {o i : Expr} {tpos : Pos} (he : PE X e (tE X.K W ma)) (ho : PE X o (tE X.K W mb)) (hi : PE X i (tE X.K W mc))
    (ha : ∀ v, assign (.Subscript o i tpos) X.env v = (do
      let ov ← holding [v] (eval o X.env)
      let iv ← holding [v, ov] (eval i X.env)
      standAt tpos
      holding [v, ov, iv] (setItem ov iv v)
      release [v, ov, iv] []) := by intro _; rfl) (hs : swapsWithSole [.Subscript o i tpos] e pos.line X.env = pure false := by rfl) (hw : swappedStores [.Subscript o i tpos] e X.env = pure none := by rfl)
    (h1 : (assignEach [.Subscript o i tpos] X.env).map (·.2) = [assign (.Subscript o i tpos) X.env] := by rfl) : PS X (.Assign [.Subscript o i tpos] e pos) (tS X.K W (mStore ma mb mc)) := (ps_asg he (pg_sub ho hi set_list ha) hs hw h1).imp fun D σ H => by
  rintro ⟨φ, env, h, hr, er, o⟩
  refine tS_step hr er o fun φ1 H1 h1 x u k1 hr1 er1 t1 o1 => ?_
  refine tS_step hr1 er1 o1 fun φ2 H2 h2 y v k2 hr2 er2 t2 o2 => ?_
  refine tS_step hr2 er2 o2 fun φ3 H3 h3 z w k3 hr3 er3 t3 o3 => ?_
  split at o3
  · rename_i n k
    have t2' := t2.keep k3
    cases t2' with
    | @ref _ p ea =>
      cases t3
      split at o3
      · rename_i xs q
        split at o3
        · rename_i j q2
          obtain ⟨e1, vs, e2, ts⟩ := lst_of hr3 ea q
          have hz : xs.length ≤ sizeLine := by
            have := hr3.at_ n p _ ea e1
            exact this.1
          refine ⟨p, vs, k, j, rfl, rfl, e2, by rw [ts.length]; exact q2, ?_⟩
          exact o3 φ3 σ _ (Keep.put (List.mem_of_getElem? ea) e2) (hr3.put ea e1 e2 (by simpa using hz) (IsVs.set ((t1.keep k2).keep k3) j ts)) (er3.keep (Keep.put (List.mem_of_getElem? ea) e2))
        · exact o3.elim
      · exact o3.elim
  · exact o3.elim
def mDrop (m : ME) : MS := fun env h => (m env h).andS env fun _ h1 => .nx env h1
theorem ss_expr (he : PE X e (tE X.K W ma)) (hs : swapsWith e none pos.line X.env = pure false := by rfl) : PS X (.Expr e pos) (tS X.K W (mDrop ma)) := (ps_expr he hs).imp fun D σ H => by
  rintro ⟨φ, env, h, hr, er, o⟩
  exact tS_step hr er o fun φ1 H1 h1 x u k1 hr1 er1 t1 o1 => OkS.nx_here o1 hr1 er1
def mRet (m : ME) : MS := fun env h => (m env h).andS env fun v h1 => .rt v h1
theorem ss_ret (he : PE X e (tE X.K W ma)) : PS X (.Return (some e) pos) (tS X.K W (mRet ma)) := (ps_ret he).imp fun D σ H => by
  rintro ⟨φ, env, h, hr, er, o⟩
  exact tS_step hr er o fun φ1 H1 h1 x u k1 hr1 er1 t1 o1 => o1 φ1 H1 u Keep.refl hr1 t1
def mRetN : MS := fun env h => .rt .non h
theorem ss_retN : PS X (.Return none pos) (tS X.K W mRetN) := ps_retN.imp fun D σ H => by
  rintro ⟨φ, env, h, hr, er, o⟩
  exact o φ H .non Keep.refl hr .non
def mIfS (t : MT) (m1 m2 : MS) : MS := fun env h => (t env h).andS env fun b h1 => if b = true then m1 env h1 else m2 env h1
theorem ss_if {c : Expr} {s1 s2 : List Stmt} {t : MT} (hc : PT X c (tT X.K W t)) (ha : PSs X s1 (tS X.K W m1)) (hb : PSs X s2 (tS X.K W m2)) : PS X (.If c s1 s2 pos) (tS X.K W (mIfS t m1 m2)) := (ps_if hc ha hb).imp fun D σ H => by
  rintro ⟨φ, env, h, hr, er, o⟩
  refine tS_step hr er o fun φ1 H1 h1 x u k1 hr1 er1 t1 o1 => ?_
  cases t1
  cases x with
  | true => rw [if_pos rfl]; exact ⟨φ1, env, h1, hr1, er1, o1⟩
  | false => rw [if_neg Bool.false_ne_true]; exact ⟨φ1, env, h1, hr1, er1, o1⟩
def mBreak : MS := fun env h => .bk env h
def mCont : MS := fun env h => .ct env h
theorem ss_break : PS X (.Break pos) (tS X.K W mBreak) := ps_break.imp fun D σ H => by
  rintro ⟨φ, env, h, hr, er, o⟩
  exact o φ σ H Keep.refl hr er
theorem ss_cont : PS X (.Continue pos) (tS X.K W mCont) := ps_continue.imp fun D σ H => by
  rintro ⟨φ, env, h, hr, er, o⟩
  exact o φ σ H Keep.refl hr er
theorem ss_pass : PS X (.Pass pos) (tS X.K W mNext) := ps_pass.imp fun D σ H => by
  rintro ⟨φ, env, h, hr, er, o⟩
  exact o φ σ H Keep.refl hr er

/-! ### loops -/
/-- what a turn's body leaves: on with k, out, or away -/
def S.turn (r : S) (k : MS) : S := match r with
  | .nx e h => k e h
  | .ct e h => k e h
  | .bk e h => .nx e h
  | r => r
def forGo (it : MIt) (tg : MG) (body : MS) : Nat → Nat → MS
  | 0, _, _, _ => .bad
  | n + 1, i, env, h => match it i h with
    | .stop => .nx env h
    | .bad => .bad
    | .item x => match tg x env with
      | none => .bad
      | some env' => (body env' h).turn (forGo it tg body n (i + 1))
noncomputable def mFor (mi : MI) (tg : MG) (body : MS) : MS := fun env h => (mi env h).andS env fun it h1 => forGo it tg body fuel 0 env h1
theorem turn_ok {K : PySem.W.Frag} {φ : List Addr} {H : Hp} {r : S} {k : MS} {D : Ends} {N : St → Hp → Prop} (o : OkS K W φ H (r.turn k) D) (hn : ∀ φ' σ' H' env' h', Keep φ H φ' H' → HR K φ' H' h' → ER K φ' H' σ' env' → OkS K W φ' H' (k env' h') D → N σ' H') :
    OkS K W φ H r { D with nx := N, ct := N, bk := D.nx } := by
  cases r with
  | nx e h' => exact fun φ' σ' H' k' r t => hn φ' σ' H' e h' k' r t (OkS.mono o k')
  | ct e h' => exact fun φ' σ' H' k' r t => hn φ' σ' H' e h' k' r t (OkS.mono o k')
  | bk e h' => exact o
  | rt v h' => exact o
  | exc x e h' => exact o
  | bad => exact o
theorem ss_for {tg iter : Expr} {body : List Stmt} {g : TG} {mg : MG} {own : List Nat} {mi : MI} {mbd : MS} (hp : PassesOwn (model X.prog X.w) X.A X.env X.xe) (hc : X.calm = true) (hi : PI X tg iter (tI X.K W mi)) (hg : PG X tg g) (hgm : GOk X.K g own mg) (hb : PSs X body (tS X.K W mbd)) (hs : ∀ x, foldedSetIterable iter X.env x = pure x := by intro _; rfl) :
    PS X (.For tg iter body [] pos) (tS X.K W (mFor mi mg mbd)) := (ps_for hp hc hi hg hb hs).imp fun D σ H => by
  rintro ⟨φ, env, h, hr, er, o⟩
  refine tS_step hr er o fun φ1 H1 h1 it J k1 hr1 er1 hw o1 => ?_
  refine ⟨fun i n σ H => ∃ φ env h, Keep φ1 H1 φ H ∧ HR X.K φ H h ∧ ER X.K φ H σ env ∧ OkS X.K W φ H (forGo it mg mbd n i env h) D, ⟨fuel, φ1, env, h1, Keep.refl, hr1, er1, o1⟩, ?_⟩
  rintro i n σ H ⟨φ, env, h, k, hr, er, o⟩
  cases n with
  | zero => exact o.elim
  | succ n =>
    unfold forGo at o
    cases e : it i h with
    | bad => simp only [e] at o; exact o.elim
    | stop =>
      simp only [e] at o
      exact .inl ⟨hw.stop φ H h i k hr e, OkS.nx_here o hr er⟩
    | item x =>
      simp only [e] at o
      obtain ⟨hgo, hy⟩ := hw.go φ H h i x k hr e
      refine .inr ⟨hgo, fun σ H => ∃ φ env h, Keep φ1 H1 φ H ∧ HR X.K φ H h ∧ ER X.K φ H σ env ∧ OkS X.K W φ H (forGo it mg mbd n (i + 1) env h) D, fun σ' H' q => ⟨n, Nat.lt_succ_self n, q⟩, fun u H' y => ?_⟩
      obtain ⟨k2, hr2, t2⟩ := hy u H' y
      cases et : mg x env with
      | none => simp only [et] at o; exact o.elim
      | some env' =>
        simp only [et] at o
        refine hgm.run φ H' σ env x u env' _ (er.keep k2) t2 et fun σ2 er3 _ => ⟨φ, env', h, hr2, er3, ?_⟩
        exact turn_ok (OkS.mono o k2) fun φ' σ' H'' e' h' k' hr' er' o' => ⟨φ', e', h', (k.trans k2).trans k', hr', er', o'⟩
def whileGo (t : MT) (body : MS) : Nat → MS
  | 0, _, _ => .bad
  | n + 1, env, h => (t env h).andS env fun b h1 => if b = true then (body env h1).turn (whileGo t body n) else .nx env h1
noncomputable def mWhile (t : MT) (body : MS) : MS := whileGo t body fuel
theorem ss_while {c : Expr} {body : List Stmt} {t : MT} {mbd : MS} (hp : PassesOwn (model X.prog X.w) X.A X.env X.xe) (hc : PT X c (tT X.K W t)) (hb : PSs X body (tS X.K W mbd)) : PS X (.While c body [] pos) (tS X.K W (mWhile t mbd)) := (ps_while hp hc hb).imp fun D σ H => by
  rintro ⟨φ, env, h, hr, er, o⟩
  refine ⟨fun n σ H => ∃ φ env h, HR X.K φ H h ∧ ER X.K φ H σ env ∧ OkS X.K W φ H (whileGo t mbd n env h) D, ⟨fuel, φ, env, h, hr, er, o⟩, ?_⟩
  rintro n σ H ⟨φ, env, h, hr, er, o⟩
  cases n with
  | zero => exact o.elim
  | succ n =>
    unfold whileGo at o
    refine tS_step hr er o fun φ1 H1 h1 x u k1 hr1 er1 t1 o1 => ?_
    cases t1
    cases x with
    | false => rw [if_neg Bool.false_ne_true]; exact OkS.nx_here o1 hr1 er1
    | true =>
      rw [if_pos rfl]
      refine ⟨fun σ H => ∃ φ env h, HR X.K φ H h ∧ ER X.K φ H σ env ∧ OkS X.K W φ H (whileGo t mbd n env h) D, fun σ' H' q => ⟨n, Nat.lt_succ_self n, q⟩, φ1, env, h1, hr1, er1, ?_⟩
      exact turn_ok o1 fun φ' σ' H'' e' h' k' hr' er' o' => ⟨φ', e', h', hr', er', o'⟩
end

/-! ### defs -/
def mDef (np N : Nat) (body : MS) : List MV → MH → R MV := fun xs h => if xs.length = np then match body (xs.map some ++ List.replicate (N - np) none) h with
    | .nx _ h' => .ok .non h'
    | .rt v h' => .ok v h'
    | .exc x _ h' => .exc x h'
    | _ => .bad
  else .bad
theorem ER.start {K : PySem.W.Frag} {φ : List Addr} {H : Hp} {N : List Str} {np : Nat} {xs : List MV} {vs : List V} (ts : IsVs K φ H xs vs) (hl : vs.length = np) : ER K φ H (L2.start N vs) (xs.map some ++ List.replicate (N.length - np) none) := by
  have e := ts.length
  refine ⟨by unfold L2.start; simp; omega, fun i x q => ?_⟩
  unfold L2.start
  by_cases hi : i < xs.length
  · rw [List.getElem?_append_left (by simpa using hi)] at q
    rw [List.getElem?_append_left (by simp; omega)]
    rw [List.getElem?_map] at q ⊢
    cases g : xs[i]? with
    | none => rw [g] at q; cases q
    | some y =>
      rw [g] at q
      cases q
      obtain ⟨v, e1, t⟩ := ts.get g
      exact ⟨v, by rw [e1]; rfl, t⟩
  · rw [List.getElem?_append_right (by simp; omega)] at q
    rw [List.getElem?_replicate] at q
    split at q <;> cases q
section
variable {P : Program} {w : World} {K : PySem.W.Frag} {mg : Str → Option Value} {base : Heap}
theorem def_ok {x qual : Str} {st : Stmt} {f : Addr} {fd : FuncData} {N ps : List Str} {k : Nat} {body : MS} (F : Fun K x qual st f fd) (S : FnScope N ps (defScope st))
    (hbody : ∀ (cdv : Value) (A : Around) (outer : List Env) (s : Shared) (H : Hp) (E : XK), Room k (A.deeper (envOfC qual (defScope st) s.heap.objs.size f cdv)) →
      PSs (cxOf CX0 P w K mg base N qual (defScope st) f cdv A outer s H E).nox (defBody st) (tS K W0 body)) : FnOk P w K mg base CX0 (k + 1) f fd ps (spM K ps.length (mDef ps.length N.length body)) := by
  refine F.ok S (fun vs H Q E h => h.1) fun cdv A outer s H vs Q E hr h => ⟨_, hbody cdv A outer s H E hr, ?_⟩
  obtain ⟨hl, φ, xs, h0, hr0, ts, o⟩ := h
  refine ⟨φ, _, h0, hr0, ER.start (N := N) ts hl, ?_⟩
  unfold mDef at o
  rw [if_pos (by rw [← ts.length]; exact hl)] at o
  cases q : body (xs.map some ++ List.replicate (N.length - ps.length) none) h0 with
  | nx e h' =>
    rw [q] at o
    exact fun φ' σ' H' k' hr' _ => o φ' H' .non k' hr' .non
  | rt v h' => rw [q] at o; exact fun φ' H' u k' hr' t => o φ' H' u k' hr' t
  | exc x e h' => rw [q] at o; exact fun φ' σ' H' k' hr' _ => o φ' H' k' hr'
  | bk e h' => rw [q] at o; exact o.elim
  | ct e h' => rw [q] at o; exact o.elim
  | bad => rw [q] at o; exact o.elim
/-- F may stand for G: what G's answer is fit for, F's is -/
def Sim (h : MH) (r r' : R MV) : Prop := ∀ (K : PySem.W.Frag) (Z : XW) (φ : List Addr) (H : Hp) (Q : VK), HR K φ H h → OkG K (IsV K) Z φ H r' Q → OkG K (IsV K) Z φ H r Q
theorem Sim.refl {h : MH} {r : R MV} : Sim h r r := fun _ _ _ _ _ _ o => o
theorem Sim.bad {h : MH} {r : R MV} : Sim h r .bad := fun _ _ _ _ _ _ o => o.elim
theorem def_as {f : Addr} {fd : FuncData} {ps : List Str} {k np : Nat} {F G : List MV → MH → R MV} (hF : FnOk P w K mg base CX0 k f fd ps (spM K np F)) (hs : ∀ xs h, xs.length = np → Sim h (F xs h) (G xs h)) : FnOk P w K mg base CX0 k f fd ps (spM K np G) :=
  hF.imp fun vs H Q E => by
    rintro ⟨hl, φ, xs, h, hr, ts, o⟩
    exact ⟨hl, φ, xs, h, hr, ts, hs xs h (by rw [← ts.length]; exact hl) K _ φ H Q hr o⟩
end
end Mv

set_option maxHeartbeats 4000000
namespace Mv
open PySem PySem.Spec L2
open PyProof.Rows hiding St

/-! ### what lies below a heap's length -/
mutual
def MV.und (n : Nat) : MV → Prop
  | .ref k => k < n
  | .tup xs => MV.unds n xs
  | _ => True
def MV.unds (n : Nat) : List MV → Prop
  | [] => True
  | x :: xs => MV.und n x ∧ MV.unds n xs
end
theorem unds_iff {n : Nat} : ∀ {xs : List MV}, MV.unds n xs ↔ ∀ x ∈ xs, MV.und n x
  | [] => by simp [MV.unds]
  | x :: xs => by simp [MV.unds, unds_iff (xs := xs)]
mutual
theorem IsV.und {K : PySem.W.Frag} {φ : List Addr} {H : Hp} : ∀ {x : MV} {v : V}, IsV K φ H x v → MV.und φ.length x
  | _, _, .non => by simp [MV.und]
  | _, _, .bl b => by simp [MV.und]
  | _, _, .int i => by simp [MV.und]
  | _, _, .str s => by simp [MV.und]
  | _, _, .ref e => by simp only [MV.und]; exact (List.getElem?_eq_some_iff.mp e).1
  | _, _, .tup h t => by simp only [MV.und]; exact IsVs.unds t
theorem IsVs.unds {K : PySem.W.Frag} {φ : List Addr} {H : Hp} : ∀ {xs : List MV} {vs : List V}, IsVs K φ H xs vs → MV.unds φ.length xs
  | _, _, .nil => by simp [MV.unds]
  | _, _, .cons h t => by simp only [MV.unds]; exact ⟨IsV.und h, IsVs.unds t⟩
end
mutual
theorem IsV.less {K : PySem.W.Frag} {φ : List Addr} {H : Hp} {n : Nat} : ∀ {x : MV} {v : V}, IsV K φ H x v → MV.und n x → IsV K (φ.take n) H x v
  | _, _, .non, _ => .non
  | _, _, .bl b, _ => .bl b
  | _, _, .int i, _ => .int i
  | _, _, .str s, _ => .str s
  | _, _, .ref e, h => .ref (by rw [List.getElem?_take_of_lt (by simpa [MV.und] using h)]; exact e)
  | _, _, .tup q t, h => .tup q (IsVs.less t (by simpa [MV.und] using h))
theorem IsVs.less {K : PySem.W.Frag} {φ : List Addr} {H : Hp} {n : Nat} : ∀ {xs : List MV} {vs : List V}, IsVs K φ H xs vs → MV.unds n xs → IsVs K (φ.take n) H xs vs
  | _, _, .nil, _ => .nil
  | _, _, .cons q t, h => by
    simp only [MV.unds] at h
    exact .cons (IsV.less q h.1) (IsVs.less t h.2)
end
def MO.und (n : Nat) : MO → Prop
  | .lst xs => MV.unds n xs
  | .frz xs => MV.unds n xs
  | _ => True
theorem OR.less {K : PySem.W.Frag} {φ : List Addr} {H : Hp} {n : Nat} {a : Addr} {o : MO} (r : OR K φ H a o) (h : MO.und n o) : OR K (φ.take n) H a o := by
  cases o with
  | lst xs => obtain ⟨l, vs, e, t⟩ := r; exact ⟨l, vs, e, t.less h⟩
  | frz xs => obtain ⟨l, ob, vs, e, t⟩ := r; exact ⟨l, ob, vs, e, t.less h⟩
  | dct _ => exact r.elim
  | ins _ _ => exact r.elim
theorem OR.und {K : PySem.W.Frag} {φ : List Addr} {H : Hp} {a : Addr} {o : MO} (r : OR K φ H a o) : MO.und φ.length o := by
  cases o with
  | lst xs => obtain ⟨l, vs, e, t⟩ := r; exact t.unds
  | frz xs => obtain ⟨l, ob, vs, e, t⟩ := r; exact t.unds
  | dct _ => exact r.elim
  | ins _ _ => exact r.elim
def Below (n : Nat) (h : MH) : Prop := ∀ o ∈ h, MO.und n o
theorem HR.below {K : PySem.W.Frag} {φ : List Addr} {H : Hp} {h : MH} (r : HR K φ H h) : Below h.length h := fun o ho => by
  obtain ⟨n, e⟩ := List.mem_iff_getElem?.mp ho
  obtain ⟨a, ea⟩ := r.addr e
  rw [← r.len]
  exact (r.at_ n a o ea e).und
/-- the end of a small heap is forgotten -/
theorem HR.forget {K : PySem.W.Frag} {φ : List Addr} {H : Hp} {h g : MH} (r : HR K φ H (h ++ g)) (b : Below h.length h) : HR K (φ.take h.length) H h := by
  have hl := r.len
  rw [List.length_append] at hl
  refine ⟨by rw [List.length_take]; omega, r.nd.sublist (List.take_sublist _ _), fun n a o e1 e2 => ?_⟩
  have hn := (List.getElem?_eq_some_iff.mp e2).1
  rw [List.getElem?_take_of_lt hn] at e1
  exact (r.at_ n a o e1 (by rw [List.getElem?_append_left hn]; exact e2)).less (b o (List.mem_of_getElem? e2))
theorem Keep.forget {φ φ' : List Addr} {H H' : Hp} {n : Nat} (k : Keep φ H φ' H') (h : φ.length ≤ n) : Keep φ H (φ'.take n) H' := by
  obtain ⟨mo, rfl, f⟩ := k.ext
  refine ⟨⟨mo.take (n - φ.length), ?_, fun b hb => f b (List.mem_of_mem_take hb)⟩, k.dom, k.out, k.tup, k.frz⟩
  rw [List.take_append, List.take_of_length_le h]
/-- what a call leaves behind is forgotten: its answer holds no new object -/
theorem sim_drop {h h2 g : MH} {v : MV} (hl : h2.length = h.length) (hb : Below h.length h → Below h.length h2) (bv : MV.und h.length v) : Sim h (.ok v (h2 ++ g)) (.ok v h2) := by
  intro K Z φ H Q hr o φ' H' u k hr' t
  have b2 := hb hr.below
  refine o (φ'.take h2.length) H' u (k.forget (by rw [hr.len, hl]; exact Nat.le_refl _)) (hr'.forget (by rw [hl]; exact b2)) (t.less (by rw [hl]; exact bv))
theorem sim_drop0 {h g : MH} {v : MV} (bv : MV.und h.length v) : Sim h (.ok v (h ++ g)) (.ok v h) := sim_drop rfl id bv
/-- the answer is one new list -/
theorem sim_list {h h2 g : MH} {n : Nat} {xs : List MV} (hl : h2.length = h.length) (hb : Below h.length h → Below h.length h2) (e : (h2 ++ g)[n]? = some (.lst xs)) (hn : h.length ≤ n) (bx : MV.unds h.length xs) : Sim h (.ok (.ref n) (h2 ++ g)) (.ok (.ref h.length) (h2 ++ [.lst xs])) := by
  intro K Z φ H Q hr o φ' H' u k hr' t
  have b2 := hb hr.below
  cases t with
  | @ref _ p ep =>
    have hw := hr'.at_ n p _ ep e
    obtain ⟨l, vs, e1, ts⟩ := hw
    have hlen := hr'.len
    rw [List.length_append] at hlen
    have k0 : Keep φ H (φ'.take h2.length) H' := k.forget (by rw [hr.len, hl]; exact Nat.le_refl _)
    have r0 := hr'.forget (h := h2) (by rw [hl]; exact b2)
    have npt : p ∉ φ'.take h2.length := by
      intro z
      obtain ⟨m, em⟩ := List.mem_iff_getElem?.mp z
      have hm : m < h2.length := by
        have := (List.getElem?_eq_some_iff.mp em).1
        rw [List.length_take] at this
        omega
      rw [List.getElem?_take_of_lt hm] at em
      obtain ⟨g1, x1⟩ := List.getElem?_eq_some_iff.mp em
      obtain ⟨g2, x2⟩ := List.getElem?_eq_some_iff.mp ep
      have := (List.getElem_inj hr'.nd).mp (x1.trans x2.symm)
      omega
    have hp : H p = none := by
      obtain ⟨mo, e3, f⟩ := k.ext
      refine f p ?_
      have : φ'[n]? = some p := ep
      rw [e3, List.getElem?_append_right (by rw [hr.len]; exact hn)] at this
      exact List.mem_of_getElem? this
    refine o (φ'.take h2.length ++ [p]) H' (.ref p) (k0.adopt hp) (r0.adopt npt e1 l (ts.less (by rw [hl]; exact bx))) (.ref ?_)
    rw [← hl]
    exact lay_at r0
theorem sim_list0 {h g : MH} {n : Nat} {xs : List MV} (e : (h ++ g)[n]? = some (.lst xs)) (hn : h.length ≤ n) (bx : MV.unds h.length xs) : Sim h (.ok (.ref n) (h ++ g)) (.ok (.ref h.length) (h ++ [.lst xs])) := sim_list rfl id e hn bx
@[simp] theorem und_int (n : Nat) (i : Int) : MV.und n (.int i) := by simp [MV.und]
@[simp] theorem und_bl (n : Nat) (i : Bool) : MV.und n (.bl i) := by simp [MV.und]
@[simp] theorem und_non (n : Nat) : MV.und n .non := by simp [MV.und]
@[simp] theorem und_str (n : Nat) (i : Str) : MV.und n (.str i) := by simp [MV.und]
theorem unds_of {n : Nat} {xs : List MV} (h : ∀ x ∈ xs, MV.und n x) : MV.unds n xs := unds_iff.mpr h
theorem und_tup {n : Nat} {xs : List MV} (h : ∀ x ∈ xs, MV.und n x) : MV.und n (.tup xs) := by simp only [MV.und]; exact unds_of h

/-! ### a def as it stands -/
structure Def (P : Program) (w : World) (K : PySem.W.Frag) (mg : Str → Option Value) (base : Heap) (k : Nat) (x : Str) (np : Nat) (G : List MV → MH → R MV) : Prop where
  ex : ∃ f fd ps, FnOk P w K mg base CX0 k f fd ps (spM K np G) ∧ mg x = some (.ref f) ∧ PySem.W.keepIn K (.ref f) = true ∧ Binds K fd ps []
section
variable {P : Program} {w : World} {K : PySem.W.Frag} {mg : Str → Option Value} {base : Heap} {k np : Nat} {x : Str} {F G : List MV → MH → R MV}
theorem Def.as (d : Def P w K mg base k x np F) (hs : ∀ xs h, xs.length = np → Sim h (F xs h) (G xs h)) : Def P w K mg base k x np G := by
  obtain ⟨f, fd, ps, h1, h2, h3, h4⟩ := d.ex
  exact ⟨f, fd, ps, def_as h1 hs, h2, h3, h4⟩
end
section
variable {X : Cx} {W : WT} {pos : Pos} {a : Expr} {es : List Expr} {mr : MA} {ma : ME}
theorem se_do {k j np : Nat} {x : Str} {p : Pos} {F : List MV → MH → R MV} (D : Def X.prog X.w X.K X.mg X.base k x np F) (hr : Room j X.A) (hg : Gl X x) (ha : PA X (a :: es) (tA X.K W mr)) (hj : k ≤ j := by decide) (hd : (x == ("__debug__" : Str)) = false := by decide)
    (he : starEach (a :: es) X.env = (false, eval a X.env) :: starEach es X.env := by rfl) (hpl : (backTo pos (starEach es X.env)).any (·.1) = false := by rfl) : PE X (.Call (.Name x p) (a :: es) [] pos) (tE X.K W (mDo np F mr)) := by
  obtain ⟨f, fd, ps, h1, h2, h3, h4⟩ := D.ex
  exact se_call h1 (hr.mono hj) hg h2 h3 h4 ha hd he hpl
theorem hu65 {k : Nat} {A : Around} (r : Room k A) : A.units + 65 < cLine := by have := r.un; omega
def fNeg : MV → MH → R MV := fun x h => match x with
  | .int i => .ok (.int (-i)) h
  | _ => .bad
def mNeg (m : ME) : ME := fun env h => (m env h).bind fNeg
theorem se_neg (ha : PE X a (tE X.K W ma)) : PE X (.UnaryOp .USub a pos) (tE X.K W (mNeg ma)) := (pe_un un_neg ha).imp fun σ H Q => by
  rintro ⟨φ, env, h, hr, er, o⟩
  refine tG_step hr er o fun φ1 H1 h1 x u k1 hr1 er1 t1 o1 => ?_
  cases t1 with
  | int i => exact ⟨i, rfl, OkG.ok_here o1 hr1 (.int _)⟩
  | _ => exact o1.elim
end
end Mv

set_option maxHeartbeats 4000000
namespace PySem
open Sem (wp)
open AutoSeq1 (wpAny_loadPart')
/-- enumerate(v), one argument, of anything that begins -/
theorem mv_enumerate_new1 {v : Value} {o : Obj} {H : Heap → Prop} (B : Begins v o H) :
    Meets (Builtin.«enumerate.__new__» ⟨[.type "enumerate", v], []⟩) (fun _ R s => H s.heap ∧
      R (.ok (.ret (.ref (s.heap.push o).objs.size))) { s with heap := (s.heap.push o).push { cls := .type "enumerate", data := .fields #[.none, .bool false, .ref s.heap.objs.size, rawInt 0, .none, .none] } }) :=
  .of_wp fun prog w A R s h => by
    obtain ⟨hp, g, d, tk, os⟩ := s; obtain ⟨h1, h⟩ := h
    have hsub := sub_enumerate
    have q1 : ∀ {A' : Around} {E : Value → Shared → Prop} {Q : Value → Shared → Prop}, Q (.ref hp.objs.size) ⟨hp.push o, g, d, tk, os⟩ → wpAny (model prog w) A' (pyIter v) Q E ⟨hp, g, d, tk, os⟩ :=
      fun q => B.iter prog w _ _ ⟨hp, g, d, tk, os⟩ _ h1 q
    wp_walk using q1
    refine wpAny_stack_any fun st => wpAny_pure ?_
    split
    · rename_i c _ _ _ _ _
      cases (c == Value.type "enumerate")
      · wp_walk using q1
        exact ⟨_, rfl, h⟩
      · wp_walk using q1
        exact ⟨_, rfl, h⟩
    · wp_walk using q1
      exact ⟨_, rfl, h⟩
theorem mv_call_enumerate {prog : Program} {w : World} {A : Around} {E : Value → Shared → Prop} {s : Shared} {v : Value} {o : Obj} {H : Heap → Prop} {Q : Value → Shared → Prop} (B : Begins v o H) (h1 : H s.heap)
    (h : ∀ h', IsEnum h' (s.heap.objs.size + 1) s.heap.objs.size 0 .none → h'.get? s.heap.objs.size = some o → h'.objs.size = s.heap.objs.size + 2 →
      (∀ b o, s.heap.get? b = some o → h'.get? b = some o) → Q (.ref (s.heap.objs.size + 1)) { s with heap := h' }) :
    wpAny (model prog w) A (call (.type "enumerate") [v]) Q E s := by
  refine callType_new F.called_enumerate (by decide) (F.typeCall_enumerate_1 _) (F.newCall_enumerate_1 _) (fun obj => F.args_object_init_2 obj _) F.entry_enumerate_new
    (mv_enumerate_new1 B) ⟨h1, ?_⟩
  have hz : (s.heap.push o).objs.size = s.heap.objs.size + 1 := Heap.size_push ..
  show _ ∧ _
  rw [hz]
  have he : IsEnum ((s.heap.push o).push { cls := .type "enumerate", data := .fields #[.none, .bool false, .ref s.heap.objs.size, rawInt 0, .none, .none] }) (s.heap.objs.size + 1) s.heap.objs.size 0 .none := by
    have := Heap.get?_push_size (s.heap.push o) (o := { cls := .type "enumerate", data := .fields #[.none, .bool false, .ref s.heap.objs.size, rawInt 0, .none, .none] }) rfl
    rw [hz] at this; exact this
  refine ⟨⟨_, he, rfl⟩, h _ he (Heap.get?_push_of_some _ (Heap.get?_push_size _ B.free)) (by rw [Heap.size_push, hz]) fun b o x => Heap.get?_push_of_some _ (Heap.get?_push_of_some _ x)⟩
end PySem
namespace Mv
open PySem PySem.Spec L2
open PyProof.Rows hiding St

/-! ### enumerate of a tuple -/
def IteT (K : PySem.W.Frag) (a : Addr) : It :=
  ⟨fun i H => ∃ (xs : List V) (x : V), SqT K H a xs ∧ xs[i]? = some x, fun i H v H' => ∃ T x, v = .ref T ∧ H T = none ∧ H' = upd H T (.tup [.int (i : Nat), x]) ∧ ∀ xs, SqT K H a xs → xs[i]? = some x, fun i H => ∃ xs : List V, SqT K H a xs ∧ xs.length ≤ i⟩
theorem turn_enumT {P : Program} {w : World} {K : PySem.W.Frag} {elts : List Expr} {kk : Nat} {tpos : Pos} (a e it : Addr) :
    Turn P w K (.Tuple elts kk tpos) (IteT K a) [e, it] e (fun i h => (∃ old, IsEnum h e it ((i : Nat) : Int) old) ∧ h.IsTupleIter it a i ∧ e ≠ it) where
  mem := by simp
  obj := fun i h st b hb => by
    obtain ⟨⟨old, he⟩, ⟨o, ho, hc, hd⟩, _⟩ := st
    have e' : b = e ∨ b = it := by simpa using hb
    rcases e' with z | z
    · rw [z]; exact ⟨_, he, fun v q => nomatch q⟩
    · rw [z]; exact ⟨o, ho, fun v q => by rw [hd] at q; cases q⟩
  keep := fun i h h' st k => let ⟨⟨old, he⟩, hi, hne⟩ := st; ⟨⟨old, k e (by simp) _ he⟩, hi.at fun o q => k it (by simp) o q, hne⟩
  item := by
    intro X hP hw hK hc i pins s σ H E I hf st hg
    subst hP hw hK
    obtain ⟨⟨old, he⟩, hit, hne⟩ := st
    obtain ⟨xs, x, hq, hx⟩ := hg
    obtain ⟨its, rv, p, hz⟩ := I.tuple hq
    obtain ⟨u, hu, ru⟩ := rv.get hx
    have hel : e < s.heap.objs.size := Heap.lt_size he
    have hil : it < s.heap.objs.size := by obtain ⟨_, q, _⟩ := hit; exact Heap.lt_size q
    have hta : s.heap.IsTuple a its.toArray := p
    have nea : a ≠ it := fun z => by
      obtain ⟨o1, h1, h2, _⟩ := hit
      obtain ⟨o2, h3, h4, _⟩ := hta
      rw [z, h1] at h3; cases h3
      rw [h2] at h4
      injection h4 with h5
      exact absurd h5 (by decide)
    have nae : a ≠ e := fun z => by
      obtain ⟨o2, h3, h4, _⟩ := hta
      rw [z, he] at h3; cases h3
      injection h4 with h5
      exact absurd h5 (by decide)
    have hlt : i < its.toArray.size := by
      have := (List.getElem?_eq_some_iff.mp hu).1
      simpa using this
    refine wpAny_pyNext_enum_itemD (Draws.tuple (A := X.A.in1) (I.ok.hd hc) it a nea its.toArray) he ⟨hit, hta⟩ hlt hne (by simp [hne, Ne.symm nae]) fun x' h' tk hP ho hst' hT hsz hk => ?_
    have ex : x' = u := by
      have : its.toArray[i]? = some u := by simpa using hu
      rw [this] at hP; cases hP; rfl
    subst ex
    refine ⟨_, rfl, wpAny_letOwnedTupleGo_enum (s := { s with heap := h', toks := tk + 1 }) ho fun h'' he' sb => ?_⟩
    have hT2 : h''.get? s.heap.objs.size = some { cls := .type "tuple", data := .seq #[.int i tk, x'] } := (sb.2 _ (Nat.ne_of_gt hel)).trans hT
    have new : ObjOk X.prog X.w (upd H s.heap.objs.size (.tup [.int (i : Nat), x])) h'' s.heap.objs.size (.tup [.int (i : Nat), x]) :=
      ⟨by show 2 ≤ sizeLine; decide, [.int i tk, x'], .cons ⟨_, rfl⟩ (.cons ru .nil), ⟨_, hT2, rfl, _, rfl⟩⟩
    have I1 : Inv X pins σ (upd H s.heap.objs.size (.tup [.int (i : Nat), x])) { s with heap := h'', toks := tk + 1 } :=
      I.turnedNew (ch := [e, it]) (fun b ob hb q => (sb.2 b (fun z => hb (by simp [z]))).trans (hk b ob (fun z => hb (by simp [z])) (fun z => hb (by simp [z])) q)) hf (Nat.le_refl _) new
    refine ⟨.ref s.heap.objs.size, _, I1, rfl, ⟨_, x, rfl, I.hok.fresh (Nat.le_refl _), rfl, fun ys hy => by rw [I.tuple_inj hy hq]; exact hx⟩, ⟨⟨x', ?_⟩, hst'.1.at fun o q => (sb.2 it (Ne.symm hne)).trans q, hne⟩, fun b hb => ?_⟩
    · have e1 : ((i + 1 : Nat) : Int) = (i : Int) + 1 := by omega
      rw [e1]; exact he'
    · have hb' : b < s.heap.objs.size := by
        have e' : b = e ∨ b = it := by simpa using hb
        rcases e' with z | z
        · rw [z]; exact hel
        · rw [z]; exact hil
      rw [upd_ne (Nat.ne_of_lt hb')]
      exact (hf b hb).1
  done := by
    intro X hP hw hK hc i pins s σ H E I hf st hg
    subst hP hw hK
    obtain ⟨⟨old, he⟩, hit, hne⟩ := st
    obtain ⟨xs, hq, hx⟩ := hg
    obtain ⟨its, rv, p, hz⟩ := I.tuple hq
    obtain ⟨f0, f1, f2, f3, f4, f5⟩ := hf it (by simp)
    have hl := rv.length
    have hta : s.heap.IsTuple a its.toArray := p
    have hD : wpAny (model X.prog X.w) X.A (pyNext (.ref e)) (fun r s1 => r = none ∧ Inv X pins σ H s1) E s := by
      unfold pyNext
      have hT : s.TypeIs (.ref e) "enumerate" := ⟨_, he, rfl⟩
      refine wpAny_bind (wpAny_attempt (wpAny_callSpecial?_slot (name := Str.ofString "__next__") hT F.slot_enumerate_next
        (wpAny_call_entry F.slot_enumerate_next hT F.entry_enumerate_next ?_ (F.args_enumerate_next_1 _))))
      show wpAny _ _ (field (.ref e) 2 >>= _) _ _ _
      refine wpAny_bind (wpAny_field he rfl (x := .ref it) rfl ?_)
      refine wpAny_bind (wpAny_nextOf_tuple_end (A := X.A.in1) (I.ok.hd hc) hit hta (by simp; omega) fun h' x he' hx' => ?_)
      obtain ⟨o, ho, hc'⟩ := hx'
      refine wpAny_bind (wpAny_isInstance (T := "StopIteration") (b := true) ⟨o, ho, hc'⟩ isSubtype_stop ?_)
      exact wpAny_pure ⟨rfl, I.turned (t' := s.toks) (fun b o hb q => he' b o hb q) f0 f1 f3 f4 f5⟩
    exact hD
  self := fun A i s Q E st h => let ⟨⟨_, he⟩, _⟩ := st; wpAny_pyIter_enum he h
theorem walksET {K : PySem.W.Frag} {φ0 : List Addr} {H0 : Hp} {xs : List MV} {vs : List V} {a : Addr} (ha : SqT K H0 a vs) (ts : IsVs K φ0 H0 xs vs) : WalksM K (IteT K a) (itE (itT xs)) φ0 H0 := by
  constructor
  · intro φ H h i x k hr e
    unfold itE at e
    cases q0 : itT xs i h with
    | item y =>
      simp only [q0] at e
      cases e
      obtain ⟨v, e1, t⟩ := (ts.keep k).get (nx_item q0)
      refine ⟨⟨vs, v, k.sqT ha, e1⟩, fun u H' z => ?_⟩
      obtain ⟨T, x', rfl, hT, rfl, z⟩ := z
      have e2 := z vs (k.sqT ha)
      rw [e1] at e2
      cases e2
      exact ⟨Keep.new hT, hr.new hT, .tup (SqT.of upd_same) (.cons (.int _) (.cons (t.keep (Keep.new hT)) .nil))⟩
    | stop => simp only [q0] at e; cases e
    | bad => simp only [q0] at e; cases e
  · intro φ H h i k hr e
    unfold itE at e
    cases q0 : itT xs i h with
    | item y => simp only [q0] at e; cases e
    | stop => exact ⟨vs, k.sqT ha, by rw [ts.length]; exact nx_stop q0⟩
    | bad => simp only [q0] at e; cases e
section
variable {X : Cx} {W : WT} {pos : Pos} {a b c : Expr} {ma mb mc : ME} {es : List Expr} {mr : MA} {tg : Expr}
/-- enumerate of a list or a tuple -/
def mEnumV (r : MA) : MI := fun env h => (r env h).bind fun xs h1 => match xs with
  | [.tup xs] => .ok (itE (itT xs)) h1
  | [.ref n] => match itemsOf h1 (.ref n) with
    | some _ => .ok (itE (itL n)) h1
    | none => .bad
  | _ => .bad
theorem si_enumV {p tpos : Pos} {elts : List Expr} {kk : Nat} (hg : Gl X "enumerate") (hm : X.mg "enumerate" = none) (ha : PA X [a] (tA X.K W mr)) (hs : starEach [a] X.env = [(false, eval a X.env)] := by rfl) :
    PI X (.Tuple elts kk tpos) (.Call (.Name "enumerate" p) [a] [] pos) (tI X.K W (mEnumV mr)) := by
  have q : PI X (.Tuple elts kk tpos) (.Call (.Name "enumerate" p) [a] [] pos) (fun σ H R => tA X.K W mr σ H fun vs H1 => ∃ q, vs = [.ref q] ∧ (((∃ xs, SqL X.K H1 q xs) ∧ R (Ite X.K q) H1) ∨ ((∃ xs, SqT X.K H1 q xs) ∧ R (IteT X.K q) H1))) := by
    refine ⟨fun pins s σ H R I h => ?_⟩
    refine Call_ (ld_blt I hg hm boot_enumerate (PyProof.Rows.callWith_type1 (thn (ha.run pos pins s σ H _ I h) fun us s1 ⟨vs, H1, I1, r1, q1⟩ => ?_) hs rfl))
    obtain ⟨a, ex, q⟩ := q1
    subst ex
    cases r1 with
    | cons r rr =>
      cases rr
      cases r
      have fin : ∀ b, b = s1.heap.objs.size + 1 ∨ b = s1.heap.objs.size → s1.heap.objs.size ≤ b := fun b e' => by
        rcases e' with z | z
        · rw [z]; exact Nat.le_add_right _ _
        · rw [z]; exact Nat.le_refl _
      rcases q with ⟨⟨xs, hq⟩, q⟩ | ⟨⟨xs, hq⟩, q⟩
      · obtain ⟨its, rv, p', hz⟩ := I1.list hq
        refine call_enumerate_list p'.isList fun h' he hit hsz hk => wpAny_pyIter_enum he ?_
        have I2 : Inv X pins σ H1 { s1 with heap := h' } := I1.kept (t' := s1.toks) hk
        refine ⟨s1.heap.objs.size + 1, [s1.heap.objs.size + 1, s1.heap.objs.size], _, _, H1, rfl, I2, turn_enum a (s1.heap.objs.size + 1) s1.heap.objs.size, ⟨⟨.none, he⟩, hit, Nat.succ_ne_self _⟩, fun b hb => ?_, q⟩
        have hle := fin b (by simpa using hb)
        exact I1.fpOk hle (I1.hok.fresh hle)
      · obtain ⟨its, rv, p', hz⟩ := I1.tuple hq
        have hta : s1.heap.IsTuple a its.toArray := p'
        refine mv_call_enumerate (begins_tuple a its.toArray) hta fun h' he hit hsz hk => wpAny_pyIter_enum he ?_
        have I2 : Inv X pins σ H1 { s1 with heap := h' } := I1.kept (t' := s1.toks) hk
        refine ⟨s1.heap.objs.size + 1, [s1.heap.objs.size + 1, s1.heap.objs.size], _, _, H1, rfl, I2, turn_enumT a (s1.heap.objs.size + 1) s1.heap.objs.size, ⟨⟨.none, he⟩, ⟨_, hit, rfl, rfl⟩, Nat.succ_ne_self _⟩, fun b hb => ?_, q⟩
        have hle := fin b (by simpa using hb)
        exact I1.fpOk hle (I1.hok.fresh hle)
  refine q.imp fun σ H R => ?_
  rintro ⟨φ, env, h, hr, er, o⟩
  refine tG_step hr er o fun φ1 H1 h1 xs us k1 hr1 er1 t1 o1 => ?_
  split at o1
  · rename_i xs
    obtain ⟨u, rfl, t⟩ := one_of t1
    cases t with
    | @tup p vs _ hq ts => exact ⟨p, rfl, .inr ⟨⟨vs, hq⟩, OkG.ok_here o1 hr1 (walksET hq ts)⟩⟩
  · rename_i n
    obtain ⟨u, rfl, t⟩ := one_of t1
    cases t with
    | @ref _ p ea =>
      split at o1
      · rename_i xs q
        obtain ⟨vs, hs, ts⟩ := items_list hr1 ea q
        exact ⟨p, rfl, .inl ⟨⟨vs, hs⟩, OkG.ok_here o1 hr1 (walksE ea)⟩⟩
      · exact o1.elim
  · exact o1.elim
theorem os_pow : OpF X.K (rI CPow fun i j => .int (i ^ j.toNat)) fPow := opF_I (fun i j => .int (i ^ j.toNat)) (fun _ _ _ _ => .int _) fun i j H Q c q => by
  have c := of_decide_eq_true c
  exact ⟨i, j, rfl, rfl, ⟨by omega, by omega, by omega⟩, q⟩

/-! ### more methods of lists -/
/-- the first place of d -/
def findAt (d : PyData) : Nat → List PyData → Option Nat
  | _, [] => none
  | i, z :: r => if PyData.eqv z d = true then some i else findAt d (i + 1) r
theorem findAt_spec {d : PyData} : ∀ (ds : List PyData) (i j : Nat), findAt d i ds = some j → i ≤ j ∧ (∃ z, ds[j - i]? = some z ∧ PyData.eqv z d = true) ∧ ∀ m z, m < j - i → ds[m]? = some z → PyData.eqv z d = false
  | [], i, j, e => by cases e
  | z :: r, i, j, e => by
    unfold findAt at e
    split at e
    · rename_i hz
      cases e
      refine ⟨Nat.le_refl _, ⟨z, by simp, hz⟩, fun m _ hm => ?_⟩
      omega
    · rename_i hz
      obtain ⟨h1, ⟨y, h2, h3⟩, h4⟩ := findAt_spec r (i + 1) j e
      refine ⟨by omega, ⟨y, ?_, h3⟩, fun m y' hm hy => ?_⟩
      · have : j - i = (j - (i + 1)) + 1 := by omega
        rw [this]; simpa using h2
      · cases m with
        | zero => simp at hy; subst hy; exact Bool.eq_false_iff.mpr hz
        | succ m => exact h4 m y' (by omega) (by simpa using hy)
def fIndex : MV → List MV → MH → R MV := fun x xs h => match xs with
  | [y] => match dataOf 12 h x, dataOf 12 h y with
    | some (.list ds), some d => match findAt d 0 ds with
      | some j => .ok (.int (j : Nat)) h
      | none => .bad
    | _, _ => .bad
  | _ => .bad
theorem ms_index : MethF X.K (rIndexD X.K) fIndex := by
  intro Z φ H h x xs u us Q hr t ts o
  unfold fIndex at o
  split at o
  · rename_i y
    obtain ⟨v, rfl, tv⟩ := one_of ts
    split at o
    · rename_i ds d q1 q2
      split at o
      · rename_i j q3
        obtain ⟨a1, a2, a3⟩ := data_ok hr 12 x u _ t q1
        obtain ⟨b1, b2, b3⟩ := data_ok hr 12 y v _ tv q2
        obtain ⟨h1, ⟨z, h2, h3⟩, h4⟩ := findAt_spec ds 0 j q3
        cases a1 with
        | @lst a vs _ hs ha =>
          exact ⟨a, v, d, ds, j, z, rfl, rfl, .lst hs ha, b1, shaped_ok a2 a3 (by decide), shaped_ok b2 b3 (by decide), by simpa using h2, h3, fun m z' hm hz => h4 m z' (by omega) hz, OkG.ok_here o hr (.int _)⟩
      · exact o.elim
    · exact o.elim
  · exact o.elim
theorem se_index {apos cpos : Pos} {k : Nat} (hu : Room k X.A) (ho : PE X a (tE X.K W ma)) (ha : PA X (b :: es) (tA X.K W mr))
    (hbase : attributeBase a "index" X.env (eval a X.env) = eval a X.env := by rfl)
    (hfew : ((backTo cpos (starEach (b :: es) X.env)).all (fun x => !x.1) && (backToKw cpos (keywordEach [] X.env)).all (fun x => x.1.isSome)
      && decide ((b :: es).length + ([] : List Keyword).length + (if ([] : List Keyword).isEmpty then 0 else 1) < 30)) = true := by rfl)
    (hline : (apos.endLine == cpos.line) = true := by rfl) (hs : starEach (b :: es) X.env = (false, eval b X.env) :: starEach es X.env := by rfl) (hplain : (backTo cpos (starEach es X.env)).any (·.1) = false := by rfl) :
    PE X (.Call (.Attribute a "index" apos) (b :: es) [] cpos) (tE X.K W (mLm fIndex ma mr)) :=
  (pe_bm PySem.F.plainAttrs_list PySem.F.slot_list_index PySem.F.type_list_index (mt_indexD (hu65 hu)) ho ha hbase hfew hline hs hplain).imp fun _ _ _ o => tLm_of ms_index o
end
end Mv

set_option maxHeartbeats 4000000
namespace Mv
noncomputable section
open PySem PySem.Spec L2
/-- is_integer(value, low, high); slots ['value', 'low', 'high'] -/
def m_is_integer : MS :=
  mRet (mAndV (mIsi .int (mVar 0)) (mAndV (mNotV (mIsi .bool (mVar 0))) (mChain fLe fLe (mVar 1) (mVar 0) (mVar 2))))
def F_is_integer : List MV → MH → R MV := mDef 3 3 (m_is_integer)
/-- is_pair(value); slots ['value'] -/
def m_is_pair (G_is_integer : List MV → MH → R MV) : MS :=
  mSeq (mIfS (mOrT (mNotT (mAsB (mIsi .tuple (mVar 0)))) (mAsB (mBin fNe (mCall fLen (mCons (mVar 0) (mNil))) (mC (.int 2))))) (mRet (mC (.bl false))) (mNext))
    (mRet (mAndV (mDo 3 G_is_integer (mCons (mBin fIx (mVar 0) (mC (.int 0))) (mCons (mC (.int 1)) (mCons (mC (.int 6)) (mNil))))) (mDo 3 G_is_integer (mCons (mBin fIx (mVar 0) (mC (.int 1))) (mCons (mC (.int 0)) (mCons (mC (.int 12)) (mNil)))))))
def F_is_pair (G_is_integer : List MV → MH → R MV) : List MV → MH → R MV := mDef 1 1 (m_is_pair G_is_integer)
/-- check_rule(rule); slots ['rule', 'index', 'pair'] -/
def m_check_rule (G_is_pair : List MV → MH → R MV) : MS :=
  mSeq (mIfS (mOrT (mNotT (mAsB (mIsi .tuple (mVar 0)))) (mNotT (mAsB (mChain fLe fLe (mC (.int 1)) (mCall fLen (mCons (mVar 0) (mNil))) (mC (.int 3)))))) (mBad) (mNext))
    (mFor (mEnumV (mCons (mVar 0) (mNil))) (gT [1, 2]) (mIfS (mNotT (mAsB (mDo 1 G_is_pair (mCons (mVar 2) (mNil))))) (mBad) (mNext)))
def F_check_rule (G_is_pair : List MV → MH → R MV) : List MV → MH → R MV := mDef 1 3 (m_check_rule G_is_pair)
/-- check_time(time); slots ['time'] -/
def m_check_time (G_is_integer : List MV → MH → R MV) : MS :=
  mIfS (mNotT (mAsB (mDo 3 G_is_integer (mCons (mVar 0) (mCons (mC (.int 0)) (mCons (mC (.int 1000)) (mNil))))))) (mBad) (mNext)
def F_check_time (G_is_integer : List MV → MH → R MV) : List MV → MH → R MV := mDef 1 1 (m_check_time G_is_integer)
/-- is_held(rule, taken, time); slots ['rule', 'taken', 'time', 'every', 'until'] -/
def m_is_held : MS :=
  mRet (mCall fAny (mCons (mLc (mItV (mVar 0)) (gT [3, 4]) (mYes) (mAndV (mBin fEq (mBin fMod (mVar 1) (mVar 3)) (mC (.int 0))) (mChain fLe fLe (mC (.int 0)) (mBin fSub (mVar 2) (mVar 1)) (mVar 4))) [3, 4]) (mNil)))
def F_is_held : List MV → MH → R MV := mDef 3 5 (m_is_held)
/-- settled_of(rule); slots ['rule', 'every', 'until'] -/
def m_settled_of : MS :=
  mRet (mCall fMax (mCons (mLc (mItV (mVar 0)) (gT [1, 2]) (mYes) (mVar 2) [1, 2]) (mNil)))
def F_settled_of : List MV → MH → R MV := mDef 1 3 (m_settled_of)
/-- held_at(rule, time); slots ['rule', 'time', 'age'] -/
def m_held_at (G_settled_of : List MV → MH → R MV) (G_is_held : List MV → MH → R MV) : MS :=
  mRet (mCall fTuple (mCons (mLc (mRng1 (mCons (mBin fAdd (mCall fMin (mCons (mVar 1) (mCons (mDo 1 G_settled_of (mCons (mVar 0) (mNil))) (mNil)))) (mC (.int 1))) (mNil))) (gN 2) (mAsB (mDo 3 G_is_held (mCons (mVar 0) (mCons (mBin fSub (mVar 1) (mVar 2)) (mCons (mVar 1) (mNil)))))) (mVar 2) [2]) (mNil)))
def F_held_at (G_settled_of : List MV → MH → R MV) (G_is_held : List MV → MH → R MV) : List MV → MH → R MV := mDef 2 3 (m_held_at G_settled_of G_is_held)
/-- common(one, other); slots ['one', 'other', 'number'] -/
def m_common : MS :=
  mRet (mBin fIx (mLc (mRng3 (mCons (mVar 0) (mCons (mBin fAdd (mBin fMul (mVar 0) (mVar 1)) (mC (.int 1))) (mCons (mVar 0) (mNil))))) (gN 2) (mAsB (mBin fEq (mBin fMod (mVar 2) (mVar 1)) (mC (.int 0)))) (mVar 2) [2]) (mC (.int 0)))
def F_common : List MV → MH → R MV := mDef 2 3 (m_common)
/-- turn_of(rule); slots ['rule', 'found', 'every', 'until'] -/
def m_turn_of (G_common : List MV → MH → R MV) : MS :=
  mSeq (mSet 1 (mC (.int 1)))
    (mSeq (mFor (mItV (mVar 0)) (gT [2, 3]) (mSet 1 (mDo 2 G_common (mCons (mVar 1) (mCons (mVar 2) (mNil))))))
    (mRet (mVar 1)))
def F_turn_of (G_common : List MV → MH → R MV) : List MV → MH → R MV := mDef 1 4 (m_turn_of G_common)
/-- round_of(rule); slots ['rule', 'more'] -/
def m_round_of (G_turn_of : List MV → MH → R MV) (G_settled_of : List MV → MH → R MV) (G_held_at : List MV → MH → R MV) : MS :=
  mRet (mLc (mRng1 (mCons (mDo 1 G_turn_of (mCons (mVar 0) (mNil))) (mNil))) (gN 1) (mYes) (mDo 2 G_held_at (mCons (mVar 0) (mCons (mBin fAdd (mDo 1 G_settled_of (mCons (mVar 0) (mNil))) (mVar 1)) (mNil)))) [1])
def F_round_of (G_turn_of : List MV → MH → R MV) (G_settled_of : List MV → MH → R MV) (G_held_at : List MV → MH → R MV) : List MV → MH → R MV := mDef 1 2 (m_round_of G_turn_of G_settled_of G_held_at)
/-- period_of(rule); slots ['rule', 'rows', 'able', 'number'] -/
def m_period_of (G_round_of : List MV → MH → R MV) : MS :=
  mSeq (mSet 1 (mDo 1 G_round_of (mCons (mVar 0) (mNil))))
    (mSeq (mSet 2 (mLc (mRng2 (mCons (mC (.int 1)) (mCons (mBin fAdd (mCall fLen (mCons (mVar 1) (mNil))) (mC (.int 1))) (mNil)))) (gN 3) (mAsB (mBin fEq (mBin fMod (mCall fLen (mCons (mVar 1) (mNil))) (mVar 3)) (mC (.int 0)))) (mVar 3) [3]))
    (mRet (mBin fIx (mLc (mItV (mVar 2)) (gN 3) (mAsB (mBin fEq (mBin fAdd (mSl (mVar 1) (mPart (mVar 3)) (mNoP)) (mSl (mVar 1) (mNoP) (mPart (mVar 3)))) (mVar 1))) (mVar 3) [3]) (mC (.int 0)))))
def F_period_of (G_round_of : List MV → MH → R MV) : List MV → MH → R MV := mDef 1 4 (m_period_of G_round_of)
/-- held(rule, time); slots ['rule', 'time'] -/
def m_held (G_check_rule : List MV → MH → R MV) (G_check_time : List MV → MH → R MV) (G_held_at : List MV → MH → R MV) : MS :=
  mSeq (mDrop (mDo 1 G_check_rule (mCons (mVar 0) (mNil))))
    (mSeq (mDrop (mDo 1 G_check_time (mCons (mVar 1) (mNil))))
    (mRet (mDo 2 G_held_at (mCons (mVar 0) (mCons (mVar 1) (mNil))))))
def F_held (G_check_rule : List MV → MH → R MV) (G_check_time : List MV → MH → R MV) (G_held_at : List MV → MH → R MV) : List MV → MH → R MV := mDef 2 2 (m_held G_check_rule G_check_time G_held_at)
/-- settled(rule); slots ['rule'] -/
def m_settled (G_check_rule : List MV → MH → R MV) (G_settled_of : List MV → MH → R MV) : MS :=
  mSeq (mDrop (mDo 1 G_check_rule (mCons (mVar 0) (mNil))))
    (mRet (mDo 1 G_settled_of (mCons (mVar 0) (mNil))))
def F_settled (G_check_rule : List MV → MH → R MV) (G_settled_of : List MV → MH → R MV) : List MV → MH → R MV := mDef 1 1 (m_settled G_check_rule G_settled_of)
/-- period(rule); slots ['rule'] -/
def m_period (G_check_rule : List MV → MH → R MV) (G_period_of : List MV → MH → R MV) : MS :=
  mSeq (mDrop (mDo 1 G_check_rule (mCons (mVar 0) (mNil))))
    (mRet (mDo 1 G_period_of (mCons (mVar 0) (mNil))))
def F_period (G_check_rule : List MV → MH → R MV) (G_period_of : List MV → MH → R MV) : List MV → MH → R MV := mDef 1 1 (m_period G_check_rule G_period_of)
/-- greatest(rule); slots ['rule', 'time'] -/
def m_greatest (G_check_rule : List MV → MH → R MV) (G_settled_of : List MV → MH → R MV) (G_turn_of : List MV → MH → R MV) (G_held_at : List MV → MH → R MV) : MS :=
  mSeq (mDrop (mDo 1 G_check_rule (mCons (mVar 0) (mNil))))
    (mRet (mCall fMax (mCons (mLc (mRng1 (mCons (mBin fAdd (mDo 1 G_settled_of (mCons (mVar 0) (mNil))) (mDo 1 G_turn_of (mCons (mVar 0) (mNil)))) (mNil))) (gN 1) (mYes) (mCall fLen (mCons (mDo 2 G_held_at (mCons (mVar 0) (mCons (mVar 1) (mNil)))) (mNil))) [1]) (mNil))))
def F_greatest (G_check_rule : List MV → MH → R MV) (G_settled_of : List MV → MH → R MV) (G_turn_of : List MV → MH → R MV) (G_held_at : List MV → MH → R MV) : List MV → MH → R MV := mDef 1 2 (m_greatest G_check_rule G_settled_of G_turn_of G_held_at)
/-- gap(rule, age); slots ['rule', 'age', 'found', 'row', 'older', 'one'] -/
def m_gap (G_check_rule : List MV → MH → R MV) (G_is_integer : List MV → MH → R MV) (G_round_of : List MV → MH → R MV) (G_settled_of : List MV → MH → R MV) : MS :=
  mSeq (mDrop (mDo 1 G_check_rule (mCons (mVar 0) (mNil))))
    (mSeq (mIfS (mNotT (mAsB (mDo 3 G_is_integer (mCons (mVar 1) (mCons (mC (.int 0)) (mCons (mC (.int 12)) (mNil))))))) (mBad) (mNext))
    (mSeq (mSet 2 (mLst (mNil)))
    (mSeq (mFor (mItV (mDo 1 G_round_of (mCons (mVar 0) (mNil)))) (gN 3) (mSeq (mSet 4 (mLc (mItV (mVar 3)) (gN 5) (mAsB (mBin fGe (mVar 5) (mVar 1))) (mBin fSub (mVar 5) (mVar 1)) [5]))
    (mSeq (mIfS (mAsB (mBin fEq (mVar 4) (mLst (mNil)))) (mRet (mC .non)) (mNext))
    (mDrop (mLm fAppend (mVar 2) (mCons (mBin fIx (mVar 4) (mC (.int 0))) (mNil)))))))
    (mRet (mTup (mCons (mCall fMax (mCons (mVar 2) (mNil))) (mCons (mBin fAdd (mDo 1 G_settled_of (mCons (mVar 0) (mNil))) (mLm fIndex (mVar 2) (mCons (mCall fMax (mCons (mVar 2) (mNil))) (mNil)))) (mNil))))))))
def F_gap (G_check_rule : List MV → MH → R MV) (G_is_integer : List MV → MH → R MV) (G_round_of : List MV → MH → R MV) (G_settled_of : List MV → MH → R MV) : List MV → MH → R MV := mDef 2 6 (m_gap G_check_rule G_is_integer G_round_of G_settled_of)
/-- _law_cell_at(_law_script, _law_k); slots ['_law_script', '_law_k'] -/
def m_l_cell_at : MS :=
  mSeq (mIfS (mAsB (mBin fLt (mVar 1) (mCall fLen (mCons (mVar 0) (mNil))))) (mRet (mBin fIx (mVar 0) (mVar 1))) (mNext))
    (mRet (mC (.int 0)))
def F_l_cell_at : List MV → MH → R MV := mDef 2 2 (m_l_cell_at)
/-- _law_draw(_law_cell, _law_k, _law_bound); slots ['_law_cell', '_law_k', '_law_bound', '_law_primes'] -/
def m_l_draw : MS :=
  mSeq (mSet 3 (mTup (mCons (mC (.int 1000003)) (mCons (mC (.int 1000033)) (mCons (mC (.int 1000037)) (mCons (mC (.int 1000039)) (mCons (mC (.int 1000081)) (mCons (mC (.int 1000099)) (mCons (mC (.int 1000117)) (mCons (mC (.int 1000121)) (mCons (mC (.int 1000133)) (mCons (mC (.int 1000151)) (mCons (mC (.int 1000159)) (mCons (mC (.int 1000171)) (mCons (mC (.int 1000183)) (mCons (mC (.int 1000187)) (mCons (mC (.int 1000193)) (mCons (mC (.int 1000199)) (mNil)))))))))))))))))))
    (mRet (mBin fMod (mBin fMod (mCall fInt (mCons (mBin fAdd (mBin fMul (mVar 0) (mC (.int 48271))) (mBin fMul (mVar 1) (mC (.int 69621)))) (mNil))) (mBin fIx (mVar 3) (mBin fMod (mCall fInt (mCons (mVar 1) (mNil))) (mC (.int 16))))) (mVar 2)))
def F_l_draw : List MV → MH → R MV := mDef 3 4 (m_l_draw)
/-- _law_number(_law_cell, _law_k, _law_bound); slots ['_law_cell', '_law_k', '_law_bound', '_law_power', '_law_times', '_law_remains', '_law_small'] -/
def m_l_number (G_l_draw : List MV → MH → R MV) : MS :=
  mSeq (mSet 3 (mC (.int 1)))
    (mSeq (mFor (mRng1 (mCons (mBin fMod (mCall fInt (mCons (mVar 1) (mNil))) (mC (.int 24))) (mNil))) (gN 4) (mSet 3 (mBin fMul (mVar 3) (mC (.int 1009)))))
    (mSeq (mSet 5 (mBin fDiv (mBin fSub (mVar 0) (mBin fPow (mC (.int 10)) (mC (.int 18)))) (mVar 3)))
    (mSeq (mIfS (mAsB (mBin fGt (mVar 5) (mC (.int 0)))) (mRet (mBin fMod (mBin fMod (mCall fInt (mCons (mVar 5) (mNil))) (mC (.int 1009))) (mVar 2))) (mNext))
    (mSeq (mSet 6 (mBin fMod (mCall fInt (mCons (mVar 0) (mNil))) (mC (.int 1000003))))
    (mRet (mBin fMod (mDo 3 G_l_draw (mCons (mBin fMul (mBin fAdd (mVar 6) (mBin fMul (mC (.int 977)) (mVar 1))) (mBin fAdd (mBin fAdd (mVar 6) (mBin fMul (mC (.int 31)) (mVar 1))) (mC (.int 5)))) (mCons (mBin fAdd (mBin fMod (mCall fInt (mCons (mVar 1) (mNil))) (mC (.int 9))) (mC (.int 1))) (mCons (mC (.int 999983)) (mNil))))) (mVar 2)))))))
def F_l_number (G_l_draw : List MV → MH → R MV) : List MV → MH → R MV := mDef 3 7 (m_l_number G_l_draw)
/-- _law_next(_law_draw_here, _law_bound); slots ['_law_draw_here', '_law_bound', '_law_at', '_law_cell'] -/
def m_l_next (G_l_cell_at : List MV → MH → R MV) (G_l_number : List MV → MH → R MV) : MS :=
  mSeq (mStore (mBin fAdd (mBin fIx (mVar 0) (mC (.int 2))) (mC (.int 1))) (mVar 0) (mC (.int 2)))
    (mSeq (mSet 2 (mBin fDiv (mBin fIx (mVar 0) (mC (.int 2))) (mC (.int 12))))
    (mSeq (mSet 3 (mBin fAdd (mDo 2 G_l_cell_at (mCons (mBin fIx (mVar 0) (mC (.int 0))) (mCons (mBin fAdd (mBin fIx (mVar 0) (mC (.int 1))) (mVar 2)) (mNil)))) (mBin fMul (mC (.int 31)) (mVar 2))))
    (mRet (mDo 3 G_l_number (mCons (mVar 3) (mCons (mBin fAdd (mBin fMod (mCall fInt (mCons (mBin fIx (mVar 0) (mC (.int 2))) (mNil))) (mC (.int 12))) (mC (.int 1))) (mCons (mVar 1) (mNil))))))))
def F_l_next (G_l_cell_at : List MV → MH → R MV) (G_l_number : List MV → MH → R MV) : List MV → MH → R MV := mDef 2 4 (m_l_next G_l_cell_at G_l_number)
/-- _law_rule(_law_draw_here, _law_most); slots ['_law_draw_here', '_law_most', '_law_found', '_law_turn'] -/
def m_l_rule (G_l_next : List MV → MH → R MV) : MS :=
  mSeq (mSet 2 (mLst (mNil)))
    (mSeq (mFor (mRng1 (mCons (mBin fAdd (mC (.int 1)) (mDo 2 G_l_next (mCons (mVar 0) (mCons (mC (.int 3)) (mNil))))) (mNil))) (gN 3) (mDrop (mLm fAppend (mVar 2) (mCons (mTup (mCons (mBin fAdd (mC (.int 1)) (mDo 2 G_l_next (mCons (mVar 0) (mCons (mC (.int 6)) (mNil))))) (mCons (mDo 2 G_l_next (mCons (mVar 0) (mCons (mBin fAdd (mVar 1) (mC (.int 1))) (mNil)))) (mNil)))) (mNil)))))
    (mSeq (mIfS (mAsB (mBin fEq (mDo 2 G_l_next (mCons (mVar 0) (mCons (mC (.int 2)) (mNil)))) (mC (.int 0)))) (mStore (mTup (mCons (mC (.int 1)) (mCons (mDo 2 G_l_next (mCons (mVar 0) (mCons (mBin fAdd (mC (.int 1)) (mBin fDiv (mVar 1) (mC (.int 2)))) (mNil)))) (mNil)))) (mVar 2) (mC (.int 0))) (mNext))
    (mRet (mCall fTuple (mCons (mVar 2) (mNil))))))
def F_l_rule (G_l_next : List MV → MH → R MV) : List MV → MH → R MV := mDef 2 4 (m_l_rule G_l_next)
/-- _law_held(_law_rule_here, _law_time); slots ['_law_rule_here', '_law_time', '_law_found', '_law_age', '_law_able', '_law_every', '_law_until'] -/
def m_l_held : MS :=
  mSeq (mSet 2 (mLst (mNil)))
    (mSeq (mFor (mRng1 (mCons (mBin fAdd (mCall fMin (mCons (mVar 1) (mCons (mC (.int 12)) (mNil)))) (mC (.int 1))) (mNil))) (gN 3) (mSeq (mSet 4 (mLc (mItV (mVar 0)) (gT [5, 6]) (mAsB (mBin fEq (mBin fMod (mCall fInt (mCons (mBin fSub (mVar 1) (mVar 3)) (mNil))) (mVar 5)) (mC (.int 0)))) (mVar 6) [5, 6]))
    (mIfS (mAsB (mCall fAny (mCons (mLc (mItV (mVar 4)) (gN 6) (mYes) (mBin fLe (mVar 3) (mVar 6)) [6]) (mNil)))) (mDrop (mLm fAppend (mVar 2) (mCons (mVar 3) (mNil)))) (mNext))))
    (mRet (mCall fTuple (mCons (mVar 2) (mNil)))))
def F_l_held : List MV → MH → R MV := mDef 2 7 (m_l_held)
/-- _law_settled(_law_rule_here); slots ['_law_rule_here', '_law_every', '_law_until'] -/
def m_l_settled : MS :=
  mRet (mCall fMax (mCons (mLc (mItV (mVar 0)) (gT [1, 2]) (mYes) (mVar 2) [1, 2]) (mNil)))
def F_l_settled : List MV → MH → R MV := mDef 1 3 (m_l_settled)
/-- _law_rows(_law_rule_here, _law_many); slots ['_law_rule_here', '_law_many', '_law_first', '_law_more'] -/
def m_l_rows (G_l_settled : List MV → MH → R MV) (G_l_held : List MV → MH → R MV) : MS :=
  mSeq (mSet 2 (mDo 1 G_l_settled (mCons (mVar 0) (mNil))))
    (mRet (mLc (mRng1 (mCons (mVar 1) (mNil))) (gN 3) (mYes) (mDo 2 G_l_held (mCons (mVar 0) (mCons (mBin fAdd (mVar 2) (mVar 3)) (mNil)))) [3]))
def F_l_rows (G_l_settled : List MV → MH → R MV) (G_l_held : List MV → MH → R MV) : List MV → MH → R MV := mDef 2 4 (m_l_rows G_l_settled G_l_held)
/-- _law_period(_law_rule_here); slots ['_law_rule_here', '_law_rows_here', '_law_number_here', '_law_at'] -/
def m_l_period (G_l_rows : List MV → MH → R MV) : MS :=
  mSeq (mSet 1 (mDo 2 G_l_rows (mCons (mVar 0) (mCons (mC (.int 60)) (mNil)))))
    (mSeq (mSet 2 (mC (.int 1)))
    (mSeq (mWhile (mAndT (mAsB (mBin fLt (mVar 2) (mC (.int 60)))) (mAsB (mBin fNe (mLc (mRng1 (mCons (mC (.int 60)) (mNil))) (gN 3) (mYes) (mBin fIx (mVar 1) (mBin fMod (mCall fInt (mCons (mBin fAdd (mVar 3) (mVar 2)) (mNil))) (mC (.int 60)))) [3]) (mVar 1)))) (mSet 2 (mBin fAdd (mVar 2) (mC (.int 1)))))
    (mRet (mVar 2))))
def F_l_period (G_l_rows : List MV → MH → R MV) : List MV → MH → R MV := mDef 1 4 (m_l_period G_l_rows)
/-- _law_gap(_law_rule_here, _law_age); slots ['_law_rule_here', '_law_age', '_law_best', '_law_first', '_law_more', '_law_ages', '_law_older', '_law_one'] -/
def m_l_gap (G_l_settled : List MV → MH → R MV) (G_l_rows : List MV → MH → R MV) : MS :=
  mSeq (mPar 2 3 (mCons (mC .non) (mCons (mDo 1 G_l_settled (mCons (mVar 0) (mNil))) (mNil))))
    (mSeq (mFor (mEnumV (mCons (mDo 2 G_l_rows (mCons (mVar 0) (mCons (mC (.int 60)) (mNil)))) (mNil))) (gT [4, 5]) (mSeq (mSet 6 (mLc (mItV (mVar 5)) (gN 7) (mAsB (mBin fGe (mVar 7) (mVar 1))) (mBin fSub (mVar 7) (mVar 1)) [7]))
    (mSeq (mIfS (mAsB (mBin fEq (mVar 6) (mLst (mNil)))) (mRet (mC .non)) (mNext))
    (mIfS (mOrT (mAsB (mBin fIsN (mVar 2) (mC .non))) (mAsB (mBin fGt (mBin fIx (mVar 6) (mC (.int 0))) (mBin fIx (mVar 2) (mC (.int 0)))))) (mSet 2 (mTup (mCons (mBin fIx (mVar 6) (mC (.int 0))) (mCons (mBin fAdd (mVar 3) (mVar 4)) (mNil))))) (mNext)))))
    (mRet (mVar 2)))
def F_l_gap (G_l_settled : List MV → MH → R MV) (G_l_rows : List MV → MH → R MV) : List MV → MH → R MV := mDef 2 8 (m_l_gap G_l_settled G_l_rows)
/-- _law_one_right(_law_draw_here, _law_rule_here); slots ['_law_draw_here', '_law_rule_here', '_law_turn', '_law_time', '_law_age'] -/
def m_l_one_right (G_settled : List MV → MH → R MV) (G_l_settled : List MV → MH → R MV) (G_period : List MV → MH → R MV) (G_l_period : List MV → MH → R MV) (G_l_next : List MV → MH → R MV) (G_held : List MV → MH → R MV) (G_l_held : List MV → MH → R MV) (G_greatest : List MV → MH → R MV) (G_gap : List MV → MH → R MV) (G_l_gap : List MV → MH → R MV) : MS :=
  mSeq (mIfS (mOrT (mAsB (mBin fNe (mDo 1 G_settled (mCons (mVar 1) (mNil))) (mDo 1 G_l_settled (mCons (mVar 1) (mNil))))) (mAsB (mBin fNe (mDo 1 G_period (mCons (mVar 1) (mNil))) (mDo 1 G_l_period (mCons (mVar 1) (mNil)))))) (mRet (mC (.bl false))) (mNext))
    (mSeq (mFor (mRng1 (mCons (mC (.int 6)) (mNil))) (gN 2) (mSeq (mSet 3 (mIf (mAsB (mBin fLt (mVar 2) (mC (.int 5)))) (mDo 2 G_l_next (mCons (mVar 0) (mCons (mC (.int 40)) (mNil)))) (mBin fAdd (mC (.int 961)) (mDo 2 G_l_next (mCons (mVar 0) (mCons (mC (.int 40)) (mNil)))))))
    (mIfS (mAsB (mBin fNe (mDo 2 G_held (mCons (mVar 1) (mCons (mVar 3) (mNil)))) (mDo 2 G_l_held (mCons (mVar 1) (mCons (mVar 3) (mNil)))))) (mRet (mC (.bl false))) (mNext))))
    (mSeq (mIfS (mAsB (mBin fNe (mDo 1 G_greatest (mCons (mVar 1) (mNil))) (mCall fMax (mCons (mLc (mRng1 (mCons (mC (.int 73)) (mNil))) (gN 3) (mYes) (mCall fLen (mCons (mDo 2 G_l_held (mCons (mVar 1) (mCons (mVar 3) (mNil)))) (mNil))) [3]) (mNil))))) (mRet (mC (.bl false))) (mNext))
    (mSeq (mFor (mItV (mTup (mCons (mC (.int 0)) (mCons (mDo 2 G_l_next (mCons (mVar 0) (mCons (mC (.int 13)) (mNil)))) (mCons (mDo 2 G_l_next (mCons (mVar 0) (mCons (mC (.int 6)) (mNil)))) (mNil)))))) (gN 4) (mIfS (mAsB (mBin fNe (mDo 2 G_gap (mCons (mVar 1) (mCons (mVar 4) (mNil)))) (mDo 2 G_l_gap (mCons (mVar 1) (mCons (mVar 4) (mNil)))))) (mRet (mC (.bl false))) (mNext)))
    (mRet (mC (.bl true))))))
def F_l_one_right (G_settled : List MV → MH → R MV) (G_l_settled : List MV → MH → R MV) (G_period : List MV → MH → R MV) (G_l_period : List MV → MH → R MV) (G_l_next : List MV → MH → R MV) (G_held : List MV → MH → R MV) (G_l_held : List MV → MH → R MV) (G_greatest : List MV → MH → R MV) (G_gap : List MV → MH → R MV) (G_l_gap : List MV → MH → R MV) : List MV → MH → R MV := mDef 2 5 (m_l_one_right G_settled G_l_settled G_period G_l_period G_l_next G_held G_l_held G_greatest G_gap G_l_gap)
/-- law(_law_script); slots ['_law_script', '_law_by', '_law_draw_here'] -/
def m_law (G_l_rule : List MV → MH → R MV) (G_l_one_right : List MV → MH → R MV) : MS :=
  mSeq (mFor (mRng3 (mCons (mC (.int 0)) (mCons (mCall fMax (mCons (mC (.int 1)) (mCons (mCall fMin (mCons (mC (.int 16)) (mCons (mCall fLen (mCons (mVar 0) (mNil))) (mNil)))) (mNil)))) (mCons (mC (.int 4)) (mNil))))) (gN 1) (mSeq (mSet 2 (mLst (mCons (mVar 0) (mCons (mVar 1) (mCons (mC (.int 0)) (mNil))))))
    (mIfS (mNotT (mAsB (mDo 2 G_l_one_right (mCons (mVar 2) (mCons (mDo 2 G_l_rule (mCons (mVar 2) (mCons (mC (.int 12)) (mNil)))) (mNil)))))) (mRet (mC (.bl false))) (mNext))))
    (mRet (mC (.bl true)))
def F_law (G_l_rule : List MV → MH → R MV) (G_l_one_right : List MV → MH → R MV) : List MV → MH → R MV := mDef 1 3 (m_law G_l_rule G_l_one_right)
end
end Mv

set_option maxHeartbeats 4000000
namespace Mv
open PySem PySem.Spec L2
open PyProof.Rows hiding St
def top (i : Nat) : Stmt := PySem.Challenge.pw_thinsnaps_k31_whole_rules.main.body.getD i (.Pass ⟨0, 0, 0, 0⟩)
/-- the built-in names that are read, the constants of the module -/
structure Glb (mg : Str → Option Value) : Prop where
  b_any : mg "any" = none
  b_bool : mg "bool" = none
  b_enumerate : mg "enumerate" = none
  b_int : mg "int" = none
  b_isinstance : mg "isinstance" = none
  b_len : mg "len" = none
  b_max : mg "max" = none
  b_min : mg "min" = none
  b_range : mg "range" = none
  b_tuple : mg "tuple" = none
  c_MAX_EVERY : ∃ t, mg "MAX_EVERY" = some (.int 6 t)
  c_MAX_PAIRS : ∃ t, mg "MAX_PAIRS" = some (.int 3 t)
  c_MAX_TIME : ∃ t, mg "MAX_TIME" = some (.int 1000 t)
  c_MAX_UNTIL : ∃ t, mg "MAX_UNTIL" = some (.int 12 t)
section
variable {P : Program} {w : World} {K : PySem.W.Frag} {mg : Str → Option Value} {base : Heap}
abbrev s_is_integer : Stmt := top 6
theorem sc_is_integer : FnScope ["value", "low", "high"] ["value", "low", "high"] (defScope s_is_integer) := ⟨rfl, rfl, rfl, by decide +kernel, rfl, by decide +kernel, by decide +kernel⟩
theorem w_is_integer {f : Addr} {fd : FuncData} (B : Glb mg) (F : Fun K "is_integer" "is_integer" s_is_integer f fd) (hm : mg "is_integer" = some (.ref f)) : Def P w K mg base 1 "is_integer" 3 (F_is_integer) := by
  refine ⟨f, fd, ["value", "low", "high"], def_ok F sc_is_integer fun cdv A outer s H E hr => ?_, hm, F.kp, F.binds fun _ _ _ _ _ _ us hl => match us, hl with | [_, _, _], _ => rfl⟩
  exact ss_one (ss_ret (se_and (se_isi .int rfl B.b_isinstance rfl B.b_int (by decide +kernel) (se_var 0)) (se_and (se_not (se_isi .bool rfl B.b_isinstance rfl B.b_bool (by decide +kernel) (se_var 0))) (se_one (se_chain op_le os_le op_le os_le (se_var 1) (se_var 0) (se_var 2))))))
abbrev s_is_pair : Stmt := top 12
theorem sc_is_pair : FnScope ["value"] ["value"] (defScope s_is_pair) := ⟨rfl, rfl, rfl, by decide +kernel, rfl, by decide +kernel, by decide +kernel⟩
theorem w_is_pair {G_is_integer : List MV → MH → R MV} {f : Addr} {fd : FuncData} (B : Glb mg) (D_is_integer : Def P w K mg base 1 "is_integer" 3 G_is_integer) (F : Fun K "is_pair" "is_pair" s_is_pair f fd) (hm : mg "is_pair" = some (.ref f)) : Def P w K mg base 2 "is_pair" 1 (F_is_pair G_is_integer) := by
  refine ⟨f, fd, ["value"], def_ok F sc_is_pair fun cdv A outer s H E hr => ?_, hm, F.kp, F.binds fun _ _ _ _ _ _ us hl => match us, hl with | [_], _ => rfl⟩
  exact ss_cons (ss_if (st_w (sw_or (st_not (st_val (se_isi .tuple rfl B.b_isinstance rfl B.b_tuple (by decide +kernel) (se_var 0)))) (sw_or1 (st_cmp (op_neD hr.units) os_ne (se_callB call_lenU cs_len rfl B.b_len boot_len (sa_cons (se_var 0) (sa_nil))) (se_int))))) (ss_one (ss_ret (se_bl))) (ss_nil))
    (ss_one (ss_ret (se_and (se_do D_is_integer hr rfl (sa_cons (se_ix (se_var 0) (se_int)) (sa_cons (se_int) (sa_cons (se_globI rfl B.c_MAX_EVERY) (sa_nil))))) (se_one (se_do D_is_integer hr rfl (sa_cons (se_ix (se_var 0) (se_int)) (sa_cons (se_int) (sa_cons (se_globI rfl B.c_MAX_UNTIL) (sa_nil)))))))))
abbrev s_check_rule : Stmt := top 13
theorem sc_check_rule : FnScope ["rule", "index", "pair"] ["rule"] (defScope s_check_rule) := ⟨rfl, rfl, rfl, by decide +kernel, rfl, by decide +kernel, by decide +kernel⟩
theorem w_check_rule {G_is_pair : List MV → MH → R MV} {f : Addr} {fd : FuncData} (B : Glb mg) (D_is_pair : Def P w K mg base 2 "is_pair" 1 G_is_pair) (F : Fun K "check_rule" "check_rule" s_check_rule f fd) (hm : mg "check_rule" = some (.ref f)) : Def P w K mg base 3 "check_rule" 1 (F_check_rule G_is_pair) := by
  refine ⟨f, fd, ["rule"], def_ok F sc_check_rule fun cdv A outer s H E hr => ?_, hm, F.kp, F.binds fun _ _ _ _ _ _ us hl => match us, hl with | [_], _ => rfl⟩
  exact ss_cons (ss_if (st_w (sw_or (st_not (st_val (se_isi .tuple rfl B.b_isinstance rfl B.b_tuple (by decide +kernel) (se_var 0)))) (sw_or1 (st_not (st_chain op_le os_le op_le os_le (se_int) (se_callB call_lenU cs_len rfl B.b_len boot_len (sa_cons (se_var 0) (sa_nil))) (se_globI rfl B.c_MAX_PAIRS)))))) (ss_one (ss_never)) (ss_nil))
    (ss_one (ss_for (own := [1, 2]) PassesOwn.never rfl (si_enumV rfl B.b_enumerate (sa_cons (se_var 0) (sa_nil))) (pg_tup rfl (pgs_cons (pg_name (i := 1) sc_check_rule.nd rfl (by first | exact Or.inl rfl | exact Or.inr rfl)) (pgs_cons (pg_name (i := 2) sc_check_rule.nd rfl (by first | exact Or.inl rfl | exact Or.inr rfl)) (pgs_nil)))) (gok_T (is := [1, 2]) (by decide) rfl) (ss_one (ss_if (st_not (st_val (se_do D_is_pair hr rfl (sa_cons (se_var 2) (sa_nil))))) (ss_one (ss_never)) (ss_nil)))))
abbrev s_check_time : Stmt := top 14
theorem sc_check_time : FnScope ["time"] ["time"] (defScope s_check_time) := ⟨rfl, rfl, rfl, by decide +kernel, rfl, by decide +kernel, by decide +kernel⟩
theorem w_check_time {G_is_integer : List MV → MH → R MV} {f : Addr} {fd : FuncData} (B : Glb mg) (D_is_integer : Def P w K mg base 1 "is_integer" 3 G_is_integer) (F : Fun K "check_time" "check_time" s_check_time f fd) (hm : mg "check_time" = some (.ref f)) : Def P w K mg base 2 "check_time" 1 (F_check_time G_is_integer) := by
  refine ⟨f, fd, ["time"], def_ok F sc_check_time fun cdv A outer s H E hr => ?_, hm, F.kp, F.binds fun _ _ _ _ _ _ us hl => match us, hl with | [_], _ => rfl⟩
  exact ss_one (ss_if (st_not (st_val (se_do D_is_integer hr rfl (sa_cons (se_var 0) (sa_cons (se_int) (sa_cons (se_globI rfl B.c_MAX_TIME) (sa_nil))))))) (ss_one (ss_never)) (ss_nil))
abbrev s_is_held : Stmt := top 15
theorem sc_is_held : FnScope ["rule", "taken", "time", "every", "until"] ["rule", "taken", "time"] (defScope s_is_held) := ⟨rfl, rfl, rfl, by decide +kernel, rfl, by decide +kernel, by decide +kernel⟩
theorem w_is_held {f : Addr} {fd : FuncData} (B : Glb mg) (F : Fun K "is_held" "is_held" s_is_held f fd) (hm : mg "is_held" = some (.ref f)) : Def P w K mg base 1 "is_held" 3 (F_is_held) := by
  refine ⟨f, fd, ["rule", "taken", "time"], def_ok F sc_is_held fun cdv A outer s H E hr => ?_, hm, F.kp, F.binds fun _ _ _ _ _ _ us hl => match us, hl with | [_, _, _], _ => rfl⟩
  exact ss_one (ss_ret (se_callB (cr_any rfl) cs_any rfl B.b_any boot_any (sa_cons (se_lc rfl sc_is_held.nd (own := [("every", 3), ("until", 4)]) (si_seq (se_var 0)) (blkOk_by (by kernel_rfl)) (fun _ _ _ _ _ => pg_tup rfl (pgs_cons (pg_name (i := 3) sc_is_held.nd rfl (by first | exact Or.inl rfl | exact Or.inr rfl)) (pgs_cons (pg_name (i := 4) sc_is_held.nd rfl (by first | exact Or.inl rfl | exact Or.inr rfl)) (pgs_nil)))) (gok_T (is := [3, 4]) (by decide) rfl) (fun _ _ _ _ _ => sts_nil) (fun _ _ _ _ _ => se_and (se_cmp (op_eqD hr.units) os_eq (se_op op_mod os_mod (se_var 1) (se_var 3)) (se_int)) (se_one (se_chain op_le os_le op_le os_le (se_int) (se_op op_sub os_sub (se_var 2) (se_var 1)) (se_var 4))))) (sa_nil))))
abbrev s_settled_of : Stmt := top 17
theorem sc_settled_of : FnScope ["rule", "every", "until"] ["rule"] (defScope s_settled_of) := ⟨rfl, rfl, rfl, by decide +kernel, rfl, by decide +kernel, by decide +kernel⟩
theorem w_settled_of {f : Addr} {fd : FuncData} (B : Glb mg) (F : Fun K "settled_of" "settled_of" s_settled_of f fd) (hm : mg "settled_of" = some (.ref f)) : Def P w K mg base 1 "settled_of" 1 (F_settled_of) := by
  refine ⟨f, fd, ["rule"], def_ok F sc_settled_of fun cdv A outer s H E hr => ?_, hm, F.kp, F.binds fun _ _ _ _ _ _ us hl => match us, hl with | [_], _ => rfl⟩
  exact ss_one (ss_ret (se_callB (call_maxU rfl) cs_max rfl B.b_max boot_max (sa_cons (se_lc rfl sc_settled_of.nd (own := [("every", 1), ("until", 2)]) (si_seq (se_var 0)) (blkOk_by (by kernel_rfl)) (fun _ _ _ _ _ => pg_tup rfl (pgs_cons (pg_name (i := 1) sc_settled_of.nd rfl (by first | exact Or.inl rfl | exact Or.inr rfl)) (pgs_cons (pg_name (i := 2) sc_settled_of.nd rfl (by first | exact Or.inl rfl | exact Or.inr rfl)) (pgs_nil)))) (gok_T (is := [1, 2]) (by decide) rfl) (fun _ _ _ _ _ => sts_nil) (fun _ _ _ _ _ => se_var 2)) (sa_nil))))
abbrev s_held_at : Stmt := top 16
theorem sc_held_at : FnScope ["rule", "time", "age"] ["rule", "time"] (defScope s_held_at) := ⟨rfl, rfl, rfl, by decide +kernel, rfl, by decide +kernel, by decide +kernel⟩
theorem w_held_at {G_settled_of : List MV → MH → R MV} {G_is_held : List MV → MH → R MV} {f : Addr} {fd : FuncData} (B : Glb mg) (D_settled_of : Def P w K mg base 1 "settled_of" 1 G_settled_of) (D_is_held : Def P w K mg base 1 "is_held" 3 G_is_held) (F : Fun K "held_at" "held_at" s_held_at f fd) (hm : mg "held_at" = some (.ref f)) : Def P w K mg base 2 "held_at" 2 (F_held_at G_settled_of G_is_held) := by
  refine ⟨f, fd, ["rule", "time"], def_ok F sc_held_at fun cdv A outer s H E hr => ?_, hm, F.kp, F.binds fun _ _ _ _ _ _ us hl => match us, hl with | [_, _], _ => rfl⟩
  exact ss_one (ss_ret (se_callTy call_tuple_of cs_tuple rfl B.b_tuple (by decide +kernel) (sa_cons (se_lc rfl sc_held_at.nd (own := [("age", 2)]) (si_range1 rfl B.b_range (sa_cons (se_op op_addU os_add (se_callB (call_minU rfl) cs_min rfl B.b_min boot_min (sa_cons (se_var 1) (sa_cons (se_do D_settled_of hr rfl (sa_cons (se_var 0) (sa_nil))) (sa_nil)))) (se_int)) (sa_nil))) (blkOk_by (by kernel_rfl)) (fun _ _ _ _ _ => pg_name (i := 2) sc_held_at.nd rfl (by first | exact Or.inl rfl | exact Or.inr rfl)) (gok_N (i := 2) (by decide)) (fun _ _ _ _ _ => sts_one (st_val (se_do D_is_held hr rfl (sa_cons (se_var 0) (sa_cons (se_op op_sub os_sub (se_var 1) (se_var 2)) (sa_cons (se_var 1) (sa_nil))))))) (fun _ _ _ _ _ => se_var 2)) (sa_nil))))
abbrev s_common : Stmt := top 18
theorem sc_common : FnScope ["one", "other", "number"] ["one", "other"] (defScope s_common) := ⟨rfl, rfl, rfl, by decide +kernel, rfl, by decide +kernel, by decide +kernel⟩
theorem w_common {f : Addr} {fd : FuncData} (B : Glb mg) (F : Fun K "common" "common" s_common f fd) (hm : mg "common" = some (.ref f)) : Def P w K mg base 1 "common" 2 (F_common) := by
  refine ⟨f, fd, ["one", "other"], def_ok F sc_common fun cdv A outer s H E hr => ?_, hm, F.kp, F.binds fun _ _ _ _ _ _ us hl => match us, hl with | [_, _], _ => rfl⟩
  exact ss_one (ss_ret (se_ix (se_lc rfl sc_common.nd (own := [("number", 2)]) (si_range3 rfl B.b_range (sa_cons (se_var 0) (sa_cons (se_op op_addU os_add (se_op op_mulB os_mul (se_var 0) (se_var 1)) (se_int)) (sa_cons (se_var 0) (sa_nil))))) (blkOk_by (by kernel_rfl)) (fun _ _ _ _ _ => pg_name (i := 2) sc_common.nd rfl (by first | exact Or.inl rfl | exact Or.inr rfl)) (gok_N (i := 2) (by decide)) (fun _ _ _ _ _ => sts_one (st_cmp (op_eqD hr.units) os_eq (se_op op_mod os_mod (se_var 2) (se_var 1)) (se_int))) (fun _ _ _ _ _ => se_var 2)) (se_int)))
abbrev s_turn_of : Stmt := top 19
theorem sc_turn_of : FnScope ["rule", "found", "every", "until"] ["rule"] (defScope s_turn_of) := ⟨rfl, rfl, rfl, by decide +kernel, rfl, by decide +kernel, by decide +kernel⟩
theorem w_turn_of {G_common : List MV → MH → R MV} {f : Addr} {fd : FuncData} (B : Glb mg) (D_common : Def P w K mg base 1 "common" 2 G_common) (F : Fun K "turn_of" "turn_of" s_turn_of f fd) (hm : mg "turn_of" = some (.ref f)) : Def P w K mg base 2 "turn_of" 1 (F_turn_of G_common) := by
  refine ⟨f, fd, ["rule"], def_ok F sc_turn_of fun cdv A outer s H E hr => ?_, hm, F.kp, F.binds fun _ _ _ _ _ _ us hl => match us, hl with | [_], _ => rfl⟩
  exact ss_cons (ss_set (i := 1) sc_turn_of.nd rfl (by first | exact Or.inl rfl | exact Or.inr rfl) (se_int))
    (ss_cons (ss_for (own := [2, 3]) PassesOwn.never rfl (si_seq (se_var 0)) (pg_tup rfl (pgs_cons (pg_name (i := 2) sc_turn_of.nd rfl (by first | exact Or.inl rfl | exact Or.inr rfl)) (pgs_cons (pg_name (i := 3) sc_turn_of.nd rfl (by first | exact Or.inl rfl | exact Or.inr rfl)) (pgs_nil)))) (gok_T (is := [2, 3]) (by decide) rfl) (ss_one (ss_set (i := 1) sc_turn_of.nd rfl (by first | exact Or.inl rfl | exact Or.inr rfl) (se_do D_common hr rfl (sa_cons (se_var 1) (sa_cons (se_var 2) (sa_nil)))))))
    (ss_one (ss_ret (se_var 1))))
abbrev s_round_of : Stmt := top 20
theorem sc_round_of : FnScope ["rule", "more"] ["rule"] (defScope s_round_of) := ⟨rfl, rfl, rfl, by decide +kernel, rfl, by decide +kernel, by decide +kernel⟩
theorem w_round_of {G_turn_of : List MV → MH → R MV} {G_settled_of : List MV → MH → R MV} {G_held_at : List MV → MH → R MV} {f : Addr} {fd : FuncData} (B : Glb mg) (D_turn_of : Def P w K mg base 2 "turn_of" 1 G_turn_of) (D_settled_of : Def P w K mg base 1 "settled_of" 1 G_settled_of) (D_held_at : Def P w K mg base 2 "held_at" 2 G_held_at) (F : Fun K "round_of" "round_of" s_round_of f fd) (hm : mg "round_of" = some (.ref f)) : Def P w K mg base 3 "round_of" 1 (F_round_of G_turn_of G_settled_of G_held_at) := by
  refine ⟨f, fd, ["rule"], def_ok F sc_round_of fun cdv A outer s H E hr => ?_, hm, F.kp, F.binds fun _ _ _ _ _ _ us hl => match us, hl with | [_], _ => rfl⟩
  exact ss_one (ss_ret (se_lc rfl sc_round_of.nd (own := [("more", 1)]) (si_range1 rfl B.b_range (sa_cons (se_do D_turn_of hr rfl (sa_cons (se_var 0) (sa_nil))) (sa_nil))) (blkOk_by (by kernel_rfl)) (fun _ _ _ _ _ => pg_name (i := 1) sc_round_of.nd rfl (by first | exact Or.inl rfl | exact Or.inr rfl)) (gok_N (i := 1) (by decide)) (fun _ _ _ _ _ => sts_nil) (fun _ _ _ _ _ => se_do D_held_at hr rfl (sa_cons (se_var 0) (sa_cons (se_op op_addU os_add (se_do D_settled_of hr rfl (sa_cons (se_var 0) (sa_nil))) (se_var 1)) (sa_nil))))))
abbrev s_period_of : Stmt := top 21
theorem sc_period_of : FnScope ["rule", "rows", "able", "number"] ["rule"] (defScope s_period_of) := ⟨rfl, rfl, rfl, by decide +kernel, rfl, by decide +kernel, by decide +kernel⟩
theorem w_period_of {G_round_of : List MV → MH → R MV} {f : Addr} {fd : FuncData} (B : Glb mg) (D_round_of : Def P w K mg base 3 "round_of" 1 G_round_of) (F : Fun K "period_of" "period_of" s_period_of f fd) (hm : mg "period_of" = some (.ref f)) : Def P w K mg base 4 "period_of" 1 (F_period_of G_round_of) := by
  refine ⟨f, fd, ["rule"], def_ok F sc_period_of fun cdv A outer s H E hr => ?_, hm, F.kp, F.binds fun _ _ _ _ _ _ us hl => match us, hl with | [_], _ => rfl⟩
  exact ss_cons (ss_set (i := 1) sc_period_of.nd rfl (by first | exact Or.inl rfl | exact Or.inr rfl) (se_do D_round_of hr rfl (sa_cons (se_var 0) (sa_nil))))
    (ss_cons (ss_setLc (i := 2) rfl sc_period_of.nd rfl rfl (sw_true rfl rfl rfl (by decide +kernel)) (own := [("number", 3)]) (si_range2 rfl B.b_range (sa_cons (se_int) (sa_cons (se_op op_addU os_add (se_callB call_lenU cs_len rfl B.b_len boot_len (sa_cons (se_var 1) (sa_nil))) (se_int)) (sa_nil)))) (blkOk_by (by kernel_rfl)) (fun _ _ _ _ _ => pg_name (i := 3) sc_period_of.nd rfl (by first | exact Or.inl rfl | exact Or.inr rfl)) (gok_N (i := 3) (by decide)) (fun _ _ _ _ _ => sts_one (st_cmp (op_eqD hr.units) os_eq (se_op op_mod os_mod (se_callB call_lenU cs_len rfl B.b_len boot_len (sa_cons (se_var 1) (sa_nil))) (se_var 3)) (se_int))) (fun _ _ _ _ _ => se_var 3))
    (ss_one (ss_ret (se_ix (se_lc rfl sc_period_of.nd (own := [("number", 3)]) (si_seq (se_var 2)) (blkOk_by (by kernel_rfl)) (fun _ _ _ _ _ => pg_name (i := 3) sc_period_of.nd rfl (by first | exact Or.inl rfl | exact Or.inr rfl)) (gok_N (i := 3) (by decide)) (fun _ _ _ _ _ => sts_one (st_cmp (op_eqD hr.units) os_eq (se_op op_addU os_add (se_slice (se_var 1) (so_some (se_var 3)) (so_none)) (se_slice (se_var 1) (so_none) (so_some (se_var 3)))) (se_var 1))) (fun _ _ _ _ _ => se_var 3)) (se_int)))))
abbrev s_held : Stmt := top 22
theorem sc_held : FnScope ["rule", "time"] ["rule", "time"] (defScope s_held) := ⟨rfl, rfl, rfl, by decide +kernel, rfl, by decide +kernel, by decide +kernel⟩
theorem w_held {G_check_rule : List MV → MH → R MV} {G_check_time : List MV → MH → R MV} {G_held_at : List MV → MH → R MV} {f : Addr} {fd : FuncData} (B : Glb mg) (D_check_rule : Def P w K mg base 3 "check_rule" 1 G_check_rule) (D_check_time : Def P w K mg base 2 "check_time" 1 G_check_time) (D_held_at : Def P w K mg base 2 "held_at" 2 G_held_at) (F : Fun K "held" "held" s_held f fd) (hm : mg "held" = some (.ref f)) : Def P w K mg base 4 "held" 2 (F_held G_check_rule G_check_time G_held_at) := by
  refine ⟨f, fd, ["rule", "time"], def_ok F sc_held fun cdv A outer s H E hr => ?_, hm, F.kp, F.binds fun _ _ _ _ _ _ us hl => match us, hl with | [_, _], _ => rfl⟩
  exact ss_cons (ss_expr (se_do D_check_rule hr rfl (sa_cons (se_var 0) (sa_nil))))
    (ss_cons (ss_expr (se_do D_check_time hr rfl (sa_cons (se_var 1) (sa_nil))))
    (ss_one (ss_ret (se_do D_held_at hr rfl (sa_cons (se_var 0) (sa_cons (se_var 1) (sa_nil)))))))
abbrev s_settled : Stmt := top 23
theorem sc_settled : FnScope ["rule"] ["rule"] (defScope s_settled) := ⟨rfl, rfl, rfl, by decide +kernel, rfl, by decide +kernel, by decide +kernel⟩
theorem w_settled {G_check_rule : List MV → MH → R MV} {G_settled_of : List MV → MH → R MV} {f : Addr} {fd : FuncData} (B : Glb mg) (D_check_rule : Def P w K mg base 3 "check_rule" 1 G_check_rule) (D_settled_of : Def P w K mg base 1 "settled_of" 1 G_settled_of) (F : Fun K "settled" "settled" s_settled f fd) (hm : mg "settled" = some (.ref f)) : Def P w K mg base 4 "settled" 1 (F_settled G_check_rule G_settled_of) := by
  refine ⟨f, fd, ["rule"], def_ok F sc_settled fun cdv A outer s H E hr => ?_, hm, F.kp, F.binds fun _ _ _ _ _ _ us hl => match us, hl with | [_], _ => rfl⟩
  exact ss_cons (ss_expr (se_do D_check_rule hr rfl (sa_cons (se_var 0) (sa_nil))))
    (ss_one (ss_ret (se_do D_settled_of hr rfl (sa_cons (se_var 0) (sa_nil)))))
abbrev s_period : Stmt := top 24
theorem sc_period : FnScope ["rule"] ["rule"] (defScope s_period) := ⟨rfl, rfl, rfl, by decide +kernel, rfl, by decide +kernel, by decide +kernel⟩
theorem w_period {G_check_rule : List MV → MH → R MV} {G_period_of : List MV → MH → R MV} {f : Addr} {fd : FuncData} (B : Glb mg) (D_check_rule : Def P w K mg base 3 "check_rule" 1 G_check_rule) (D_period_of : Def P w K mg base 4 "period_of" 1 G_period_of) (F : Fun K "period" "period" s_period f fd) (hm : mg "period" = some (.ref f)) : Def P w K mg base 5 "period" 1 (F_period G_check_rule G_period_of) := by
  refine ⟨f, fd, ["rule"], def_ok F sc_period fun cdv A outer s H E hr => ?_, hm, F.kp, F.binds fun _ _ _ _ _ _ us hl => match us, hl with | [_], _ => rfl⟩
  exact ss_cons (ss_expr (se_do D_check_rule hr rfl (sa_cons (se_var 0) (sa_nil))))
    (ss_one (ss_ret (se_do D_period_of hr rfl (sa_cons (se_var 0) (sa_nil)))))
abbrev s_greatest : Stmt := top 25
theorem sc_greatest : FnScope ["rule", "time"] ["rule"] (defScope s_greatest) := ⟨rfl, rfl, rfl, by decide +kernel, rfl, by decide +kernel, by decide +kernel⟩
theorem w_greatest {G_check_rule : List MV → MH → R MV} {G_settled_of : List MV → MH → R MV} {G_turn_of : List MV → MH → R MV} {G_held_at : List MV → MH → R MV} {f : Addr} {fd : FuncData} (B : Glb mg) (D_check_rule : Def P w K mg base 3 "check_rule" 1 G_check_rule) (D_settled_of : Def P w K mg base 1 "settled_of" 1 G_settled_of) (D_turn_of : Def P w K mg base 2 "turn_of" 1 G_turn_of) (D_held_at : Def P w K mg base 2 "held_at" 2 G_held_at) (F : Fun K "greatest" "greatest" s_greatest f fd) (hm : mg "greatest" = some (.ref f)) : Def P w K mg base 4 "greatest" 1 (F_greatest G_check_rule G_settled_of G_turn_of G_held_at) := by
  refine ⟨f, fd, ["rule"], def_ok F sc_greatest fun cdv A outer s H E hr => ?_, hm, F.kp, F.binds fun _ _ _ _ _ _ us hl => match us, hl with | [_], _ => rfl⟩
  exact ss_cons (ss_expr (se_do D_check_rule hr rfl (sa_cons (se_var 0) (sa_nil))))
    (ss_one (ss_ret (se_callB (call_maxU rfl) cs_max rfl B.b_max boot_max (sa_cons (se_lc rfl sc_greatest.nd (own := [("time", 1)]) (si_range1 rfl B.b_range (sa_cons (se_op op_addU os_add (se_do D_settled_of hr rfl (sa_cons (se_var 0) (sa_nil))) (se_do D_turn_of hr rfl (sa_cons (se_var 0) (sa_nil)))) (sa_nil))) (blkOk_by (by kernel_rfl)) (fun _ _ _ _ _ => pg_name (i := 1) sc_greatest.nd rfl (by first | exact Or.inl rfl | exact Or.inr rfl)) (gok_N (i := 1) (by decide)) (fun _ _ _ _ _ => sts_nil) (fun _ _ _ _ _ => se_callB call_lenU cs_len rfl B.b_len boot_len (sa_cons (se_do D_held_at hr rfl (sa_cons (se_var 0) (sa_cons (se_var 1) (sa_nil)))) (sa_nil)))) (sa_nil)))))
abbrev s_gap : Stmt := top 26
theorem sc_gap : FnScope ["rule", "age", "found", "row", "older", "one"] ["rule", "age"] (defScope s_gap) := ⟨rfl, rfl, rfl, by decide +kernel, rfl, by decide +kernel, by decide +kernel⟩
theorem w_gap {G_check_rule : List MV → MH → R MV} {G_is_integer : List MV → MH → R MV} {G_round_of : List MV → MH → R MV} {G_settled_of : List MV → MH → R MV} {f : Addr} {fd : FuncData} (B : Glb mg) (D_check_rule : Def P w K mg base 3 "check_rule" 1 G_check_rule) (D_is_integer : Def P w K mg base 1 "is_integer" 3 G_is_integer) (D_round_of : Def P w K mg base 3 "round_of" 1 G_round_of) (D_settled_of : Def P w K mg base 1 "settled_of" 1 G_settled_of) (F : Fun K "gap" "gap" s_gap f fd) (hm : mg "gap" = some (.ref f)) : Def P w K mg base 4 "gap" 2 (F_gap G_check_rule G_is_integer G_round_of G_settled_of) := by
  refine ⟨f, fd, ["rule", "age"], def_ok F sc_gap fun cdv A outer s H E hr => ?_, hm, F.kp, F.binds fun _ _ _ _ _ _ us hl => match us, hl with | [_, _], _ => rfl⟩
  exact ss_cons (ss_expr (se_do D_check_rule hr rfl (sa_cons (se_var 0) (sa_nil))))
    (ss_cons (ss_if (st_not (st_val (se_do D_is_integer hr rfl (sa_cons (se_var 1) (sa_cons (se_int) (sa_cons (se_globI rfl B.c_MAX_UNTIL) (sa_nil))))))) (ss_one (ss_never)) (ss_nil))
    (ss_cons (ss_set (i := 2) sc_gap.nd rfl (by first | exact Or.inl rfl | exact Or.inr rfl) (se_lst (sa_nil)))
    (ss_cons (ss_for (own := [3]) PassesOwn.never rfl (si_seq (se_do D_round_of hr rfl (sa_cons (se_var 0) (sa_nil)))) (pg_name (i := 3) sc_gap.nd rfl (by first | exact Or.inl rfl | exact Or.inr rfl)) (gok_N (i := 3) (by decide)) (ss_cons (ss_setLc (i := 4) rfl sc_gap.nd rfl rfl (sw_true rfl rfl rfl (by decide +kernel)) (own := [("one", 5)]) (si_seq (se_var 3)) (blkOk_by (by kernel_rfl)) (fun _ _ _ _ _ => pg_name (i := 5) sc_gap.nd rfl (by first | exact Or.inl rfl | exact Or.inr rfl)) (gok_N (i := 5) (by decide)) (fun _ _ _ _ _ => sts_one (st_cmp op_ge os_ge (se_var 5) (se_var 1))) (fun _ _ _ _ _ => se_op op_sub os_sub (se_var 5) (se_var 1)))
    (ss_cons (ss_if (st_cmp (op_eqD hr.units) os_eq (se_var 4) (se_lst (sa_nil))) (ss_one (ss_ret (se_non))) (ss_nil))
    (ss_one (ss_expr (se_append (se_var 2) (sa_cons (se_ix (se_var 4) (se_int)) (sa_nil))))))))
    (ss_one (ss_ret (se_tup (sa_cons (se_callB (call_maxU rfl) cs_max rfl B.b_max boot_max (sa_cons (se_var 2) (sa_nil))) (sa_cons (se_op op_addU os_add (se_do D_settled_of hr rfl (sa_cons (se_var 0) (sa_nil))) (se_index hr (se_var 2) (sa_cons (se_callB (call_maxU rfl) cs_max rfl B.b_max boot_max (sa_cons (se_var 2) (sa_nil))) (sa_nil)))) (sa_nil)))))))))
abbrev s_l_cell_at : Stmt := top 28
theorem sc_l_cell_at : FnScope ["_law_script", "_law_k"] ["_law_script", "_law_k"] (defScope s_l_cell_at) := ⟨rfl, rfl, rfl, by decide +kernel, rfl, by decide +kernel, by decide +kernel⟩
theorem w_l_cell_at {f : Addr} {fd : FuncData} (B : Glb mg) (F : Fun K "_law_cell_at" "_law_cell_at" s_l_cell_at f fd) (hm : mg "_law_cell_at" = some (.ref f)) : Def P w K mg base 1 "_law_cell_at" 2 (F_l_cell_at) := by
  refine ⟨f, fd, ["_law_script", "_law_k"], def_ok F sc_l_cell_at fun cdv A outer s H E hr => ?_, hm, F.kp, F.binds fun _ _ _ _ _ _ us hl => match us, hl with | [_, _], _ => rfl⟩
  exact ss_cons (ss_if (st_cmp op_lt os_lt (se_var 1) (se_callB call_lenU cs_len rfl B.b_len boot_len (sa_cons (se_var 0) (sa_nil)))) (ss_one (ss_ret (se_ix (se_var 0) (se_var 1)))) (ss_nil))
    (ss_one (ss_ret (se_int)))
abbrev s_l_draw : Stmt := top 29
theorem sc_l_draw : FnScope ["_law_cell", "_law_k", "_law_bound", "_law_primes"] ["_law_cell", "_law_k", "_law_bound"] (defScope s_l_draw) := ⟨rfl, rfl, rfl, by decide +kernel, rfl, by decide +kernel, by decide +kernel⟩
theorem w_l_draw {f : Addr} {fd : FuncData} (B : Glb mg) (F : Fun K "_law_draw" "_law_draw" s_l_draw f fd) (hm : mg "_law_draw" = some (.ref f)) : Def P w K mg base 1 "_law_draw" 3 (F_l_draw) := by
  refine ⟨f, fd, ["_law_cell", "_law_k", "_law_bound"], def_ok F sc_l_draw fun cdv A outer s H E hr => ?_, hm, F.kp, F.binds fun _ _ _ _ _ _ us hl => match us, hl with | [_, _, _], _ => rfl⟩
  exact ss_cons (ss_set (i := 3) sc_l_draw.nd rfl (by first | exact Or.inl rfl | exact Or.inr rfl) (se_tup (sa_cons (se_int) (sa_cons (se_int) (sa_cons (se_int) (sa_cons (se_int) (sa_cons (se_int) (sa_cons (se_int) (sa_cons (se_int) (sa_cons (se_int) (sa_cons (se_int) (sa_cons (se_int) (sa_cons (se_int) (sa_cons (se_int) (sa_cons (se_int) (sa_cons (se_int) (sa_cons (se_int) (sa_cons (se_int) (sa_nil)))))))))))))))))))
    (ss_one (ss_ret (se_op op_mod os_mod (se_op op_mod os_mod (se_callTy call_int1 cs_int rfl B.b_int (by decide +kernel) (sa_cons (se_op op_addU os_add (se_op op_mulB os_mul (se_var 0) (se_int)) (se_op op_mulB os_mul (se_var 1) (se_int))) (sa_nil))) (se_ix (se_var 3) (se_op op_mod os_mod (se_callTy call_int1 cs_int rfl B.b_int (by decide +kernel) (sa_cons (se_var 1) (sa_nil))) (se_int)))) (se_var 2))))
abbrev s_l_number : Stmt := top 30
theorem sc_l_number : FnScope ["_law_cell", "_law_k", "_law_bound", "_law_power", "_law_times", "_law_remains", "_law_small"] ["_law_cell", "_law_k", "_law_bound"] (defScope s_l_number) := ⟨rfl, rfl, rfl, by decide +kernel, rfl, by decide +kernel, by decide +kernel⟩
theorem w_l_number {G_l_draw : List MV → MH → R MV} {f : Addr} {fd : FuncData} (B : Glb mg) (D_l_draw : Def P w K mg base 1 "_law_draw" 3 G_l_draw) (F : Fun K "_law_number" "_law_number" s_l_number f fd) (hm : mg "_law_number" = some (.ref f)) : Def P w K mg base 2 "_law_number" 3 (F_l_number G_l_draw) := by
  refine ⟨f, fd, ["_law_cell", "_law_k", "_law_bound"], def_ok F sc_l_number fun cdv A outer s H E hr => ?_, hm, F.kp, F.binds fun _ _ _ _ _ _ us hl => match us, hl with | [_, _, _], _ => rfl⟩
  exact ss_cons (ss_set (i := 3) sc_l_number.nd rfl (by first | exact Or.inl rfl | exact Or.inr rfl) (se_int))
    (ss_cons (ss_for (own := [4]) PassesOwn.never rfl (si_range1 rfl B.b_range (sa_cons (se_op op_mod os_mod (se_callTy call_int1 cs_int rfl B.b_int (by decide +kernel) (sa_cons (se_var 1) (sa_nil))) (se_int)) (sa_nil))) (pg_name (i := 4) sc_l_number.nd rfl (by first | exact Or.inl rfl | exact Or.inr rfl)) (gok_N (i := 4) (by decide)) (ss_one (ss_set (i := 3) sc_l_number.nd rfl (by first | exact Or.inl rfl | exact Or.inr rfl) (se_op op_mulB os_mul (se_var 3) (se_int)))))
    (ss_cons (ss_set (i := 5) sc_l_number.nd rfl (by first | exact Or.inl rfl | exact Or.inr rfl) (se_op op_fdivW os_div (se_op op_sub os_sub (se_var 0) (se_op op_pow os_pow (se_int) (se_int))) (se_var 3)))
    (ss_cons (ss_if (st_cmp op_gt os_gt (se_var 5) (se_int)) (ss_one (ss_ret (se_op op_mod os_mod (se_op op_mod os_mod (se_callTy call_int1 cs_int rfl B.b_int (by decide +kernel) (sa_cons (se_var 5) (sa_nil))) (se_int)) (se_var 2)))) (ss_nil))
    (ss_cons (ss_set (i := 6) sc_l_number.nd rfl (by first | exact Or.inl rfl | exact Or.inr rfl) (se_op op_mod os_mod (se_callTy call_int1 cs_int rfl B.b_int (by decide +kernel) (sa_cons (se_var 0) (sa_nil))) (se_int)))
    (ss_one (ss_ret (se_op op_mod os_mod (se_do D_l_draw hr rfl (sa_cons (se_op op_mulB os_mul (se_op op_addU os_add (se_var 6) (se_op op_mulB os_mul (se_int) (se_var 1))) (se_op op_addU os_add (se_op op_addU os_add (se_var 6) (se_op op_mulB os_mul (se_int) (se_var 1))) (se_int))) (sa_cons (se_op op_addU os_add (se_op op_mod os_mod (se_callTy call_int1 cs_int rfl B.b_int (by decide +kernel) (sa_cons (se_var 1) (sa_nil))) (se_int)) (se_int)) (sa_cons (se_int) (sa_nil))))) (se_var 2))))))))
abbrev s_l_next : Stmt := top 31
theorem sc_l_next : FnScope ["_law_draw_here", "_law_bound", "_law_at", "_law_cell"] ["_law_draw_here", "_law_bound"] (defScope s_l_next) := ⟨rfl, rfl, rfl, by decide +kernel, rfl, by decide +kernel, by decide +kernel⟩
theorem w_l_next {G_l_cell_at : List MV → MH → R MV} {G_l_number : List MV → MH → R MV} {f : Addr} {fd : FuncData} (B : Glb mg) (D_l_cell_at : Def P w K mg base 1 "_law_cell_at" 2 G_l_cell_at) (D_l_number : Def P w K mg base 2 "_law_number" 3 G_l_number) (F : Fun K "_law_next" "_law_next" s_l_next f fd) (hm : mg "_law_next" = some (.ref f)) : Def P w K mg base 3 "_law_next" 2 (F_l_next G_l_cell_at G_l_number) := by
  refine ⟨f, fd, ["_law_draw_here", "_law_bound"], def_ok F sc_l_next fun cdv A outer s H E hr => ?_, hm, F.kp, F.binds fun _ _ _ _ _ _ us hl => match us, hl with | [_, _], _ => rfl⟩
  exact ss_cons (ss_store (se_op op_addU os_add (se_ix (se_var 0) (se_int)) (se_int)) (se_var 0) (se_int))
    (ss_cons (ss_set (i := 2) sc_l_next.nd rfl (by first | exact Or.inl rfl | exact Or.inr rfl) (se_op op_fdivW os_div (se_ix (se_var 0) (se_int)) (se_int)))
    (ss_cons (ss_set (i := 3) sc_l_next.nd rfl (by first | exact Or.inl rfl | exact Or.inr rfl) (se_op op_addU os_add (se_do D_l_cell_at hr rfl (sa_cons (se_ix (se_var 0) (se_int)) (sa_cons (se_op op_addU os_add (se_ix (se_var 0) (se_int)) (se_var 2)) (sa_nil)))) (se_op op_mulB os_mul (se_int) (se_var 2))))
    (ss_one (ss_ret (se_do D_l_number hr rfl (sa_cons (se_var 3) (sa_cons (se_op op_addU os_add (se_op op_mod os_mod (se_callTy call_int1 cs_int rfl B.b_int (by decide +kernel) (sa_cons (se_ix (se_var 0) (se_int)) (sa_nil))) (se_int)) (se_int)) (sa_cons (se_var 1) (sa_nil)))))))))
abbrev s_l_rule : Stmt := top 32
theorem sc_l_rule : FnScope ["_law_draw_here", "_law_most", "_law_found", "_law_turn"] ["_law_draw_here", "_law_most"] (defScope s_l_rule) := ⟨rfl, rfl, rfl, by decide +kernel, rfl, by decide +kernel, by decide +kernel⟩
theorem w_l_rule {G_l_next : List MV → MH → R MV} {f : Addr} {fd : FuncData} (B : Glb mg) (D_l_next : Def P w K mg base 3 "_law_next" 2 G_l_next) (F : Fun K "_law_rule" "_law_rule" s_l_rule f fd) (hm : mg "_law_rule" = some (.ref f)) : Def P w K mg base 4 "_law_rule" 2 (F_l_rule G_l_next) := by
  refine ⟨f, fd, ["_law_draw_here", "_law_most"], def_ok F sc_l_rule fun cdv A outer s H E hr => ?_, hm, F.kp, F.binds fun _ _ _ _ _ _ us hl => match us, hl with | [_, _], _ => rfl⟩
  exact ss_cons (ss_set (i := 2) sc_l_rule.nd rfl (by first | exact Or.inl rfl | exact Or.inr rfl) (se_lst (sa_nil)))
    (ss_cons (ss_for (own := [3]) PassesOwn.never rfl (si_range1 rfl B.b_range (sa_cons (se_op op_addU os_add (se_int) (se_do D_l_next hr rfl (sa_cons (se_var 0) (sa_cons (se_int) (sa_nil))))) (sa_nil))) (pg_name (i := 3) sc_l_rule.nd rfl (by first | exact Or.inl rfl | exact Or.inr rfl)) (gok_N (i := 3) (by decide)) (ss_one (ss_expr (se_append (se_var 2) (sa_cons (se_tup (sa_cons (se_op op_addU os_add (se_int) (se_do D_l_next hr rfl (sa_cons (se_var 0) (sa_cons (se_int) (sa_nil))))) (sa_cons (se_do D_l_next hr rfl (sa_cons (se_var 0) (sa_cons (se_op op_addU os_add (se_var 1) (se_int)) (sa_nil)))) (sa_nil)))) (sa_nil))))))
    (ss_cons (ss_if (st_cmp (op_eqD hr.units) os_eq (se_do D_l_next hr rfl (sa_cons (se_var 0) (sa_cons (se_int) (sa_nil)))) (se_int)) (ss_one (ss_store (se_tup (sa_cons (se_int) (sa_cons (se_do D_l_next hr rfl (sa_cons (se_var 0) (sa_cons (se_op op_addU os_add (se_int) (se_op op_fdivW os_div (se_var 1) (se_int))) (sa_nil)))) (sa_nil)))) (se_var 2) (se_int))) (ss_nil))
    (ss_one (ss_ret (se_callTy call_tuple_of cs_tuple rfl B.b_tuple (by decide +kernel) (sa_cons (se_var 2) (sa_nil)))))))
abbrev s_l_held : Stmt := top 33
theorem sc_l_held : FnScope ["_law_rule_here", "_law_time", "_law_found", "_law_age", "_law_able", "_law_every", "_law_until"] ["_law_rule_here", "_law_time"] (defScope s_l_held) := ⟨rfl, rfl, rfl, by decide +kernel, rfl, by decide +kernel, by decide +kernel⟩
theorem w_l_held {f : Addr} {fd : FuncData} (B : Glb mg) (F : Fun K "_law_held" "_law_held" s_l_held f fd) (hm : mg "_law_held" = some (.ref f)) : Def P w K mg base 1 "_law_held" 2 (F_l_held) := by
  refine ⟨f, fd, ["_law_rule_here", "_law_time"], def_ok F sc_l_held fun cdv A outer s H E hr => ?_, hm, F.kp, F.binds fun _ _ _ _ _ _ us hl => match us, hl with | [_, _], _ => rfl⟩
  exact ss_cons (ss_set (i := 2) sc_l_held.nd rfl (by first | exact Or.inl rfl | exact Or.inr rfl) (se_lst (sa_nil)))
    (ss_cons (ss_for (own := [3]) PassesOwn.never rfl (si_range1 rfl B.b_range (sa_cons (se_op op_addU os_add (se_callB (call_minU rfl) cs_min rfl B.b_min boot_min (sa_cons (se_var 1) (sa_cons (se_int) (sa_nil)))) (se_int)) (sa_nil))) (pg_name (i := 3) sc_l_held.nd rfl (by first | exact Or.inl rfl | exact Or.inr rfl)) (gok_N (i := 3) (by decide)) (ss_cons (ss_setLc (i := 4) rfl sc_l_held.nd rfl rfl (sw_true rfl rfl rfl (by decide +kernel)) (own := [("_law_every", 5), ("_law_until", 6)]) (si_seq (se_var 0)) (blkOk_by (by kernel_rfl)) (fun _ _ _ _ _ => pg_tup rfl (pgs_cons (pg_name (i := 5) sc_l_held.nd rfl (by first | exact Or.inl rfl | exact Or.inr rfl)) (pgs_cons (pg_name (i := 6) sc_l_held.nd rfl (by first | exact Or.inl rfl | exact Or.inr rfl)) (pgs_nil)))) (gok_T (is := [5, 6]) (by decide) rfl) (fun _ _ _ _ _ => sts_one (st_cmp (op_eqD hr.units) os_eq (se_op op_mod os_mod (se_callTy call_int1 cs_int rfl B.b_int (by decide +kernel) (sa_cons (se_op op_sub os_sub (se_var 1) (se_var 3)) (sa_nil))) (se_var 5)) (se_int))) (fun _ _ _ _ _ => se_var 6))
    (ss_one (ss_if (st_val (se_callB (cr_any rfl) cs_any rfl B.b_any boot_any (sa_cons (se_lc rfl sc_l_held.nd (own := [("_law_until", 6)]) (si_seq (se_var 4)) (blkOk_by (by kernel_rfl)) (fun _ _ _ _ _ => pg_name (i := 6) sc_l_held.nd rfl (by first | exact Or.inl rfl | exact Or.inr rfl)) (gok_N (i := 6) (by decide)) (fun _ _ _ _ _ => sts_nil) (fun _ _ _ _ _ => se_cmp op_le os_le (se_var 3) (se_var 6))) (sa_nil)))) (ss_one (ss_expr (se_append (se_var 2) (sa_cons (se_var 3) (sa_nil))))) (ss_nil)))))
    (ss_one (ss_ret (se_callTy call_tuple_of cs_tuple rfl B.b_tuple (by decide +kernel) (sa_cons (se_var 2) (sa_nil))))))
abbrev s_l_settled : Stmt := top 34
theorem sc_l_settled : FnScope ["_law_rule_here", "_law_every", "_law_until"] ["_law_rule_here"] (defScope s_l_settled) := ⟨rfl, rfl, rfl, by decide +kernel, rfl, by decide +kernel, by decide +kernel⟩
theorem w_l_settled {f : Addr} {fd : FuncData} (B : Glb mg) (F : Fun K "_law_settled" "_law_settled" s_l_settled f fd) (hm : mg "_law_settled" = some (.ref f)) : Def P w K mg base 1 "_law_settled" 1 (F_l_settled) := by
  refine ⟨f, fd, ["_law_rule_here"], def_ok F sc_l_settled fun cdv A outer s H E hr => ?_, hm, F.kp, F.binds fun _ _ _ _ _ _ us hl => match us, hl with | [_], _ => rfl⟩
  exact ss_one (ss_ret (se_callB (call_maxU rfl) cs_max rfl B.b_max boot_max (sa_cons (se_lc rfl sc_l_settled.nd (own := [("_law_every", 1), ("_law_until", 2)]) (si_seq (se_var 0)) (blkOk_by (by kernel_rfl)) (fun _ _ _ _ _ => pg_tup rfl (pgs_cons (pg_name (i := 1) sc_l_settled.nd rfl (by first | exact Or.inl rfl | exact Or.inr rfl)) (pgs_cons (pg_name (i := 2) sc_l_settled.nd rfl (by first | exact Or.inl rfl | exact Or.inr rfl)) (pgs_nil)))) (gok_T (is := [1, 2]) (by decide) rfl) (fun _ _ _ _ _ => sts_nil) (fun _ _ _ _ _ => se_var 2)) (sa_nil))))
abbrev s_l_rows : Stmt := top 35
theorem sc_l_rows : FnScope ["_law_rule_here", "_law_many", "_law_first", "_law_more"] ["_law_rule_here", "_law_many"] (defScope s_l_rows) := ⟨rfl, rfl, rfl, by decide +kernel, rfl, by decide +kernel, by decide +kernel⟩
theorem w_l_rows {G_l_settled : List MV → MH → R MV} {G_l_held : List MV → MH → R MV} {f : Addr} {fd : FuncData} (B : Glb mg) (D_l_settled : Def P w K mg base 1 "_law_settled" 1 G_l_settled) (D_l_held : Def P w K mg base 1 "_law_held" 2 G_l_held) (F : Fun K "_law_rows" "_law_rows" s_l_rows f fd) (hm : mg "_law_rows" = some (.ref f)) : Def P w K mg base 2 "_law_rows" 2 (F_l_rows G_l_settled G_l_held) := by
  refine ⟨f, fd, ["_law_rule_here", "_law_many"], def_ok F sc_l_rows fun cdv A outer s H E hr => ?_, hm, F.kp, F.binds fun _ _ _ _ _ _ us hl => match us, hl with | [_, _], _ => rfl⟩
  exact ss_cons (ss_set (i := 2) sc_l_rows.nd rfl (by first | exact Or.inl rfl | exact Or.inr rfl) (se_do D_l_settled hr rfl (sa_cons (se_var 0) (sa_nil))))
    (ss_one (ss_ret (se_lc rfl sc_l_rows.nd (own := [("_law_more", 3)]) (si_range1 rfl B.b_range (sa_cons (se_var 1) (sa_nil))) (blkOk_by (by kernel_rfl)) (fun _ _ _ _ _ => pg_name (i := 3) sc_l_rows.nd rfl (by first | exact Or.inl rfl | exact Or.inr rfl)) (gok_N (i := 3) (by decide)) (fun _ _ _ _ _ => sts_nil) (fun _ _ _ _ _ => se_do D_l_held hr rfl (sa_cons (se_var 0) (sa_cons (se_op op_addU os_add (se_var 2) (se_var 3)) (sa_nil)))))))
abbrev s_l_period : Stmt := top 36
theorem sc_l_period : FnScope ["_law_rule_here", "_law_rows_here", "_law_number_here", "_law_at"] ["_law_rule_here"] (defScope s_l_period) := ⟨rfl, rfl, rfl, by decide +kernel, rfl, by decide +kernel, by decide +kernel⟩
theorem w_l_period {G_l_rows : List MV → MH → R MV} {f : Addr} {fd : FuncData} (B : Glb mg) (D_l_rows : Def P w K mg base 2 "_law_rows" 2 G_l_rows) (F : Fun K "_law_period" "_law_period" s_l_period f fd) (hm : mg "_law_period" = some (.ref f)) : Def P w K mg base 3 "_law_period" 1 (F_l_period G_l_rows) := by
  refine ⟨f, fd, ["_law_rule_here"], def_ok F sc_l_period fun cdv A outer s H E hr => ?_, hm, F.kp, F.binds fun _ _ _ _ _ _ us hl => match us, hl with | [_], _ => rfl⟩
  exact ss_cons (ss_set (i := 1) sc_l_period.nd rfl (by first | exact Or.inl rfl | exact Or.inr rfl) (se_do D_l_rows hr rfl (sa_cons (se_var 0) (sa_cons (se_int) (sa_nil)))))
    (ss_cons (ss_set (i := 2) sc_l_period.nd rfl (by first | exact Or.inl rfl | exact Or.inr rfl) (se_int))
    (ss_cons (ss_while PassesOwn.never (st_w (sw_and (st_cmp op_lt os_lt (se_var 2) (se_int)) (sw_and1 (st_cmp (op_neD hr.units) os_ne (se_lc rfl sc_l_period.nd (own := [("_law_at", 3)]) (si_range1 rfl B.b_range (sa_cons (se_int) (sa_nil))) (blkOk_by (by kernel_rfl)) (fun _ _ _ _ _ => pg_name (i := 3) sc_l_period.nd rfl (by first | exact Or.inl rfl | exact Or.inr rfl)) (gok_N (i := 3) (by decide)) (fun _ _ _ _ _ => sts_nil) (fun _ _ _ _ _ => se_ix (se_var 1) (se_op op_mod os_mod (se_callTy call_int1 cs_int rfl B.b_int (by decide +kernel) (sa_cons (se_op op_addU os_add (se_var 3) (se_var 2)) (sa_nil))) (se_int)))) (se_var 1))))) (ss_one (ss_set (i := 2) sc_l_period.nd rfl (by first | exact Or.inl rfl | exact Or.inr rfl) (se_op op_addU os_add (se_var 2) (se_int)))))
    (ss_one (ss_ret (se_var 2)))))
abbrev s_l_gap : Stmt := top 37
theorem sc_l_gap : FnScope ["_law_rule_here", "_law_age", "_law_best", "_law_first", "_law_more", "_law_ages", "_law_older", "_law_one"] ["_law_rule_here", "_law_age"] (defScope s_l_gap) := ⟨rfl, rfl, rfl, by decide +kernel, rfl, by decide +kernel, by decide +kernel⟩
theorem w_l_gap {G_l_settled : List MV → MH → R MV} {G_l_rows : List MV → MH → R MV} {f : Addr} {fd : FuncData} (B : Glb mg) (D_l_settled : Def P w K mg base 1 "_law_settled" 1 G_l_settled) (D_l_rows : Def P w K mg base 2 "_law_rows" 2 G_l_rows) (F : Fun K "_law_gap" "_law_gap" s_l_gap f fd) (hm : mg "_law_gap" = some (.ref f)) : Def P w K mg base 3 "_law_gap" 2 (F_l_gap G_l_settled G_l_rows) := by
  refine ⟨f, fd, ["_law_rule_here", "_law_age"], def_ok F sc_l_gap fun cdv A outer s H E hr => ?_, hm, F.kp, F.binds fun _ _ _ _ _ _ us hl => match us, hl with | [_, _], _ => rfl⟩
  exact ss_cons (ss_par (i := 2) (j := 3) rfl sc_l_gap.nd rfl rfl (by decide) rfl rfl (sa_cons (se_non) (sa_cons (se_do D_l_settled hr rfl (sa_cons (se_var 0) (sa_nil))) (sa_nil))) rfl)
    (ss_cons (ss_for (own := [4, 5]) PassesOwn.never rfl (si_enumV rfl B.b_enumerate (sa_cons (se_do D_l_rows hr rfl (sa_cons (se_var 0) (sa_cons (se_int) (sa_nil)))) (sa_nil))) (pg_tup rfl (pgs_cons (pg_name (i := 4) sc_l_gap.nd rfl (by first | exact Or.inl rfl | exact Or.inr rfl)) (pgs_cons (pg_name (i := 5) sc_l_gap.nd rfl (by first | exact Or.inl rfl | exact Or.inr rfl)) (pgs_nil)))) (gok_T (is := [4, 5]) (by decide) rfl) (ss_cons (ss_setLc (i := 6) rfl sc_l_gap.nd rfl rfl (sw_true rfl rfl rfl (by decide +kernel)) (own := [("_law_one", 7)]) (si_seq (se_var 5)) (blkOk_by (by kernel_rfl)) (fun _ _ _ _ _ => pg_name (i := 7) sc_l_gap.nd rfl (by first | exact Or.inl rfl | exact Or.inr rfl)) (gok_N (i := 7) (by decide)) (fun _ _ _ _ _ => sts_one (st_cmp op_ge os_ge (se_var 7) (se_var 1))) (fun _ _ _ _ _ => se_op op_sub os_sub (se_var 7) (se_var 1)))
    (ss_cons (ss_if (st_cmp (op_eqD hr.units) os_eq (se_var 6) (se_lst (sa_nil))) (ss_one (ss_ret (se_non))) (ss_nil))
    (ss_one (ss_if (st_w (sw_or (st_cmp op_isN os_isN (se_var 2) (se_non)) (sw_or1 (st_cmp op_gt os_gt (se_ix (se_var 6) (se_int)) (se_ix (se_var 2) (se_int)))))) (ss_one (ss_set (i := 2) sc_l_gap.nd rfl (by first | exact Or.inl rfl | exact Or.inr rfl) (se_tup (sa_cons (se_ix (se_var 6) (se_int)) (sa_cons (se_op op_addU os_add (se_var 3) (se_var 4)) (sa_nil)))))) (ss_nil))))))
    (ss_one (ss_ret (se_var 2))))
abbrev s_l_one_right : Stmt := top 38
theorem sc_l_one_right : FnScope ["_law_draw_here", "_law_rule_here", "_law_turn", "_law_time", "_law_age"] ["_law_draw_here", "_law_rule_here"] (defScope s_l_one_right) := ⟨rfl, rfl, rfl, by decide +kernel, rfl, by decide +kernel, by decide +kernel⟩
theorem w_l_one_right {G_settled : List MV → MH → R MV} {G_l_settled : List MV → MH → R MV} {G_period : List MV → MH → R MV} {G_l_period : List MV → MH → R MV} {G_l_next : List MV → MH → R MV} {G_held : List MV → MH → R MV} {G_l_held : List MV → MH → R MV} {G_greatest : List MV → MH → R MV} {G_gap : List MV → MH → R MV} {G_l_gap : List MV → MH → R MV} {f : Addr} {fd : FuncData} (B : Glb mg) (D_settled : Def P w K mg base 4 "settled" 1 G_settled) (D_l_settled : Def P w K mg base 1 "_law_settled" 1 G_l_settled) (D_period : Def P w K mg base 5 "period" 1 G_period) (D_l_period : Def P w K mg base 3 "_law_period" 1 G_l_period) (D_l_next : Def P w K mg base 3 "_law_next" 2 G_l_next) (D_held : Def P w K mg base 4 "held" 2 G_held) (D_l_held : Def P w K mg base 1 "_law_held" 2 G_l_held) (D_greatest : Def P w K mg base 4 "greatest" 1 G_greatest) (D_gap : Def P w K mg base 4 "gap" 2 G_gap) (D_l_gap : Def P w K mg base 3 "_law_gap" 2 G_l_gap) (F : Fun K "_law_one_right" "_law_one_right" s_l_one_right f fd) (hm : mg "_law_one_right" = some (.ref f)) : Def P w K mg base 6 "_law_one_right" 2 (F_l_one_right G_settled G_l_settled G_period G_l_period G_l_next G_held G_l_held G_greatest G_gap G_l_gap) := by
  refine ⟨f, fd, ["_law_draw_here", "_law_rule_here"], def_ok F sc_l_one_right fun cdv A outer s H E hr => ?_, hm, F.kp, F.binds fun _ _ _ _ _ _ us hl => match us, hl with | [_, _], _ => rfl⟩
  exact ss_cons (ss_if (st_w (sw_or (st_cmp (op_neD hr.units) os_ne (se_do D_settled hr rfl (sa_cons (se_var 1) (sa_nil))) (se_do D_l_settled hr rfl (sa_cons (se_var 1) (sa_nil)))) (sw_or1 (st_cmp (op_neD hr.units) os_ne (se_do D_period hr rfl (sa_cons (se_var 1) (sa_nil))) (se_do D_l_period hr rfl (sa_cons (se_var 1) (sa_nil))))))) (ss_one (ss_ret (se_bl))) (ss_nil))
    (ss_cons (ss_for (own := [2]) PassesOwn.never rfl (si_range1 rfl B.b_range (sa_cons (se_int) (sa_nil))) (pg_name (i := 2) sc_l_one_right.nd rfl (by first | exact Or.inl rfl | exact Or.inr rfl)) (gok_N (i := 2) (by decide)) (ss_cons (ss_set (i := 3) sc_l_one_right.nd rfl (by first | exact Or.inl rfl | exact Or.inr rfl) (se_if (st_cmp op_lt os_lt (se_var 2) (se_int)) (se_do D_l_next hr rfl (sa_cons (se_var 0) (sa_cons (se_int) (sa_nil)))) (se_op op_addU os_add (se_int) (se_do D_l_next hr rfl (sa_cons (se_var 0) (sa_cons (se_int) (sa_nil)))))))
    (ss_one (ss_if (st_cmp (op_neD hr.units) os_ne (se_do D_held hr rfl (sa_cons (se_var 1) (sa_cons (se_var 3) (sa_nil)))) (se_do D_l_held hr rfl (sa_cons (se_var 1) (sa_cons (se_var 3) (sa_nil))))) (ss_one (ss_ret (se_bl))) (ss_nil)))))
    (ss_cons (ss_if (st_cmp (op_neD hr.units) os_ne (se_do D_greatest hr rfl (sa_cons (se_var 1) (sa_nil))) (se_callB (call_maxU rfl) cs_max rfl B.b_max boot_max (sa_cons (se_lc rfl sc_l_one_right.nd (own := [("_law_time", 3)]) (si_range1 rfl B.b_range (sa_cons (se_int) (sa_nil))) (blkOk_by (by kernel_rfl)) (fun _ _ _ _ _ => pg_name (i := 3) sc_l_one_right.nd rfl (by first | exact Or.inl rfl | exact Or.inr rfl)) (gok_N (i := 3) (by decide)) (fun _ _ _ _ _ => sts_nil) (fun _ _ _ _ _ => se_callB call_lenU cs_len rfl B.b_len boot_len (sa_cons (se_do D_l_held hr rfl (sa_cons (se_var 1) (sa_cons (se_var 3) (sa_nil)))) (sa_nil)))) (sa_nil)))) (ss_one (ss_ret (se_bl))) (ss_nil))
    (ss_cons (ss_for (own := [4]) PassesOwn.never rfl (si_seq (se_tup (sa_cons (se_int) (sa_cons (se_do D_l_next hr rfl (sa_cons (se_var 0) (sa_cons (se_int) (sa_nil)))) (sa_cons (se_do D_l_next hr rfl (sa_cons (se_var 0) (sa_cons (se_int) (sa_nil)))) (sa_nil)))))) (pg_name (i := 4) sc_l_one_right.nd rfl (by first | exact Or.inl rfl | exact Or.inr rfl)) (gok_N (i := 4) (by decide)) (ss_one (ss_if (st_cmp (op_neD hr.units) os_ne (se_do D_gap hr rfl (sa_cons (se_var 1) (sa_cons (se_var 4) (sa_nil)))) (se_do D_l_gap hr rfl (sa_cons (se_var 1) (sa_cons (se_var 4) (sa_nil))))) (ss_one (ss_ret (se_bl))) (ss_nil))))
    (ss_one (ss_ret (se_bl))))))
abbrev s_law : Stmt := top 39
theorem sc_law : FnScope ["_law_script", "_law_by", "_law_draw_here"] ["_law_script"] (defScope s_law) := ⟨rfl, rfl, rfl, by decide +kernel, rfl, by decide +kernel, by decide +kernel⟩
theorem f_law {G_l_rule : List MV → MH → R MV} {G_l_one_right : List MV → MH → R MV} {f : Addr} {fd : FuncData} (B : Glb mg) (D_l_rule : Def P w K mg base 4 "_law_rule" 2 G_l_rule) (D_l_one_right : Def P w K mg base 6 "_law_one_right" 2 G_l_one_right) (F : Fun K "law" "law" s_law f fd) : FnOk P w K mg base CX0 7 f fd ["_law_script"] (spM K 1 (F_law G_l_rule G_l_one_right)) := by
  refine def_ok F sc_law fun cdv A outer s H E hr => ?_
  exact ss_cons (ss_for (own := [1]) PassesOwn.never rfl (si_range3 rfl B.b_range (sa_cons (se_int) (sa_cons (se_callB (call_maxU rfl) cs_max rfl B.b_max boot_max (sa_cons (se_int) (sa_cons (se_callB (call_minU rfl) cs_min rfl B.b_min boot_min (sa_cons (se_int) (sa_cons (se_callB call_lenU cs_len rfl B.b_len boot_len (sa_cons (se_var 0) (sa_nil))) (sa_nil)))) (sa_nil)))) (sa_cons (se_int) (sa_nil))))) (pg_name (i := 1) sc_law.nd rfl (by first | exact Or.inl rfl | exact Or.inr rfl)) (gok_N (i := 1) (by decide)) (ss_cons (ss_set (i := 2) sc_law.nd rfl (by first | exact Or.inl rfl | exact Or.inr rfl) (se_lst (sa_cons (se_var 0) (sa_cons (se_var 1) (sa_cons (se_int) (sa_nil))))))
    (ss_one (ss_if (st_not (st_val (se_do D_l_one_right hr rfl (sa_cons (se_var 2) (sa_cons (se_do D_l_rule hr rfl (sa_cons (se_var 2) (sa_cons (se_int) (sa_nil)))) (sa_nil)))))) (ss_one (ss_ret (se_bl))) (ss_nil)))))
    (ss_one (ss_ret (se_bl)))
end
end Mv

set_option maxHeartbeats 4000000
namespace Mv
open PySem PySem.Spec L2

/-! ### a spec by what its arguments encode -/
open Classical in
noncomputable def specOf {α : Type} (enc : α → List MV) (dom : α → Prop) (out : α → MH → R MV) : List MV → MH → R MV := fun xs h =>
  if q : ∃ a, enc a = xs ∧ dom a then out q.choose h else .bad
theorem specOf_eq {α : Type} {enc : α → List MV} {dom : α → Prop} {out : α → MH → R MV} (inj : ∀ a b, enc a = enc b → a = b) {a : α} (d : dom a) (h : MH) : specOf enc dom out (enc a) h = out a h := by
  unfold specOf
  have q : ∃ b, enc b = enc a ∧ dom b := ⟨a, rfl, d⟩
  rw [dif_pos q, inj _ _ q.choose_spec.1]
theorem specOf_sim {α : Type} {enc : α → List MV} {dom : α → Prop} {out : α → MH → R MV} {F : List MV → MH → R MV} (hs : ∀ a h, dom a → Sim h (F (enc a) h) (out a h)) (xs : List MV) (h : MH) : Sim h (F xs h) (specOf enc dom out xs h) := by
  unfold specOf
  split
  · rename_i q
    have := hs q.choose h q.choose_spec.2
    rw [q.choose_spec.1] at this
    exact this
  · exact Sim.bad

/-! ### loops by an invariant -/
theorem for_ind {it : MIt} {tg : MG} {body : MS} {xs : List MV} {P : S → Prop} (I : Nat → MEnv → MH → Prop)
    (hit : ∀ i env h, I i env h → it i h = nxOf xs[i]?) (stop : ∀ env h, I xs.length env h → P (.nx env h))
    (step : ∀ i x env h, xs[i]? = some x → I i env h → ∃ env', tg x env = some env' ∧ (match body env' h with
      | .nx e h' => I (i + 1) e h'
      | .ct e h' => I (i + 1) e h'
      | .bk e h' => P (.nx e h')
      | r => P r)) :
    ∀ (n i : Nat) (env : MEnv) (h : MH), I i env h → i ≤ xs.length → xs.length < n + i → P (forGo it tg body n i env h) := by
  intro n
  induction n with
  | zero => intro i env h hi hl hn; omega
  | succ n ih =>
    intro i env h hi hl hn
    unfold forGo
    rw [hit i env h hi]
    by_cases hlt : i < xs.length
    · rw [List.getElem?_eq_getElem hlt]
      obtain ⟨env', e1, s⟩ := step i xs[i] env h (List.getElem?_eq_getElem hlt) hi
      simp only [nxOf, e1]
      cases q : body env' h with
      | nx e h' => rw [q] at s; exact ih (i + 1) e h' s hlt (by omega)
      | ct e h' => rw [q] at s; exact ih (i + 1) e h' s hlt (by omega)
      | bk e h' => rw [q] at s; exact s
      | rt v h' => rw [q] at s; exact s
      | exc x e h' => rw [q] at s; exact s
      | bad => rw [q] at s; exact s
    · have : i = xs.length := by omega
      subst this
      rw [List.getElem?_eq_none (Nat.le_refl _)]
      exact stop env h hi
theorem while_ind {t : MT} {body : MS} {P : S → Prop} (I : MEnv → MH → Prop) (m : MEnv → MH → Nat)
    (step : ∀ env h, I env h → ∃ b h1, t env h = .ok b h1 ∧ (b = false → P (.nx env h1)) ∧ (b = true → match body env h1 with
      | .nx e h' => I e h' ∧ m e h' < m env h
      | .ct e h' => I e h' ∧ m e h' < m env h
      | .bk e h' => P (.nx e h')
      | r => P r)) :
    ∀ (n : Nat) (env : MEnv) (h : MH), I env h → m env h < n → P (whileGo t body n env h) := by
  intro n
  induction n with
  | zero => intro env h hi hn; omega
  | succ n ih =>
    intro env h hi hn
    unfold whileGo
    obtain ⟨b, h1, e, sf, st⟩ := step env h hi
    rw [e]
    simp only [R.andS_ok]
    cases b with
    | false => exact sf rfl
    | true =>
      have s := st rfl
      simp only [if_true]
      cases q : body env h1 with
      | nx e h' => rw [q] at s; exact ih e h' s.1 (by omega)
      | ct e h' => rw [q] at s; exact ih e h' s.1 (by omega)
      | bk e h' => rw [q] at s; exact s
      | rt v h' => rw [q] at s; exact s
      | exc x e h' => rw [q] at s; exact s
      | bad => rw [q] at s; exact s
/-- a comprehension over the items enc x, x in l, whose test and element leave the heap -/
theorem comp_pure {α : Type} {it : MIt} {tg : MG} {c : MT} {m : ME} {own : List Nat} {env : MEnv} {h : MH} (l : List α) (enc : α → MV) (cb : α → Bool) (f : α → MV) (hit : ∀ i, it i h = nxOf (l.map enc)[i]?) (hl : l.length ≤ cap)
    (step : ∀ x ∈ l, ∃ env', tg (enc x) (wipeM env own) = some env' ∧ c env' h = .ok (cb x) h ∧ (cb x = true → m env' h = .ok (f x) h)) :
    compGo it tg c m own fuel 0 env h [] = .ok (.ref h.length) (h ++ [.lst ((l.filter cb).map f)]) := by
  have key : ∀ (n i : Nat) (acc : List MV), i ≤ l.length → l.length < n + i → acc.length ≤ i → acc.reverse = ((l.take i).filter cb).map f → compGo it tg c m own n i env h acc = .ok (.ref h.length) (h ++ [.lst ((l.filter cb).map f)]) := by
    intro n
    induction n with
    | zero => intro i acc h1 h2; omega
    | succ n ih =>
      intro i acc hi hn ha he
      unfold compGo
      rw [hit i, List.getElem?_map]
      by_cases hlt : i < l.length
      · rw [List.getElem?_eq_getElem hlt]
        obtain ⟨env', e1, e2, e3⟩ := step l[i] (List.getElem_mem hlt)
        have tk : l.take (i + 1) = l.take i ++ [l[i]] := by simp
        simp only [Option.map_some, nxOf, e1, e2, R.noX_ok, R.bind_ok]
        cases q : cb l[i] with
        | false =>
          simp only [Bool.false_eq_true, if_false]
          refine ih (i + 1) acc hlt (by omega) (by omega) ?_
          rw [tk, List.filter_append, List.map_append, he]
          simp [q]
        | true =>
          simp only [if_true, e3 q, R.noX_ok, R.bind_ok]
          rw [if_pos (by omega)]
          refine ih (i + 1) _ hlt (by omega) (by simp; omega) ?_
          rw [tk, List.filter_append, List.map_append, List.reverse_cons, he]
          simp [q]
      · have : i = l.length := by omega
        subst this
        rw [List.getElem?_eq_none (Nat.le_refl _)]
        simp only [Option.map_none, nxOf]
        rw [he, List.take_length]
  exact key fuel 0 [] (Nat.zero_le _) (by have := fuel_ge; unfold cap at hl; omega) (Nat.le_refl _) (by simp)
/-- .. whose test and element lay things aside -/
theorem comp_more {α : Type} {it : MIt} {tg : MG} {c : MT} {m : ME} {own : List Nat} {env : MEnv} {h : MH} (l : List α) (enc : α → MV) (cb : α → Bool) (f : α → MV) (hit : ∀ i g, it i (h ++ g) = nxOf (l.map enc)[i]?) (hl : l.length ≤ cap)
    (step : ∀ x ∈ l, ∀ g, ∃ env', tg (enc x) (wipeM env own) = some env' ∧ ∃ g2, c env' (h ++ g) = .ok (cb x) (h ++ g2) ∧ (cb x = true → ∃ g3, m env' (h ++ g2) = .ok (f x) (h ++ g3))) :
    ∃ g, compGo it tg c m own fuel 0 env h [] = .ok (.ref (h ++ g).length) (h ++ g ++ [.lst ((l.filter cb).map f)]) := by
  have key : ∀ (n i : Nat) (acc : List MV) (g : MH), i ≤ l.length → l.length < n + i → acc.length ≤ i → acc.reverse = ((l.take i).filter cb).map f → ∃ g', compGo it tg c m own n i env (h ++ g) acc = .ok (.ref (h ++ g').length) (h ++ g' ++ [.lst ((l.filter cb).map f)]) := by
    intro n
    induction n with
    | zero => intro i acc g h1 h2; omega
    | succ n ih =>
      intro i acc g hi hn ha he
      unfold compGo
      rw [hit i g, List.getElem?_map]
      by_cases hlt : i < l.length
      · rw [List.getElem?_eq_getElem hlt]
        obtain ⟨env', e1, g2, e2, e3⟩ := step l[i] (List.getElem_mem hlt) g
        have tk : l.take (i + 1) = l.take i ++ [l[i]] := by simp
        simp only [Option.map_some, nxOf, e1, e2, R.noX_ok, R.bind_ok]
        cases q : cb l[i] with
        | false =>
          simp only [Bool.false_eq_true, if_false]
          refine ih (i + 1) acc g2 hlt (by omega) (by omega) ?_
          rw [tk, List.filter_append, List.map_append, he]
          simp [q]
        | true =>
          obtain ⟨g3, e4⟩ := e3 q
          simp only [if_true, e4, R.noX_ok, R.bind_ok]
          rw [if_pos (by omega)]
          refine ih (i + 1) _ g3 hlt (by omega) (by simp; omega) ?_
          rw [tk, List.filter_append, List.map_append, List.reverse_cons, he]
          simp [q]
      · have : i = l.length := by omega
        subst this
        rw [List.getElem?_eq_none (Nat.le_refl _)]
        simp only [Option.map_none, nxOf]
        rw [he, List.take_length]
        exact ⟨g, rfl⟩
  have := key fuel 0 [] [] (Nat.zero_le _) (by have := fuel_ge; unfold cap at hl; omega) (Nat.le_refl _) (by simp)
  simpa using this

/-! ### iterators as lists -/
def ivs (ns : List Int) : List MV := ns.map MV.int
/-- lo, lo + c, .. (n of them) -/
def prog (lo c : Int) (n : Nat) : List Int := (List.range n).map fun (i : Nat) => lo + (i : Int) * c
theorem itR_nx (lo c : Int) (n : Nat) (i : Nat) (h : MH) : itR lo c n i h = nxOf (ivs (prog lo c n))[i]? := by
  unfold itR ivs prog
  by_cases hi : i < n
  · simp [hi, nxOf]
  · simp [hi, nxOf]
theorem itT_nx (xs : List MV) (i : Nat) (h : MH) : itT xs i h = nxOf xs[i]? := rfl
theorem itL_nx {n : Nat} {h : MH} {xs : List MV} (e : h[n]? = some (.lst xs)) (i : Nat) : itL n i h = nxOf xs[i]? := by
  unfold itL itemsOf
  simp [e]
theorem itLf_nx {n : Nat} {h : MH} {xs : List MV} (e : h[n]? = some (.frz xs)) (i : Nat) : itL n i h = nxOf xs[i]? := by
  unfold itL itemsOf
  simp [e]
def enumL (xs : List MV) : List MV := xs.zipIdx.map fun p => .tup [.int (p.2 : Nat), p.1]
theorem itE_nx {it : MIt} {h : MH} {xs : List MV} (e : ∀ i, it i h = nxOf xs[i]?) (i : Nat) : itE it i h = nxOf (enumL xs)[i]? := by
  unfold itE enumL
  rw [e i]
  by_cases hi : i < xs.length
  · simp [hi, nxOf]
  · simp [hi, nxOf]
theorem zip_nx : ∀ (xs ys : List MV) (i : Nat), (xs.zip ys)[i]? = (match xs[i]?, ys[i]? with | some a, some b => some (a, b) | _, _ => none)
  | [], ys, i => by simp
  | x :: xs, [], i => by
    simp only [List.zip_nil_right, List.getElem?_nil]
    cases (x :: xs)[i]? <;> rfl
  | x :: xs, y :: ys, 0 => rfl
  | x :: xs, y :: ys, i + 1 => by simpa using zip_nx xs ys i
theorem itZ_nx {it jt : MIt} {h : MH} {xs ys : List MV} (e : ∀ i, it i h = nxOf xs[i]?) (e' : ∀ i, jt i h = nxOf ys[i]?) (i : Nat) : itZ it jt i h = nxOf ((xs.zip ys).map fun p => MV.tup [p.1, p.2])[i]? := by
  unfold itZ
  rw [e i, e' i, List.getElem?_map, zip_nx]
  cases xs[i]? <;> cases ys[i]? <;> rfl
@[simp] theorem prog_length (lo c : Int) (n : Nat) : (prog lo c n).length = n := by simp [prog]
@[simp] theorem ints_length (ns : List Int) : (ivs ns).length = ns.length := by simp [ivs]
theorem mem_prog {lo c : Int} {n : Nat} {x : Int} : x ∈ prog lo c n ↔ ∃ i : Nat, i < n ∧ x = lo + (i : Int) * c := by
  unfold prog
  simp only [List.mem_map, List.mem_range]
  constructor
  · rintro ⟨i, h, rfl⟩; exact ⟨i, h, rfl⟩
  · rintro ⟨i, h, rfl⟩; exact ⟨i, h, rfl⟩
@[simp] theorem mem_ints {ns : List Int} {x : MV} : x ∈ ivs ns ↔ ∃ i ∈ ns, x = .int i := by
  unfold ivs
  simp only [List.mem_map]
  constructor
  · rintro ⟨i, h, rfl⟩; exact ⟨i, h, rfl⟩
  · rintro ⟨i, h, rfl⟩; exact ⟨i, h, rfl⟩
theorem filter_ints (ns : List Int) (p : MV → Bool) (f : MV → MV) (q : Int → Bool) (g : Int → MV) (hp : ∀ i, p (.int i) = q i) (hf : ∀ i, f (.int i) = g i) : ((ivs ns).filter p).map f = (ns.filter q).map g := by
  unfold ivs
  rw [List.filter_map, List.map_map]
  have e1 : p ∘ MV.int = q := funext hp
  have e2 : f ∘ MV.int = g := funext hf
  rw [e1, e2]
theorem unds_ints {n : Nat} (ns : List Int) : MV.unds n (ivs ns) := unds_of fun x hx => by
  obtain ⟨i, _, rfl⟩ := mem_ints.mp hx
  simp
/-! ### data of whole numbers -/
theorem data_int (n : Nat) (h : MH) (i : Int) : dataOf (n + 1) h (.int i) = some (.int i) := rfl
theorem allSome_map {α β : Type} {f : α → Option β} {g : α → β} : ∀ {l : List α}, (∀ x ∈ l, f x = some (g x)) → allSome (l.map f) = some (l.map g)
  | [], _ => rfl
  | x :: r, e => by
    simp only [List.map_cons, e x (List.mem_cons_self ..), allSome, allSome_map (l := r) fun y hy => e y (List.mem_cons_of_mem _ hy)]
theorem data_ints (n : Nat) (h : MH) (ns : List Int) : dataOf (n + 2) h (.tup (ivs ns)) = some (.tuple (ns.map PyData.int)) := by
  have e : allSome ((ivs ns).map (dataOf (n + 1) h)) = some (ns.map PyData.int) := by
    unfold ivs
    rw [List.map_map]
    exact allSome_map (fun i _ => rfl)
  show (allSome ((ivs ns).map (dataOf (n + 1) h))).map PyData.tuple = _
  rw [e]
  rfl
theorem eqvAll_ints : ∀ (a b : List Int), PyData.eqvAll (a.map PyData.int) (b.map PyData.int) = decide (a = b)
  | [], [] => by simp [PyData.eqvAll]
  | [], _ :: _ => by simp [PyData.eqvAll]
  | _ :: _, [] => by simp [PyData.eqvAll]
  | x :: a, y :: b => by
    simp only [List.map_cons, PyData.eqvAll, eqvAll_ints a b, PyData.eqv]
    by_cases h : x = y
    · subst h; simp
    · simp [h]
theorem eqv_tints (a b : List Int) : PyData.eqv (.tuple (a.map PyData.int)) (.tuple (b.map PyData.int)) = decide (a = b) := by
  simp only [PyData.eqv, eqvAll_ints]
theorem eqvAll_by {α : Type} {f : α → PyData} (hf : ∀ a b, PyData.eqv (f a) (f b) = true ↔ a = b) : ∀ (x y : List α), PyData.eqvAll (x.map f) (y.map f) = true ↔ x = y
  | [], [] => by simp [PyData.eqvAll]
  | [], _ :: _ => by simp [PyData.eqvAll]
  | _ :: _, [] => by simp [PyData.eqvAll]
  | a :: x, b :: y => by
    simp only [List.map_cons, PyData.eqvAll, Bool.and_eq_true, hf, eqvAll_by hf x y, List.cons.injEq]

theorem filter_yes {α : Type} (l : List α) : l.filter (fun _ => true) = l := by simp
/-! ### values by simp -/
theorem R.bind_def {α β : Type} (a : α) (h : MH) (f : α → MH → R β) : (R.ok a h).bind f = f a h := rfl
theorem items_tup (h : MH) (xs : List MV) : itemsOf h (.tup xs) = some xs := rfl
theorem items_new (h : MH) (xs : List MV) : itemsOf (h ++ [.lst xs]) (.ref h.length) = some xs := by
  unfold itemsOf
  simp
theorem list_new (h : MH) (xs : List MV) : listOf (h ++ [.lst xs]) (.ref h.length) = some xs := items_new h xs
theorem list_tup (h : MH) (xs : List MV) : listOf h (.tup xs) = none := rfl
theorem list_ref (h : MH) (n : Nat) : listOf h (.ref n) = itemsOf h (.ref n) := rfl
theorem lstOf_new (h : MH) (xs : List MV) : lstOf (h ++ [.lst xs]) h.length = some xs := by
  unfold lstOf
  simp
theorem items_at {h : MH} {n : Nat} {xs : List MV} (e : h[n]? = some (.lst xs)) : itemsOf h (.ref n) = some xs := by
  unfold itemsOf
  simp only [e]
theorem items_atf {h : MH} {n : Nat} {xs : List MV} (e : h[n]? = some (.frz xs)) : itemsOf h (.ref n) = some xs := by
  unfold itemsOf
  simp only [e]
theorem lstOf_at {h : MH} {n : Nat} {xs : List MV} (e : h[n]? = some (.lst xs)) : lstOf h n = some xs := by
  unfold lstOf
  simp only [e]
theorem beq_dec (i j : Int) : (i == j) = decide (i = j) := by
  by_cases e : i = j <;> simp [e]
theorem fEq_int (i j : Int) (h : MH) : fEq (.int i) (.int j) h = .ok (.bl (decide (i = j))) h := by
  show R.ok (MV.bl (i == j)) h = _
  rw [beq_dec]
theorem fNe_int (i j : Int) (h : MH) : fNe (.int i) (.int j) h = .ok (.bl (!decide (i = j))) h := by
  show R.ok (MV.bl (!(i == j))) h = _
  rw [beq_dec]
theorem fLen_tup (xs : List MV) (h : MH) : fLen [.tup xs] h = .ok (.int xs.length) h := rfl
theorem fLen_items {x : MV} {xs : List MV} {h : MH} (e : itemsOf h x = some xs) : fLen [x] h = .ok (.int xs.length) h := by
  unfold fLen
  cases x with
  | str z => cases e
  | _ => simp only [e]
/-- bools and their operators as values -/
theorem andV_ok (p q : Bool) (h : MH) : (match (MV.bl p) with | .bl true => (R.ok (.bl q) h : R MV) | .bl false => .ok (.bl false) h | _ => .bad) = .ok (.bl (p && q)) h := by cases p <;> rfl
theorem any_map {α : Type} (l : List α) (f : α → Bool) : asBools (l.map fun x => MV.bl (f x)) = some (l.map f) := by
  have : (l.map fun x => MV.bl (f x)) = (l.map f).map MV.bl := by simp
  rw [this, asBools_map]
theorem ints_map {α : Type} (l : List α) (f : α → Int) : asInts (l.map fun x => MV.int (f x)) = some (l.map f) := by
  have : (l.map fun x => MV.int (f x)) = (l.map f).map MV.int := by simp
  rw [this, asInts_map]
theorem fAny_at {h : MH} {n : Nat} {xs : List MV} {bs : List Bool} (e : itemsOf h (.ref n) = some xs) (e2 : asBools xs = some bs) : fAny [.ref n] h = .ok (.bl (bs.any id)) h := by
  unfold fAny listOf
  simp only [e, Option.bind_some, e2]
theorem fAll_at {h : MH} {n : Nat} {xs : List MV} {bs : List Bool} (e : itemsOf h (.ref n) = some xs) (e2 : asBools xs = some bs) : fAll [.ref n] h = .ok (.bl (bs.all id)) h := by
  unfold fAll listOf
  simp only [e, Option.bind_some, e2]
theorem fMax_at {h : MH} {n : Nat} {xs : List MV} {m : Int} {r : List Int} (e : itemsOf h (.ref n) = some xs) (e2 : asInts xs = some (m :: r)) : fMax [.ref n] h = .ok (.int (maxL m r)) h := by
  unfold fMax listOf
  simp only [e, Option.bind_some, e2]
theorem fTuple_at {h : MH} {n : Nat} {xs : List MV} (e : itemsOf h (.ref n) = some xs) : fTuple [.ref n] h = .ok (.tup xs) h := by
  unfold fTuple listOf
  simp only [e]
theorem fMax2 (i j : Int) (h : MH) : fMax [.int i, .int j] h = .ok (.int (if j > i then j else i)) h := rfl
theorem fMin2 (i j : Int) (h : MH) : fMin [.int i, .int j] h = .ok (.int (if j < i then j else i)) h := rfl
def maxOf : List Int → Int
  | [] => 0
  | m :: r => maxL m r
theorem maxOf_spec {l : List Int} (h : l ≠ []) : maxOf l ∈ l ∧ ∀ y ∈ l, y ≤ maxOf l := by
  cases l with
  | nil => exact absurd rfl h
  | cons m r =>
    obtain ⟨h1, h2, h3⟩ := maxL_spec r m
    refine ⟨?_, fun y hy => ?_⟩
    · rcases h1 with e | e
      · show maxL m r ∈ m :: r
        rw [e]; exact List.mem_cons_self ..
      · exact List.mem_cons_of_mem _ e
    · rcases List.mem_cons.mp hy with e | e
      · rw [e]; exact h2
      · exact h3 y e
theorem maxOf_eq {l : List Int} {m : Int} (h1 : m ∈ l) (h2 : ∀ y ∈ l, y ≤ m) : maxOf l = m := by
  have hne : l ≠ [] := fun e => by rw [e] at h1; cases h1
  obtain ⟨a, b⟩ := maxOf_spec hne
  exact Int.le_antisymm (h2 _ a) (b _ h1)
theorem fMax_ns {h : MH} {n : Nat} {xs : List MV} {ns : List Int} (e : itemsOf h (.ref n) = some xs) (e2 : asInts xs = some ns) (e3 : ns ≠ []) : fMax [.ref n] h = .ok (.int (maxOf ns)) h := by
  cases ns with
  | nil => exact absurd rfl e3
  | cons m r => exact fMax_at e e2
theorem fLen_new (h : MH) (xs : List MV) : fLen [.ref h.length] (h ++ [.lst xs]) = .ok (.int xs.length) (h ++ [.lst xs]) := fLen_items (items_new h xs)
theorem look_app {h g : MH} {n : Nat} {o : MO} (e : h[n]? = some o) : (h ++ g)[n]? = some o := by
  rw [List.getElem?_append_left (List.getElem?_eq_some_iff.mp e).1]
  exact e
theorem look_new (h : MH) (o : MO) : (h ++ [o])[h.length]? = some o := by simp
theorem fSl_drop {h : MH} {n k : Nat} {xs : List MV} (e : itemsOf h (.ref n) = some xs) (hk : k ≤ xs.length) (hl : xs.length ≤ cap) : fSl (.ref n) (some (k : Int)) none h = .ok (.ref h.length) (h ++ [.lst (xs.drop k)]) := by
  unfold fSl
  simp only [e]
  rw [if_pos hl]
  unfold cutM
  rw [HT.sIx_nat, HT.sIx_none, Nat.min_eq_left hk, ← List.length_drop, List.take_length]
theorem fSl_take {h : MH} {n k : Nat} {xs : List MV} (e : itemsOf h (.ref n) = some xs) (hk : k ≤ xs.length) (hl : xs.length ≤ cap) : fSl (.ref n) none (some (k : Int)) h = .ok (.ref h.length) (h ++ [.lst (xs.take k)]) := by
  unfold fSl
  simp only [e]
  rw [if_pos hl]
  unfold cutM
  rw [HT.sIx_nat, HT.sIx_none, Nat.min_eq_left hk, List.drop_zero, Nat.sub_zero]
theorem fAdd_refs {h : MH} {n m : Nat} {xs ys : List MV} (e : h[n]? = some (.lst xs)) (e' : h[m]? = some (.lst ys)) (hl : xs.length + ys.length ≤ cap) : fAdd (.ref n) (.ref m) h = .ok (.ref h.length) (h ++ [.lst (xs ++ ys)]) := by
  unfold fAdd
  simp only [lstOf_at e, lstOf_at e']
  rw [if_pos hl]
end Mv

set_option maxHeartbeats 4000000
namespace Mv
open PySem PySem.Spec L2

/-! ### rules -/
abbrev Rule := List (Int × Int)
def pv2 (p : Int × Int) : MV := .tup [.int p.1, .int p.2]
def rv (r : Rule) : MV := .tup (r.map pv2)
structure Valid (r : Rule) : Prop where
  l1 : 1 ≤ r.length
  l3 : r.length ≤ 3
  ok : ∀ p ∈ r, 1 ≤ p.1 ∧ p.1 ≤ 6 ∧ 0 ≤ p.2 ∧ p.2 ≤ 12
theorem pv2_inj {p q : Int × Int} (h : pv2 p = pv2 q) : p = q := by
  simp only [pv2, MV.tup.injEq, List.cons.injEq, MV.int.injEq, and_true] at h
  exact Prod.ext h.1 h.2
theorem map_inj {α β : Type} {f : α → β} (hf : ∀ a b, f a = f b → a = b) : ∀ {x y : List α}, x.map f = y.map f → x = y
  | [], [], _ => rfl
  | [], _ :: _, h => by cases h
  | _ :: _, [], h => by cases h
  | a :: x, b :: y, h => by
    simp only [List.map_cons, List.cons.injEq] at h
    rw [hf _ _ h.1, map_inj hf h.2]
theorem rv_inj {r q : Rule} (h : rv r = rv q) : r = q := by
  simp only [rv, MV.tup.injEq] at h
  exact map_inj (fun _ _ => pv2_inj) h
theorem und_pv2 (n : Nat) (p : Int × Int) : MV.und n (pv2 p) := by simp [pv2, MV.und, MV.unds]
theorem und_rv (n : Nat) (r : Rule) : MV.und n (rv r) := und_tup fun x hx => by
  obtain ⟨p, _, rfl⟩ := List.mem_map.mp hx
  exact und_pv2 n p
theorem und_tints (n : Nat) (l : List Int) : MV.und n (.tup (ivs l)) := by
  simp only [MV.und]
  exact unds_ints l

/-! ### is_integer, is_pair, check_rule, check_time -/
theorem F_is_integer_eq (v lo hi : Int) (h : MH) : F_is_integer [.int v, .int lo, .int hi] h = .ok (.bl (decide (lo ≤ v ∧ v ≤ hi))) h := by
  unfold F_is_integer m_is_integer
  simp only [Mv.mDef, Mv.mSeq, Mv.mSet, Mv.mRet, Mv.mRetN, Mv.mIfS, Mv.mVar, Mv.mC, Mv.mBin, Mv.mChain, Mv.mCall, Mv.mDo, Mv.mCons, Mv.mNil, Mv.mAndV, Mv.mOrV, Mv.mNotV, Mv.mAsB, Mv.mAndT, Mv.mOrT, Mv.mNotT, Mv.mIf, Mv.mTup, Mv.mLst, Mv.mNext, Mv.mBad, Mv.mDrop, Mv.mPar, Mv.mAsg, Mv.mStore, Mv.mNeg, Mv.fNeg, Mv.mYes, Mv.mNoP, Mv.mPart, Mv.mSl, Mv.fI, Mv.fAdd, Mv.fSub, Mv.fMul, Mv.fMod, Mv.fDiv, Mv.fPow, Mv.fLt, Mv.fLe, Mv.fGt, Mv.fGe, Mv.yes2, Mv.fIsN, Mv.fNotN, Mv.isNon, Mv.fIx, Mv.items_tup, Mv.items_new, Mv.list_new, Mv.lstOf_new, Mv.fEq_int, Mv.fNe_int, Mv.fLen_tup, Mv.fMax2, Mv.fMin2, Mv.fInt, Mv.fAbs, Mv.mIsi, Mv.isT, Mv.gN, Mv.gT, Mv.setAll, Mv.wipeM, Mv.R.bind_ok, Mv.R.bind_bad, Mv.R.noX_ok, Mv.R.andS_ok, Mv.R.andS_bad, Mv.S.andS_nx, Mv.S.andS_rt, Mv.S.andS_bad, Mv.S.andS_bk, Mv.S.andS_ct, List.map_cons, List.map_nil, List.cons_append, List.nil_append, List.append_nil, List.replicate_succ, List.replicate_zero, List.length_cons, List.length_nil, List.set_cons_zero, List.set_cons_succ, List.getElem?_cons_zero, List.getElem?_cons_succ, List.getElem?_nil, Nat.reduceAdd, Nat.reduceSub, Nat.reduceEqDiff, Nat.reduceLeDiff, Nat.zero_add, if_true, if_false, Bool.not_true, Bool.not_false, Bool.false_eq_true, decide_true, decide_false, ite_true, ite_false, Option.some.injEq, reduceIte]
  by_cases h1 : lo ≤ v
  · by_cases h2 : v ≤ hi
    · simp [h1, h2]
    · simp [h1, h2]
  · simp [h1]
/-! ### is_held, settled_of, held_at -/
def isHeld (r : Rule) (a b : Int) : Bool := r.any fun p => decide (a % p.1 = 0) && (decide (0 ≤ b - a) && decide (b - a ≤ p.2))
theorem F_is_held_eq (r : Rule) (a b : Int) (h : MH) (hp : ∀ p ∈ r, 0 < p.1) (hl : r.length ≤ cap) : ∃ g, F_is_held [rv r, .int a, .int b] h = .ok (.bl (isHeld r a b)) (h ++ g) := by
  unfold F_is_held m_is_held
  simp only [Mv.mDef, Mv.mSeq, Mv.mSet, Mv.mRet, Mv.mRetN, Mv.mIfS, Mv.mVar, Mv.mC, Mv.mBin, Mv.mChain, Mv.mCall, Mv.mDo, Mv.mCons, Mv.mNil, Mv.mAndV, Mv.mOrV, Mv.mNotV, Mv.mAsB, Mv.mAndT, Mv.mOrT, Mv.mNotT, Mv.mIf, Mv.mTup, Mv.mLst, Mv.mNext, Mv.mBad, Mv.mDrop, Mv.mPar, Mv.mAsg, Mv.mStore, Mv.mNeg, Mv.fNeg, Mv.mYes, Mv.mNoP, Mv.mPart, Mv.mSl, Mv.fI, Mv.fAdd, Mv.fSub, Mv.fMul, Mv.fMod, Mv.fDiv, Mv.fPow, Mv.fLt, Mv.fLe, Mv.fGt, Mv.fGe, Mv.yes2, Mv.fIsN, Mv.fNotN, Mv.isNon, Mv.fIx, Mv.items_tup, Mv.items_new, Mv.list_new, Mv.lstOf_new, Mv.fEq_int, Mv.fNe_int, Mv.fLen_tup, Mv.fMax2, Mv.fMin2, Mv.fInt, Mv.fAbs, Mv.mIsi, Mv.isT, Mv.gN, Mv.gT, Mv.setAll, Mv.wipeM, Mv.R.bind_ok, Mv.R.bind_bad, Mv.R.noX_ok, Mv.R.andS_ok, Mv.R.andS_bad, Mv.S.andS_nx, Mv.S.andS_rt, Mv.S.andS_bad, Mv.S.andS_bk, Mv.S.andS_ct, List.map_cons, List.map_nil, List.cons_append, List.nil_append, List.append_nil, List.replicate_succ, List.replicate_zero, List.length_cons, List.length_nil, List.set_cons_zero, List.set_cons_succ, List.getElem?_cons_zero, List.getElem?_cons_succ, List.getElem?_nil, Nat.reduceAdd, Nat.reduceSub, Nat.reduceEqDiff, Nat.reduceLeDiff, Nat.zero_add, if_true, if_false, Bool.not_true, Bool.not_false, Bool.false_eq_true, decide_true, decide_false, ite_true, ite_false, Option.some.injEq, reduceIte, mLc, mItV, rv]
  rw [comp_pure (l := r) (enc := pv2) (cb := fun _ => true) (f := fun p => .bl (decide (a % p.1 = 0) && (decide (0 ≤ b - a) && decide (b - a ≤ p.2)))) (fun i => itT_nx _ i h) hl]
  · simp only [Mv.mDef, Mv.mSeq, Mv.mSet, Mv.mRet, Mv.mRetN, Mv.mIfS, Mv.mVar, Mv.mC, Mv.mBin, Mv.mChain, Mv.mCall, Mv.mDo, Mv.mCons, Mv.mNil, Mv.mAndV, Mv.mOrV, Mv.mNotV, Mv.mAsB, Mv.mAndT, Mv.mOrT, Mv.mNotT, Mv.mIf, Mv.mTup, Mv.mLst, Mv.mNext, Mv.mBad, Mv.mDrop, Mv.mPar, Mv.mAsg, Mv.mStore, Mv.mNeg, Mv.fNeg, Mv.mYes, Mv.mNoP, Mv.mPart, Mv.mSl, Mv.fI, Mv.fAdd, Mv.fSub, Mv.fMul, Mv.fMod, Mv.fDiv, Mv.fPow, Mv.fLt, Mv.fLe, Mv.fGt, Mv.fGe, Mv.yes2, Mv.fIsN, Mv.fNotN, Mv.isNon, Mv.fIx, Mv.items_tup, Mv.items_new, Mv.list_new, Mv.lstOf_new, Mv.fEq_int, Mv.fNe_int, Mv.fLen_tup, Mv.fMax2, Mv.fMin2, Mv.fInt, Mv.fAbs, Mv.mIsi, Mv.isT, Mv.gN, Mv.gT, Mv.setAll, Mv.wipeM, Mv.R.bind_ok, Mv.R.bind_bad, Mv.R.noX_ok, Mv.R.andS_ok, Mv.R.andS_bad, Mv.S.andS_nx, Mv.S.andS_rt, Mv.S.andS_bad, Mv.S.andS_bk, Mv.S.andS_ct, List.map_cons, List.map_nil, List.cons_append, List.nil_append, List.append_nil, List.replicate_succ, List.replicate_zero, List.length_cons, List.length_nil, List.set_cons_zero, List.set_cons_succ, List.getElem?_cons_zero, List.getElem?_cons_succ, List.getElem?_nil, Nat.reduceAdd, Nat.reduceSub, Nat.reduceEqDiff, Nat.reduceLeDiff, Nat.zero_add, if_true, if_false, Bool.not_true, Bool.not_false, Bool.false_eq_true, decide_true, decide_false, ite_true, ite_false, Option.some.injEq, reduceIte, fAny_at (items_new h _) (any_map _ _)]
    rw [filter_yes]
    refine ⟨_, congrArg (fun b => R.ok (MV.bl b) _) ?_⟩
    unfold isHeld
    rw [List.any_map]
    rfl
  · intro p hp'
    obtain ⟨e, u⟩ := p
    have h0 : 0 < e := hp _ hp'
    refine ⟨_, rfl, ?_⟩
    simp only [Mv.mDef, Mv.mSeq, Mv.mSet, Mv.mRet, Mv.mRetN, Mv.mIfS, Mv.mVar, Mv.mC, Mv.mBin, Mv.mChain, Mv.mCall, Mv.mDo, Mv.mCons, Mv.mNil, Mv.mAndV, Mv.mOrV, Mv.mNotV, Mv.mAsB, Mv.mAndT, Mv.mOrT, Mv.mNotT, Mv.mIf, Mv.mTup, Mv.mLst, Mv.mNext, Mv.mBad, Mv.mDrop, Mv.mPar, Mv.mAsg, Mv.mStore, Mv.mNeg, Mv.fNeg, Mv.mYes, Mv.mNoP, Mv.mPart, Mv.mSl, Mv.fI, Mv.fAdd, Mv.fSub, Mv.fMul, Mv.fMod, Mv.fDiv, Mv.fPow, Mv.fLt, Mv.fLe, Mv.fGt, Mv.fGe, Mv.yes2, Mv.fIsN, Mv.fNotN, Mv.isNon, Mv.fIx, Mv.items_tup, Mv.items_new, Mv.list_new, Mv.lstOf_new, Mv.fEq_int, Mv.fNe_int, Mv.fLen_tup, Mv.fMax2, Mv.fMin2, Mv.fInt, Mv.fAbs, Mv.mIsi, Mv.isT, Mv.gN, Mv.gT, Mv.setAll, Mv.wipeM, Mv.R.bind_ok, Mv.R.bind_bad, Mv.R.noX_ok, Mv.R.andS_ok, Mv.R.andS_bad, Mv.S.andS_nx, Mv.S.andS_rt, Mv.S.andS_bad, Mv.S.andS_bk, Mv.S.andS_ct, List.map_cons, List.map_nil, List.cons_append, List.nil_append, List.append_nil, List.replicate_succ, List.replicate_zero, List.length_cons, List.length_nil, List.set_cons_zero, List.set_cons_succ, List.getElem?_cons_zero, List.getElem?_cons_succ, List.getElem?_nil, Nat.reduceAdd, Nat.reduceSub, Nat.reduceEqDiff, Nat.reduceLeDiff, Nat.zero_add, if_true, if_false, Bool.not_true, Bool.not_false, Bool.false_eq_true, decide_true, decide_false, ite_true, ite_false, Option.some.injEq, reduceIte, pv2, h0]
    refine ⟨trivial, fun _ => ?_⟩
    cases decide (a % e = 0) <;> cases decide (0 ≤ b - a) <;> rfl
theorem Valid.cap {r : Rule} (v : Valid r) : r.length ≤ cap := Nat.le_trans v.l3 (by decide)
theorem Valid.pos {r : Rule} (v : Valid r) : ∀ p ∈ r, 0 < p.1 := fun p hp => by have := v.ok p hp; omega
noncomputable def G_is_held : List MV → MH → R MV := specOf (α := Rule × Int × Int) (fun p => [rv p.1, .int p.2.1, .int p.2.2]) (fun p => Valid p.1) fun p h => .ok (.bl (isHeld p.1 p.2.1 p.2.2)) h
theorem G_is_held_eq {r : Rule} (v : Valid r) (a b : Int) (h : MH) : G_is_held [rv r, .int a, .int b] h = .ok (.bl (isHeld r a b)) h :=
  specOf_eq (a := ((r, a, b) : Rule × Int × Int)) (fun x y e => by
    obtain ⟨x1, x2, x3⟩ := x
    obtain ⟨y1, y2, y3⟩ := y
    simp only [List.cons.injEq, MV.int.injEq, and_true] at e
    rw [rv_inj e.1, e.2.1, e.2.2]) v h
theorem sim_is_held (xs : List MV) (h : MH) : Sim h (F_is_held xs h) (G_is_held xs h) := specOf_sim (fun p h v => by
  obtain ⟨g, e⟩ := F_is_held_eq p.1 p.2.1 p.2.2 h v.pos v.cap
  rw [e]
  exact sim_drop0 (und_bl _ _)) xs h
/-- the greatest until -/
def settled (r : Rule) : Int := maxOf (r.map (·.2))
theorem Valid.ne {r : Rule} (v : Valid r) : r ≠ [] := fun e => by have := v.l1; rw [e] at this; exact absurd this (by decide)
theorem settled_spec {r : Rule} (v : Valid r) : (∃ p ∈ r, p.2 = settled r) ∧ (∀ p ∈ r, p.2 ≤ settled r) ∧ 0 ≤ settled r ∧ settled r ≤ 12 := by
  obtain ⟨a, b⟩ := maxOf_spec (l := r.map (·.2)) (by simpa using v.ne)
  obtain ⟨q, hq, e⟩ := List.mem_map.mp a
  have e : q.2 = settled r := e
  have := v.ok q hq
  exact ⟨⟨q, hq, e⟩, fun p hp => b _ (List.mem_map_of_mem hp), by omega, by omega⟩
theorem F_settled_of_eq (r : Rule) (h : MH) (hn : r ≠ []) (hl : r.length ≤ cap) : ∃ g, F_settled_of [rv r] h = .ok (.int (settled r)) (h ++ g) := by
  unfold F_settled_of m_settled_of
  simp only [Mv.mDef, Mv.mSeq, Mv.mSet, Mv.mRet, Mv.mRetN, Mv.mIfS, Mv.mVar, Mv.mC, Mv.mBin, Mv.mChain, Mv.mCall, Mv.mDo, Mv.mCons, Mv.mNil, Mv.mAndV, Mv.mOrV, Mv.mNotV, Mv.mAsB, Mv.mAndT, Mv.mOrT, Mv.mNotT, Mv.mIf, Mv.mTup, Mv.mLst, Mv.mNext, Mv.mBad, Mv.mDrop, Mv.mPar, Mv.mAsg, Mv.mStore, Mv.mNeg, Mv.fNeg, Mv.mYes, Mv.mNoP, Mv.mPart, Mv.mSl, Mv.fI, Mv.fAdd, Mv.fSub, Mv.fMul, Mv.fMod, Mv.fDiv, Mv.fPow, Mv.fLt, Mv.fLe, Mv.fGt, Mv.fGe, Mv.yes2, Mv.fIsN, Mv.fNotN, Mv.isNon, Mv.fIx, Mv.items_tup, Mv.items_new, Mv.list_new, Mv.lstOf_new, Mv.fEq_int, Mv.fNe_int, Mv.fLen_tup, Mv.fMax2, Mv.fMin2, Mv.fInt, Mv.fAbs, Mv.mIsi, Mv.isT, Mv.gN, Mv.gT, Mv.setAll, Mv.wipeM, Mv.R.bind_ok, Mv.R.bind_bad, Mv.R.noX_ok, Mv.R.andS_ok, Mv.R.andS_bad, Mv.S.andS_nx, Mv.S.andS_rt, Mv.S.andS_bad, Mv.S.andS_bk, Mv.S.andS_ct, List.map_cons, List.map_nil, List.cons_append, List.nil_append, List.append_nil, List.replicate_succ, List.replicate_zero, List.length_cons, List.length_nil, List.set_cons_zero, List.set_cons_succ, List.getElem?_cons_zero, List.getElem?_cons_succ, List.getElem?_nil, Nat.reduceAdd, Nat.reduceSub, Nat.reduceEqDiff, Nat.reduceLeDiff, Nat.zero_add, if_true, if_false, Bool.not_true, Bool.not_false, Bool.false_eq_true, decide_true, decide_false, ite_true, ite_false, Option.some.injEq, reduceIte, mLc, mItV, rv]
  rw [comp_pure (l := r) (enc := pv2) (cb := fun _ => true) (f := fun p => .int p.2) (fun i => itT_nx _ i h) hl]
  · rw [filter_yes]
    simp only [Mv.mDef, Mv.mSeq, Mv.mSet, Mv.mRet, Mv.mRetN, Mv.mIfS, Mv.mVar, Mv.mC, Mv.mBin, Mv.mChain, Mv.mCall, Mv.mDo, Mv.mCons, Mv.mNil, Mv.mAndV, Mv.mOrV, Mv.mNotV, Mv.mAsB, Mv.mAndT, Mv.mOrT, Mv.mNotT, Mv.mIf, Mv.mTup, Mv.mLst, Mv.mNext, Mv.mBad, Mv.mDrop, Mv.mPar, Mv.mAsg, Mv.mStore, Mv.mNeg, Mv.fNeg, Mv.mYes, Mv.mNoP, Mv.mPart, Mv.mSl, Mv.fI, Mv.fAdd, Mv.fSub, Mv.fMul, Mv.fMod, Mv.fDiv, Mv.fPow, Mv.fLt, Mv.fLe, Mv.fGt, Mv.fGe, Mv.yes2, Mv.fIsN, Mv.fNotN, Mv.isNon, Mv.fIx, Mv.items_tup, Mv.items_new, Mv.list_new, Mv.lstOf_new, Mv.fEq_int, Mv.fNe_int, Mv.fLen_tup, Mv.fMax2, Mv.fMin2, Mv.fInt, Mv.fAbs, Mv.mIsi, Mv.isT, Mv.gN, Mv.gT, Mv.setAll, Mv.wipeM, Mv.R.bind_ok, Mv.R.bind_bad, Mv.R.noX_ok, Mv.R.andS_ok, Mv.R.andS_bad, Mv.S.andS_nx, Mv.S.andS_rt, Mv.S.andS_bad, Mv.S.andS_bk, Mv.S.andS_ct, List.map_cons, List.map_nil, List.cons_append, List.nil_append, List.append_nil, List.replicate_succ, List.replicate_zero, List.length_cons, List.length_nil, List.set_cons_zero, List.set_cons_succ, List.getElem?_cons_zero, List.getElem?_cons_succ, List.getElem?_nil, Nat.reduceAdd, Nat.reduceSub, Nat.reduceEqDiff, Nat.reduceLeDiff, Nat.zero_add, if_true, if_false, Bool.not_true, Bool.not_false, Bool.false_eq_true, decide_true, decide_false, ite_true, ite_false, Option.some.injEq, reduceIte, fMax_ns (items_new h _) (ints_map r (·.2)) (by simpa using hn)]
    exact ⟨_, rfl⟩
  · intro p hp'
    refine ⟨_, rfl, ?_⟩
    simp only [Mv.mDef, Mv.mSeq, Mv.mSet, Mv.mRet, Mv.mRetN, Mv.mIfS, Mv.mVar, Mv.mC, Mv.mBin, Mv.mChain, Mv.mCall, Mv.mDo, Mv.mCons, Mv.mNil, Mv.mAndV, Mv.mOrV, Mv.mNotV, Mv.mAsB, Mv.mAndT, Mv.mOrT, Mv.mNotT, Mv.mIf, Mv.mTup, Mv.mLst, Mv.mNext, Mv.mBad, Mv.mDrop, Mv.mPar, Mv.mAsg, Mv.mStore, Mv.mNeg, Mv.fNeg, Mv.mYes, Mv.mNoP, Mv.mPart, Mv.mSl, Mv.fI, Mv.fAdd, Mv.fSub, Mv.fMul, Mv.fMod, Mv.fDiv, Mv.fPow, Mv.fLt, Mv.fLe, Mv.fGt, Mv.fGe, Mv.yes2, Mv.fIsN, Mv.fNotN, Mv.isNon, Mv.fIx, Mv.items_tup, Mv.items_new, Mv.list_new, Mv.lstOf_new, Mv.fEq_int, Mv.fNe_int, Mv.fLen_tup, Mv.fMax2, Mv.fMin2, Mv.fInt, Mv.fAbs, Mv.mIsi, Mv.isT, Mv.gN, Mv.gT, Mv.setAll, Mv.wipeM, Mv.R.bind_ok, Mv.R.bind_bad, Mv.R.noX_ok, Mv.R.andS_ok, Mv.R.andS_bad, Mv.S.andS_nx, Mv.S.andS_rt, Mv.S.andS_bad, Mv.S.andS_bk, Mv.S.andS_ct, List.map_cons, List.map_nil, List.cons_append, List.nil_append, List.append_nil, List.replicate_succ, List.replicate_zero, List.length_cons, List.length_nil, List.set_cons_zero, List.set_cons_succ, List.getElem?_cons_zero, List.getElem?_cons_succ, List.getElem?_nil, Nat.reduceAdd, Nat.reduceSub, Nat.reduceEqDiff, Nat.reduceLeDiff, Nat.zero_add, if_true, if_false, Bool.not_true, Bool.not_false, Bool.false_eq_true, decide_true, decide_false, ite_true, ite_false, Option.some.injEq, reduceIte, pv2]
    exact ⟨trivial, fun _ => trivial⟩
noncomputable def G_settled_of : List MV → MH → R MV := specOf (fun r : Rule => [rv r]) Valid fun r h => .ok (.int (settled r)) h
theorem one_inj {α : Type} {f : α → MV} (hf : ∀ a b, f a = f b → a = b) (a b : α) (e : [f a] = [f b]) : a = b := hf a b (List.cons.inj e).1
theorem G_settled_of_eq {r : Rule} (v : Valid r) (h : MH) : G_settled_of [rv r] h = .ok (.int (settled r)) h := specOf_eq (fun x y e => rv_inj (List.cons.inj e).1) v h
theorem sim_settled_of (xs : List MV) (h : MH) : Sim h (F_settled_of xs h) (G_settled_of xs h) := specOf_sim (fun r h v => by
  obtain ⟨g, e⟩ := F_settled_of_eq r h v.ne v.cap
  rw [e]
  exact sim_drop0 (und_int _ _)) xs h
/-- what a rule holds at a time -/
def heldAt (r : Rule) (t : Int) : List Int := (prog 0 1 ((if settled r < t then settled r else t) + 1).toNat).filter fun age => isHeld r (t - age) t
theorem F_held_at_eq {r : Rule} (v : Valid r) (t : Int) (h : MH) (ht : -1000 ≤ t) : ∃ g, F_held_at G_settled_of G_is_held [rv r, .int t] h = .ok (.tup (ivs (heldAt r t))) (h ++ g) := by
  unfold F_held_at m_held_at
  obtain ⟨_, _, s1, s2⟩ := settled_spec v
  have hb : inR ((if settled r < t then settled r else t) + 1) = true := inR_of (by split <;> omega)
  simp only [Mv.mDef, Mv.mSeq, Mv.mSet, Mv.mRet, Mv.mRetN, Mv.mIfS, Mv.mVar, Mv.mC, Mv.mBin, Mv.mChain, Mv.mCall, Mv.mDo, Mv.mCons, Mv.mNil, Mv.mAndV, Mv.mOrV, Mv.mNotV, Mv.mAsB, Mv.mAndT, Mv.mOrT, Mv.mNotT, Mv.mIf, Mv.mTup, Mv.mLst, Mv.mNext, Mv.mBad, Mv.mDrop, Mv.mPar, Mv.mAsg, Mv.mStore, Mv.mNeg, Mv.fNeg, Mv.mYes, Mv.mNoP, Mv.mPart, Mv.mSl, Mv.fI, Mv.fAdd, Mv.fSub, Mv.fMul, Mv.fMod, Mv.fDiv, Mv.fPow, Mv.fLt, Mv.fLe, Mv.fGt, Mv.fGe, Mv.yes2, Mv.fIsN, Mv.fNotN, Mv.isNon, Mv.fIx, Mv.items_tup, Mv.items_new, Mv.list_new, Mv.lstOf_new, Mv.fEq_int, Mv.fNe_int, Mv.fLen_tup, Mv.fMax2, Mv.fMin2, Mv.fInt, Mv.fAbs, Mv.mIsi, Mv.isT, Mv.gN, Mv.gT, Mv.setAll, Mv.wipeM, Mv.R.bind_ok, Mv.R.bind_bad, Mv.R.noX_ok, Mv.R.andS_ok, Mv.R.andS_bad, Mv.S.andS_nx, Mv.S.andS_rt, Mv.S.andS_bad, Mv.S.andS_bk, Mv.S.andS_ct, List.map_cons, List.map_nil, List.cons_append, List.nil_append, List.append_nil, List.replicate_succ, List.replicate_zero, List.length_cons, List.length_nil, List.set_cons_zero, List.set_cons_succ, List.getElem?_cons_zero, List.getElem?_cons_succ, List.getElem?_nil, Nat.reduceAdd, Nat.reduceSub, Nat.reduceEqDiff, Nat.reduceLeDiff, Nat.zero_add, if_true, if_false, Bool.not_true, Bool.not_false, Bool.false_eq_true, decide_true, decide_false, ite_true, ite_false, Option.some.injEq, reduceIte, mLc, mRng1, G_settled_of_eq v, hb]
  rw [comp_pure (l := prog 0 1 ((if settled r < t then settled r else t) + 1).toNat) (enc := MV.int) (cb := fun age => isHeld r (t - age) t) (f := MV.int) (fun i => itR_nx _ _ _ i h) (by rw [prog_length]; unfold cap; split <;> omega)]
  · simp only [Mv.mDef, Mv.mSeq, Mv.mSet, Mv.mRet, Mv.mRetN, Mv.mIfS, Mv.mVar, Mv.mC, Mv.mBin, Mv.mChain, Mv.mCall, Mv.mDo, Mv.mCons, Mv.mNil, Mv.mAndV, Mv.mOrV, Mv.mNotV, Mv.mAsB, Mv.mAndT, Mv.mOrT, Mv.mNotT, Mv.mIf, Mv.mTup, Mv.mLst, Mv.mNext, Mv.mBad, Mv.mDrop, Mv.mPar, Mv.mAsg, Mv.mStore, Mv.mNeg, Mv.fNeg, Mv.mYes, Mv.mNoP, Mv.mPart, Mv.mSl, Mv.fI, Mv.fAdd, Mv.fSub, Mv.fMul, Mv.fMod, Mv.fDiv, Mv.fPow, Mv.fLt, Mv.fLe, Mv.fGt, Mv.fGe, Mv.yes2, Mv.fIsN, Mv.fNotN, Mv.isNon, Mv.fIx, Mv.items_tup, Mv.items_new, Mv.list_new, Mv.lstOf_new, Mv.fEq_int, Mv.fNe_int, Mv.fLen_tup, Mv.fMax2, Mv.fMin2, Mv.fInt, Mv.fAbs, Mv.mIsi, Mv.isT, Mv.gN, Mv.gT, Mv.setAll, Mv.wipeM, Mv.R.bind_ok, Mv.R.bind_bad, Mv.R.noX_ok, Mv.R.andS_ok, Mv.R.andS_bad, Mv.S.andS_nx, Mv.S.andS_rt, Mv.S.andS_bad, Mv.S.andS_bk, Mv.S.andS_ct, List.map_cons, List.map_nil, List.cons_append, List.nil_append, List.append_nil, List.replicate_succ, List.replicate_zero, List.length_cons, List.length_nil, List.set_cons_zero, List.set_cons_succ, List.getElem?_cons_zero, List.getElem?_cons_succ, List.getElem?_nil, Nat.reduceAdd, Nat.reduceSub, Nat.reduceEqDiff, Nat.reduceLeDiff, Nat.zero_add, if_true, if_false, Bool.not_true, Bool.not_false, Bool.false_eq_true, decide_true, decide_false, ite_true, ite_false, Option.some.injEq, reduceIte, fTuple_at (items_new h _)]
    exact ⟨_, rfl⟩
  · intro age _
    refine ⟨_, rfl, ?_⟩
    simp only [Mv.mDef, Mv.mSeq, Mv.mSet, Mv.mRet, Mv.mRetN, Mv.mIfS, Mv.mVar, Mv.mC, Mv.mBin, Mv.mChain, Mv.mCall, Mv.mDo, Mv.mCons, Mv.mNil, Mv.mAndV, Mv.mOrV, Mv.mNotV, Mv.mAsB, Mv.mAndT, Mv.mOrT, Mv.mNotT, Mv.mIf, Mv.mTup, Mv.mLst, Mv.mNext, Mv.mBad, Mv.mDrop, Mv.mPar, Mv.mAsg, Mv.mStore, Mv.mNeg, Mv.fNeg, Mv.mYes, Mv.mNoP, Mv.mPart, Mv.mSl, Mv.fI, Mv.fAdd, Mv.fSub, Mv.fMul, Mv.fMod, Mv.fDiv, Mv.fPow, Mv.fLt, Mv.fLe, Mv.fGt, Mv.fGe, Mv.yes2, Mv.fIsN, Mv.fNotN, Mv.isNon, Mv.fIx, Mv.items_tup, Mv.items_new, Mv.list_new, Mv.lstOf_new, Mv.fEq_int, Mv.fNe_int, Mv.fLen_tup, Mv.fMax2, Mv.fMin2, Mv.fInt, Mv.fAbs, Mv.mIsi, Mv.isT, Mv.gN, Mv.gT, Mv.setAll, Mv.wipeM, Mv.R.bind_ok, Mv.R.bind_bad, Mv.R.noX_ok, Mv.R.andS_ok, Mv.R.andS_bad, Mv.S.andS_nx, Mv.S.andS_rt, Mv.S.andS_bad, Mv.S.andS_bk, Mv.S.andS_ct, List.map_cons, List.map_nil, List.cons_append, List.nil_append, List.append_nil, List.replicate_succ, List.replicate_zero, List.length_cons, List.length_nil, List.set_cons_zero, List.set_cons_succ, List.getElem?_cons_zero, List.getElem?_cons_succ, List.getElem?_nil, Nat.reduceAdd, Nat.reduceSub, Nat.reduceEqDiff, Nat.reduceLeDiff, Nat.zero_add, if_true, if_false, Bool.not_true, Bool.not_false, Bool.false_eq_true, decide_true, decide_false, ite_true, ite_false, Option.some.injEq, reduceIte, G_is_held_eq v]
    exact ⟨trivial, fun _ => trivial⟩
noncomputable def G_held_at : List MV → MH → R MV := specOf (α := Rule × Int) (fun p => [rv p.1, .int p.2]) (fun p => Valid p.1 ∧ -1000 ≤ p.2) fun p h => .ok (.tup (ivs (heldAt p.1 p.2))) h
theorem two_inj (x y : Rule × Int) (e : [rv x.1, .int x.2] = [rv y.1, .int y.2]) : x = y := by
  simp only [List.cons.injEq, MV.int.injEq, and_true] at e
  exact Prod.ext (rv_inj e.1) e.2
theorem G_held_at_eq {r : Rule} (v : Valid r) {t : Int} (ht : -1000 ≤ t) (h : MH) : G_held_at [rv r, .int t] h = .ok (.tup (ivs (heldAt r t))) h := specOf_eq (a := ((r, t) : Rule × Int)) two_inj ⟨v, ht⟩ h
theorem sim_held_at (xs : List MV) (h : MH) : Sim h (F_held_at G_settled_of G_is_held xs h) (G_held_at xs h) := specOf_sim (fun p h v => by
  obtain ⟨g, e⟩ := F_held_at_eq v.1 p.2 h v.2
  rw [e]
  exact sim_drop0 (und_tints _ _)) xs h
end Mv

set_option maxHeartbeats 4000000
namespace Mv
open PySem PySem.Spec L2

/-! ### common, turn_of -/
theorem cmul_ok {i j : Int} {a b : Nat} (ha : i.natAbs < 2 ^ a) (hb : j.natAbs < 2 ^ b) (h0 : 0 < a) (h1 : 0 < b) (h : a + b ≤ 100000000) : CMulB i j = true := decide_eq_true (by
  have x := PySem.Flt.log2_lt_of h0 ha
  have y := PySem.Flt.log2_lt_of h1 hb
  omega)
/-- the multiples of a up to a * b that b divides -/
def commons (a b : Int) : List Int := (prog a a (rngN a (a * b + 1) a)).filter fun n => decide (n % b = 0)
theorem F_common_eq (a b : Int) (h : MH) (ha : 1 ≤ a) (ha2 : a ≤ 60) (hb : 1 ≤ b) (hb2 : b ≤ 6) {m : Int} {rest : List Int} (e : commons a b = m :: rest) : ∃ g, F_common [.int a, .int b] h = .ok (.int m) (h ++ g) := by
  unfold F_common m_common
  have h1 : a * b ≤ 360 := Int.le_trans (Int.mul_le_mul ha2 hb2 (by omega) (by omega)) (by decide)
  have h0 : 0 ≤ a * b := Int.mul_nonneg (by omega) (by omega)
  have q1 : inR a = true := inR_of (by omega)
  have q2 : inR (a * b + 1) = true := inR_of (by omega)
  have q3 : CMulB a b = true := cmul_ok (a := 10) (b := 10) (by omega) (by omega) (by decide) (by decide) (by decide)
  have q4 : 0 < a := by omega
  have q5 : a < 1000000 := by omega
  have q6 : 0 < b := by omega
  simp only [Mv.mDef, Mv.mSeq, Mv.mSet, Mv.mRet, Mv.mRetN, Mv.mIfS, Mv.mVar, Mv.mC, Mv.mBin, Mv.mChain, Mv.mCall, Mv.mDo, Mv.mCons, Mv.mNil, Mv.mAndV, Mv.mOrV, Mv.mNotV, Mv.mAsB, Mv.mAndT, Mv.mOrT, Mv.mNotT, Mv.mIf, Mv.mTup, Mv.mLst, Mv.mNext, Mv.mBad, Mv.mDrop, Mv.mPar, Mv.mAsg, Mv.mStore, Mv.mNeg, Mv.fNeg, Mv.mYes, Mv.mNoP, Mv.mPart, Mv.mSl, Mv.fI, Mv.fAdd, Mv.fSub, Mv.fMul, Mv.fMod, Mv.fDiv, Mv.fPow, Mv.fLt, Mv.fLe, Mv.fGt, Mv.fGe, Mv.yes2, Mv.fIsN, Mv.fNotN, Mv.isNon, Mv.fIx, Mv.items_tup, Mv.items_new, Mv.list_new, Mv.lstOf_new, Mv.fEq_int, Mv.fNe_int, Mv.fLen_tup, Mv.fMax2, Mv.fMin2, Mv.fInt, Mv.fAbs, Mv.mIsi, Mv.isT, Mv.gN, Mv.gT, Mv.setAll, Mv.wipeM, Mv.R.bind_ok, Mv.R.bind_bad, Mv.R.noX_ok, Mv.R.andS_ok, Mv.R.andS_bad, Mv.S.andS_nx, Mv.S.andS_rt, Mv.S.andS_bad, Mv.S.andS_bk, Mv.S.andS_ct, List.map_cons, List.map_nil, List.cons_append, List.nil_append, List.append_nil, List.replicate_succ, List.replicate_zero, List.length_cons, List.length_nil, List.set_cons_zero, List.set_cons_succ, List.getElem?_cons_zero, List.getElem?_cons_succ, List.getElem?_nil, Nat.reduceAdd, Nat.reduceSub, Nat.reduceEqDiff, Nat.reduceLeDiff, Nat.zero_add, if_true, if_false, Bool.not_true, Bool.not_false, Bool.false_eq_true, decide_true, decide_false, ite_true, ite_false, Option.some.injEq, reduceIte, mLc, mRng3, q1, q2, q3, q4, q5, and_self]
  rw [comp_pure (l := prog a a (rngN a (a * b + 1) a)) (enc := MV.int) (cb := fun n => decide (n % b = 0)) (f := MV.int) (fun i => itR_nx _ _ _ i h) (by
    rw [prog_length]; unfold rngN cap
    split
    · have : (a * b + 1 - a - 1) / a ≤ a * b + 1 - a - 1 := Int.ediv_le_self _ (by omega)
      omega
    · omega)]
  · have e' : List.filter (fun n => decide (n % b = 0)) (prog a a (rngN a (a * b + 1) a)) = m :: rest := e
    rw [e']
    simp only [Mv.mDef, Mv.mSeq, Mv.mSet, Mv.mRet, Mv.mRetN, Mv.mIfS, Mv.mVar, Mv.mC, Mv.mBin, Mv.mChain, Mv.mCall, Mv.mDo, Mv.mCons, Mv.mNil, Mv.mAndV, Mv.mOrV, Mv.mNotV, Mv.mAsB, Mv.mAndT, Mv.mOrT, Mv.mNotT, Mv.mIf, Mv.mTup, Mv.mLst, Mv.mNext, Mv.mBad, Mv.mDrop, Mv.mPar, Mv.mAsg, Mv.mStore, Mv.mNeg, Mv.fNeg, Mv.mYes, Mv.mNoP, Mv.mPart, Mv.mSl, Mv.fI, Mv.fAdd, Mv.fSub, Mv.fMul, Mv.fMod, Mv.fDiv, Mv.fPow, Mv.fLt, Mv.fLe, Mv.fGt, Mv.fGe, Mv.yes2, Mv.fIsN, Mv.fNotN, Mv.isNon, Mv.fIx, Mv.items_tup, Mv.items_new, Mv.list_new, Mv.lstOf_new, Mv.fEq_int, Mv.fNe_int, Mv.fLen_tup, Mv.fMax2, Mv.fMin2, Mv.fInt, Mv.fAbs, Mv.mIsi, Mv.isT, Mv.gN, Mv.gT, Mv.setAll, Mv.wipeM, Mv.R.bind_ok, Mv.R.bind_bad, Mv.R.noX_ok, Mv.R.andS_ok, Mv.R.andS_bad, Mv.S.andS_nx, Mv.S.andS_rt, Mv.S.andS_bad, Mv.S.andS_bk, Mv.S.andS_ct, List.map_cons, List.map_nil, List.cons_append, List.nil_append, List.append_nil, List.replicate_succ, List.replicate_zero, List.length_cons, List.length_nil, List.set_cons_zero, List.set_cons_succ, List.getElem?_cons_zero, List.getElem?_cons_succ, List.getElem?_nil, Nat.reduceAdd, Nat.reduceSub, Nat.reduceEqDiff, Nat.reduceLeDiff, Nat.zero_add, if_true, if_false, Bool.not_true, Bool.not_false, Bool.false_eq_true, decide_true, decide_false, ite_true, ite_false, Option.some.injEq, reduceIte, atI, ixN]
    refine ⟨[.lst (MV.int m :: rest.map MV.int)], ?_⟩
    simp
  · intro n _
    refine ⟨_, rfl, ?_⟩
    simp only [Mv.mDef, Mv.mSeq, Mv.mSet, Mv.mRet, Mv.mRetN, Mv.mIfS, Mv.mVar, Mv.mC, Mv.mBin, Mv.mChain, Mv.mCall, Mv.mDo, Mv.mCons, Mv.mNil, Mv.mAndV, Mv.mOrV, Mv.mNotV, Mv.mAsB, Mv.mAndT, Mv.mOrT, Mv.mNotT, Mv.mIf, Mv.mTup, Mv.mLst, Mv.mNext, Mv.mBad, Mv.mDrop, Mv.mPar, Mv.mAsg, Mv.mStore, Mv.mNeg, Mv.fNeg, Mv.mYes, Mv.mNoP, Mv.mPart, Mv.mSl, Mv.fI, Mv.fAdd, Mv.fSub, Mv.fMul, Mv.fMod, Mv.fDiv, Mv.fPow, Mv.fLt, Mv.fLe, Mv.fGt, Mv.fGe, Mv.yes2, Mv.fIsN, Mv.fNotN, Mv.isNon, Mv.fIx, Mv.items_tup, Mv.items_new, Mv.list_new, Mv.lstOf_new, Mv.fEq_int, Mv.fNe_int, Mv.fLen_tup, Mv.fMax2, Mv.fMin2, Mv.fInt, Mv.fAbs, Mv.mIsi, Mv.isT, Mv.gN, Mv.gT, Mv.setAll, Mv.wipeM, Mv.R.bind_ok, Mv.R.bind_bad, Mv.R.noX_ok, Mv.R.andS_ok, Mv.R.andS_bad, Mv.S.andS_nx, Mv.S.andS_rt, Mv.S.andS_bad, Mv.S.andS_bk, Mv.S.andS_ct, List.map_cons, List.map_nil, List.cons_append, List.nil_append, List.append_nil, List.replicate_succ, List.replicate_zero, List.length_cons, List.length_nil, List.set_cons_zero, List.set_cons_succ, List.getElem?_cons_zero, List.getElem?_cons_succ, List.getElem?_nil, Nat.reduceAdd, Nat.reduceSub, Nat.reduceEqDiff, Nat.reduceLeDiff, Nat.zero_add, if_true, if_false, Bool.not_true, Bool.not_false, Bool.false_eq_true, decide_true, decide_false, ite_true, ite_false, Option.some.injEq, reduceIte, q6]
    exact ⟨trivial, fun _ => trivial⟩
theorem commons_all : ∀ a : Fin 61, ∀ b : Fin 7, 1 ≤ a.val → 1 ≤ b.val → (commons a.val b.val).head? = some ((Nat.lcm a.val b.val : Nat) : Int) := by decide +kernel
theorem commons_eq {a b : Nat} (ha : 1 ≤ a) (ha2 : a ≤ 60) (hb : 1 ≤ b) (hb2 : b ≤ 6) : ∃ rest, commons a b = ((Nat.lcm a b : Nat) : Int) :: rest := by
  have q := commons_all ⟨a, by omega⟩ ⟨b, by omega⟩ ha hb
  cases e : commons (a : Int) (b : Int) with
  | nil => rw [e] at q; cases q
  | cons m r => rw [e] at q; simp only [List.head?_cons, Option.some.injEq] at q; exact ⟨r, by rw [q]⟩
noncomputable def G_common : List MV → MH → R MV := specOf (α := Nat × Nat) (fun p => [.int p.1, .int p.2]) (fun p => 1 ≤ p.1 ∧ p.1 ≤ 60 ∧ 1 ≤ p.2 ∧ p.2 ≤ 6) fun p h => .ok (.int (Nat.lcm p.1 p.2 : Nat)) h
theorem G_common_eq {a b : Nat} (ha : 1 ≤ a) (ha2 : a ≤ 60) (hb : 1 ≤ b) (hb2 : b ≤ 6) (h : MH) : G_common [.int a, .int b] h = .ok (.int (Nat.lcm a b : Nat)) h :=
  specOf_eq (a := ((a, b) : Nat × Nat)) (fun x y e => by
    simp only [List.cons.injEq, MV.int.injEq, and_true] at e
    exact Prod.ext (by omega) (by omega)) ⟨ha, ha2, hb, hb2⟩ h
theorem sim_common (xs : List MV) (h : MH) : Sim h (F_common xs h) (G_common xs h) := specOf_sim (fun p h v => by
  obtain ⟨h1, h2, h3, h4⟩ := v
  obtain ⟨r, e⟩ := commons_eq h1 h2 h3 h4
  obtain ⟨g, e⟩ := F_common_eq p.1 p.2 h (by omega) (by omega) (by omega) (by omega) e
  rw [e]
  exact sim_drop0 (und_int _ _)) xs h
/-- the least common multiple of the everys -/
def turnN (r : Rule) : Nat := r.foldl (fun acc p => Nat.lcm acc p.1.toNat) 1
theorem turn_fold (r : Rule) (hr : ∀ p ∈ r, 1 ≤ p.1 ∧ p.1 ≤ 6) : ∀ acc : Nat, 1 ≤ acc → acc ∣ 60 → let T := r.foldl (fun acc p => Nat.lcm acc p.1.toNat) acc
    1 ≤ T ∧ T ∣ 60 ∧ acc ∣ T ∧ ∀ p ∈ r, p.1.toNat ∣ T := by
  induction r with
  | nil => intro acc h1 h2; exact ⟨h1, h2, Nat.dvd_refl _, fun p hp => by cases hp⟩
  | cons q r ih =>
    intro acc h1 h2
    have hq := hr q (List.mem_cons_self ..)
    have d6 : q.1.toNat ∣ 60 := by
      have : q.1.toNat = 1 ∨ q.1.toNat = 2 ∨ q.1.toNat = 3 ∨ q.1.toNat = 4 ∨ q.1.toNat = 5 ∨ q.1.toNat = 6 := by omega
      rcases this with e | e | e | e | e | e <;> rw [e] <;> decide
    have l1 : 1 ≤ Nat.lcm acc q.1.toNat := Nat.lcm_pos (by omega) (by omega)
    obtain ⟨a, b, c, d⟩ := ih (fun p hp => hr p (List.mem_cons_of_mem _ hp)) (Nat.lcm acc q.1.toNat) l1 (Nat.lcm_dvd h2 d6)
    refine ⟨a, b, Nat.dvd_trans (Nat.dvd_lcm_left _ _) c, fun p hp => ?_⟩
    rcases List.mem_cons.mp hp with e | e
    · rw [e]; exact Nat.dvd_trans (Nat.dvd_lcm_right _ _) c
    · exact d p e
theorem turn_spec {r : Rule} (v : Valid r) : 1 ≤ turnN r ∧ turnN r ∣ 60 ∧ turnN r ≤ 60 ∧ ∀ p ∈ r, p.1.toNat ∣ turnN r := by
  obtain ⟨a, b, _, d⟩ := turn_fold r (fun p hp => ⟨(v.ok p hp).1, (v.ok p hp).2.1⟩) 1 (Nat.le_refl _) (by decide)
  exact ⟨a, b, Nat.le_of_dvd (by decide) b, d⟩
theorem F_turn_of_eq {r : Rule} (v : Valid r) (h : MH) : F_turn_of G_common [rv r] h = .ok (.int (turnN r : Nat)) h := by
  unfold F_turn_of m_turn_of
  simp only [Mv.mDef, Mv.mSeq, Mv.mSet, Mv.mRet, Mv.mRetN, Mv.mIfS, Mv.mVar, Mv.mC, Mv.mBin, Mv.mChain, Mv.mCall, Mv.mDo, Mv.mCons, Mv.mNil, Mv.mAndV, Mv.mOrV, Mv.mNotV, Mv.mAsB, Mv.mAndT, Mv.mOrT, Mv.mNotT, Mv.mIf, Mv.mTup, Mv.mLst, Mv.mNext, Mv.mBad, Mv.mDrop, Mv.mPar, Mv.mAsg, Mv.mStore, Mv.mNeg, Mv.fNeg, Mv.mYes, Mv.mNoP, Mv.mPart, Mv.mSl, Mv.fI, Mv.fAdd, Mv.fSub, Mv.fMul, Mv.fMod, Mv.fDiv, Mv.fPow, Mv.fLt, Mv.fLe, Mv.fGt, Mv.fGe, Mv.yes2, Mv.fIsN, Mv.fNotN, Mv.isNon, Mv.fIx, Mv.items_tup, Mv.items_new, Mv.list_new, Mv.lstOf_new, Mv.fEq_int, Mv.fNe_int, Mv.fLen_tup, Mv.fMax2, Mv.fMin2, Mv.fInt, Mv.fAbs, Mv.mIsi, Mv.isT, Mv.gN, Mv.gT, Mv.setAll, Mv.wipeM, Mv.R.bind_ok, Mv.R.bind_bad, Mv.R.noX_ok, Mv.R.andS_ok, Mv.R.andS_bad, Mv.S.andS_nx, Mv.S.andS_rt, Mv.S.andS_bad, Mv.S.andS_bk, Mv.S.andS_ct, List.map_cons, List.map_nil, List.cons_append, List.nil_append, List.append_nil, List.replicate_succ, List.replicate_zero, List.length_cons, List.length_nil, List.set_cons_zero, List.set_cons_succ, List.getElem?_cons_zero, List.getElem?_cons_succ, List.getElem?_nil, Nat.reduceAdd, Nat.reduceSub, Nat.reduceEqDiff, Nat.reduceLeDiff, Nat.zero_add, if_true, if_false, Bool.not_true, Bool.not_false, Bool.false_eq_true, decide_true, decide_false, ite_true, ite_false, Option.some.injEq, reduceIte, mFor, mItV, rv]
  refine for_ind (xs := r.map pv2) (P := fun s => (match s.andS fun env h => (match env[1]? with | some (some v) => R.ok v h | _ => .bad).andS env fun v h1 => .rt v h1 with | .nx _ h' => R.ok MV.non h' | .rt v h' => .ok v h' | .exc x _ h' => .exc x h' | _ => .bad) = R.ok (MV.int (turnN r : Nat)) h)
    (fun i env h' => h' = h ∧ ∃ x2 x3, env = [some (.tup (r.map pv2)), some (.int ((r.take i).foldl (fun acc p => Nat.lcm acc p.1.toNat) 1 : Nat)), x2, x3])
    (fun i env h' _ => itT_nx _ i h') ?_ ?_ fuel 0 _ h ⟨rfl, none, none, rfl⟩ (Nat.zero_le _) (by have := v.l3; have := fuel_ge; simp only [List.length_map]; omega)
  · rintro env h' ⟨rfl, x2, x3, rfl⟩
    simp only [Mv.mDef, Mv.mSeq, Mv.mSet, Mv.mRet, Mv.mRetN, Mv.mIfS, Mv.mVar, Mv.mC, Mv.mBin, Mv.mChain, Mv.mCall, Mv.mDo, Mv.mCons, Mv.mNil, Mv.mAndV, Mv.mOrV, Mv.mNotV, Mv.mAsB, Mv.mAndT, Mv.mOrT, Mv.mNotT, Mv.mIf, Mv.mTup, Mv.mLst, Mv.mNext, Mv.mBad, Mv.mDrop, Mv.mPar, Mv.mAsg, Mv.mStore, Mv.mNeg, Mv.fNeg, Mv.mYes, Mv.mNoP, Mv.mPart, Mv.mSl, Mv.fI, Mv.fAdd, Mv.fSub, Mv.fMul, Mv.fMod, Mv.fDiv, Mv.fPow, Mv.fLt, Mv.fLe, Mv.fGt, Mv.fGe, Mv.yes2, Mv.fIsN, Mv.fNotN, Mv.isNon, Mv.fIx, Mv.items_tup, Mv.items_new, Mv.list_new, Mv.lstOf_new, Mv.fEq_int, Mv.fNe_int, Mv.fLen_tup, Mv.fMax2, Mv.fMin2, Mv.fInt, Mv.fAbs, Mv.mIsi, Mv.isT, Mv.gN, Mv.gT, Mv.setAll, Mv.wipeM, Mv.R.bind_ok, Mv.R.bind_bad, Mv.R.noX_ok, Mv.R.andS_ok, Mv.R.andS_bad, Mv.S.andS_nx, Mv.S.andS_rt, Mv.S.andS_bad, Mv.S.andS_bk, Mv.S.andS_ct, List.map_cons, List.map_nil, List.cons_append, List.nil_append, List.append_nil, List.replicate_succ, List.replicate_zero, List.length_cons, List.length_nil, List.set_cons_zero, List.set_cons_succ, List.getElem?_cons_zero, List.getElem?_cons_succ, List.getElem?_nil, Nat.reduceAdd, Nat.reduceSub, Nat.reduceEqDiff, Nat.reduceLeDiff, Nat.zero_add, if_true, if_false, Bool.not_true, Bool.not_false, Bool.false_eq_true, decide_true, decide_false, ite_true, ite_false, Option.some.injEq, reduceIte, List.length_map, List.take_length]
    rfl
  · rintro i x env h' hx ⟨rfl, x2, x3, rfl⟩
    rw [List.getElem?_map] at hx
    cases q : r[i]? with
    | none => rw [q] at hx; cases hx
    | some p =>
      rw [q] at hx
      cases hx
      obtain ⟨hi, ei⟩ := List.getElem?_eq_some_iff.mp q
      have hp := v.ok p (List.mem_of_getElem? q)
      have hsub : ∀ z ∈ r.take i, 1 ≤ z.1 ∧ z.1 ≤ 6 := fun z hz => by have := v.ok z (List.mem_of_mem_take hz); omega
      obtain ⟨a1, a2, _, _⟩ := turn_fold (r.take i) hsub 1 (Nat.le_refl _) (by decide)
      have a3 := Nat.le_of_dvd (by decide) a2
      have ep : p.1 = ((p.1.toNat : Nat) : Int) := by omega
      refine ⟨_, rfl, ?_⟩
      simp only [Mv.mDef, Mv.mSeq, Mv.mSet, Mv.mRet, Mv.mRetN, Mv.mIfS, Mv.mVar, Mv.mC, Mv.mBin, Mv.mChain, Mv.mCall, Mv.mDo, Mv.mCons, Mv.mNil, Mv.mAndV, Mv.mOrV, Mv.mNotV, Mv.mAsB, Mv.mAndT, Mv.mOrT, Mv.mNotT, Mv.mIf, Mv.mTup, Mv.mLst, Mv.mNext, Mv.mBad, Mv.mDrop, Mv.mPar, Mv.mAsg, Mv.mStore, Mv.mNeg, Mv.fNeg, Mv.mYes, Mv.mNoP, Mv.mPart, Mv.mSl, Mv.fI, Mv.fAdd, Mv.fSub, Mv.fMul, Mv.fMod, Mv.fDiv, Mv.fPow, Mv.fLt, Mv.fLe, Mv.fGt, Mv.fGe, Mv.yes2, Mv.fIsN, Mv.fNotN, Mv.isNon, Mv.fIx, Mv.items_tup, Mv.items_new, Mv.list_new, Mv.lstOf_new, Mv.fEq_int, Mv.fNe_int, Mv.fLen_tup, Mv.fMax2, Mv.fMin2, Mv.fInt, Mv.fAbs, Mv.mIsi, Mv.isT, Mv.gN, Mv.gT, Mv.setAll, Mv.wipeM, Mv.R.bind_ok, Mv.R.bind_bad, Mv.R.noX_ok, Mv.R.andS_ok, Mv.R.andS_bad, Mv.S.andS_nx, Mv.S.andS_rt, Mv.S.andS_bad, Mv.S.andS_bk, Mv.S.andS_ct, List.map_cons, List.map_nil, List.cons_append, List.nil_append, List.append_nil, List.replicate_succ, List.replicate_zero, List.length_cons, List.length_nil, List.set_cons_zero, List.set_cons_succ, List.getElem?_cons_zero, List.getElem?_cons_succ, List.getElem?_nil, Nat.reduceAdd, Nat.reduceSub, Nat.reduceEqDiff, Nat.reduceLeDiff, Nat.zero_add, if_true, if_false, Bool.not_true, Bool.not_false, Bool.false_eq_true, decide_true, decide_false, ite_true, ite_false, Option.some.injEq, reduceIte, pv2]
      rw [ep, G_common_eq a1 a3 (by omega) (by omega)]
      simp only [Mv.mDef, Mv.mSeq, Mv.mSet, Mv.mRet, Mv.mRetN, Mv.mIfS, Mv.mVar, Mv.mC, Mv.mBin, Mv.mChain, Mv.mCall, Mv.mDo, Mv.mCons, Mv.mNil, Mv.mAndV, Mv.mOrV, Mv.mNotV, Mv.mAsB, Mv.mAndT, Mv.mOrT, Mv.mNotT, Mv.mIf, Mv.mTup, Mv.mLst, Mv.mNext, Mv.mBad, Mv.mDrop, Mv.mPar, Mv.mAsg, Mv.mStore, Mv.mNeg, Mv.fNeg, Mv.mYes, Mv.mNoP, Mv.mPart, Mv.mSl, Mv.fI, Mv.fAdd, Mv.fSub, Mv.fMul, Mv.fMod, Mv.fDiv, Mv.fPow, Mv.fLt, Mv.fLe, Mv.fGt, Mv.fGe, Mv.yes2, Mv.fIsN, Mv.fNotN, Mv.isNon, Mv.fIx, Mv.items_tup, Mv.items_new, Mv.list_new, Mv.lstOf_new, Mv.fEq_int, Mv.fNe_int, Mv.fLen_tup, Mv.fMax2, Mv.fMin2, Mv.fInt, Mv.fAbs, Mv.mIsi, Mv.isT, Mv.gN, Mv.gT, Mv.setAll, Mv.wipeM, Mv.R.bind_ok, Mv.R.bind_bad, Mv.R.noX_ok, Mv.R.andS_ok, Mv.R.andS_bad, Mv.S.andS_nx, Mv.S.andS_rt, Mv.S.andS_bad, Mv.S.andS_bk, Mv.S.andS_ct, List.map_cons, List.map_nil, List.cons_append, List.nil_append, List.append_nil, List.replicate_succ, List.replicate_zero, List.length_cons, List.length_nil, List.set_cons_zero, List.set_cons_succ, List.getElem?_cons_zero, List.getElem?_cons_succ, List.getElem?_nil, Nat.reduceAdd, Nat.reduceSub, Nat.reduceEqDiff, Nat.reduceLeDiff, Nat.zero_add, if_true, if_false, Bool.not_true, Bool.not_false, Bool.false_eq_true, decide_true, decide_false, ite_true, ite_false, Option.some.injEq, reduceIte]
      have tk : r.take (i + 1) = r.take i ++ [p] := by rw [List.take_succ, q]; rfl
      rw [tk, List.foldl_append]
      exact ⟨trivial, _, _, rfl⟩

/-! ### round_of, period_of -/
/-- what r holds, so long from its settled time on -/
def rowF (r : Rule) (k : Nat) : List Int := heldAt r (settled r + (k : Int))
def rowV (r : Rule) (k : Nat) : MV := .tup (ivs (rowF r k))
theorem nats_prog (n : Nat) : prog 0 1 n = (List.range n).map fun (k : Nat) => (k : Int) := by
  unfold prog
  congr 1
  funext k
  omega
theorem F_round_of_eq {r : Rule} (v : Valid r) (h : MH) : F_round_of (F_turn_of G_common) G_settled_of G_held_at [rv r] h = .ok (.ref h.length) (h ++ [.lst ((List.range (turnN r)).map (rowV r))]) := by
  unfold F_round_of m_round_of
  obtain ⟨t1, t2, t3, _⟩ := turn_spec v
  obtain ⟨_, _, s1, s2⟩ := settled_spec v
  have hb : inR (turnN r : Nat) = true := inR_of (by omega)
  simp only [Mv.mDef, Mv.mSeq, Mv.mSet, Mv.mRet, Mv.mRetN, Mv.mIfS, Mv.mVar, Mv.mC, Mv.mBin, Mv.mChain, Mv.mCall, Mv.mDo, Mv.mCons, Mv.mNil, Mv.mAndV, Mv.mOrV, Mv.mNotV, Mv.mAsB, Mv.mAndT, Mv.mOrT, Mv.mNotT, Mv.mIf, Mv.mTup, Mv.mLst, Mv.mNext, Mv.mBad, Mv.mDrop, Mv.mPar, Mv.mAsg, Mv.mStore, Mv.mNeg, Mv.fNeg, Mv.mYes, Mv.mNoP, Mv.mPart, Mv.mSl, Mv.fI, Mv.fAdd, Mv.fSub, Mv.fMul, Mv.fMod, Mv.fDiv, Mv.fPow, Mv.fLt, Mv.fLe, Mv.fGt, Mv.fGe, Mv.yes2, Mv.fIsN, Mv.fNotN, Mv.isNon, Mv.fIx, Mv.items_tup, Mv.items_new, Mv.list_new, Mv.lstOf_new, Mv.fEq_int, Mv.fNe_int, Mv.fLen_tup, Mv.fMax2, Mv.fMin2, Mv.fInt, Mv.fAbs, Mv.mIsi, Mv.isT, Mv.gN, Mv.gT, Mv.setAll, Mv.wipeM, Mv.R.bind_ok, Mv.R.bind_bad, Mv.R.noX_ok, Mv.R.andS_ok, Mv.R.andS_bad, Mv.S.andS_nx, Mv.S.andS_rt, Mv.S.andS_bad, Mv.S.andS_bk, Mv.S.andS_ct, List.map_cons, List.map_nil, List.cons_append, List.nil_append, List.append_nil, List.replicate_succ, List.replicate_zero, List.length_cons, List.length_nil, List.set_cons_zero, List.set_cons_succ, List.getElem?_cons_zero, List.getElem?_cons_succ, List.getElem?_nil, Nat.reduceAdd, Nat.reduceSub, Nat.reduceEqDiff, Nat.reduceLeDiff, Nat.zero_add, if_true, if_false, Bool.not_true, Bool.not_false, Bool.false_eq_true, decide_true, decide_false, ite_true, ite_false, Option.some.injEq, reduceIte, mLc, mRng1, F_turn_of_eq v, hb]
  rw [comp_pure (l := List.range (turnN r)) (enc := fun (k : Nat) => MV.int (k : Int)) (cb := fun _ => true) (f := rowV r) (fun i => by
    rw [itR_nx, nats_prog, Int.toNat_natCast]; unfold ivs; rw [List.map_map]; rfl) (by rw [List.length_range]; unfold cap; omega)]
  · rw [filter_yes]; rfl
  · intro k _
    refine ⟨_, rfl, ?_⟩
    simp only [Mv.mDef, Mv.mSeq, Mv.mSet, Mv.mRet, Mv.mRetN, Mv.mIfS, Mv.mVar, Mv.mC, Mv.mBin, Mv.mChain, Mv.mCall, Mv.mDo, Mv.mCons, Mv.mNil, Mv.mAndV, Mv.mOrV, Mv.mNotV, Mv.mAsB, Mv.mAndT, Mv.mOrT, Mv.mNotT, Mv.mIf, Mv.mTup, Mv.mLst, Mv.mNext, Mv.mBad, Mv.mDrop, Mv.mPar, Mv.mAsg, Mv.mStore, Mv.mNeg, Mv.fNeg, Mv.mYes, Mv.mNoP, Mv.mPart, Mv.mSl, Mv.fI, Mv.fAdd, Mv.fSub, Mv.fMul, Mv.fMod, Mv.fDiv, Mv.fPow, Mv.fLt, Mv.fLe, Mv.fGt, Mv.fGe, Mv.yes2, Mv.fIsN, Mv.fNotN, Mv.isNon, Mv.fIx, Mv.items_tup, Mv.items_new, Mv.list_new, Mv.lstOf_new, Mv.fEq_int, Mv.fNe_int, Mv.fLen_tup, Mv.fMax2, Mv.fMin2, Mv.fInt, Mv.fAbs, Mv.mIsi, Mv.isT, Mv.gN, Mv.gT, Mv.setAll, Mv.wipeM, Mv.R.bind_ok, Mv.R.bind_bad, Mv.R.noX_ok, Mv.R.andS_ok, Mv.R.andS_bad, Mv.S.andS_nx, Mv.S.andS_rt, Mv.S.andS_bad, Mv.S.andS_bk, Mv.S.andS_ct, List.map_cons, List.map_nil, List.cons_append, List.nil_append, List.append_nil, List.replicate_succ, List.replicate_zero, List.length_cons, List.length_nil, List.set_cons_zero, List.set_cons_succ, List.getElem?_cons_zero, List.getElem?_cons_succ, List.getElem?_nil, Nat.reduceAdd, Nat.reduceSub, Nat.reduceEqDiff, Nat.reduceLeDiff, Nat.zero_add, if_true, if_false, Bool.not_true, Bool.not_false, Bool.false_eq_true, decide_true, decide_false, ite_true, ite_false, Option.some.injEq, reduceIte, G_settled_of_eq v, G_held_at_eq v (t := settled r + (k : Int)) (by omega)]
    exact ⟨trivial, fun _ => rfl⟩
end Mv

set_option maxHeartbeats 4000000
namespace Mv
open PySem PySem.Spec L2

theorem ok_ex {v : MV} {h h' : MH} (e : h <+: h') : ∃ g, R.ok v h' = R.ok v (h ++ g) := by
  obtain ⟨t, e⟩ := e
  exact ⟨t, by rw [e]⟩
/-! ### lists of rows as data -/
def tD (l : List Int) : PyData := .tuple (l.map PyData.int)
theorem data_rows {h : MH} {n : Nat} {ls : List (List Int)} (e : h[n]? = some (.lst (ls.map fun l => .tup (ivs l)))) : dataOf 12 h (.ref n) = some (.list (ls.map tD)) := by
  show (match h[n]? with
      | some (.lst xs) => (allSome (xs.map (dataOf 11 h))).map PyData.list
      | some (.frz xs) => (allSome (xs.map (dataOf 11 h))).map PyData.list
      | _ => none) = _
  simp only [e]
  have q : allSome ((ls.map fun l => MV.tup (ivs l)).map (dataOf 11 h)) = some (ls.map tD) := by
    rw [List.map_map]
    exact allSome_map fun l _ => data_ints 9 h l
  rw [q]
  rfl
theorem eqv_tD (a b : List Int) : PyData.eqv (tD a) (tD b) = true ↔ a = b := by
  unfold tD
  rw [eqv_tints]
  simp
theorem eqv_rows (a b : List (List Int)) : PyData.eqv (.list (a.map tD)) (.list (b.map tD)) = decide (a = b) := by
  have : PyData.eqv (.list (a.map tD)) (.list (b.map tD)) = true ↔ a = b := by
    simp only [PyData.eqv]
    exact eqvAll_by eqv_tD a b
  by_cases e : a = b
  · rw [decide_eq_true e]; exact this.mpr e
  · rw [decide_eq_false e]
    exact Bool.eq_false_iff.mpr fun z => e (this.mp z)
theorem fEq_rows {h : MH} {n m : Nat} {a b : List (List Int)} (e : h[n]? = some (.lst (a.map fun l => .tup (ivs l)))) (e' : h[m]? = some (.lst (b.map fun l => .tup (ivs l)))) : fEq (.ref n) (.ref m) h = .ok (.bl (decide (a = b))) h := by
  unfold fEq
  simp only [data_rows e, data_rows e', eqv_rows]
theorem fNe_rows {h : MH} {n m : Nat} {a b : List (List Int)} (e : h[n]? = some (.lst (a.map fun l => .tup (ivs l)))) (e' : h[m]? = some (.lst (b.map fun l => .tup (ivs l)))) : fNe (.ref n) (.ref m) h = .ok (.bl (!decide (a = b))) h := by
  unfold fNe
  simp only [data_rows e, data_rows e', eqv_rows]
theorem fEq_tints (a b : List Int) (h : MH) : fEq (.tup (ivs a)) (.tup (ivs b)) h = .ok (.bl (decide (a = b))) h := by
  unfold fEq
  simp only [data_ints, eqv_tints]
theorem fNe_tints (a b : List Int) (h : MH) : fNe (.tup (ivs a)) (.tup (ivs b)) h = .ok (.bl (!decide (a = b))) h := by
  unfold fNe
  simp only [data_ints, eqv_tints]
theorem cutM_drop (xs : List MV) {n : Nat} (h : n ≤ xs.length) : cutM xs (some (n : Int)) none = xs.drop n := by
  unfold cutM
  rw [HT.sIx_nat, HT.sIx_none, Nat.min_eq_left h, ← List.length_drop, List.take_length]
theorem cutM_take (xs : List MV) {n : Nat} (h : n ≤ xs.length) : cutM xs none (some (n : Int)) = xs.take n := by
  unfold cutM
  rw [HT.sIx_nat, HT.sIx_none, Nat.min_eq_left h, List.drop_zero, Nat.sub_zero]

theorem at_zero {α : Type} (a : α) (l : List α) : atI (a :: l) 0 = some a := by
  simp [atI, ixN]
/-! ### period_of -/
def rotE (L : List (List Int)) (n : Nat) : Bool := decide (L.drop n ++ L.take n = L)
def rowsL (r : Rule) (n : Nat) : List (List Int) := (List.range n).map (rowF r)
theorem rowsV_eq (r : Rule) (n : Nat) : (List.range n).map (rowV r) = (rowsL r n).map fun l => .tup (ivs l) := by
  unfold rowsL rowV
  rw [List.map_map]; rfl
def nums (T : Nat) : List Nat := ((List.range T).map (· + 1)).filter fun n => decide (T % n = 0)
theorem nums_ivs (T : Nat) : ivs (prog 1 1 ((T : Int) + 1 - 1).toNat) = ((List.range T).map (· + 1)).map fun (k : Nat) => MV.int (k : Int) := by
  have : ((T : Int) + 1 - 1).toNat = T := by omega
  rw [this]
  unfold ivs prog
  rw [List.map_map, List.map_map]
  apply List.map_congr_left
  intro k _
  show MV.int (1 + (k : Int) * 1) = MV.int ((k + 1 : Nat) : Int)
  congr 1
  omega
def periods (r : Rule) : List Nat := (nums (turnN r)).filter fun n => rotE (rowsL r (turnN r)) n
noncomputable def G_round_of : List MV → MH → R MV := F_round_of (F_turn_of G_common) G_settled_of G_held_at
theorem F_period_of_eq {r : Rule} (v : Valid r) (h : MH) {p : Nat} {rest : List Nat} (hp : periods r = p :: rest) : ∃ g, F_period_of G_round_of [rv r] h = .ok (.int (p : Nat)) (h ++ g) := by
  unfold F_period_of m_period_of G_round_of
  obtain ⟨t1, t2, t3, _⟩ := turn_spec v
  have hlen : ((List.range (turnN r)).map (rowV r)).length = turnN r := by simp
  simp only [Mv.mDef, Mv.mSeq, Mv.mSet, Mv.mRet, Mv.mRetN, Mv.mIfS, Mv.mVar, Mv.mC, Mv.mBin, Mv.mChain, Mv.mCall, Mv.mDo, Mv.mCons, Mv.mNil, Mv.mAndV, Mv.mOrV, Mv.mNotV, Mv.mAsB, Mv.mAndT, Mv.mOrT, Mv.mNotT, Mv.mIf, Mv.mTup, Mv.mLst, Mv.mNext, Mv.mBad, Mv.mDrop, Mv.mPar, Mv.mAsg, Mv.mStore, Mv.mNeg, Mv.fNeg, Mv.mYes, Mv.mNoP, Mv.mPart, Mv.mSl, Mv.fI, Mv.fAdd, Mv.fSub, Mv.fMul, Mv.fMod, Mv.fDiv, Mv.fPow, Mv.fLt, Mv.fLe, Mv.fGt, Mv.fGe, Mv.yes2, Mv.fIsN, Mv.fNotN, Mv.isNon, Mv.fIx, Mv.items_tup, Mv.items_new, Mv.list_new, Mv.lstOf_new, Mv.fEq_int, Mv.fNe_int, Mv.fLen_tup, Mv.fMax2, Mv.fMin2, Mv.fInt, Mv.fAbs, Mv.mIsi, Mv.isT, Mv.gN, Mv.gT, Mv.setAll, Mv.wipeM, Mv.R.bind_ok, Mv.R.bind_bad, Mv.R.noX_ok, Mv.R.andS_ok, Mv.R.andS_bad, Mv.S.andS_nx, Mv.S.andS_rt, Mv.S.andS_bad, Mv.S.andS_bk, Mv.S.andS_ct, List.map_cons, List.map_nil, List.cons_append, List.nil_append, List.append_nil, List.replicate_succ, List.replicate_zero, List.length_cons, List.length_nil, List.set_cons_zero, List.set_cons_succ, List.getElem?_cons_zero, List.getElem?_cons_succ, List.getElem?_nil, Nat.reduceAdd, Nat.reduceSub, Nat.reduceEqDiff, Nat.reduceLeDiff, Nat.zero_add, if_true, if_false, Bool.not_true, Bool.not_false, Bool.false_eq_true, decide_true, decide_false, ite_true, ite_false, Option.some.injEq, reduceIte, F_round_of_eq v, mLc, mRng2, fLen_items (items_new h _), hlen]
  have hb1 : inR 1 = true := inR_of (by omega)
  have hb : inR ((turnN r : Nat) + 1) = true := inR_of (by omega)
  simp only [Mv.mDef, Mv.mSeq, Mv.mSet, Mv.mRet, Mv.mRetN, Mv.mIfS, Mv.mVar, Mv.mC, Mv.mBin, Mv.mChain, Mv.mCall, Mv.mDo, Mv.mCons, Mv.mNil, Mv.mAndV, Mv.mOrV, Mv.mNotV, Mv.mAsB, Mv.mAndT, Mv.mOrT, Mv.mNotT, Mv.mIf, Mv.mTup, Mv.mLst, Mv.mNext, Mv.mBad, Mv.mDrop, Mv.mPar, Mv.mAsg, Mv.mStore, Mv.mNeg, Mv.fNeg, Mv.mYes, Mv.mNoP, Mv.mPart, Mv.mSl, Mv.fI, Mv.fAdd, Mv.fSub, Mv.fMul, Mv.fMod, Mv.fDiv, Mv.fPow, Mv.fLt, Mv.fLe, Mv.fGt, Mv.fGe, Mv.yes2, Mv.fIsN, Mv.fNotN, Mv.isNon, Mv.fIx, Mv.items_tup, Mv.items_new, Mv.list_new, Mv.lstOf_new, Mv.fEq_int, Mv.fNe_int, Mv.fLen_tup, Mv.fMax2, Mv.fMin2, Mv.fInt, Mv.fAbs, Mv.mIsi, Mv.isT, Mv.gN, Mv.gT, Mv.setAll, Mv.wipeM, Mv.R.bind_ok, Mv.R.bind_bad, Mv.R.noX_ok, Mv.R.andS_ok, Mv.R.andS_bad, Mv.S.andS_nx, Mv.S.andS_rt, Mv.S.andS_bad, Mv.S.andS_bk, Mv.S.andS_ct, List.map_cons, List.map_nil, List.cons_append, List.nil_append, List.append_nil, List.replicate_succ, List.replicate_zero, List.length_cons, List.length_nil, List.set_cons_zero, List.set_cons_succ, List.getElem?_cons_zero, List.getElem?_cons_succ, List.getElem?_nil, Nat.reduceAdd, Nat.reduceSub, Nat.reduceEqDiff, Nat.reduceLeDiff, Nat.zero_add, if_true, if_false, Bool.not_true, Bool.not_false, Bool.false_eq_true, decide_true, decide_false, ite_true, ite_false, Option.some.injEq, reduceIte, hb1, hb, and_self]
  rw [comp_pure (l := (List.range (turnN r)).map (· + 1)) (enc := fun (k : Nat) => MV.int (k : Int)) (cb := fun n => decide (turnN r % n = 0)) (f := fun (k : Nat) => MV.int (k : Int)) (fun i => by
    rw [itR_nx, nums_ivs]) (by rw [List.length_map, List.length_range]; unfold cap; omega)]
  · generalize eg : ((List.range (turnN r)).map (· + 1)).filter (fun n => decide (turnN r % n = 0)) = ns
    have ens : nums (turnN r) = ns := eg
    have hns : ∀ n ∈ ns, 1 ≤ n ∧ n ≤ turnN r := fun n hn => by
      rw [← eg] at hn
      obtain ⟨k, hk, e⟩ := List.mem_map.mp (List.mem_filter.mp hn).1
      have := List.mem_range.mp hk
      omega
    simp only [Mv.mDef, Mv.mSeq, Mv.mSet, Mv.mRet, Mv.mRetN, Mv.mIfS, Mv.mVar, Mv.mC, Mv.mBin, Mv.mChain, Mv.mCall, Mv.mDo, Mv.mCons, Mv.mNil, Mv.mAndV, Mv.mOrV, Mv.mNotV, Mv.mAsB, Mv.mAndT, Mv.mOrT, Mv.mNotT, Mv.mIf, Mv.mTup, Mv.mLst, Mv.mNext, Mv.mBad, Mv.mDrop, Mv.mPar, Mv.mAsg, Mv.mStore, Mv.mNeg, Mv.fNeg, Mv.mYes, Mv.mNoP, Mv.mPart, Mv.mSl, Mv.fI, Mv.fAdd, Mv.fSub, Mv.fMul, Mv.fMod, Mv.fDiv, Mv.fPow, Mv.fLt, Mv.fLe, Mv.fGt, Mv.fGe, Mv.yes2, Mv.fIsN, Mv.fNotN, Mv.isNon, Mv.fIx, Mv.items_tup, Mv.items_new, Mv.list_new, Mv.lstOf_new, Mv.fEq_int, Mv.fNe_int, Mv.fLen_tup, Mv.fMax2, Mv.fMin2, Mv.fInt, Mv.fAbs, Mv.mIsi, Mv.isT, Mv.gN, Mv.gT, Mv.setAll, Mv.wipeM, Mv.R.bind_ok, Mv.R.bind_bad, Mv.R.noX_ok, Mv.R.andS_ok, Mv.R.andS_bad, Mv.S.andS_nx, Mv.S.andS_rt, Mv.S.andS_bad, Mv.S.andS_bk, Mv.S.andS_ct, List.map_cons, List.map_nil, List.cons_append, List.nil_append, List.append_nil, List.replicate_succ, List.replicate_zero, List.length_cons, List.length_nil, List.set_cons_zero, List.set_cons_succ, List.getElem?_cons_zero, List.getElem?_cons_succ, List.getElem?_nil, Nat.reduceAdd, Nat.reduceSub, Nat.reduceEqDiff, Nat.reduceLeDiff, Nat.zero_add, if_true, if_false, Bool.not_true, Bool.not_false, Bool.false_eq_true, decide_true, decide_false, ite_true, ite_false, Option.some.injEq, reduceIte, mLc, mItV]
    generalize eh2 : h ++ [MO.lst ((List.range (turnN r)).map (rowV r))] ++ [MO.lst (ns.map fun (k : Nat) => MV.int (k : Int))] = h2
    have hrow : h2[h.length]? = some (.lst ((rowsL r (turnN r)).map fun l => .tup (ivs l))) := by
      rw [← eh2, ← rowsV_eq]
      exact look_app (look_new _ _)
    have hns2 : h2[(h ++ [MO.lst ((List.range (turnN r)).map (rowV r))]).length]? = some (.lst (ns.map fun (k : Nat) => MV.int (k : Int))) := by
      rw [← eh2]
      exact look_new _ _
    have hrl : (rowsL r (turnN r)).length = turnN r := by simp [rowsL]
    have hnl : ns.length ≤ cap := by
      rw [← eg]
      have := List.length_filter_le (fun n => decide (turnN r % n = 0)) ((List.range (turnN r)).map (· + 1))
      simp at this
      unfold cap
      omega
    obtain ⟨g, ec⟩ := comp_more (h := h2) (it := itL (h ++ [MO.lst ((List.range (turnN r)).map (rowV r))]).length) (tg := gN 3) (own := [3])
      (c := mAsB (mBin fEq (mBin fAdd (mSl (mVar 1) (mPart (mVar 3)) mNoP) (mSl (mVar 1) mNoP (mPart (mVar 3)))) (mVar 1))) (m := mVar 3)
      (env := [some (rv r), some (MV.ref h.length), some (MV.ref (h ++ [MO.lst ((List.range (turnN r)).map (rowV r))]).length), none])
      (l := ns) (enc := fun (k : Nat) => MV.int (k : Int)) (cb := fun n => rotE (rowsL r (turnN r)) n) (f := fun (k : Nat) => MV.int (k : Int)) (fun i g => itL_nx (look_app hns2) i) hnl (fun n hn g => by
        obtain ⟨n1, n2⟩ := hns n hn
        refine ⟨_, rfl, ?_⟩
        have a0 : (h2 ++ g)[h.length]? = some (.lst ((rowsL r (turnN r)).map fun l => .tup (ivs l))) := look_app hrow
        simp only [Mv.mDef, Mv.mSeq, Mv.mSet, Mv.mRet, Mv.mRetN, Mv.mIfS, Mv.mVar, Mv.mC, Mv.mBin, Mv.mChain, Mv.mCall, Mv.mDo, Mv.mCons, Mv.mNil, Mv.mAndV, Mv.mOrV, Mv.mNotV, Mv.mAsB, Mv.mAndT, Mv.mOrT, Mv.mNotT, Mv.mIf, Mv.mTup, Mv.mLst, Mv.mNext, Mv.mBad, Mv.mDrop, Mv.mPar, Mv.mAsg, Mv.mStore, Mv.mNeg, Mv.fNeg, Mv.mYes, Mv.mNoP, Mv.mPart, Mv.mSl, Mv.fI, Mv.fSub, Mv.fMul, Mv.fMod, Mv.fDiv, Mv.fPow, Mv.fLt, Mv.fLe, Mv.fGt, Mv.fGe, Mv.yes2, Mv.fIsN, Mv.fNotN, Mv.isNon, Mv.fIx, Mv.items_tup, Mv.items_new, Mv.list_new, Mv.lstOf_new, Mv.fEq_int, Mv.fNe_int, Mv.fLen_tup, Mv.fMax2, Mv.fMin2, Mv.fInt, Mv.fAbs, Mv.mIsi, Mv.isT, Mv.gN, Mv.gT, Mv.setAll, Mv.wipeM, Mv.R.bind_ok, Mv.R.bind_bad, Mv.R.noX_ok, Mv.R.andS_ok, Mv.R.andS_bad, Mv.S.andS_nx, Mv.S.andS_rt, Mv.S.andS_bad, Mv.S.andS_bk, Mv.S.andS_ct, List.map_cons, List.map_nil, List.cons_append, List.nil_append, List.append_nil, List.replicate_succ, List.replicate_zero, List.length_cons, List.length_nil, List.set_cons_zero, List.set_cons_succ, List.getElem?_cons_zero, List.getElem?_cons_succ, List.getElem?_nil, Nat.reduceAdd, Nat.reduceSub, Nat.reduceEqDiff, Nat.reduceLeDiff, Nat.zero_add, if_true, if_false, Bool.not_true, Bool.not_false, Bool.false_eq_true, decide_true, decide_false, ite_true, ite_false, Option.some.injEq, reduceIte]
        rw [fSl_drop (items_at a0) (by rw [List.length_map, hrl]; omega) (by rw [List.length_map, hrl]; unfold cap; omega)]
        simp only [Mv.mDef, Mv.mSeq, Mv.mSet, Mv.mRet, Mv.mRetN, Mv.mIfS, Mv.mVar, Mv.mC, Mv.mBin, Mv.mChain, Mv.mCall, Mv.mDo, Mv.mCons, Mv.mNil, Mv.mAndV, Mv.mOrV, Mv.mNotV, Mv.mAsB, Mv.mAndT, Mv.mOrT, Mv.mNotT, Mv.mIf, Mv.mTup, Mv.mLst, Mv.mNext, Mv.mBad, Mv.mDrop, Mv.mPar, Mv.mAsg, Mv.mStore, Mv.mNeg, Mv.fNeg, Mv.mYes, Mv.mNoP, Mv.mPart, Mv.mSl, Mv.fI, Mv.fSub, Mv.fMul, Mv.fMod, Mv.fDiv, Mv.fPow, Mv.fLt, Mv.fLe, Mv.fGt, Mv.fGe, Mv.yes2, Mv.fIsN, Mv.fNotN, Mv.isNon, Mv.fIx, Mv.items_tup, Mv.items_new, Mv.list_new, Mv.lstOf_new, Mv.fEq_int, Mv.fNe_int, Mv.fLen_tup, Mv.fMax2, Mv.fMin2, Mv.fInt, Mv.fAbs, Mv.mIsi, Mv.isT, Mv.gN, Mv.gT, Mv.setAll, Mv.wipeM, Mv.R.bind_ok, Mv.R.bind_bad, Mv.R.noX_ok, Mv.R.andS_ok, Mv.R.andS_bad, Mv.S.andS_nx, Mv.S.andS_rt, Mv.S.andS_bad, Mv.S.andS_bk, Mv.S.andS_ct, List.map_cons, List.map_nil, List.cons_append, List.nil_append, List.append_nil, List.replicate_succ, List.replicate_zero, List.length_cons, List.length_nil, List.set_cons_zero, List.set_cons_succ, List.getElem?_cons_zero, List.getElem?_cons_succ, List.getElem?_nil, Nat.reduceAdd, Nat.reduceSub, Nat.reduceEqDiff, Nat.reduceLeDiff, Nat.zero_add, if_true, if_false, Bool.not_true, Bool.not_false, Bool.false_eq_true, decide_true, decide_false, ite_true, ite_false, Option.some.injEq, reduceIte]
        have a1 := look_app (g := [MO.lst (((rowsL r (turnN r)).map fun l => MV.tup (ivs l)).drop n)]) a0
        rw [fSl_take (items_at a1) (by rw [List.length_map, hrl]; omega) (by rw [List.length_map, hrl]; unfold cap; omega)]
        simp only [Mv.mDef, Mv.mSeq, Mv.mSet, Mv.mRet, Mv.mRetN, Mv.mIfS, Mv.mVar, Mv.mC, Mv.mBin, Mv.mChain, Mv.mCall, Mv.mDo, Mv.mCons, Mv.mNil, Mv.mAndV, Mv.mOrV, Mv.mNotV, Mv.mAsB, Mv.mAndT, Mv.mOrT, Mv.mNotT, Mv.mIf, Mv.mTup, Mv.mLst, Mv.mNext, Mv.mBad, Mv.mDrop, Mv.mPar, Mv.mAsg, Mv.mStore, Mv.mNeg, Mv.fNeg, Mv.mYes, Mv.mNoP, Mv.mPart, Mv.mSl, Mv.fI, Mv.fSub, Mv.fMul, Mv.fMod, Mv.fDiv, Mv.fPow, Mv.fLt, Mv.fLe, Mv.fGt, Mv.fGe, Mv.yes2, Mv.fIsN, Mv.fNotN, Mv.isNon, Mv.fIx, Mv.items_tup, Mv.items_new, Mv.list_new, Mv.lstOf_new, Mv.fEq_int, Mv.fNe_int, Mv.fLen_tup, Mv.fMax2, Mv.fMin2, Mv.fInt, Mv.fAbs, Mv.mIsi, Mv.isT, Mv.gN, Mv.gT, Mv.setAll, Mv.wipeM, Mv.R.bind_ok, Mv.R.bind_bad, Mv.R.noX_ok, Mv.R.andS_ok, Mv.R.andS_bad, Mv.S.andS_nx, Mv.S.andS_rt, Mv.S.andS_bad, Mv.S.andS_bk, Mv.S.andS_ct, List.map_cons, List.map_nil, List.cons_append, List.nil_append, List.append_nil, List.replicate_succ, List.replicate_zero, List.length_cons, List.length_nil, List.set_cons_zero, List.set_cons_succ, List.getElem?_cons_zero, List.getElem?_cons_succ, List.getElem?_nil, Nat.reduceAdd, Nat.reduceSub, Nat.reduceEqDiff, Nat.reduceLeDiff, Nat.zero_add, if_true, if_false, Bool.not_true, Bool.not_false, Bool.false_eq_true, decide_true, decide_false, ite_true, ite_false, Option.some.injEq, reduceIte]
        have b1 := look_app (g := [MO.lst (((rowsL r (turnN r)).map fun l => MV.tup (ivs l)).take n)]) (look_new (h2 ++ g) (MO.lst (((rowsL r (turnN r)).map fun l => MV.tup (ivs l)).drop n)))
        have b2 := look_new (h2 ++ g ++ [MO.lst (((rowsL r (turnN r)).map fun l => MV.tup (ivs l)).drop n)]) (MO.lst (((rowsL r (turnN r)).map fun l => MV.tup (ivs l)).take n))
        rw [fAdd_refs b1 b2 (by simp only [List.length_drop, List.length_take, List.length_map, hrl]; unfold cap; omega)]
        simp only [Mv.mDef, Mv.mSeq, Mv.mSet, Mv.mRet, Mv.mRetN, Mv.mIfS, Mv.mVar, Mv.mC, Mv.mBin, Mv.mChain, Mv.mCall, Mv.mDo, Mv.mCons, Mv.mNil, Mv.mAndV, Mv.mOrV, Mv.mNotV, Mv.mAsB, Mv.mAndT, Mv.mOrT, Mv.mNotT, Mv.mIf, Mv.mTup, Mv.mLst, Mv.mNext, Mv.mBad, Mv.mDrop, Mv.mPar, Mv.mAsg, Mv.mStore, Mv.mNeg, Mv.fNeg, Mv.mYes, Mv.mNoP, Mv.mPart, Mv.mSl, Mv.fI, Mv.fSub, Mv.fMul, Mv.fMod, Mv.fDiv, Mv.fPow, Mv.fLt, Mv.fLe, Mv.fGt, Mv.fGe, Mv.yes2, Mv.fIsN, Mv.fNotN, Mv.isNon, Mv.fIx, Mv.items_tup, Mv.items_new, Mv.list_new, Mv.lstOf_new, Mv.fEq_int, Mv.fNe_int, Mv.fLen_tup, Mv.fMax2, Mv.fMin2, Mv.fInt, Mv.fAbs, Mv.mIsi, Mv.isT, Mv.gN, Mv.gT, Mv.setAll, Mv.wipeM, Mv.R.bind_ok, Mv.R.bind_bad, Mv.R.noX_ok, Mv.R.andS_ok, Mv.R.andS_bad, Mv.S.andS_nx, Mv.S.andS_rt, Mv.S.andS_bad, Mv.S.andS_bk, Mv.S.andS_ct, List.map_cons, List.map_nil, List.cons_append, List.nil_append, List.append_nil, List.replicate_succ, List.replicate_zero, List.length_cons, List.length_nil, List.set_cons_zero, List.set_cons_succ, List.getElem?_cons_zero, List.getElem?_cons_succ, List.getElem?_nil, Nat.reduceAdd, Nat.reduceSub, Nat.reduceEqDiff, Nat.reduceLeDiff, Nat.zero_add, if_true, if_false, Bool.not_true, Bool.not_false, Bool.false_eq_true, decide_true, decide_false, ite_true, ite_false, Option.some.injEq, reduceIte]
        have b3 := look_new (h2 ++ g ++ [MO.lst (((rowsL r (turnN r)).map fun l => MV.tup (ivs l)).drop n)] ++ [MO.lst (((rowsL r (turnN r)).map fun l => MV.tup (ivs l)).take n)]) (MO.lst ((((rowsL r (turnN r)).map fun l => MV.tup (ivs l)).drop n) ++ (((rowsL r (turnN r)).map fun l => MV.tup (ivs l)).take n)))
        have a2 := look_app (g := [MO.lst ((((rowsL r (turnN r)).map fun l => MV.tup (ivs l)).drop n) ++ (((rowsL r (turnN r)).map fun l => MV.tup (ivs l)).take n))]) (look_app (g := [MO.lst (((rowsL r (turnN r)).map fun l => MV.tup (ivs l)).take n)]) a1)
        have b4 := b3.trans (show _ = some (MO.lst (((rowsL r (turnN r)).drop n ++ (rowsL r (turnN r)).take n).map fun l => MV.tup (ivs l))) by rw [List.map_append, List.map_drop, List.map_take])
        rw [fEq_rows b4 a2]
        simp only [Mv.mDef, Mv.mSeq, Mv.mSet, Mv.mRet, Mv.mRetN, Mv.mIfS, Mv.mVar, Mv.mC, Mv.mBin, Mv.mChain, Mv.mCall, Mv.mDo, Mv.mCons, Mv.mNil, Mv.mAndV, Mv.mOrV, Mv.mNotV, Mv.mAsB, Mv.mAndT, Mv.mOrT, Mv.mNotT, Mv.mIf, Mv.mTup, Mv.mLst, Mv.mNext, Mv.mBad, Mv.mDrop, Mv.mPar, Mv.mAsg, Mv.mStore, Mv.mNeg, Mv.fNeg, Mv.mYes, Mv.mNoP, Mv.mPart, Mv.mSl, Mv.fI, Mv.fAdd, Mv.fSub, Mv.fMul, Mv.fMod, Mv.fDiv, Mv.fPow, Mv.fLt, Mv.fLe, Mv.fGt, Mv.fGe, Mv.yes2, Mv.fIsN, Mv.fNotN, Mv.isNon, Mv.fIx, Mv.items_tup, Mv.items_new, Mv.list_new, Mv.lstOf_new, Mv.fEq_int, Mv.fNe_int, Mv.fLen_tup, Mv.fMax2, Mv.fMin2, Mv.fInt, Mv.fAbs, Mv.mIsi, Mv.isT, Mv.gN, Mv.gT, Mv.setAll, Mv.wipeM, Mv.R.bind_ok, Mv.R.bind_bad, Mv.R.noX_ok, Mv.R.andS_ok, Mv.R.andS_bad, Mv.S.andS_nx, Mv.S.andS_rt, Mv.S.andS_bad, Mv.S.andS_bk, Mv.S.andS_ct, List.map_cons, List.map_nil, List.cons_append, List.nil_append, List.append_nil, List.replicate_succ, List.replicate_zero, List.length_cons, List.length_nil, List.set_cons_zero, List.set_cons_succ, List.getElem?_cons_zero, List.getElem?_cons_succ, List.getElem?_nil, Nat.reduceAdd, Nat.reduceSub, Nat.reduceEqDiff, Nat.reduceLeDiff, Nat.zero_add, if_true, if_false, Bool.not_true, Bool.not_false, Bool.false_eq_true, decide_true, decide_false, ite_true, ite_false, Option.some.injEq, reduceIte]
        refine ⟨g ++ ([MO.lst (((rowsL r (turnN r)).map fun l => MV.tup (ivs l)).drop n)] ++ ([MO.lst (((rowsL r (turnN r)).map fun l => MV.tup (ivs l)).take n)] ++ [MO.lst ((((rowsL r (turnN r)).map fun l => MV.tup (ivs l)).drop n) ++ (((rowsL r (turnN r)).map fun l => MV.tup (ivs l)).take n))])), ?_, fun _ => ⟨_, rfl⟩⟩
        rw [List.append_assoc, List.append_assoc, List.append_assoc]
        rfl)
    rw [ec]
    have ep : ns.filter (fun n => rotE (rowsL r (turnN r)) n) = p :: rest := by rw [← ens]; exact hp
    rw [ep]
    simp only [Mv.mDef, Mv.mSeq, Mv.mSet, Mv.mRet, Mv.mRetN, Mv.mIfS, Mv.mVar, Mv.mC, Mv.mBin, Mv.mChain, Mv.mCall, Mv.mDo, Mv.mCons, Mv.mNil, Mv.mAndV, Mv.mOrV, Mv.mNotV, Mv.mAsB, Mv.mAndT, Mv.mOrT, Mv.mNotT, Mv.mIf, Mv.mTup, Mv.mLst, Mv.mNext, Mv.mBad, Mv.mDrop, Mv.mPar, Mv.mAsg, Mv.mStore, Mv.mNeg, Mv.fNeg, Mv.mYes, Mv.mNoP, Mv.mPart, Mv.mSl, Mv.fI, Mv.fAdd, Mv.fSub, Mv.fMul, Mv.fMod, Mv.fDiv, Mv.fPow, Mv.fLt, Mv.fLe, Mv.fGt, Mv.fGe, Mv.yes2, Mv.fIsN, Mv.fNotN, Mv.isNon, Mv.fIx, Mv.items_tup, Mv.items_new, Mv.list_new, Mv.lstOf_new, Mv.fEq_int, Mv.fNe_int, Mv.fLen_tup, Mv.fMax2, Mv.fMin2, Mv.fInt, Mv.fAbs, Mv.mIsi, Mv.isT, Mv.gN, Mv.gT, Mv.setAll, Mv.wipeM, Mv.R.bind_ok, Mv.R.bind_bad, Mv.R.noX_ok, Mv.R.andS_ok, Mv.R.andS_bad, Mv.S.andS_nx, Mv.S.andS_rt, Mv.S.andS_bad, Mv.S.andS_bk, Mv.S.andS_ct, List.map_cons, List.map_nil, List.cons_append, List.nil_append, List.append_nil, List.replicate_succ, List.replicate_zero, List.length_cons, List.length_nil, List.set_cons_zero, List.set_cons_succ, List.getElem?_cons_zero, List.getElem?_cons_succ, List.getElem?_nil, Nat.reduceAdd, Nat.reduceSub, Nat.reduceEqDiff, Nat.reduceLeDiff, Nat.zero_add, if_true, if_false, Bool.not_true, Bool.not_false, Bool.false_eq_true, decide_true, decide_false, ite_true, ite_false, Option.some.injEq, reduceIte, items_at (look_new _ _), at_zero]
    rw [← eh2]
    apply ok_ex
    simp only [List.append_assoc]
    exact List.prefix_append _ _
  · intro n hn
    obtain ⟨k, hk, e⟩ := List.mem_map.mp hn
    have hn0 : (0 : Int) < (n : Int) := by omega
    refine ⟨_, rfl, ?_⟩
    simp only [Mv.mDef, Mv.mSeq, Mv.mSet, Mv.mRet, Mv.mRetN, Mv.mIfS, Mv.mVar, Mv.mC, Mv.mBin, Mv.mChain, Mv.mCall, Mv.mDo, Mv.mCons, Mv.mNil, Mv.mAndV, Mv.mOrV, Mv.mNotV, Mv.mAsB, Mv.mAndT, Mv.mOrT, Mv.mNotT, Mv.mIf, Mv.mTup, Mv.mLst, Mv.mNext, Mv.mBad, Mv.mDrop, Mv.mPar, Mv.mAsg, Mv.mStore, Mv.mNeg, Mv.fNeg, Mv.mYes, Mv.mNoP, Mv.mPart, Mv.mSl, Mv.fI, Mv.fAdd, Mv.fSub, Mv.fMul, Mv.fMod, Mv.fDiv, Mv.fPow, Mv.fLt, Mv.fLe, Mv.fGt, Mv.fGe, Mv.yes2, Mv.fIsN, Mv.fNotN, Mv.isNon, Mv.fIx, Mv.items_tup, Mv.items_new, Mv.list_new, Mv.lstOf_new, Mv.fEq_int, Mv.fNe_int, Mv.fLen_tup, Mv.fMax2, Mv.fMin2, Mv.fInt, Mv.fAbs, Mv.mIsi, Mv.isT, Mv.gN, Mv.gT, Mv.setAll, Mv.wipeM, Mv.R.bind_ok, Mv.R.bind_bad, Mv.R.noX_ok, Mv.R.andS_ok, Mv.R.andS_bad, Mv.S.andS_nx, Mv.S.andS_rt, Mv.S.andS_bad, Mv.S.andS_bk, Mv.S.andS_ct, List.map_cons, List.map_nil, List.cons_append, List.nil_append, List.append_nil, List.replicate_succ, List.replicate_zero, List.length_cons, List.length_nil, List.set_cons_zero, List.set_cons_succ, List.getElem?_cons_zero, List.getElem?_cons_succ, List.getElem?_nil, Nat.reduceAdd, Nat.reduceSub, Nat.reduceEqDiff, Nat.reduceLeDiff, Nat.zero_add, if_true, if_false, Bool.not_true, Bool.not_false, Bool.false_eq_true, decide_true, decide_false, ite_true, ite_false, Option.some.injEq, reduceIte, fLen_items (items_new h _), hlen, hn0]
    have e1 : decide (((turnN r : Nat) : Int) % (n : Int) = 0) = decide (turnN r % n = 0) := decide_eq_decide.mpr (by omega)
    rw [e1]
    exact ⟨rfl, fun _ => trivial⟩
end Mv

set_option maxHeartbeats 4000000
namespace Mv
open PySem PySem.Spec L2

/-! ### checks -/
theorem F_is_pair_eq {p : Int × Int} (hp : 1 ≤ p.1 ∧ p.1 ≤ 6 ∧ 0 ≤ p.2 ∧ p.2 ≤ 12) (h : MH) : F_is_pair F_is_integer [pv2 p] h = .ok (.bl true) h := by
  unfold F_is_pair m_is_pair
  obtain ⟨e, u⟩ := p
  obtain ⟨h1, h2, h3, h4⟩ := hp
  simp only at h1 h2 h3 h4
  have a1 : decide (1 ≤ e ∧ e ≤ 6) = true := decide_eq_true ⟨h1, h2⟩
  have a2 : decide (0 ≤ u ∧ u ≤ 12) = true := decide_eq_true ⟨h3, h4⟩
  have e1 : ((2 : Nat) : Int) = 2 := rfl
  have e2 : atI [MV.int e, MV.int u] 1 = some (.int u) := rfl
  simp only [Mv.mDef, Mv.mSeq, Mv.mSet, Mv.mRet, Mv.mRetN, Mv.mIfS, Mv.mVar, Mv.mC, Mv.mBin, Mv.mChain, Mv.mCall, Mv.mDo, Mv.mCons, Mv.mNil, Mv.mAndV, Mv.mOrV, Mv.mNotV, Mv.mAsB, Mv.mAndT, Mv.mOrT, Mv.mNotT, Mv.mIf, Mv.mTup, Mv.mLst, Mv.mNext, Mv.mBad, Mv.mDrop, Mv.mPar, Mv.mAsg, Mv.mStore, Mv.mNeg, Mv.fNeg, Mv.mYes, Mv.mNoP, Mv.mPart, Mv.mSl, Mv.fI, Mv.fAdd, Mv.fSub, Mv.fMul, Mv.fMod, Mv.fDiv, Mv.fPow, Mv.fLt, Mv.fLe, Mv.fGt, Mv.fGe, Mv.yes2, Mv.fIsN, Mv.fNotN, Mv.isNon, Mv.fIx, Mv.items_tup, Mv.items_new, Mv.list_new, Mv.lstOf_new, Mv.fEq_int, Mv.fNe_int, Mv.fLen_tup, Mv.fMax2, Mv.fMin2, Mv.fInt, Mv.fAbs, Mv.mIsi, Mv.isT, Mv.gN, Mv.gT, Mv.setAll, Mv.wipeM, Mv.R.bind_ok, Mv.R.bind_bad, Mv.R.noX_ok, Mv.R.andS_ok, Mv.R.andS_bad, Mv.S.andS_nx, Mv.S.andS_rt, Mv.S.andS_bad, Mv.S.andS_bk, Mv.S.andS_ct, List.map_cons, List.map_nil, List.cons_append, List.nil_append, List.append_nil, List.replicate_succ, List.replicate_zero, List.length_cons, List.length_nil, List.set_cons_zero, List.set_cons_succ, List.getElem?_cons_zero, List.getElem?_cons_succ, List.getElem?_nil, Nat.reduceAdd, Nat.reduceSub, Nat.reduceEqDiff, Nat.reduceLeDiff, Nat.zero_add, if_true, if_false, Bool.not_true, Bool.not_false, Bool.false_eq_true, decide_true, decide_false, ite_true, ite_false, Option.some.injEq, reduceIte, pv2, at_zero, e1, e2, F_is_integer_eq, a1, a2]
theorem F_check_rule_eq {r : Rule} (v : Valid r) (h : MH) : F_check_rule (F_is_pair F_is_integer) [rv r] h = .ok .non h := by
  unfold F_check_rule m_check_rule
  have a1 : ((1 : Int) ≤ (r.length : Int)) := by have := v.l1; omega
  have a2 : ((r.length : Int) ≤ 3) := by have := v.l3; omega
  simp only [Mv.mDef, Mv.mSeq, Mv.mSet, Mv.mRet, Mv.mRetN, Mv.mIfS, Mv.mVar, Mv.mC, Mv.mBin, Mv.mChain, Mv.mCall, Mv.mDo, Mv.mCons, Mv.mNil, Mv.mAndV, Mv.mOrV, Mv.mNotV, Mv.mAsB, Mv.mAndT, Mv.mOrT, Mv.mNotT, Mv.mIf, Mv.mTup, Mv.mLst, Mv.mNext, Mv.mBad, Mv.mDrop, Mv.mPar, Mv.mAsg, Mv.mStore, Mv.mNeg, Mv.fNeg, Mv.mYes, Mv.mNoP, Mv.mPart, Mv.mSl, Mv.fI, Mv.fAdd, Mv.fSub, Mv.fMul, Mv.fMod, Mv.fDiv, Mv.fPow, Mv.fLt, Mv.fLe, Mv.fGt, Mv.fGe, Mv.yes2, Mv.fIsN, Mv.fNotN, Mv.isNon, Mv.fIx, Mv.items_tup, Mv.items_new, Mv.list_new, Mv.lstOf_new, Mv.fEq_int, Mv.fNe_int, Mv.fLen_tup, Mv.fMax2, Mv.fMin2, Mv.fInt, Mv.fAbs, Mv.mIsi, Mv.isT, Mv.gN, Mv.gT, Mv.setAll, Mv.wipeM, Mv.R.bind_ok, Mv.R.bind_bad, Mv.R.noX_ok, Mv.R.andS_ok, Mv.R.andS_bad, Mv.S.andS_nx, Mv.S.andS_rt, Mv.S.andS_bad, Mv.S.andS_bk, Mv.S.andS_ct, List.map_cons, List.map_nil, List.cons_append, List.nil_append, List.append_nil, List.replicate_succ, List.replicate_zero, List.length_cons, List.length_nil, List.set_cons_zero, List.set_cons_succ, List.getElem?_cons_zero, List.getElem?_cons_succ, List.getElem?_nil, Nat.reduceAdd, Nat.reduceSub, Nat.reduceEqDiff, Nat.reduceLeDiff, Nat.zero_add, if_true, if_false, Bool.not_true, Bool.not_false, Bool.false_eq_true, decide_true, decide_false, ite_true, ite_false, Option.some.injEq, reduceIte, rv, mFor, mEnumV, a1, a2, List.length_map]
  refine for_ind (xs := enumL (r.map pv2)) (P := fun s => (match s with | .nx _ h' => R.ok MV.non h' | .rt v h' => .ok v h' | .exc x _ h' => .exc x h' | _ => .bad) = R.ok MV.non h)
    (fun i env h' => h' = h ∧ ∃ x2 x3, env = [some (.tup (r.map pv2)), x2, x3])
    (fun i env h' _ => itE_nx (fun i => itT_nx _ i h') i) ?_ ?_ fuel 0 _ h ⟨rfl, none, none, rfl⟩ (Nat.zero_le _) (by have := v.l3; have := fuel_ge; simp only [enumL, List.length_map, List.length_zipIdx]; omega)
  · rintro env h' ⟨rfl, x2, x3, rfl⟩
    rfl
  · rintro i x env h' hx ⟨rfl, x2, x3, rfl⟩
    unfold enumL at hx
    rw [List.getElem?_map] at hx
    cases q : (r.map pv2).zipIdx[i]? with
    | none => rw [q] at hx; cases hx
    | some p =>
      rw [q] at hx
      cases hx
      rw [List.getElem?_zipIdx, List.getElem?_map] at q
      cases q2 : r[i]? with
      | none => rw [q2] at q; cases q
      | some z =>
        rw [q2] at q
        cases q
        refine ⟨_, rfl, ?_⟩
        simp only [Mv.mDef, Mv.mSeq, Mv.mSet, Mv.mRet, Mv.mRetN, Mv.mIfS, Mv.mVar, Mv.mC, Mv.mBin, Mv.mChain, Mv.mCall, Mv.mDo, Mv.mCons, Mv.mNil, Mv.mAndV, Mv.mOrV, Mv.mNotV, Mv.mAsB, Mv.mAndT, Mv.mOrT, Mv.mNotT, Mv.mIf, Mv.mTup, Mv.mLst, Mv.mNext, Mv.mBad, Mv.mDrop, Mv.mPar, Mv.mAsg, Mv.mStore, Mv.mNeg, Mv.fNeg, Mv.mYes, Mv.mNoP, Mv.mPart, Mv.mSl, Mv.fI, Mv.fAdd, Mv.fSub, Mv.fMul, Mv.fMod, Mv.fDiv, Mv.fPow, Mv.fLt, Mv.fLe, Mv.fGt, Mv.fGe, Mv.yes2, Mv.fIsN, Mv.fNotN, Mv.isNon, Mv.fIx, Mv.items_tup, Mv.items_new, Mv.list_new, Mv.lstOf_new, Mv.fEq_int, Mv.fNe_int, Mv.fLen_tup, Mv.fMax2, Mv.fMin2, Mv.fInt, Mv.fAbs, Mv.mIsi, Mv.isT, Mv.gN, Mv.gT, Mv.setAll, Mv.wipeM, Mv.R.bind_ok, Mv.R.bind_bad, Mv.R.noX_ok, Mv.R.andS_ok, Mv.R.andS_bad, Mv.S.andS_nx, Mv.S.andS_rt, Mv.S.andS_bad, Mv.S.andS_bk, Mv.S.andS_ct, List.map_cons, List.map_nil, List.cons_append, List.nil_append, List.append_nil, List.replicate_succ, List.replicate_zero, List.length_cons, List.length_nil, List.set_cons_zero, List.set_cons_succ, List.getElem?_cons_zero, List.getElem?_cons_succ, List.getElem?_nil, Nat.reduceAdd, Nat.reduceSub, Nat.reduceEqDiff, Nat.reduceLeDiff, Nat.zero_add, if_true, if_false, Bool.not_true, Bool.not_false, Bool.false_eq_true, decide_true, decide_false, ite_true, ite_false, Option.some.injEq, reduceIte, F_is_pair_eq (v.ok z (List.mem_of_getElem? q2))]
        exact ⟨trivial, _, _, rfl⟩
theorem F_check_time_eq {t : Int} (h0 : 0 ≤ t) (h1 : t ≤ 1000) (h : MH) : F_check_time F_is_integer [.int t] h = .ok .non h := by
  unfold F_check_time m_check_time
  have a1 : decide (0 ≤ t ∧ t ≤ 1000) = true := decide_eq_true ⟨h0, h1⟩
  simp only [Mv.mDef, Mv.mSeq, Mv.mSet, Mv.mRet, Mv.mRetN, Mv.mIfS, Mv.mVar, Mv.mC, Mv.mBin, Mv.mChain, Mv.mCall, Mv.mDo, Mv.mCons, Mv.mNil, Mv.mAndV, Mv.mOrV, Mv.mNotV, Mv.mAsB, Mv.mAndT, Mv.mOrT, Mv.mNotT, Mv.mIf, Mv.mTup, Mv.mLst, Mv.mNext, Mv.mBad, Mv.mDrop, Mv.mPar, Mv.mAsg, Mv.mStore, Mv.mNeg, Mv.fNeg, Mv.mYes, Mv.mNoP, Mv.mPart, Mv.mSl, Mv.fI, Mv.fAdd, Mv.fSub, Mv.fMul, Mv.fMod, Mv.fDiv, Mv.fPow, Mv.fLt, Mv.fLe, Mv.fGt, Mv.fGe, Mv.yes2, Mv.fIsN, Mv.fNotN, Mv.isNon, Mv.fIx, Mv.items_tup, Mv.items_new, Mv.list_new, Mv.lstOf_new, Mv.fEq_int, Mv.fNe_int, Mv.fLen_tup, Mv.fMax2, Mv.fMin2, Mv.fInt, Mv.fAbs, Mv.mIsi, Mv.isT, Mv.gN, Mv.gT, Mv.setAll, Mv.wipeM, Mv.R.bind_ok, Mv.R.bind_bad, Mv.R.noX_ok, Mv.R.andS_ok, Mv.R.andS_bad, Mv.S.andS_nx, Mv.S.andS_rt, Mv.S.andS_bad, Mv.S.andS_bk, Mv.S.andS_ct, List.map_cons, List.map_nil, List.cons_append, List.nil_append, List.append_nil, List.replicate_succ, List.replicate_zero, List.length_cons, List.length_nil, List.set_cons_zero, List.set_cons_succ, List.getElem?_cons_zero, List.getElem?_cons_succ, List.getElem?_nil, Nat.reduceAdd, Nat.reduceSub, Nat.reduceEqDiff, Nat.reduceLeDiff, Nat.zero_add, if_true, if_false, Bool.not_true, Bool.not_false, Bool.false_eq_true, decide_true, decide_false, ite_true, ite_false, Option.some.injEq, reduceIte, F_is_integer_eq, a1]
/-! ### the checked ones -/
noncomputable def G_check_rule : List MV → MH → R MV := F_check_rule (F_is_pair F_is_integer)
def periodN (r : Rule) : Nat := (periods r).headD 0
theorem periods_ne {r : Rule} (v : Valid r) : ∃ rest, periods r = periodN r :: rest := by
  obtain ⟨t1, t2, t3, _⟩ := turn_spec v
  have hm : turnN r ∈ periods r := by
    unfold periods nums
    refine List.mem_filter.mpr ⟨List.mem_filter.mpr ⟨List.mem_map.mpr ⟨turnN r - 1, List.mem_range.mpr (by omega), by omega⟩, decide_eq_true (Nat.mod_self _)⟩, ?_⟩
    unfold rotE
    have hrl : (rowsL r (turnN r)).length = turnN r := by simp [rowsL]
    refine decide_eq_true ?_
    rw [List.drop_of_length_le (by omega), List.take_of_length_le (by omega)]
    rfl
  unfold periodN
  cases e : periods r with
  | nil => rw [e] at hm; cases hm
  | cons p rest => exact ⟨rest, rfl⟩
noncomputable def G_period_of : List MV → MH → R MV := specOf (fun r : Rule => [rv r]) Valid fun r h => .ok (.int (periodN r : Nat)) h
theorem G_period_of_eq {r : Rule} (v : Valid r) (h : MH) : G_period_of [rv r] h = .ok (.int (periodN r : Nat)) h := specOf_eq (fun x y e => rv_inj (List.cons.inj e).1) v h
theorem sim_period_of (xs : List MV) (h : MH) : Sim h (F_period_of G_round_of xs h) (G_period_of xs h) := specOf_sim (fun r h v => by
  obtain ⟨rest, e⟩ := periods_ne v
  obtain ⟨g, e⟩ := F_period_of_eq v h e
  rw [e]
  exact sim_drop0 (und_int _ _)) xs h
theorem F_held_eq {r : Rule} (v : Valid r) {t : Int} (h0 : 0 ≤ t) (h1 : t ≤ 1000) (h : MH) : F_held G_check_rule (F_check_time F_is_integer) G_held_at [rv r, .int t] h = .ok (.tup (ivs (heldAt r t))) h := by
  unfold F_held m_held G_check_rule
  simp only [Mv.mDef, Mv.mSeq, Mv.mSet, Mv.mRet, Mv.mRetN, Mv.mIfS, Mv.mVar, Mv.mC, Mv.mBin, Mv.mChain, Mv.mCall, Mv.mDo, Mv.mCons, Mv.mNil, Mv.mAndV, Mv.mOrV, Mv.mNotV, Mv.mAsB, Mv.mAndT, Mv.mOrT, Mv.mNotT, Mv.mIf, Mv.mTup, Mv.mLst, Mv.mNext, Mv.mBad, Mv.mDrop, Mv.mPar, Mv.mAsg, Mv.mStore, Mv.mNeg, Mv.fNeg, Mv.mYes, Mv.mNoP, Mv.mPart, Mv.mSl, Mv.fI, Mv.fAdd, Mv.fSub, Mv.fMul, Mv.fMod, Mv.fDiv, Mv.fPow, Mv.fLt, Mv.fLe, Mv.fGt, Mv.fGe, Mv.yes2, Mv.fIsN, Mv.fNotN, Mv.isNon, Mv.fIx, Mv.items_tup, Mv.items_new, Mv.list_new, Mv.lstOf_new, Mv.fEq_int, Mv.fNe_int, Mv.fLen_tup, Mv.fMax2, Mv.fMin2, Mv.fInt, Mv.fAbs, Mv.mIsi, Mv.isT, Mv.gN, Mv.gT, Mv.setAll, Mv.wipeM, Mv.R.bind_ok, Mv.R.bind_bad, Mv.R.noX_ok, Mv.R.andS_ok, Mv.R.andS_bad, Mv.S.andS_nx, Mv.S.andS_rt, Mv.S.andS_bad, Mv.S.andS_bk, Mv.S.andS_ct, List.map_cons, List.map_nil, List.cons_append, List.nil_append, List.append_nil, List.replicate_succ, List.replicate_zero, List.length_cons, List.length_nil, List.set_cons_zero, List.set_cons_succ, List.getElem?_cons_zero, List.getElem?_cons_succ, List.getElem?_nil, Nat.reduceAdd, Nat.reduceSub, Nat.reduceEqDiff, Nat.reduceLeDiff, Nat.zero_add, if_true, if_false, Bool.not_true, Bool.not_false, Bool.false_eq_true, decide_true, decide_false, ite_true, ite_false, Option.some.injEq, reduceIte, F_check_rule_eq v, F_check_time_eq h0 h1, G_held_at_eq v (t := t) (by omega)]
theorem F_settled_eq {r : Rule} (v : Valid r) (h : MH) : F_settled G_check_rule G_settled_of [rv r] h = .ok (.int (settled r)) h := by
  unfold F_settled m_settled G_check_rule
  simp only [Mv.mDef, Mv.mSeq, Mv.mSet, Mv.mRet, Mv.mRetN, Mv.mIfS, Mv.mVar, Mv.mC, Mv.mBin, Mv.mChain, Mv.mCall, Mv.mDo, Mv.mCons, Mv.mNil, Mv.mAndV, Mv.mOrV, Mv.mNotV, Mv.mAsB, Mv.mAndT, Mv.mOrT, Mv.mNotT, Mv.mIf, Mv.mTup, Mv.mLst, Mv.mNext, Mv.mBad, Mv.mDrop, Mv.mPar, Mv.mAsg, Mv.mStore, Mv.mNeg, Mv.fNeg, Mv.mYes, Mv.mNoP, Mv.mPart, Mv.mSl, Mv.fI, Mv.fAdd, Mv.fSub, Mv.fMul, Mv.fMod, Mv.fDiv, Mv.fPow, Mv.fLt, Mv.fLe, Mv.fGt, Mv.fGe, Mv.yes2, Mv.fIsN, Mv.fNotN, Mv.isNon, Mv.fIx, Mv.items_tup, Mv.items_new, Mv.list_new, Mv.lstOf_new, Mv.fEq_int, Mv.fNe_int, Mv.fLen_tup, Mv.fMax2, Mv.fMin2, Mv.fInt, Mv.fAbs, Mv.mIsi, Mv.isT, Mv.gN, Mv.gT, Mv.setAll, Mv.wipeM, Mv.R.bind_ok, Mv.R.bind_bad, Mv.R.noX_ok, Mv.R.andS_ok, Mv.R.andS_bad, Mv.S.andS_nx, Mv.S.andS_rt, Mv.S.andS_bad, Mv.S.andS_bk, Mv.S.andS_ct, List.map_cons, List.map_nil, List.cons_append, List.nil_append, List.append_nil, List.replicate_succ, List.replicate_zero, List.length_cons, List.length_nil, List.set_cons_zero, List.set_cons_succ, List.getElem?_cons_zero, List.getElem?_cons_succ, List.getElem?_nil, Nat.reduceAdd, Nat.reduceSub, Nat.reduceEqDiff, Nat.reduceLeDiff, Nat.zero_add, if_true, if_false, Bool.not_true, Bool.not_false, Bool.false_eq_true, decide_true, decide_false, ite_true, ite_false, Option.some.injEq, reduceIte, F_check_rule_eq v, G_settled_of_eq v]
theorem F_period_eq {r : Rule} (v : Valid r) (h : MH) : F_period G_check_rule G_period_of [rv r] h = .ok (.int (periodN r : Nat)) h := by
  unfold F_period m_period G_check_rule
  simp only [Mv.mDef, Mv.mSeq, Mv.mSet, Mv.mRet, Mv.mRetN, Mv.mIfS, Mv.mVar, Mv.mC, Mv.mBin, Mv.mChain, Mv.mCall, Mv.mDo, Mv.mCons, Mv.mNil, Mv.mAndV, Mv.mOrV, Mv.mNotV, Mv.mAsB, Mv.mAndT, Mv.mOrT, Mv.mNotT, Mv.mIf, Mv.mTup, Mv.mLst, Mv.mNext, Mv.mBad, Mv.mDrop, Mv.mPar, Mv.mAsg, Mv.mStore, Mv.mNeg, Mv.fNeg, Mv.mYes, Mv.mNoP, Mv.mPart, Mv.mSl, Mv.fI, Mv.fAdd, Mv.fSub, Mv.fMul, Mv.fMod, Mv.fDiv, Mv.fPow, Mv.fLt, Mv.fLe, Mv.fGt, Mv.fGe, Mv.yes2, Mv.fIsN, Mv.fNotN, Mv.isNon, Mv.fIx, Mv.items_tup, Mv.items_new, Mv.list_new, Mv.lstOf_new, Mv.fEq_int, Mv.fNe_int, Mv.fLen_tup, Mv.fMax2, Mv.fMin2, Mv.fInt, Mv.fAbs, Mv.mIsi, Mv.isT, Mv.gN, Mv.gT, Mv.setAll, Mv.wipeM, Mv.R.bind_ok, Mv.R.bind_bad, Mv.R.noX_ok, Mv.R.andS_ok, Mv.R.andS_bad, Mv.S.andS_nx, Mv.S.andS_rt, Mv.S.andS_bad, Mv.S.andS_bk, Mv.S.andS_ct, List.map_cons, List.map_nil, List.cons_append, List.nil_append, List.append_nil, List.replicate_succ, List.replicate_zero, List.length_cons, List.length_nil, List.set_cons_zero, List.set_cons_succ, List.getElem?_cons_zero, List.getElem?_cons_succ, List.getElem?_nil, Nat.reduceAdd, Nat.reduceSub, Nat.reduceEqDiff, Nat.reduceLeDiff, Nat.zero_add, if_true, if_false, Bool.not_true, Bool.not_false, Bool.false_eq_true, decide_true, decide_false, ite_true, ite_false, Option.some.injEq, reduceIte, F_check_rule_eq v, G_period_of_eq v]
/-! ### greatest -/
def lens (r : Rule) (n : Nat) : List Int := (List.range n).map fun (k : Nat) => ((heldAt r (k : Int)).length : Int)
theorem lens_ne {r : Rule} {n : Nat} (h : 0 < n) : lens r n ≠ [] := fun e => by
  have : (lens r n).length = 0 := by rw [e]; rfl
  simp [lens] at this
  omega
theorem F_greatest_eq {r : Rule} (v : Valid r) (h : MH) : ∃ g, F_greatest G_check_rule G_settled_of (F_turn_of G_common) G_held_at [rv r] h = .ok (.int (maxOf (lens r ((settled r).toNat + turnN r)))) (h ++ g) := by
  unfold F_greatest m_greatest G_check_rule
  obtain ⟨t1, t2, t3, _⟩ := turn_spec v
  obtain ⟨_, _, s1, s2⟩ := settled_spec v
  have hb : inR (settled r + (turnN r : Nat)) = true := inR_of (by omega)
  have hn : (settled r + (turnN r : Nat)).toNat = (settled r).toNat + turnN r := by omega
  simp only [Mv.mDef, Mv.mSeq, Mv.mSet, Mv.mRet, Mv.mRetN, Mv.mIfS, Mv.mVar, Mv.mC, Mv.mBin, Mv.mChain, Mv.mCall, Mv.mDo, Mv.mCons, Mv.mNil, Mv.mAndV, Mv.mOrV, Mv.mNotV, Mv.mAsB, Mv.mAndT, Mv.mOrT, Mv.mNotT, Mv.mIf, Mv.mTup, Mv.mLst, Mv.mNext, Mv.mBad, Mv.mDrop, Mv.mPar, Mv.mAsg, Mv.mStore, Mv.mNeg, Mv.fNeg, Mv.mYes, Mv.mNoP, Mv.mPart, Mv.mSl, Mv.fI, Mv.fAdd, Mv.fSub, Mv.fMul, Mv.fMod, Mv.fDiv, Mv.fPow, Mv.fLt, Mv.fLe, Mv.fGt, Mv.fGe, Mv.yes2, Mv.fIsN, Mv.fNotN, Mv.isNon, Mv.fIx, Mv.items_tup, Mv.items_new, Mv.list_new, Mv.lstOf_new, Mv.fEq_int, Mv.fNe_int, Mv.fLen_tup, Mv.fMax2, Mv.fMin2, Mv.fInt, Mv.fAbs, Mv.mIsi, Mv.isT, Mv.gN, Mv.gT, Mv.setAll, Mv.wipeM, Mv.R.bind_ok, Mv.R.bind_bad, Mv.R.noX_ok, Mv.R.andS_ok, Mv.R.andS_bad, Mv.S.andS_nx, Mv.S.andS_rt, Mv.S.andS_bad, Mv.S.andS_bk, Mv.S.andS_ct, List.map_cons, List.map_nil, List.cons_append, List.nil_append, List.append_nil, List.replicate_succ, List.replicate_zero, List.length_cons, List.length_nil, List.set_cons_zero, List.set_cons_succ, List.getElem?_cons_zero, List.getElem?_cons_succ, List.getElem?_nil, Nat.reduceAdd, Nat.reduceSub, Nat.reduceEqDiff, Nat.reduceLeDiff, Nat.zero_add, if_true, if_false, Bool.not_true, Bool.not_false, Bool.false_eq_true, decide_true, decide_false, ite_true, ite_false, Option.some.injEq, reduceIte, mLc, mRng1, F_check_rule_eq v, G_settled_of_eq v, F_turn_of_eq v, hb]
  rw [comp_pure (l := List.range ((settled r).toNat + turnN r)) (enc := fun (k : Nat) => MV.int (k : Int)) (cb := fun _ => true) (f := fun (k : Nat) => MV.int ((heldAt r (k : Int)).length : Int)) (fun i => by
    rw [itR_nx, nats_prog, hn]; unfold ivs; rw [List.map_map]; rfl) (by rw [List.length_range]; unfold cap; omega)]
  · rw [filter_yes]
    simp only [Mv.mDef, Mv.mSeq, Mv.mSet, Mv.mRet, Mv.mRetN, Mv.mIfS, Mv.mVar, Mv.mC, Mv.mBin, Mv.mChain, Mv.mCall, Mv.mDo, Mv.mCons, Mv.mNil, Mv.mAndV, Mv.mOrV, Mv.mNotV, Mv.mAsB, Mv.mAndT, Mv.mOrT, Mv.mNotT, Mv.mIf, Mv.mTup, Mv.mLst, Mv.mNext, Mv.mBad, Mv.mDrop, Mv.mPar, Mv.mAsg, Mv.mStore, Mv.mNeg, Mv.fNeg, Mv.mYes, Mv.mNoP, Mv.mPart, Mv.mSl, Mv.fI, Mv.fAdd, Mv.fSub, Mv.fMul, Mv.fMod, Mv.fDiv, Mv.fPow, Mv.fLt, Mv.fLe, Mv.fGt, Mv.fGe, Mv.yes2, Mv.fIsN, Mv.fNotN, Mv.isNon, Mv.fIx, Mv.items_tup, Mv.items_new, Mv.list_new, Mv.lstOf_new, Mv.fEq_int, Mv.fNe_int, Mv.fLen_tup, Mv.fMax2, Mv.fMin2, Mv.fInt, Mv.fAbs, Mv.mIsi, Mv.isT, Mv.gN, Mv.gT, Mv.setAll, Mv.wipeM, Mv.R.bind_ok, Mv.R.bind_bad, Mv.R.noX_ok, Mv.R.andS_ok, Mv.R.andS_bad, Mv.S.andS_nx, Mv.S.andS_rt, Mv.S.andS_bad, Mv.S.andS_bk, Mv.S.andS_ct, List.map_cons, List.map_nil, List.cons_append, List.nil_append, List.append_nil, List.replicate_succ, List.replicate_zero, List.length_cons, List.length_nil, List.set_cons_zero, List.set_cons_succ, List.getElem?_cons_zero, List.getElem?_cons_succ, List.getElem?_nil, Nat.reduceAdd, Nat.reduceSub, Nat.reduceEqDiff, Nat.reduceLeDiff, Nat.zero_add, if_true, if_false, Bool.not_true, Bool.not_false, Bool.false_eq_true, decide_true, decide_false, ite_true, ite_false, Option.some.injEq, reduceIte, fMax_ns (items_new h _) (ints_map (List.range ((settled r).toNat + turnN r)) fun (k : Nat) => ((heldAt r (k : Int)).length : Int)) (lens_ne (r := r) (by omega))]
    exact ⟨_, rfl⟩
  · intro k _
    refine ⟨_, rfl, ?_⟩
    simp only [Mv.mDef, Mv.mSeq, Mv.mSet, Mv.mRet, Mv.mRetN, Mv.mIfS, Mv.mVar, Mv.mC, Mv.mBin, Mv.mChain, Mv.mCall, Mv.mDo, Mv.mCons, Mv.mNil, Mv.mAndV, Mv.mOrV, Mv.mNotV, Mv.mAsB, Mv.mAndT, Mv.mOrT, Mv.mNotT, Mv.mIf, Mv.mTup, Mv.mLst, Mv.mNext, Mv.mBad, Mv.mDrop, Mv.mPar, Mv.mAsg, Mv.mStore, Mv.mNeg, Mv.fNeg, Mv.mYes, Mv.mNoP, Mv.mPart, Mv.mSl, Mv.fI, Mv.fAdd, Mv.fSub, Mv.fMul, Mv.fMod, Mv.fDiv, Mv.fPow, Mv.fLt, Mv.fLe, Mv.fGt, Mv.fGe, Mv.yes2, Mv.fIsN, Mv.fNotN, Mv.isNon, Mv.fIx, Mv.items_tup, Mv.items_new, Mv.list_new, Mv.lstOf_new, Mv.fEq_int, Mv.fNe_int, Mv.fLen_tup, Mv.fMax2, Mv.fMin2, Mv.fInt, Mv.fAbs, Mv.mIsi, Mv.isT, Mv.gN, Mv.gT, Mv.setAll, Mv.wipeM, Mv.R.bind_ok, Mv.R.bind_bad, Mv.R.noX_ok, Mv.R.andS_ok, Mv.R.andS_bad, Mv.S.andS_nx, Mv.S.andS_rt, Mv.S.andS_bad, Mv.S.andS_bk, Mv.S.andS_ct, List.map_cons, List.map_nil, List.cons_append, List.nil_append, List.append_nil, List.replicate_succ, List.replicate_zero, List.length_cons, List.length_nil, List.set_cons_zero, List.set_cons_succ, List.getElem?_cons_zero, List.getElem?_cons_succ, List.getElem?_nil, Nat.reduceAdd, Nat.reduceSub, Nat.reduceEqDiff, Nat.reduceLeDiff, Nat.zero_add, if_true, if_false, Bool.not_true, Bool.not_false, Bool.false_eq_true, decide_true, decide_false, ite_true, ite_false, Option.some.injEq, reduceIte, G_held_at_eq v (t := (k : Int)) (by omega), ints_length]
    exact ⟨trivial, fun _ => trivial⟩
noncomputable def G_greatest : List MV → MH → R MV := specOf (fun r : Rule => [rv r]) Valid fun r h => .ok (.int (maxOf (lens r ((settled r).toNat + turnN r)))) h
theorem G_greatest_eq {r : Rule} (v : Valid r) (h : MH) : G_greatest [rv r] h = .ok (.int (maxOf (lens r ((settled r).toNat + turnN r)))) h := specOf_eq (fun x y e => rv_inj (List.cons.inj e).1) v h
theorem sim_greatest (xs : List MV) (h : MH) : Sim h (F_greatest G_check_rule G_settled_of (F_turn_of G_common) G_held_at xs h) (G_greatest xs h) := specOf_sim (fun r h v => by
  obtain ⟨g, e⟩ := F_greatest_eq v h
  rw [e]
  exact sim_drop0 (und_int _ _)) xs h
end Mv

set_option maxHeartbeats 4000000
namespace Mv
open PySem PySem.Spec L2

/-! ### lists of whole numbers as data -/
theorem data_lints {h : MH} {n : Nat} {a : List Int} (e : h[n]? = some (.lst (ivs a))) : dataOf 12 h (.ref n) = some (.list (a.map PyData.int)) := by
  show (match h[n]? with
      | some (.lst xs) => (allSome (xs.map (dataOf 11 h))).map PyData.list
      | some (.frz xs) => (allSome (xs.map (dataOf 11 h))).map PyData.list
      | _ => none) = _
  simp only [e]
  have q : allSome ((ivs a).map (dataOf 11 h)) = some (a.map PyData.int) := by
    unfold ivs
    rw [List.map_map]
    exact allSome_map fun i _ => rfl
  rw [q]
  rfl
theorem fEq_lints {h : MH} {n m : Nat} {a b : List Int} (e : h[n]? = some (.lst (ivs a))) (e' : h[m]? = some (.lst (ivs b))) : fEq (.ref n) (.ref m) h = .ok (.bl (decide (a = b))) h := by
  unfold fEq
  simp only [data_lints e, data_lints e', PyData.eqv, eqvAll_ints]
theorem findAt_has {m : Int} : ∀ (fs : List Int) (i : Nat), m ∈ fs → ∃ j, findAt (.int m) i (fs.map PyData.int) = some j
  | [], i, h => by cases h
  | x :: r, i, h => by
    unfold findAt
    simp only [List.map_cons]
    by_cases e : x = m
    · subst e
      exact ⟨i, by simp [PyData.eqv]⟩
    · rcases List.mem_cons.mp h with e' | h'
      · exact absurd e'.symm e
      · obtain ⟨j, ej⟩ := findAt_has r (i + 1) h'
        exact ⟨j, by simp [PyData.eqv, e, ej]⟩
theorem fIndex_ints {h : MH} {n : Nat} {fs : List Int} {m : Int} (e : h[n]? = some (.lst (ivs fs))) (hm : m ∈ fs) : ∃ j : Nat, fIndex (.ref n) [.int m] h = .ok (.int (j : Nat)) h ∧ fs[j]? = some m ∧ ∀ k, k < j → fs[k]? ≠ some m := by
  obtain ⟨j, ej⟩ := findAt_has fs 0 hm
  obtain ⟨_, ⟨z, h2, h3⟩, h4⟩ := findAt_spec _ 0 j ej
  refine ⟨j, ?_, ?_, fun k hk ek => ?_⟩
  · unfold fIndex
    simp only [data_lints e, data_int, ej]
  · simp only [Nat.sub_zero, List.getElem?_map] at h2
    cases q : fs[j]? with
    | none => rw [q] at h2; cases h2
    | some x =>
      rw [q] at h2
      cases h2
      simp [PyData.eqv] at h3
      rw [h3]
  · have := h4 k (.int m) (by simpa using hk) (by simp [ek])
    simp [PyData.eqv] at this

/-! ### gaps of rows -/
def olderL (r : Rule) (age : Int) (k : Nat) : List Int := ((rowF r k).filter fun x => decide (age ≤ x)).map fun x => x - age
def firstO (r : Rule) (age : Int) (k : Nat) : Option Int := (olderL r age k).head?
structure IsGap (f : Nat → Option Int) (n : Nat) (m : Int) (i : Nat) : Prop where
  lt : i < n
  at' : f i = some m
  all : ∀ k, k < n → ∃ x, f k = some x ∧ x ≤ m
  first : ∀ k, k < i → f k ≠ some m
def GapIs (f : Nat → Option Int) (s : Int) (n : Nat) (v : MV) : Prop := (v = .non ∧ ∃ k, k < n ∧ f k = none) ∨ ∃ m i, v = .tup [.int m, .int (s + (i : Nat))] ∧ IsGap f n m i
theorem GapIs.uniq {f : Nat → Option Int} {s : Int} {n : Nat} {v w : MV} (h : GapIs f s n v) (h' : GapIs f s n w) : v = w := by
  rcases h with ⟨rfl, k, hk, ek⟩ | ⟨m, i, rfl, g⟩
  · rcases h' with ⟨rfl, _⟩ | ⟨m, i, rfl, g⟩
    · rfl
    · obtain ⟨x, e, _⟩ := g.all k hk
      rw [ek] at e; cases e
  · rcases h' with ⟨rfl, k, hk, ek⟩ | ⟨m', i', rfl, g'⟩
    · obtain ⟨x, e, _⟩ := g.all k hk
      rw [ek] at e; cases e
    · have hm : m = m' := by
        obtain ⟨x, e, l⟩ := g.all i' g'.lt
        obtain ⟨y, e', l'⟩ := g'.all i g.lt
        rw [g'.at'] at e; cases e
        rw [g.at'] at e'; cases e'
        omega
      subst hm
      have hi : i = i' := by
        rcases Nat.lt_trichotomy i i' with z | z | z
        · exact absurd g.at' (g'.first i z)
        · exact z
        · exact absurd g'.at' (g.first i' z)
      rw [hi]
theorem asInts_ivs (ns : List Int) : asInts (ivs ns) = some ns := asInts_map ns
theorem set_at {h g : MH} {o o' : MO} : (h ++ o :: g).set h.length o' = h ++ o' :: g := by simp
theorem at_len (h g : MH) (o : MO) : (h ++ o :: g)[h.length]? = some o := by simp
def firsts (r : Rule) (age : Int) (n : Nat) : List Int := (List.range n).map fun k => (firstO r age k).getD 0
theorem firsts_succ (r : Rule) (age : Int) (n : Nat) : firsts r age (n + 1) = firsts r age n ++ [(firstO r age n).getD 0] := by
  unfold firsts
  rw [List.range_succ, List.map_append]
  rfl
theorem gap_of_firsts {r : Rule} {age : Int} {n : Nat} {j : Nat} (hn : 0 < n) (hf : ∀ k, k < n → firstO r age k ≠ none) (e : (firsts r age n)[j]? = some (maxOf (firsts r age n))) (h1 : ∀ k, k < j → (firsts r age n)[k]? ≠ some (maxOf (firsts r age n))) : IsGap (firstO r age) n (maxOf (firsts r age n)) j := by
  have hl : (firsts r age n).length = n := by simp [firsts]
  have hg : ∀ k, k < n → ∃ x, firstO r age k = some x ∧ (firsts r age n)[k]? = some x := fun k hk => by
    cases q : firstO r age k with
    | none => exact absurd q (hf k hk)
    | some x => exact ⟨x, rfl, by simp [firsts, hk, q]⟩
  have hj : j < n := by
    have := (List.getElem?_eq_some_iff.mp e).1
    omega
  have ne : firsts r age n ≠ [] := fun z => by rw [z] at hl; simp at hl; omega
  obtain ⟨_, b⟩ := maxOf_spec ne
  refine ⟨hj, ?_, fun k hk => ?_, fun k hk z => ?_⟩
  · obtain ⟨x, e1, e2⟩ := hg j hj
    rw [e] at e2; cases e2
    exact e1
  · obtain ⟨x, e1, e2⟩ := hg k hk
    exact ⟨x, e1, b x (List.mem_of_getElem? e2)⟩
  · obtain ⟨x, e1, e2⟩ := hg k (by omega)
    rw [z] at e1; cases e1
    exact h1 k hk e2
theorem heldAt_len {r : Rule} (v : Valid r) (t : Int) : (heldAt r t).length ≤ 13 := by
  obtain ⟨_, _, s1, s2⟩ := settled_spec v
  unfold heldAt
  refine Nat.le_trans (List.length_filter_le _ _) ?_
  rw [prog_length]
  split <;> omega
theorem rowF_len {r : Rule} (v : Valid r) (k : Nat) : (rowF r k).length ≤ 13 := heldAt_len v _
theorem ok_ex2 {v : MV} {h h' : MH} {Q : MV → Prop} (e : h <+: h') (q : Q v) : ∃ x g, R.ok v h' = R.ok x (h ++ g) ∧ Q x := by
  obtain ⟨t, e⟩ := e
  exact ⟨v, t, by rw [e], q⟩
theorem F_gap_eq {r : Rule} (v : Valid r) {age : Int} (h0 : 0 ≤ age) (h1 : age ≤ 12) (h : MH) : ∃ x g, F_gap G_check_rule F_is_integer G_round_of G_settled_of [rv r, .int age] h = .ok x (h ++ g) ∧ GapIs (firstO r age) (settled r) (turnN r) x := by
  unfold F_gap m_gap G_check_rule
  obtain ⟨t1, t2, t3, _⟩ := turn_spec v
  obtain ⟨_, _, s1, s2⟩ := settled_spec v
  have a1 : decide (0 ≤ age ∧ age ≤ 12) = true := decide_eq_true ⟨h0, h1⟩
  simp only [Mv.mDef, Mv.mSeq, Mv.mSet, Mv.mRet, Mv.mRetN, Mv.mIfS, Mv.mVar, Mv.mC, Mv.mBin, Mv.mChain, Mv.mCall, Mv.mDo, Mv.mCons, Mv.mNil, Mv.mAndV, Mv.mOrV, Mv.mNotV, Mv.mAsB, Mv.mAndT, Mv.mOrT, Mv.mNotT, Mv.mIf, Mv.mTup, Mv.mLst, Mv.mNext, Mv.mBad, Mv.mDrop, Mv.mPar, Mv.mAsg, Mv.mStore, Mv.mNeg, Mv.fNeg, Mv.mYes, Mv.mNoP, Mv.mPart, Mv.mSl, Mv.fI, Mv.fAdd, Mv.fSub, Mv.fMul, Mv.fMod, Mv.fDiv, Mv.fPow, Mv.fLt, Mv.fLe, Mv.fGt, Mv.fGe, Mv.yes2, Mv.fIsN, Mv.fNotN, Mv.isNon, Mv.fIx, Mv.items_tup, Mv.items_new, Mv.list_new, Mv.lstOf_new, Mv.fEq_int, Mv.fNe_int, Mv.fLen_tup, Mv.fMax2, Mv.fMin2, Mv.fInt, Mv.fAbs, Mv.mIsi, Mv.isT, Mv.gN, Mv.gT, Mv.setAll, Mv.wipeM, Mv.R.bind_ok, Mv.R.bind_bad, Mv.R.noX_ok, Mv.R.andS_ok, Mv.R.andS_bad, Mv.S.andS_nx, Mv.S.andS_rt, Mv.S.andS_bad, Mv.S.andS_bk, Mv.S.andS_ct, List.map_cons, List.map_nil, List.cons_append, List.nil_append, List.append_nil, List.replicate_succ, List.replicate_zero, List.length_cons, List.length_nil, List.set_cons_zero, List.set_cons_succ, List.getElem?_cons_zero, List.getElem?_cons_succ, List.getElem?_nil, Nat.reduceAdd, Nat.reduceSub, Nat.reduceEqDiff, Nat.reduceLeDiff, Nat.zero_add, if_true, if_false, Bool.not_true, Bool.not_false, Bool.false_eq_true, decide_true, decide_false, ite_true, ite_false, Option.some.injEq, reduceIte, F_check_rule_eq v, F_is_integer_eq, a1, mFor, mItV, G_round_of, F_round_of_eq v, items_new, Nat.zero_le]
  generalize hF : forGo _ _ _ _ _ _ _ = s
  revert hF
  refine for_ind (xs := (List.range (turnN r)).map (rowV r)) (P := fun t => t = s → _)
    (fun i env h' => (∀ k, k < i → firstO r age k ≠ none) ∧ ∃ g x3 x4 x5, h' = h ++ .lst (ivs (firsts r age i)) :: .lst ((List.range (turnN r)).map (rowV r)) :: g ∧ env = [some (rv r), some (.int age), some (.ref h.length), x3, x4, x5])
    ?_ ?_ ?_ fuel 0 _ _ ?_ (Nat.zero_le _) (by have := fuel_ge; simp only [List.length_map, List.length_range]; omega)
  · rintro i env h' ⟨_, g, x3, x4, x5, rfl, rfl⟩
    refine itL_nx ?_ i
    simp
  · rintro env h' ⟨hf, g, x3, x4, x5, rfl, rfl⟩ rfl
    rw [List.length_map, List.length_range] at *
    have hl : (firsts r age (turnN r)).length = turnN r := by simp [firsts]
    have ne : firsts r age (turnN r) ≠ [] := fun z => by rw [z] at hl; simp at hl; omega
    obtain ⟨mm, _⟩ := maxOf_spec ne
    obtain ⟨j, f1, f2, f3⟩ := fIndex_ints (at_len h (.lst ((List.range (turnN r)).map (rowV r)) :: g) (.lst (ivs (firsts r age (turnN r))))) mm
    simp only [Mv.mDef, Mv.mSeq, Mv.mSet, Mv.mRet, Mv.mRetN, Mv.mIfS, Mv.mVar, Mv.mC, Mv.mBin, Mv.mChain, Mv.mCall, Mv.mDo, Mv.mCons, Mv.mNil, Mv.mAndV, Mv.mOrV, Mv.mNotV, Mv.mAsB, Mv.mAndT, Mv.mOrT, Mv.mNotT, Mv.mIf, Mv.mTup, Mv.mLst, Mv.mNext, Mv.mBad, Mv.mDrop, Mv.mPar, Mv.mAsg, Mv.mStore, Mv.mNeg, Mv.fNeg, Mv.mYes, Mv.mNoP, Mv.mPart, Mv.mSl, Mv.fI, Mv.fAdd, Mv.fSub, Mv.fMul, Mv.fMod, Mv.fDiv, Mv.fPow, Mv.fLt, Mv.fLe, Mv.fGt, Mv.fGe, Mv.yes2, Mv.fIsN, Mv.fNotN, Mv.isNon, Mv.fIx, Mv.items_tup, Mv.items_new, Mv.list_new, Mv.lstOf_new, Mv.fEq_int, Mv.fNe_int, Mv.fLen_tup, Mv.fMax2, Mv.fMin2, Mv.fInt, Mv.fAbs, Mv.mIsi, Mv.isT, Mv.gN, Mv.gT, Mv.setAll, Mv.wipeM, Mv.R.bind_ok, Mv.R.bind_bad, Mv.R.noX_ok, Mv.R.andS_ok, Mv.R.andS_bad, Mv.S.andS_nx, Mv.S.andS_rt, Mv.S.andS_bad, Mv.S.andS_bk, Mv.S.andS_ct, List.map_cons, List.map_nil, List.cons_append, List.nil_append, List.append_nil, List.replicate_succ, List.replicate_zero, List.length_cons, List.length_nil, List.set_cons_zero, List.set_cons_succ, List.getElem?_cons_zero, List.getElem?_cons_succ, List.getElem?_nil, Nat.reduceAdd, Nat.reduceSub, Nat.reduceEqDiff, Nat.reduceLeDiff, Nat.zero_add, if_true, if_false, Bool.not_true, Bool.not_false, Bool.false_eq_true, decide_true, decide_false, ite_true, ite_false, Option.some.injEq, reduceIte, fMax_ns (items_at (at_len h _ _)) (asInts_ivs _) ne, mLm, list_ref, items_at (at_len h _ _), f1, G_settled_of_eq v]
    exact ⟨_, _, rfl, .inr ⟨_, _, rfl, gap_of_firsts t1 hf f2 f3⟩⟩
  · rintro i x env h' hx ⟨hf, g, x3, x4, x5, rfl, rfl⟩
    rw [List.getElem?_map] at hx
    cases q : (List.range (turnN r))[i]? with
    | none => rw [q] at hx; cases hx
    | some k =>
      rw [q] at hx
      cases hx
      obtain ⟨hi, ek⟩ := List.getElem?_eq_some_iff.mp q
      rw [List.getElem_range] at ek
      subst ek
      rw [List.length_range] at hi
      refine ⟨_, rfl, ?_⟩
      simp only [Mv.mDef, Mv.mSeq, Mv.mSet, Mv.mRet, Mv.mRetN, Mv.mIfS, Mv.mVar, Mv.mC, Mv.mBin, Mv.mChain, Mv.mCall, Mv.mDo, Mv.mCons, Mv.mNil, Mv.mAndV, Mv.mOrV, Mv.mNotV, Mv.mAsB, Mv.mAndT, Mv.mOrT, Mv.mNotT, Mv.mIf, Mv.mTup, Mv.mLst, Mv.mNext, Mv.mBad, Mv.mDrop, Mv.mPar, Mv.mAsg, Mv.mStore, Mv.mNeg, Mv.fNeg, Mv.mYes, Mv.mNoP, Mv.mPart, Mv.mSl, Mv.fI, Mv.fAdd, Mv.fSub, Mv.fMul, Mv.fMod, Mv.fDiv, Mv.fPow, Mv.fLt, Mv.fLe, Mv.fGt, Mv.fGe, Mv.yes2, Mv.fIsN, Mv.fNotN, Mv.isNon, Mv.fIx, Mv.items_tup, Mv.items_new, Mv.list_new, Mv.lstOf_new, Mv.fEq_int, Mv.fNe_int, Mv.fLen_tup, Mv.fMax2, Mv.fMin2, Mv.fInt, Mv.fAbs, Mv.mIsi, Mv.isT, Mv.gN, Mv.gT, Mv.setAll, Mv.wipeM, Mv.R.bind_ok, Mv.R.bind_bad, Mv.R.noX_ok, Mv.R.andS_ok, Mv.R.andS_bad, Mv.S.andS_nx, Mv.S.andS_rt, Mv.S.andS_bad, Mv.S.andS_bk, Mv.S.andS_ct, List.map_cons, List.map_nil, List.cons_append, List.nil_append, List.append_nil, List.replicate_succ, List.replicate_zero, List.length_cons, List.length_nil, List.set_cons_zero, List.set_cons_succ, List.getElem?_cons_zero, List.getElem?_cons_succ, List.getElem?_nil, Nat.reduceAdd, Nat.reduceSub, Nat.reduceEqDiff, Nat.reduceLeDiff, Nat.zero_add, if_true, if_false, Bool.not_true, Bool.not_false, Bool.false_eq_true, decide_true, decide_false, ite_true, ite_false, Option.some.injEq, reduceIte, mLc, mItV, rowV]
      rw [comp_pure (it := itT (ivs (rowF r i))) (l := rowF r i) (enc := MV.int) (cb := fun x => decide (age ≤ x)) (f := fun x => MV.int (x - age)) (fun j => itT_nx _ j _) (by have := rowF_len v i; unfold cap; omega)]
      · have eo : (rowF r i |>.filter fun x => decide (age ≤ x)).map (fun x => MV.int (x - age)) = ivs (olderL r age i) := by
          unfold olderL ivs
          rw [List.map_map]
          rfl
        rw [eo]
        generalize eh : h ++ MO.lst (ivs (firsts r age i)) :: MO.lst (List.map (rowV r) (List.range (turnN r))) :: g = h2
        have w0 : h2[h.length]? = some (MO.lst (ivs (firsts r age i))) := by rw [← eh]; exact at_len _ _ _
        simp only [Mv.mDef, Mv.mSeq, Mv.mSet, Mv.mRet, Mv.mRetN, Mv.mIfS, Mv.mVar, Mv.mC, Mv.mBin, Mv.mChain, Mv.mCall, Mv.mDo, Mv.mCons, Mv.mNil, Mv.mAndV, Mv.mOrV, Mv.mNotV, Mv.mAsB, Mv.mAndT, Mv.mOrT, Mv.mNotT, Mv.mIf, Mv.mTup, Mv.mLst, Mv.mNext, Mv.mBad, Mv.mDrop, Mv.mPar, Mv.mAsg, Mv.mStore, Mv.mNeg, Mv.fNeg, Mv.mYes, Mv.mNoP, Mv.mPart, Mv.mSl, Mv.fI, Mv.fAdd, Mv.fSub, Mv.fMul, Mv.fMod, Mv.fDiv, Mv.fPow, Mv.fLt, Mv.fLe, Mv.fGt, Mv.fGe, Mv.yes2, Mv.fIsN, Mv.fNotN, Mv.isNon, Mv.fIx, Mv.items_tup, Mv.items_new, Mv.list_new, Mv.lstOf_new, Mv.fEq_int, Mv.fNe_int, Mv.fLen_tup, Mv.fMax2, Mv.fMin2, Mv.fInt, Mv.fAbs, Mv.mIsi, Mv.isT, Mv.gN, Mv.gT, Mv.setAll, Mv.wipeM, Mv.R.bind_ok, Mv.R.bind_bad, Mv.R.noX_ok, Mv.R.andS_ok, Mv.R.andS_bad, Mv.S.andS_nx, Mv.S.andS_rt, Mv.S.andS_bad, Mv.S.andS_bk, Mv.S.andS_ct, List.map_cons, List.map_nil, List.cons_append, List.nil_append, List.append_nil, List.replicate_succ, List.replicate_zero, List.length_cons, List.length_nil, List.set_cons_zero, List.set_cons_succ, List.getElem?_cons_zero, List.getElem?_cons_succ, List.getElem?_nil, Nat.reduceAdd, Nat.reduceSub, Nat.reduceEqDiff, Nat.reduceLeDiff, Nat.zero_add, if_true, if_false, Bool.not_true, Bool.not_false, Bool.false_eq_true, decide_true, decide_false, ite_true, ite_false, Option.some.injEq, reduceIte, Nat.zero_le]
        have w1 : (h2 ++ [MO.lst (ivs (olderL r age i))] ++ [MO.lst []])[h2.length]? = some (MO.lst (ivs (olderL r age i))) := look_app (look_new _ _)
        have w2 : (h2 ++ [MO.lst (ivs (olderL r age i))] ++ [MO.lst []])[(h2 ++ [MO.lst (ivs (olderL r age i))]).length]? = some (MO.lst (ivs [])) := look_new _ _
        rw [fEq_lints w1 w2]
        cases eol : olderL r age i with
        | nil =>
          simp only [Mv.mDef, Mv.mSeq, Mv.mSet, Mv.mRet, Mv.mRetN, Mv.mIfS, Mv.mVar, Mv.mC, Mv.mBin, Mv.mChain, Mv.mCall, Mv.mDo, Mv.mCons, Mv.mNil, Mv.mAndV, Mv.mOrV, Mv.mNotV, Mv.mAsB, Mv.mAndT, Mv.mOrT, Mv.mNotT, Mv.mIf, Mv.mTup, Mv.mLst, Mv.mNext, Mv.mBad, Mv.mDrop, Mv.mPar, Mv.mAsg, Mv.mStore, Mv.mNeg, Mv.fNeg, Mv.mYes, Mv.mNoP, Mv.mPart, Mv.mSl, Mv.fI, Mv.fAdd, Mv.fSub, Mv.fMul, Mv.fMod, Mv.fDiv, Mv.fPow, Mv.fLt, Mv.fLe, Mv.fGt, Mv.fGe, Mv.yes2, Mv.fIsN, Mv.fNotN, Mv.isNon, Mv.fIx, Mv.items_tup, Mv.items_new, Mv.list_new, Mv.lstOf_new, Mv.fEq_int, Mv.fNe_int, Mv.fLen_tup, Mv.fMax2, Mv.fMin2, Mv.fInt, Mv.fAbs, Mv.mIsi, Mv.isT, Mv.gN, Mv.gT, Mv.setAll, Mv.wipeM, Mv.R.bind_ok, Mv.R.bind_bad, Mv.R.noX_ok, Mv.R.andS_ok, Mv.R.andS_bad, Mv.S.andS_nx, Mv.S.andS_rt, Mv.S.andS_bad, Mv.S.andS_bk, Mv.S.andS_ct, List.map_cons, List.map_nil, List.cons_append, List.nil_append, List.append_nil, List.replicate_succ, List.replicate_zero, List.length_cons, List.length_nil, List.set_cons_zero, List.set_cons_succ, List.getElem?_cons_zero, List.getElem?_cons_succ, List.getElem?_nil, Nat.reduceAdd, Nat.reduceSub, Nat.reduceEqDiff, Nat.reduceLeDiff, Nat.zero_add, if_true, if_false, Bool.not_true, Bool.not_false, Bool.false_eq_true, decide_true, decide_false, ite_true, ite_false, Option.some.injEq, reduceIte]
          rintro rfl
          simp only [Mv.mDef, Mv.mSeq, Mv.mSet, Mv.mRet, Mv.mRetN, Mv.mIfS, Mv.mVar, Mv.mC, Mv.mBin, Mv.mChain, Mv.mCall, Mv.mDo, Mv.mCons, Mv.mNil, Mv.mAndV, Mv.mOrV, Mv.mNotV, Mv.mAsB, Mv.mAndT, Mv.mOrT, Mv.mNotT, Mv.mIf, Mv.mTup, Mv.mLst, Mv.mNext, Mv.mBad, Mv.mDrop, Mv.mPar, Mv.mAsg, Mv.mStore, Mv.mNeg, Mv.fNeg, Mv.mYes, Mv.mNoP, Mv.mPart, Mv.mSl, Mv.fI, Mv.fAdd, Mv.fSub, Mv.fMul, Mv.fMod, Mv.fDiv, Mv.fPow, Mv.fLt, Mv.fLe, Mv.fGt, Mv.fGe, Mv.yes2, Mv.fIsN, Mv.fNotN, Mv.isNon, Mv.fIx, Mv.items_tup, Mv.items_new, Mv.list_new, Mv.lstOf_new, Mv.fEq_int, Mv.fNe_int, Mv.fLen_tup, Mv.fMax2, Mv.fMin2, Mv.fInt, Mv.fAbs, Mv.mIsi, Mv.isT, Mv.gN, Mv.gT, Mv.setAll, Mv.wipeM, Mv.R.bind_ok, Mv.R.bind_bad, Mv.R.noX_ok, Mv.R.andS_ok, Mv.R.andS_bad, Mv.S.andS_nx, Mv.S.andS_rt, Mv.S.andS_bad, Mv.S.andS_bk, Mv.S.andS_ct, List.map_cons, List.map_nil, List.cons_append, List.nil_append, List.append_nil, List.replicate_succ, List.replicate_zero, List.length_cons, List.length_nil, List.set_cons_zero, List.set_cons_succ, List.getElem?_cons_zero, List.getElem?_cons_succ, List.getElem?_nil, Nat.reduceAdd, Nat.reduceSub, Nat.reduceEqDiff, Nat.reduceLeDiff, Nat.zero_add, if_true, if_false, Bool.not_true, Bool.not_false, Bool.false_eq_true, decide_true, decide_false, ite_true, ite_false, Option.some.injEq, reduceIte]
          refine ok_ex2 ?_ (.inl ⟨rfl, i, hi, by unfold firstO; rw [eol]; rfl⟩)
          rw [← eh, List.append_assoc, List.append_assoc]
          exact List.prefix_append _ _
        | cons o rest =>
          have w3 : (h2 ++ [MO.lst (ivs (olderL r age i))] ++ [MO.lst []])[h.length]? = some (MO.lst (ivs (firsts r age i))) := look_app (look_app w0)
          rw [eol] at w1 w3
          have fl : (firsts r age i).length = i := by simp [firsts]
          have hc : (ivs (firsts r age i)).length < cap := by rw [ints_length, fl]; unfold cap; omega
          have ne : decide (o :: rest = []) = false := rfl
          simp only [Mv.mDef, Mv.mSeq, Mv.mSet, Mv.mRet, Mv.mRetN, Mv.mIfS, Mv.mVar, Mv.mC, Mv.mBin, Mv.mChain, Mv.mCall, Mv.mDo, Mv.mCons, Mv.mNil, Mv.mAndV, Mv.mOrV, Mv.mNotV, Mv.mAsB, Mv.mAndT, Mv.mOrT, Mv.mNotT, Mv.mIf, Mv.mTup, Mv.mLst, Mv.mNext, Mv.mBad, Mv.mDrop, Mv.mPar, Mv.mAsg, Mv.mStore, Mv.mNeg, Mv.fNeg, Mv.mYes, Mv.mNoP, Mv.mPart, Mv.mSl, Mv.fI, Mv.fAdd, Mv.fSub, Mv.fMul, Mv.fMod, Mv.fDiv, Mv.fPow, Mv.fLt, Mv.fLe, Mv.fGt, Mv.fGe, Mv.yes2, Mv.fIsN, Mv.fNotN, Mv.isNon, Mv.fIx, Mv.items_tup, Mv.items_new, Mv.list_new, Mv.lstOf_new, Mv.fEq_int, Mv.fNe_int, Mv.fLen_tup, Mv.fMax2, Mv.fMin2, Mv.fInt, Mv.fAbs, Mv.mIsi, Mv.isT, Mv.gN, Mv.gT, Mv.setAll, Mv.wipeM, Mv.R.bind_ok, Mv.R.bind_bad, Mv.R.noX_ok, Mv.R.andS_ok, Mv.R.andS_bad, Mv.S.andS_nx, Mv.S.andS_rt, Mv.S.andS_bad, Mv.S.andS_bk, Mv.S.andS_ct, List.map_cons, List.map_nil, List.cons_append, List.nil_append, List.append_nil, List.replicate_succ, List.replicate_zero, List.length_cons, List.length_nil, List.set_cons_zero, List.set_cons_succ, List.getElem?_cons_zero, List.getElem?_cons_succ, List.getElem?_nil, Nat.reduceAdd, Nat.reduceSub, Nat.reduceEqDiff, Nat.reduceLeDiff, Nat.zero_add, if_true, if_false, Bool.not_true, Bool.not_false, Bool.false_eq_true, decide_true, decide_false, ite_true, ite_false, Option.some.injEq, reduceIte, ne, mLm, list_ref, items_at w3, items_at w1, fAppend, lstOf_at w3, hc]
          have az : atI (ivs (o :: rest)) 0 = some (.int o) := at_zero _ _
          simp only [Mv.mDef, Mv.mSeq, Mv.mSet, Mv.mRet, Mv.mRetN, Mv.mIfS, Mv.mVar, Mv.mC, Mv.mBin, Mv.mChain, Mv.mCall, Mv.mDo, Mv.mCons, Mv.mNil, Mv.mAndV, Mv.mOrV, Mv.mNotV, Mv.mAsB, Mv.mAndT, Mv.mOrT, Mv.mNotT, Mv.mIf, Mv.mTup, Mv.mLst, Mv.mNext, Mv.mBad, Mv.mDrop, Mv.mPar, Mv.mAsg, Mv.mStore, Mv.mNeg, Mv.fNeg, Mv.mYes, Mv.mNoP, Mv.mPart, Mv.mSl, Mv.fI, Mv.fAdd, Mv.fSub, Mv.fMul, Mv.fMod, Mv.fDiv, Mv.fPow, Mv.fLt, Mv.fLe, Mv.fGt, Mv.fGe, Mv.yes2, Mv.fIsN, Mv.fNotN, Mv.isNon, Mv.fIx, Mv.items_tup, Mv.items_new, Mv.list_new, Mv.lstOf_new, Mv.fEq_int, Mv.fNe_int, Mv.fLen_tup, Mv.fMax2, Mv.fMin2, Mv.fInt, Mv.fAbs, Mv.mIsi, Mv.isT, Mv.gN, Mv.gT, Mv.setAll, Mv.wipeM, Mv.R.bind_ok, Mv.R.bind_bad, Mv.R.noX_ok, Mv.R.andS_ok, Mv.R.andS_bad, Mv.S.andS_nx, Mv.S.andS_rt, Mv.S.andS_bad, Mv.S.andS_bk, Mv.S.andS_ct, List.map_cons, List.map_nil, List.cons_append, List.nil_append, List.append_nil, List.replicate_succ, List.replicate_zero, List.length_cons, List.length_nil, List.set_cons_zero, List.set_cons_succ, List.getElem?_cons_zero, List.getElem?_cons_succ, List.getElem?_nil, Nat.reduceAdd, Nat.reduceSub, Nat.reduceEqDiff, Nat.reduceLeDiff, Nat.zero_add, if_true, if_false, Bool.not_true, Bool.not_false, Bool.false_eq_true, decide_true, decide_false, ite_true, ite_false, Option.some.injEq, reduceIte, az, list_ref, items_at w3, items_at w1, fAppend, lstOf_at w3, hc]
          refine ⟨fun k hk => ?_, ?_⟩
          · rcases Nat.lt_or_ge k i with z | z
            · exact hf k z
            · have : k = i := by omega
              subst this
              unfold firstO
              rw [eol]
              exact fun z => by cases z
          · rw [← eh]
            have e2 : ivs (firsts r age (i + 1)) = ivs (firsts r age i) ++ [.int o] := by
              rw [firsts_succ]
              unfold firstO ivs
              rw [eol, List.map_append]
              rfl
            rw [e2, List.append_assoc, List.append_assoc, List.cons_append, set_at]
            exact ⟨_, _, _, _, rfl, rfl⟩
      · intro x hx
        refine ⟨_, rfl, ?_⟩
        simp only [Mv.mDef, Mv.mSeq, Mv.mSet, Mv.mRet, Mv.mRetN, Mv.mIfS, Mv.mVar, Mv.mC, Mv.mBin, Mv.mChain, Mv.mCall, Mv.mDo, Mv.mCons, Mv.mNil, Mv.mAndV, Mv.mOrV, Mv.mNotV, Mv.mAsB, Mv.mAndT, Mv.mOrT, Mv.mNotT, Mv.mIf, Mv.mTup, Mv.mLst, Mv.mNext, Mv.mBad, Mv.mDrop, Mv.mPar, Mv.mAsg, Mv.mStore, Mv.mNeg, Mv.fNeg, Mv.mYes, Mv.mNoP, Mv.mPart, Mv.mSl, Mv.fI, Mv.fAdd, Mv.fSub, Mv.fMul, Mv.fMod, Mv.fDiv, Mv.fPow, Mv.fLt, Mv.fLe, Mv.fGt, Mv.fGe, Mv.yes2, Mv.fIsN, Mv.fNotN, Mv.isNon, Mv.fIx, Mv.items_tup, Mv.items_new, Mv.list_new, Mv.lstOf_new, Mv.fEq_int, Mv.fNe_int, Mv.fLen_tup, Mv.fMax2, Mv.fMin2, Mv.fInt, Mv.fAbs, Mv.mIsi, Mv.isT, Mv.gN, Mv.gT, Mv.setAll, Mv.wipeM, Mv.R.bind_ok, Mv.R.bind_bad, Mv.R.noX_ok, Mv.R.andS_ok, Mv.R.andS_bad, Mv.S.andS_nx, Mv.S.andS_rt, Mv.S.andS_bad, Mv.S.andS_bk, Mv.S.andS_ct, List.map_cons, List.map_nil, List.cons_append, List.nil_append, List.append_nil, List.replicate_succ, List.replicate_zero, List.length_cons, List.length_nil, List.set_cons_zero, List.set_cons_succ, List.getElem?_cons_zero, List.getElem?_cons_succ, List.getElem?_nil, Nat.reduceAdd, Nat.reduceSub, Nat.reduceEqDiff, Nat.reduceLeDiff, Nat.zero_add, if_true, if_false, Bool.not_true, Bool.not_false, Bool.false_eq_true, decide_true, decide_false, ite_true, ite_false, Option.some.injEq, reduceIte]
        exact ⟨trivial, fun _ => trivial⟩
  · exact ⟨fun k hk => absurd hk (Nat.not_lt_zero _), [], none, none, none, by simp [firsts, ivs], rfl⟩
end Mv

set_option maxHeartbeats 4000000
namespace Mv
open PySem PySem.Spec L2

/-! ### rows come again -/
theorem any_same {α : Type} {f g : α → Bool} : ∀ {l : List α}, (∀ x ∈ l, f x = g x) → l.any f = l.any g
  | [], _ => rfl
  | x :: l, h => by
    rw [List.any_cons, List.any_cons, h x (List.mem_cons_self ..), any_same fun y hy => h y (List.mem_cons_of_mem _ hy)]
theorem isHeld_add {r : Rule} (v : Valid r) (a b : Int) (q : Nat) : isHeld r (a + (turnN r : Nat) * (q : Int)) (b + (turnN r : Nat) * (q : Int)) = isHeld r a b := by
  unfold isHeld
  obtain ⟨_, _, _, d⟩ := turn_spec v
  have key : ∀ p ∈ r, (decide ((a + (turnN r : Nat) * (q : Int)) % p.1 = 0) && (decide (0 ≤ b + (turnN r : Nat) * (q : Int) - (a + (turnN r : Nat) * (q : Int))) && decide (b + (turnN r : Nat) * (q : Int) - (a + (turnN r : Nat) * (q : Int)) ≤ p.2))) = (decide (a % p.1 = 0) && (decide (0 ≤ b - a) && decide (b - a ≤ p.2))) := fun p hp => by
    obtain ⟨c, ec⟩ := d p hp
    have h0 := v.pos p hp
    have e1 : ((turnN r : Nat) : Int) * (q : Int) = p.1 * ((c : Int) * (q : Int)) := by
      have : ((turnN r : Nat) : Int) = p.1 * (c : Int) := by rw [ec]; rw [Int.natCast_mul]; congr 1; omega
      rw [this, Int.mul_assoc]
    have e2 : b + (turnN r : Nat) * (q : Int) - (a + (turnN r : Nat) * (q : Int)) = b - a := by omega
    rw [e2, e1, Int.add_mul_emod_self_left]
  exact any_same key
theorem heldAt_add {r : Rule} (v : Valid r) {t : Int} (ht : settled r ≤ t) (q : Nat) : heldAt r (t + (turnN r : Nat) * (q : Int)) = heldAt r t := by
  unfold heldAt
  have h0 : 0 ≤ ((turnN r : Nat) : Int) * (q : Int) := Int.mul_nonneg (by omega) (by omega)
  have e1 : (if settled r < t + (turnN r : Nat) * (q : Int) then settled r else t + (turnN r : Nat) * (q : Int)) = settled r := by split <;> omega
  have e2 : (if settled r < t then settled r else t) = settled r := by split <;> omega
  rw [e1, e2]
  congr 1
  funext age
  have : t + (turnN r : Nat) * (q : Int) - age = (t - age) + (turnN r : Nat) * (q : Int) := by omega
  rw [this, isHeld_add v]
theorem rowF_add {r : Rule} (v : Valid r) (k q : Nat) : rowF r (k + turnN r * q) = rowF r k := by
  unfold rowF
  have : settled r + ((k + turnN r * q : Nat) : Int) = settled r + (k : Int) + (turnN r : Nat) * (q : Int) := by
    rw [Int.natCast_add, Int.natCast_mul]; omega
  rw [this]
  exact heldAt_add v (by omega) q
theorem rowF_mod {r : Rule} (v : Valid r) (k : Nat) : rowF r (k % turnN r) = rowF r k := by
  have := rowF_add v (k % turnN r) (k / turnN r)
  rw [Nat.mod_add_div] at this
  exact this.symm
theorem rowF_mod60 {r : Rule} (v : Valid r) (k : Nat) : rowF r (k % 60) = rowF r k := by
  obtain ⟨_, ⟨c, e⟩, _, _⟩ := turn_spec v
  have := rowF_add v (k % 60) (c * (k / 60))
  rw [← Nat.mul_assoc, ← e, Nat.mod_add_div] at this
  exact this.symm
theorem firstO_mod {r : Rule} (v : Valid r) (age : Int) (k : Nat) : firstO r age (k % turnN r) = firstO r age k := by
  unfold firstO olderL
  rw [rowF_mod v]
theorem gap60 {r : Rule} (v : Valid r) {age : Int} {x : MV} (h : GapIs (firstO r age) (settled r) (turnN r) x) : GapIs (firstO r age) (settled r) 60 x := by
  obtain ⟨t1, t2, t3, _⟩ := turn_spec v
  rcases h with ⟨rfl, k, hk, ek⟩ | ⟨m, i, rfl, g⟩
  · exact .inl ⟨rfl, k, by omega, ek⟩
  · refine .inr ⟨m, i, rfl, ⟨by have := g.lt; omega, g.at', fun k _ => ?_, g.first⟩⟩
    obtain ⟨x, e, l⟩ := g.all (k % turnN r) (Nat.mod_lt _ (by omega))
    rw [firstO_mod v] at e
    exact ⟨x, e, l⟩
open Classical in
noncomputable def gapV (r : Rule) (age : Int) : MV := if q : ∃ x, GapIs (firstO r age) (settled r) 60 x then q.choose else .non
theorem gapV_eq {r : Rule} {age : Int} {x : MV} (h : GapIs (firstO r age) (settled r) 60 x) : gapV r age = x := by
  unfold gapV
  have q : ∃ x, GapIs (firstO r age) (settled r) 60 x := ⟨x, h⟩
  rw [dif_pos q]
  exact GapIs.uniq q.choose_spec h
theorem und_gapV (n : Nat) (r : Rule) (age : Int) : MV.und n (gapV r age) := by
  unfold gapV
  split
  · rename_i q
    have := q.choose_spec
    generalize q.choose = y at *
    rcases this with ⟨rfl, _⟩ | ⟨m, i, rfl, _⟩
    · exact und_non _
    · exact und_tup fun x hx => by
        simp only [List.mem_cons, List.mem_nil_iff, or_false] at hx
        rcases hx with rfl | rfl <;> exact und_int _ _
  · exact und_non _
noncomputable def G_gap : List MV → MH → R MV := specOf (α := Rule × Int) (fun p => [rv p.1, .int p.2]) (fun p => Valid p.1 ∧ 0 ≤ p.2 ∧ p.2 ≤ 12) fun p h => .ok (gapV p.1 p.2) h
theorem G_gap_eq {r : Rule} (v : Valid r) {age : Int} (h0 : 0 ≤ age) (h1 : age ≤ 12) (h : MH) : G_gap [rv r, .int age] h = .ok (gapV r age) h := specOf_eq (a := ((r, age) : Rule × Int)) two_inj ⟨v, h0, h1⟩ h
theorem sim_gap (xs : List MV) (h : MH) : Sim h (F_gap G_check_rule F_is_integer G_round_of G_settled_of xs h) (G_gap xs h) := specOf_sim (fun p h v => by
  obtain ⟨x, g, e, q⟩ := F_gap_eq v.1 v.2.1 v.2.2 h
  rw [e, gapV_eq (gap60 v.1 q), ← gapV_eq (gap60 v.1 q)]
  exact sim_drop0 (und_gapV _ _ _)) xs h

/-! ### the least period -/
def cyc (r : Rule) (n : Nat) : Prop := ∀ k, rowF r (k + n) = rowF r k
theorem cyc_mul {r : Rule} {n : Nat} (h : cyc r n) (q : Nat) : cyc r (n * q) := by
  induction q with
  | zero => intro k; rfl
  | succ q ih => intro k; rw [Nat.mul_succ, ← Nat.add_assoc, h, ih]
theorem cyc_mod {r : Rule} {a b : Nat} (ha : cyc r a) (hb : cyc r b) : cyc r (b % a) := fun k => by
  have e : k + b % a + a * (b / a) = k + b := by rw [Nat.add_assoc, Nat.mod_add_div]
  have := cyc_mul ha (b / a) (k + b % a)
  rw [e] at this
  rw [← this, hb]
theorem cyc_turn {r : Rule} (v : Valid r) : cyc r (turnN r) := fun k => by
  have := rowF_add v k 1
  rwa [Nat.mul_one] at this
theorem rot_iff (f : Nat → List Int) (T n : Nat) (hn : n ≤ T) : ((List.range T).map f).drop n ++ ((List.range T).map f).take n = (List.range T).map f ↔ ∀ k, k < T → f ((k + n) % T) = f k := by
  have e : ((List.range T).map f).drop n ++ ((List.range T).map f).take n = (List.range T).map fun k => f ((k + n) % T) := by
    apply List.ext_getElem
    · simp; omega
    · intro i h1 h2
      simp only [List.length_map, List.length_range] at h2
      rw [List.getElem_append]
      simp only [List.length_drop, List.length_map, List.length_range]
      split
      · rename_i hi
        rw [List.getElem_drop, List.getElem_map, List.getElem_map, List.getElem_range, List.getElem_range, Nat.mod_eq_of_lt (by omega), Nat.add_comm]
      · rename_i hi
        rw [List.getElem_take, List.getElem_map, List.getElem_map, List.getElem_range, List.getElem_range, Nat.mod_eq_sub_mod (by omega), Nat.mod_eq_of_lt (by omega)]
        congr 1
        omega
  rw [e]
  constructor
  · intro h k hk
    have := congrArg (fun l => l[k]?) h
    simp [hk] at this
    exact this
  · intro h
    exact List.map_congr_left fun k hk => h k (List.mem_range.mp hk)
theorem rotE_iff {r : Rule} (v : Valid r) {n : Nat} (hn : n ≤ turnN r) : rotE (rowsL r (turnN r)) n = true ↔ cyc r n := by
  obtain ⟨t1, t2, t3, _⟩ := turn_spec v
  unfold rotE rowsL
  rw [decide_eq_true_iff, rot_iff _ _ _ hn]
  constructor
  · intro h k
    have := h (k % turnN r) (Nat.mod_lt _ (by omega))
    rw [rowF_mod v, rowF_mod v] at this
    rw [← this, ← rowF_mod v (k + n), ← rowF_mod v (k % turnN r + n)]
    rw [Nat.mod_add_mod]
  · intro h k hk
    rw [rowF_mod v, h]
def PerIs (r : Rule) (n : Nat) : Prop := 1 ≤ n ∧ cyc r n ∧ ∀ m, 1 ≤ m → m < n → ¬ cyc r m
theorem PerIs.uniq {r : Rule} {n m : Nat} (h : PerIs r n) (h' : PerIs r m) : n = m := by
  rcases Nat.lt_trichotomy n m with z | z | z
  · exact absurd h.2.1 (h'.2.2 n h.1 z)
  · exact z
  · exact absurd h'.2.1 (h.2.2 m h'.1 z)
theorem periodN_is {r : Rule} (v : Valid r) : PerIs r (periodN r) := by
  obtain ⟨t1, t2, t3, _⟩ := turn_spec v
  obtain ⟨rest, e⟩ := periods_ne v
  have hm : periodN r ∈ periods r := by rw [e]; exact List.mem_cons_self ..
  unfold periods nums at hm
  obtain ⟨m1, m2⟩ := List.mem_filter.mp hm
  obtain ⟨m3, m4⟩ := List.mem_filter.mp m1
  obtain ⟨k, hk, ek⟩ := List.mem_map.mp m3
  have hk := List.mem_range.mp hk
  have hp := (rotE_iff v (n := periodN r) (by omega)).mp m2
  refine ⟨by omega, hp, fun m h1 h2 hc => ?_⟩
  -- the least one divides the turn
  have hex : ∃ m, 1 ≤ m ∧ m < periodN r ∧ cyc r m ∧ ∀ z, 1 ≤ z → z < m → ¬ cyc r z := by
    have : ∀ n m, m ≤ n → 1 ≤ m → m < periodN r → cyc r m → ∃ m, 1 ≤ m ∧ m < periodN r ∧ cyc r m ∧ ∀ z, 1 ≤ z → z < m → ¬ cyc r z := by
      intro n
      induction n with
      | zero => intro m h1 h2; omega
      | succ n ih =>
        intro m hm h1 h2 h3
        by_cases q : ∃ z, 1 ≤ z ∧ z < m ∧ cyc r z
        · obtain ⟨z, z1, z2, z3⟩ := q
          exact ih z (by omega) z1 (by omega) z3
        · exact ⟨m, h1, h2, h3, fun z z1 z2 z3 => q ⟨z, z1, z2, z3⟩⟩
    exact this m m (Nat.le_refl _) h1 h2 hc
  obtain ⟨m, h1, h2, hc, hl⟩ := hex
  have hd : turnN r % m = 0 := by
    rcases Nat.eq_zero_or_pos (turnN r % m) with z | z
    · exact z
    · exact absurd (cyc_mod hc (cyc_turn v)) (hl _ z (Nat.mod_lt _ h1))
  have hmem : m ∈ periods r := by
    unfold periods nums
    refine List.mem_filter.mpr ⟨List.mem_filter.mpr ⟨List.mem_map.mpr ⟨m - 1, List.mem_range.mpr (by omega), by omega⟩, decide_eq_true hd⟩, ?_⟩
    exact (rotE_iff v (by omega)).mpr hc
  have hs : (periods r).Pairwise (· < ·) := by
    unfold periods nums
    apply List.Pairwise.filter
    apply List.Pairwise.filter
    exact List.Pairwise.map _ (fun a b hab => Nat.add_lt_add_right hab 1) List.pairwise_lt_range
  rw [e] at hs hmem
  rcases List.mem_cons.mp hmem with z | z
  · omega
  · have := (List.pairwise_cons.mp hs).1 m z
    omega
/-! ### greatest -/
theorem greatest_73 {r : Rule} (v : Valid r) : maxOf (lens r ((settled r).toNat + turnN r)) = maxOf (lens r 73) := by
  obtain ⟨t1, t2, t3, _⟩ := turn_spec v
  obtain ⟨_, _, s1, s2⟩ := settled_spec v
  obtain ⟨a, b⟩ := maxOf_spec (lens_ne (r := r) (n := 73) (by decide))
  refine maxOf_eq ?_ ?_
  · obtain ⟨k, hk, ek⟩ := List.mem_map.mp a
    rw [← ek]
    have hk := List.mem_range.mp hk
    by_cases hz : k < (settled r).toNat + turnN r
    · exact List.mem_map.mpr ⟨k, List.mem_range.mpr hz, rfl⟩
    · have e1 : (settled r).toNat + (k - (settled r).toNat) % turnN r < (settled r).toNat + turnN r := by
        have := Nat.mod_lt (k - (settled r).toNat) (show turnN r > 0 by omega)
        omega
      refine List.mem_map.mpr ⟨_, List.mem_range.mpr e1, ?_⟩
      have e2 := heldAt_add v (t := settled r + ((k - (settled r).toNat) % turnN r : Nat)) (by omega) ((k - (settled r).toNat) / turnN r)
      have e3 : (((settled r).toNat + (k - (settled r).toNat) % turnN r : Nat) : Int) = settled r + ((k - (settled r).toNat) % turnN r : Nat) := by omega
      have e4 : (k : Int) = settled r + ((k - (settled r).toNat) % turnN r : Nat) + (turnN r : Nat) * ((k - (settled r).toNat) / turnN r : Nat) := by
        have := Nat.mod_add_div (k - (settled r).toNat) (turnN r)
        rw [← Int.natCast_mul]
        omega
      show ((heldAt r _).length : Int) = ((heldAt r _).length : Int)
      rw [e3, ← e2]
      congr 3
      exact e4.symm
  · intro y hy
    obtain ⟨k, hk, ek⟩ := List.mem_map.mp hy
    have hk := List.mem_range.mp hk
    exact b y (List.mem_map.mpr ⟨k, List.mem_range.mpr (by omega), ek⟩)
end Mv

set_option maxHeartbeats 4000000
namespace Mv
open PySem PySem.Spec L2

theorem F_l_settled_is : F_l_settled = F_settled_of := rfl
/-! ### the law's own held -/
def ableL (r : Rule) (t age : Int) : Rule := r.filter fun p => decide ((t - age) % p.1 = 0)
def lawB (r : Rule) (t age : Int) : Bool := (ableL r t age).any fun p => decide (age ≤ p.2)
theorem lawB_eq (r : Rule) (t : Int) {age : Int} (h : 0 ≤ age) : lawB r t age = isHeld r (t - age) t := by
  unfold lawB ableL isHeld
  rw [List.any_filter]
  congr 1
  funext p
  have : t - (t - age) = age := by omega
  rw [this]
  simp [h]
theorem prog_more (n m : Nat) : prog 0 1 (n + m) = prog 0 1 n ++ prog (n : Int) 1 m := by
  unfold prog
  rw [List.range_add, List.map_append, List.map_map]
  congr 1
  apply List.map_congr_left
  intro i _
  show 0 + ((n + i : Nat) : Int) * 1 = (n : Int) + (i : Int) * 1
  omega
theorem prog_succ (n : Nat) : prog 0 1 (n + 1) = prog 0 1 n ++ [(n : Int)] := by
  rw [prog_more]
  simp [prog]
def lawHeld (r : Rule) (t : Int) (n : Nat) : List Int := (prog 0 1 n).filter fun age => lawB r t age
theorem lawHeld_eq {r : Rule} (v : Valid r) {t : Int} : lawHeld r t ((if 12 < t then 12 else t) + 1).toNat = heldAt r t := by
  unfold lawHeld heldAt
  obtain ⟨_, s0, s1, s2⟩ := settled_spec v
  have e : ((if 12 < t then 12 else t) + 1).toNat = ((if settled r < t then settled r else t) + 1).toNat + (((if 12 < t then 12 else t) + 1).toNat - ((if settled r < t then settled r else t) + 1).toNat) := by
    split <;> split <;> omega
  rw [e, prog_more, List.filter_append]
  have e1 : List.filter (fun age => lawB r t age) (prog 0 1 ((if settled r < t then settled r else t) + 1).toNat) = List.filter (fun age => isHeld r (t - age) t) (prog 0 1 ((if settled r < t then settled r else t) + 1).toNat) := List.filter_congr fun x hx => by
    obtain ⟨i, _, rfl⟩ := mem_prog.mp hx
    exact lawB_eq r t (by omega)
  rw [e1]
  have e2 : ∀ m : Nat, m ≤ (((if 12 < t then 12 else t) + 1).toNat - ((if settled r < t then settled r else t) + 1).toNat) → List.filter (fun age => lawB r t age) (prog (((if settled r < t then settled r else t) + 1).toNat : Int) 1 m) = [] := fun m hm => by
    rw [List.filter_eq_nil_iff]
    intro x hx
    obtain ⟨i, hi, rfl⟩ := mem_prog.mp hx
    unfold lawB
    intro z
    obtain ⟨p, hp, hq⟩ := List.any_eq_true.mp z
    have a := s0 p (List.mem_filter.mp hp).1
    have b := of_decide_eq_true hq
    revert hm b
    split <;> split <;> omega
  rw [e2 _ (Nat.le_refl _), List.append_nil]
theorem F_l_held_eq {r : Rule} (v : Valid r) {t : Int} (h0 : 0 ≤ t) (ht : t ≤ 100000) (h : MH) : ∃ g, F_l_held [rv r, .int t] h = .ok (.tup (ivs (heldAt r t))) (h ++ g) := by
  unfold F_l_held m_l_held
  have hb : inR ((if 12 < t then 12 else t) + 1) = true := inR_of (by split <;> omega)
  simp only [Mv.mDef, Mv.mSeq, Mv.mSet, Mv.mRet, Mv.mRetN, Mv.mIfS, Mv.mVar, Mv.mC, Mv.mBin, Mv.mChain, Mv.mCall, Mv.mDo, Mv.mCons, Mv.mNil, Mv.mAndV, Mv.mOrV, Mv.mNotV, Mv.mAsB, Mv.mAndT, Mv.mOrT, Mv.mNotT, Mv.mIf, Mv.mTup, Mv.mLst, Mv.mNext, Mv.mBad, Mv.mDrop, Mv.mPar, Mv.mAsg, Mv.mStore, Mv.mNeg, Mv.fNeg, Mv.mYes, Mv.mNoP, Mv.mPart, Mv.mSl, Mv.fI, Mv.fAdd, Mv.fSub, Mv.fMul, Mv.fMod, Mv.fDiv, Mv.fPow, Mv.fLt, Mv.fLe, Mv.fGt, Mv.fGe, Mv.yes2, Mv.fIsN, Mv.fNotN, Mv.isNon, Mv.fIx, Mv.items_tup, Mv.items_new, Mv.list_new, Mv.lstOf_new, Mv.fEq_int, Mv.fNe_int, Mv.fLen_tup, Mv.fMax2, Mv.fMin2, Mv.fInt, Mv.fAbs, Mv.mIsi, Mv.isT, Mv.gN, Mv.gT, Mv.setAll, Mv.wipeM, Mv.R.bind_ok, Mv.R.bind_bad, Mv.R.noX_ok, Mv.R.andS_ok, Mv.R.andS_bad, Mv.S.andS_nx, Mv.S.andS_rt, Mv.S.andS_bad, Mv.S.andS_bk, Mv.S.andS_ct, List.map_cons, List.map_nil, List.cons_append, List.nil_append, List.append_nil, List.replicate_succ, List.replicate_zero, List.length_cons, List.length_nil, List.set_cons_zero, List.set_cons_succ, List.getElem?_cons_zero, List.getElem?_cons_succ, List.getElem?_nil, Nat.reduceAdd, Nat.reduceSub, Nat.reduceEqDiff, Nat.reduceLeDiff, Nat.zero_add, if_true, if_false, Bool.not_true, Bool.not_false, Bool.false_eq_true, decide_true, decide_false, ite_true, ite_false, Option.some.injEq, reduceIte, mFor, mRng1, hb, Nat.zero_le]
  generalize en : ((if 12 < t then 12 else t) + 1).toNat = n
  have hn : n ≤ 13 := by rw [← en]; split <;> omega
  generalize hF : forGo _ _ _ _ _ _ _ = s
  revert hF
  refine for_ind (xs := ivs (prog 0 1 n)) (P := fun t => t = s → _)
    (fun i env h' => ∃ g x3 x4 x5 x6, h' = h ++ .lst (ivs (lawHeld r t i)) :: g ∧ env = [some (rv r), some (.int t), some (.ref h.length), x3, x4, x5, x6])
    ?_ ?_ ?_ fuel 0 _ _ ?_ (Nat.zero_le _) (by have := fuel_ge; simp only [ints_length, prog_length]; omega)
  · rintro i env h' _
    exact itR_nx _ _ _ i h'
  · rintro env h' ⟨g, x3, x4, x5, x6, rfl, rfl⟩ rfl
    rw [ints_length, prog_length]
    simp only [Mv.mDef, Mv.mSeq, Mv.mSet, Mv.mRet, Mv.mRetN, Mv.mIfS, Mv.mVar, Mv.mC, Mv.mBin, Mv.mChain, Mv.mCall, Mv.mDo, Mv.mCons, Mv.mNil, Mv.mAndV, Mv.mOrV, Mv.mNotV, Mv.mAsB, Mv.mAndT, Mv.mOrT, Mv.mNotT, Mv.mIf, Mv.mTup, Mv.mLst, Mv.mNext, Mv.mBad, Mv.mDrop, Mv.mPar, Mv.mAsg, Mv.mStore, Mv.mNeg, Mv.fNeg, Mv.mYes, Mv.mNoP, Mv.mPart, Mv.mSl, Mv.fI, Mv.fAdd, Mv.fSub, Mv.fMul, Mv.fMod, Mv.fDiv, Mv.fPow, Mv.fLt, Mv.fLe, Mv.fGt, Mv.fGe, Mv.yes2, Mv.fIsN, Mv.fNotN, Mv.isNon, Mv.fIx, Mv.items_tup, Mv.items_new, Mv.list_new, Mv.lstOf_new, Mv.fEq_int, Mv.fNe_int, Mv.fLen_tup, Mv.fMax2, Mv.fMin2, Mv.fInt, Mv.fAbs, Mv.mIsi, Mv.isT, Mv.gN, Mv.gT, Mv.setAll, Mv.wipeM, Mv.R.bind_ok, Mv.R.bind_bad, Mv.R.noX_ok, Mv.R.andS_ok, Mv.R.andS_bad, Mv.S.andS_nx, Mv.S.andS_rt, Mv.S.andS_bad, Mv.S.andS_bk, Mv.S.andS_ct, List.map_cons, List.map_nil, List.cons_append, List.nil_append, List.append_nil, List.replicate_succ, List.replicate_zero, List.length_cons, List.length_nil, List.set_cons_zero, List.set_cons_succ, List.getElem?_cons_zero, List.getElem?_cons_succ, List.getElem?_nil, Nat.reduceAdd, Nat.reduceSub, Nat.reduceEqDiff, Nat.reduceLeDiff, Nat.zero_add, if_true, if_false, Bool.not_true, Bool.not_false, Bool.false_eq_true, decide_true, decide_false, ite_true, ite_false, Option.some.injEq, reduceIte, fTuple_at (items_at (at_len h _ _))]
    rw [← en, lawHeld_eq v]
    exact ⟨_, rfl⟩
  · rintro i x env h' hx ⟨g, x3, x4, x5, x6, rfl, rfl⟩
    have hi : i < n := by
      have := (List.getElem?_eq_some_iff.mp hx).1
      rwa [ints_length, prog_length] at this
    have ex : x = .int (i : Int) := by
      have : (ivs (prog 0 1 n))[i]? = some (.int (i : Int)) := by
        unfold ivs prog
        simp [hi]
      rw [this] at hx
      cases hx
      rfl
    subst ex
    refine ⟨_, rfl, ?_⟩
    simp only [Mv.mDef, Mv.mSeq, Mv.mSet, Mv.mRet, Mv.mRetN, Mv.mIfS, Mv.mVar, Mv.mC, Mv.mBin, Mv.mChain, Mv.mCall, Mv.mDo, Mv.mCons, Mv.mNil, Mv.mAndV, Mv.mOrV, Mv.mNotV, Mv.mAsB, Mv.mAndT, Mv.mOrT, Mv.mNotT, Mv.mIf, Mv.mTup, Mv.mLst, Mv.mNext, Mv.mBad, Mv.mDrop, Mv.mPar, Mv.mAsg, Mv.mStore, Mv.mNeg, Mv.fNeg, Mv.mYes, Mv.mNoP, Mv.mPart, Mv.mSl, Mv.fI, Mv.fAdd, Mv.fSub, Mv.fMul, Mv.fMod, Mv.fDiv, Mv.fPow, Mv.fLt, Mv.fLe, Mv.fGt, Mv.fGe, Mv.yes2, Mv.fIsN, Mv.fNotN, Mv.isNon, Mv.fIx, Mv.items_tup, Mv.items_new, Mv.list_new, Mv.lstOf_new, Mv.fEq_int, Mv.fNe_int, Mv.fLen_tup, Mv.fMax2, Mv.fMin2, Mv.fInt, Mv.fAbs, Mv.mIsi, Mv.isT, Mv.gN, Mv.gT, Mv.setAll, Mv.wipeM, Mv.R.bind_ok, Mv.R.bind_bad, Mv.R.noX_ok, Mv.R.andS_ok, Mv.R.andS_bad, Mv.S.andS_nx, Mv.S.andS_rt, Mv.S.andS_bad, Mv.S.andS_bk, Mv.S.andS_ct, List.map_cons, List.map_nil, List.cons_append, List.nil_append, List.append_nil, List.replicate_succ, List.replicate_zero, List.length_cons, List.length_nil, List.set_cons_zero, List.set_cons_succ, List.getElem?_cons_zero, List.getElem?_cons_succ, List.getElem?_nil, Nat.reduceAdd, Nat.reduceSub, Nat.reduceEqDiff, Nat.reduceLeDiff, Nat.zero_add, if_true, if_false, Bool.not_true, Bool.not_false, Bool.false_eq_true, decide_true, decide_false, ite_true, ite_false, Option.some.injEq, reduceIte, mLc, mItV, rv]
    rw [comp_pure (it := itT (r.map pv2)) (l := r) (enc := pv2) (cb := fun p => decide ((t - (i : Int)) % p.1 = 0)) (f := fun p => MV.int p.2) (fun j => itT_nx _ j _) v.cap]
    · simp only [Mv.mDef, Mv.mSeq, Mv.mSet, Mv.mRet, Mv.mRetN, Mv.mIfS, Mv.mVar, Mv.mC, Mv.mBin, Mv.mChain, Mv.mCall, Mv.mDo, Mv.mCons, Mv.mNil, Mv.mAndV, Mv.mOrV, Mv.mNotV, Mv.mAsB, Mv.mAndT, Mv.mOrT, Mv.mNotT, Mv.mIf, Mv.mTup, Mv.mLst, Mv.mNext, Mv.mBad, Mv.mDrop, Mv.mPar, Mv.mAsg, Mv.mStore, Mv.mNeg, Mv.fNeg, Mv.mYes, Mv.mNoP, Mv.mPart, Mv.mSl, Mv.fI, Mv.fAdd, Mv.fSub, Mv.fMul, Mv.fMod, Mv.fDiv, Mv.fPow, Mv.fLt, Mv.fLe, Mv.fGt, Mv.fGe, Mv.yes2, Mv.fIsN, Mv.fNotN, Mv.isNon, Mv.fIx, Mv.items_tup, Mv.items_new, Mv.list_new, Mv.lstOf_new, Mv.fEq_int, Mv.fNe_int, Mv.fLen_tup, Mv.fMax2, Mv.fMin2, Mv.fInt, Mv.fAbs, Mv.mIsi, Mv.isT, Mv.gN, Mv.gT, Mv.setAll, Mv.wipeM, Mv.R.bind_ok, Mv.R.bind_bad, Mv.R.noX_ok, Mv.R.andS_ok, Mv.R.andS_bad, Mv.S.andS_nx, Mv.S.andS_rt, Mv.S.andS_bad, Mv.S.andS_bk, Mv.S.andS_ct, List.map_cons, List.map_nil, List.cons_append, List.nil_append, List.append_nil, List.replicate_succ, List.replicate_zero, List.length_cons, List.length_nil, List.set_cons_zero, List.set_cons_succ, List.getElem?_cons_zero, List.getElem?_cons_succ, List.getElem?_nil, Nat.reduceAdd, Nat.reduceSub, Nat.reduceEqDiff, Nat.reduceLeDiff, Nat.zero_add, if_true, if_false, Bool.not_true, Bool.not_false, Bool.false_eq_true, decide_true, decide_false, ite_true, ite_false, Option.some.injEq, reduceIte, mLc, mItV]
      generalize eh : h ++ MO.lst (ivs (lawHeld r t i)) :: g = h2
      have w0 : h2[h.length]? = some (MO.lst (ivs (lawHeld r t i))) := by rw [← eh]; exact at_len _ _ _
      have el : List.filter (fun p => decide ((t - (i : Int)) % p.1 = 0)) r = ableL r t i := rfl
      rw [el]
      rw [comp_pure (it := itL h2.length) (l := ableL r t i) (enc := fun p => MV.int p.2) (cb := fun _ => true) (f := fun p => MV.bl (decide ((i : Int) ≤ p.2))) (fun j => itL_nx (look_new _ _) j) (Nat.le_trans (List.length_filter_le _ _) v.cap)]
      · rw [filter_yes]
        simp only [Mv.mDef, Mv.mSeq, Mv.mSet, Mv.mRet, Mv.mRetN, Mv.mIfS, Mv.mVar, Mv.mC, Mv.mBin, Mv.mChain, Mv.mCall, Mv.mDo, Mv.mCons, Mv.mNil, Mv.mAndV, Mv.mOrV, Mv.mNotV, Mv.mAsB, Mv.mAndT, Mv.mOrT, Mv.mNotT, Mv.mIf, Mv.mTup, Mv.mLst, Mv.mNext, Mv.mBad, Mv.mDrop, Mv.mPar, Mv.mAsg, Mv.mStore, Mv.mNeg, Mv.fNeg, Mv.mYes, Mv.mNoP, Mv.mPart, Mv.mSl, Mv.fI, Mv.fAdd, Mv.fSub, Mv.fMul, Mv.fMod, Mv.fDiv, Mv.fPow, Mv.fLt, Mv.fLe, Mv.fGt, Mv.fGe, Mv.yes2, Mv.fIsN, Mv.fNotN, Mv.isNon, Mv.fIx, Mv.items_tup, Mv.items_new, Mv.list_new, Mv.lstOf_new, Mv.fEq_int, Mv.fNe_int, Mv.fLen_tup, Mv.fMax2, Mv.fMin2, Mv.fInt, Mv.fAbs, Mv.mIsi, Mv.isT, Mv.gN, Mv.gT, Mv.setAll, Mv.wipeM, Mv.R.bind_ok, Mv.R.bind_bad, Mv.R.noX_ok, Mv.R.andS_ok, Mv.R.andS_bad, Mv.S.andS_nx, Mv.S.andS_rt, Mv.S.andS_bad, Mv.S.andS_bk, Mv.S.andS_ct, List.map_cons, List.map_nil, List.cons_append, List.nil_append, List.append_nil, List.replicate_succ, List.replicate_zero, List.length_cons, List.length_nil, List.set_cons_zero, List.set_cons_succ, List.getElem?_cons_zero, List.getElem?_cons_succ, List.getElem?_nil, Nat.reduceAdd, Nat.reduceSub, Nat.reduceEqDiff, Nat.reduceLeDiff, Nat.zero_add, if_true, if_false, Bool.not_true, Bool.not_false, Bool.false_eq_true, decide_true, decide_false, ite_true, ite_false, Option.some.injEq, reduceIte, fAny_at (items_new _ _) (any_map _ _)]
        have eb : (List.map (fun p : Int × Int => decide ((i : Int) ≤ p.2)) (ableL r t i)).any id = lawB r t i := by
          unfold lawB
          rw [List.any_map]
          rfl
        rw [eb]
        have es : lawHeld r t (i + 1) = lawHeld r t i ++ (if lawB r t i = true then [(i : Int)] else []) := by
          unfold lawHeld
          rw [prog_succ, List.filter_append]
          congr 1
          by_cases q : lawB r t i = true <;> simp [q]
        cases q : lawB r t i with
        | false =>
          simp only [Mv.mDef, Mv.mSeq, Mv.mSet, Mv.mRet, Mv.mRetN, Mv.mIfS, Mv.mVar, Mv.mC, Mv.mBin, Mv.mChain, Mv.mCall, Mv.mDo, Mv.mCons, Mv.mNil, Mv.mAndV, Mv.mOrV, Mv.mNotV, Mv.mAsB, Mv.mAndT, Mv.mOrT, Mv.mNotT, Mv.mIf, Mv.mTup, Mv.mLst, Mv.mNext, Mv.mBad, Mv.mDrop, Mv.mPar, Mv.mAsg, Mv.mStore, Mv.mNeg, Mv.fNeg, Mv.mYes, Mv.mNoP, Mv.mPart, Mv.mSl, Mv.fI, Mv.fAdd, Mv.fSub, Mv.fMul, Mv.fMod, Mv.fDiv, Mv.fPow, Mv.fLt, Mv.fLe, Mv.fGt, Mv.fGe, Mv.yes2, Mv.fIsN, Mv.fNotN, Mv.isNon, Mv.fIx, Mv.items_tup, Mv.items_new, Mv.list_new, Mv.lstOf_new, Mv.fEq_int, Mv.fNe_int, Mv.fLen_tup, Mv.fMax2, Mv.fMin2, Mv.fInt, Mv.fAbs, Mv.mIsi, Mv.isT, Mv.gN, Mv.gT, Mv.setAll, Mv.wipeM, Mv.R.bind_ok, Mv.R.bind_bad, Mv.R.noX_ok, Mv.R.andS_ok, Mv.R.andS_bad, Mv.S.andS_nx, Mv.S.andS_rt, Mv.S.andS_bad, Mv.S.andS_bk, Mv.S.andS_ct, List.map_cons, List.map_nil, List.cons_append, List.nil_append, List.append_nil, List.replicate_succ, List.replicate_zero, List.length_cons, List.length_nil, List.set_cons_zero, List.set_cons_succ, List.getElem?_cons_zero, List.getElem?_cons_succ, List.getElem?_nil, Nat.reduceAdd, Nat.reduceSub, Nat.reduceEqDiff, Nat.reduceLeDiff, Nat.zero_add, if_true, if_false, Bool.not_true, Bool.not_false, Bool.false_eq_true, decide_true, decide_false, ite_true, ite_false, Option.some.injEq, reduceIte]
          rw [es, q, ← eh]
          simp only [Bool.false_eq_true, if_false, List.append_nil, List.append_assoc]
          exact ⟨_, _, _, _, _, rfl, rfl⟩
        | true =>
          have w1 : (h2 ++ [MO.lst (List.map (fun p : Int × Int => MV.int p.2) (ableL r t i))] ++ [MO.lst (List.map (fun p : Int × Int => MV.bl (decide ((i : Int) ≤ p.2))) (ableL r t i))])[h.length]? = some (MO.lst (ivs (lawHeld r t i))) := look_app (look_app w0)
          have hc : (ivs (lawHeld r t i)).length < cap := by
            have : (lawHeld r t i).length ≤ i := by
              unfold lawHeld
              refine Nat.le_trans (List.length_filter_le _ _) ?_
              rw [prog_length]
              exact Nat.le_refl _
            rw [ints_length]
            unfold cap
            omega
          simp only [Mv.mDef, Mv.mSeq, Mv.mSet, Mv.mRet, Mv.mRetN, Mv.mIfS, Mv.mVar, Mv.mC, Mv.mBin, Mv.mChain, Mv.mCall, Mv.mDo, Mv.mCons, Mv.mNil, Mv.mAndV, Mv.mOrV, Mv.mNotV, Mv.mAsB, Mv.mAndT, Mv.mOrT, Mv.mNotT, Mv.mIf, Mv.mTup, Mv.mLst, Mv.mNext, Mv.mBad, Mv.mDrop, Mv.mPar, Mv.mAsg, Mv.mStore, Mv.mNeg, Mv.fNeg, Mv.mYes, Mv.mNoP, Mv.mPart, Mv.mSl, Mv.fI, Mv.fAdd, Mv.fSub, Mv.fMul, Mv.fMod, Mv.fDiv, Mv.fPow, Mv.fLt, Mv.fLe, Mv.fGt, Mv.fGe, Mv.yes2, Mv.fIsN, Mv.fNotN, Mv.isNon, Mv.fIx, Mv.items_tup, Mv.items_new, Mv.list_new, Mv.lstOf_new, Mv.fEq_int, Mv.fNe_int, Mv.fLen_tup, Mv.fMax2, Mv.fMin2, Mv.fInt, Mv.fAbs, Mv.mIsi, Mv.isT, Mv.gN, Mv.gT, Mv.setAll, Mv.wipeM, Mv.R.bind_ok, Mv.R.bind_bad, Mv.R.noX_ok, Mv.R.andS_ok, Mv.R.andS_bad, Mv.S.andS_nx, Mv.S.andS_rt, Mv.S.andS_bad, Mv.S.andS_bk, Mv.S.andS_ct, List.map_cons, List.map_nil, List.cons_append, List.nil_append, List.append_nil, List.replicate_succ, List.replicate_zero, List.length_cons, List.length_nil, List.set_cons_zero, List.set_cons_succ, List.getElem?_cons_zero, List.getElem?_cons_succ, List.getElem?_nil, Nat.reduceAdd, Nat.reduceSub, Nat.reduceEqDiff, Nat.reduceLeDiff, Nat.zero_add, if_true, if_false, Bool.not_true, Bool.not_false, Bool.false_eq_true, decide_true, decide_false, ite_true, ite_false, Option.some.injEq, reduceIte, mLm, list_ref, items_at w1, fAppend, lstOf_at w1, hc]
          rw [es, q, ← eh]
          have e2 : ivs (lawHeld r t i ++ if true = true then [(i : Int)] else []) = ivs (lawHeld r t i) ++ [.int i] := by
            unfold ivs
            rw [if_pos rfl, List.map_append]
            rfl
          rw [e2, List.append_assoc, List.append_assoc, List.cons_append, set_at]
          exact ⟨_, _, _, _, _, rfl, rfl⟩
      · intro p _
        refine ⟨_, rfl, ?_⟩
        simp only [Mv.mDef, Mv.mSeq, Mv.mSet, Mv.mRet, Mv.mRetN, Mv.mIfS, Mv.mVar, Mv.mC, Mv.mBin, Mv.mChain, Mv.mCall, Mv.mDo, Mv.mCons, Mv.mNil, Mv.mAndV, Mv.mOrV, Mv.mNotV, Mv.mAsB, Mv.mAndT, Mv.mOrT, Mv.mNotT, Mv.mIf, Mv.mTup, Mv.mLst, Mv.mNext, Mv.mBad, Mv.mDrop, Mv.mPar, Mv.mAsg, Mv.mStore, Mv.mNeg, Mv.fNeg, Mv.mYes, Mv.mNoP, Mv.mPart, Mv.mSl, Mv.fI, Mv.fAdd, Mv.fSub, Mv.fMul, Mv.fMod, Mv.fDiv, Mv.fPow, Mv.fLt, Mv.fLe, Mv.fGt, Mv.fGe, Mv.yes2, Mv.fIsN, Mv.fNotN, Mv.isNon, Mv.fIx, Mv.items_tup, Mv.items_new, Mv.list_new, Mv.lstOf_new, Mv.fEq_int, Mv.fNe_int, Mv.fLen_tup, Mv.fMax2, Mv.fMin2, Mv.fInt, Mv.fAbs, Mv.mIsi, Mv.isT, Mv.gN, Mv.gT, Mv.setAll, Mv.wipeM, Mv.R.bind_ok, Mv.R.bind_bad, Mv.R.noX_ok, Mv.R.andS_ok, Mv.R.andS_bad, Mv.S.andS_nx, Mv.S.andS_rt, Mv.S.andS_bad, Mv.S.andS_bk, Mv.S.andS_ct, List.map_cons, List.map_nil, List.cons_append, List.nil_append, List.append_nil, List.replicate_succ, List.replicate_zero, List.length_cons, List.length_nil, List.set_cons_zero, List.set_cons_succ, List.getElem?_cons_zero, List.getElem?_cons_succ, List.getElem?_nil, Nat.reduceAdd, Nat.reduceSub, Nat.reduceEqDiff, Nat.reduceLeDiff, Nat.zero_add, if_true, if_false, Bool.not_true, Bool.not_false, Bool.false_eq_true, decide_true, decide_false, ite_true, ite_false, Option.some.injEq, reduceIte]
        exact ⟨trivial, fun _ => trivial⟩
    · intro p hp
      have h0 := v.pos p hp
      refine ⟨_, rfl, ?_⟩
      simp only [Mv.mDef, Mv.mSeq, Mv.mSet, Mv.mRet, Mv.mRetN, Mv.mIfS, Mv.mVar, Mv.mC, Mv.mBin, Mv.mChain, Mv.mCall, Mv.mDo, Mv.mCons, Mv.mNil, Mv.mAndV, Mv.mOrV, Mv.mNotV, Mv.mAsB, Mv.mAndT, Mv.mOrT, Mv.mNotT, Mv.mIf, Mv.mTup, Mv.mLst, Mv.mNext, Mv.mBad, Mv.mDrop, Mv.mPar, Mv.mAsg, Mv.mStore, Mv.mNeg, Mv.fNeg, Mv.mYes, Mv.mNoP, Mv.mPart, Mv.mSl, Mv.fI, Mv.fAdd, Mv.fSub, Mv.fMul, Mv.fMod, Mv.fDiv, Mv.fPow, Mv.fLt, Mv.fLe, Mv.fGt, Mv.fGe, Mv.yes2, Mv.fIsN, Mv.fNotN, Mv.isNon, Mv.fIx, Mv.items_tup, Mv.items_new, Mv.list_new, Mv.lstOf_new, Mv.fEq_int, Mv.fNe_int, Mv.fLen_tup, Mv.fMax2, Mv.fMin2, Mv.fInt, Mv.fAbs, Mv.mIsi, Mv.isT, Mv.gN, Mv.gT, Mv.setAll, Mv.wipeM, Mv.R.bind_ok, Mv.R.bind_bad, Mv.R.noX_ok, Mv.R.andS_ok, Mv.R.andS_bad, Mv.S.andS_nx, Mv.S.andS_rt, Mv.S.andS_bad, Mv.S.andS_bk, Mv.S.andS_ct, List.map_cons, List.map_nil, List.cons_append, List.nil_append, List.append_nil, List.replicate_succ, List.replicate_zero, List.length_cons, List.length_nil, List.set_cons_zero, List.set_cons_succ, List.getElem?_cons_zero, List.getElem?_cons_succ, List.getElem?_nil, Nat.reduceAdd, Nat.reduceSub, Nat.reduceEqDiff, Nat.reduceLeDiff, Nat.zero_add, if_true, if_false, Bool.not_true, Bool.not_false, Bool.false_eq_true, decide_true, decide_false, ite_true, ite_false, Option.some.injEq, reduceIte, pv2, h0]
      exact ⟨trivial, fun _ => trivial⟩
  · exact ⟨[], none, none, none, none, rfl, rfl⟩
noncomputable def G_l_held : List MV → MH → R MV := specOf (α := Rule × Int) (fun p => [rv p.1, .int p.2]) (fun p => Valid p.1 ∧ 0 ≤ p.2 ∧ p.2 ≤ 100000) fun p h => .ok (.tup (ivs (heldAt p.1 p.2))) h
theorem G_l_held_eq {r : Rule} (v : Valid r) {t : Int} (h0 : 0 ≤ t) (ht : t ≤ 100000) (h : MH) : G_l_held [rv r, .int t] h = .ok (.tup (ivs (heldAt r t))) h := specOf_eq (a := ((r, t) : Rule × Int)) two_inj ⟨v, h0, ht⟩ h
theorem sim_l_held (xs : List MV) (h : MH) : Sim h (F_l_held xs h) (G_l_held xs h) := specOf_sim (fun p h v => by
  obtain ⟨g, e⟩ := F_l_held_eq v.1 v.2.1 v.2.2 h
  rw [e]
  exact sim_drop0 (und_tints _ _)) xs h
theorem F_l_rows_eq {r : Rule} (v : Valid r) (n : Nat) (hn : n ≤ 1000) (h : MH) : F_l_rows G_settled_of G_l_held [rv r, .int (n : Nat)] h = .ok (.ref h.length) (h ++ [.lst ((List.range n).map (rowV r))]) := by
  unfold F_l_rows m_l_rows
  obtain ⟨_, _, s1, s2⟩ := settled_spec v
  have hb : inR (n : Nat) = true := inR_of (by omega)
  simp only [Mv.mDef, Mv.mSeq, Mv.mSet, Mv.mRet, Mv.mRetN, Mv.mIfS, Mv.mVar, Mv.mC, Mv.mBin, Mv.mChain, Mv.mCall, Mv.mDo, Mv.mCons, Mv.mNil, Mv.mAndV, Mv.mOrV, Mv.mNotV, Mv.mAsB, Mv.mAndT, Mv.mOrT, Mv.mNotT, Mv.mIf, Mv.mTup, Mv.mLst, Mv.mNext, Mv.mBad, Mv.mDrop, Mv.mPar, Mv.mAsg, Mv.mStore, Mv.mNeg, Mv.fNeg, Mv.mYes, Mv.mNoP, Mv.mPart, Mv.mSl, Mv.fI, Mv.fAdd, Mv.fSub, Mv.fMul, Mv.fMod, Mv.fDiv, Mv.fPow, Mv.fLt, Mv.fLe, Mv.fGt, Mv.fGe, Mv.yes2, Mv.fIsN, Mv.fNotN, Mv.isNon, Mv.fIx, Mv.items_tup, Mv.items_new, Mv.list_new, Mv.lstOf_new, Mv.fEq_int, Mv.fNe_int, Mv.fLen_tup, Mv.fMax2, Mv.fMin2, Mv.fInt, Mv.fAbs, Mv.mIsi, Mv.isT, Mv.gN, Mv.gT, Mv.setAll, Mv.wipeM, Mv.R.bind_ok, Mv.R.bind_bad, Mv.R.noX_ok, Mv.R.andS_ok, Mv.R.andS_bad, Mv.S.andS_nx, Mv.S.andS_rt, Mv.S.andS_bad, Mv.S.andS_bk, Mv.S.andS_ct, List.map_cons, List.map_nil, List.cons_append, List.nil_append, List.append_nil, List.replicate_succ, List.replicate_zero, List.length_cons, List.length_nil, List.set_cons_zero, List.set_cons_succ, List.getElem?_cons_zero, List.getElem?_cons_succ, List.getElem?_nil, Nat.reduceAdd, Nat.reduceSub, Nat.reduceEqDiff, Nat.reduceLeDiff, Nat.zero_add, if_true, if_false, Bool.not_true, Bool.not_false, Bool.false_eq_true, decide_true, decide_false, ite_true, ite_false, Option.some.injEq, reduceIte, mLc, mRng1, G_settled_of_eq v, hb]
  rw [comp_pure (l := List.range n) (enc := fun (k : Nat) => MV.int (k : Int)) (cb := fun _ => true) (f := rowV r) (fun i => by
    rw [itR_nx, nats_prog, Int.toNat_natCast]; unfold ivs; rw [List.map_map]; rfl) (by rw [List.length_range]; unfold cap; omega)]
  · rw [filter_yes]; rfl
  · intro k hk
    have := List.mem_range.mp hk
    refine ⟨_, rfl, ?_⟩
    simp only [Mv.mDef, Mv.mSeq, Mv.mSet, Mv.mRet, Mv.mRetN, Mv.mIfS, Mv.mVar, Mv.mC, Mv.mBin, Mv.mChain, Mv.mCall, Mv.mDo, Mv.mCons, Mv.mNil, Mv.mAndV, Mv.mOrV, Mv.mNotV, Mv.mAsB, Mv.mAndT, Mv.mOrT, Mv.mNotT, Mv.mIf, Mv.mTup, Mv.mLst, Mv.mNext, Mv.mBad, Mv.mDrop, Mv.mPar, Mv.mAsg, Mv.mStore, Mv.mNeg, Mv.fNeg, Mv.mYes, Mv.mNoP, Mv.mPart, Mv.mSl, Mv.fI, Mv.fAdd, Mv.fSub, Mv.fMul, Mv.fMod, Mv.fDiv, Mv.fPow, Mv.fLt, Mv.fLe, Mv.fGt, Mv.fGe, Mv.yes2, Mv.fIsN, Mv.fNotN, Mv.isNon, Mv.fIx, Mv.items_tup, Mv.items_new, Mv.list_new, Mv.lstOf_new, Mv.fEq_int, Mv.fNe_int, Mv.fLen_tup, Mv.fMax2, Mv.fMin2, Mv.fInt, Mv.fAbs, Mv.mIsi, Mv.isT, Mv.gN, Mv.gT, Mv.setAll, Mv.wipeM, Mv.R.bind_ok, Mv.R.bind_bad, Mv.R.noX_ok, Mv.R.andS_ok, Mv.R.andS_bad, Mv.S.andS_nx, Mv.S.andS_rt, Mv.S.andS_bad, Mv.S.andS_bk, Mv.S.andS_ct, List.map_cons, List.map_nil, List.cons_append, List.nil_append, List.append_nil, List.replicate_succ, List.replicate_zero, List.length_cons, List.length_nil, List.set_cons_zero, List.set_cons_succ, List.getElem?_cons_zero, List.getElem?_cons_succ, List.getElem?_nil, Nat.reduceAdd, Nat.reduceSub, Nat.reduceEqDiff, Nat.reduceLeDiff, Nat.zero_add, if_true, if_false, Bool.not_true, Bool.not_false, Bool.false_eq_true, decide_true, decide_false, ite_true, ite_false, Option.some.injEq, reduceIte, G_l_held_eq v (t := settled r + (k : Int)) (by omega) (by omega)]
    exact ⟨trivial, fun _ => rfl⟩
end Mv

set_option maxHeartbeats 4000000
namespace Mv
open PySem PySem.Spec L2

/-! ### the law's own period -/
def turned (r : Rule) (n : Nat) : List (List Int) := (List.range 60).map fun k => rowF r ((k + n) % 60)
theorem turned_iff {r : Rule} (v : Valid r) (n : Nat) : turned r n = rowsL r 60 ↔ cyc r n := by
  unfold turned rowsL
  constructor
  · intro h k
    have := congrArg (fun l => l[k % 60]?) h
    simp only [List.getElem?_map, List.getElem?_range (Nat.mod_lt k (show 60 > 0 by decide)), Option.map_some, Option.some.injEq] at this
    rw [rowF_mod60 v, rowF_mod60 v] at this
    rw [← this, ← rowF_mod60 v (k + n), ← rowF_mod60 v (k % 60 + n), Nat.mod_add_mod]
  · intro h
    exact List.map_congr_left fun k _ => by rw [rowF_mod60 v, h]
theorem at_nat {α : Type} {l : List α} {k : Nat} {a : α} (h : l[k]? = some a) : atI l (k : Int) = some a := by
  have hk := (List.getElem?_eq_some_iff.mp h).1
  have e : ixN l.length (k : Int) = some k := by
    unfold ixN
    rw [if_pos (by omega), if_pos (by omega)]
    simp
  unfold atI
  rw [e]
  exact h
theorem F_l_period_eq {r : Rule} (v : Valid r) (h : MH) : ∃ g, F_l_period (F_l_rows G_settled_of G_l_held) [rv r] h = .ok (.int (periodN r : Nat)) (h ++ g) := by
  unfold F_l_period m_l_period
  have hrow : F_l_rows G_settled_of G_l_held [rv r, .int 60] h = _ := F_l_rows_eq v 60 (by decide) h
  have hper := periodN_is v
  obtain ⟨t1, t2, t3, _⟩ := turn_spec v
  have hp60 : periodN r ≤ 60 := Nat.le_of_not_lt fun z => hper.2.2 (turnN r) t1 (by omega) (cyc_turn v)
  have hb : inR 60 = true := inR_of (by omega)
  simp only [Mv.mDef, Mv.mSeq, Mv.mSet, Mv.mRet, Mv.mRetN, Mv.mIfS, Mv.mVar, Mv.mC, Mv.mBin, Mv.mChain, Mv.mCall, Mv.mDo, Mv.mCons, Mv.mNil, Mv.mAndV, Mv.mOrV, Mv.mNotV, Mv.mAsB, Mv.mAndT, Mv.mOrT, Mv.mNotT, Mv.mIf, Mv.mTup, Mv.mLst, Mv.mNext, Mv.mBad, Mv.mDrop, Mv.mPar, Mv.mAsg, Mv.mStore, Mv.mNeg, Mv.fNeg, Mv.mYes, Mv.mNoP, Mv.mPart, Mv.mSl, Mv.fI, Mv.fAdd, Mv.fSub, Mv.fMul, Mv.fMod, Mv.fDiv, Mv.fPow, Mv.fLt, Mv.fLe, Mv.fGt, Mv.fGe, Mv.yes2, Mv.fIsN, Mv.fNotN, Mv.isNon, Mv.fIx, Mv.items_tup, Mv.items_new, Mv.list_new, Mv.lstOf_new, Mv.fEq_int, Mv.fNe_int, Mv.fLen_tup, Mv.fMax2, Mv.fMin2, Mv.fInt, Mv.fAbs, Mv.mIsi, Mv.isT, Mv.gN, Mv.gT, Mv.setAll, Mv.wipeM, Mv.R.bind_ok, Mv.R.bind_bad, Mv.R.noX_ok, Mv.R.andS_ok, Mv.R.andS_bad, Mv.S.andS_nx, Mv.S.andS_rt, Mv.S.andS_bad, Mv.S.andS_bk, Mv.S.andS_ct, List.map_cons, List.map_nil, List.cons_append, List.nil_append, List.append_nil, List.replicate_succ, List.replicate_zero, List.length_cons, List.length_nil, List.set_cons_zero, List.set_cons_succ, List.getElem?_cons_zero, List.getElem?_cons_succ, List.getElem?_nil, Nat.reduceAdd, Nat.reduceSub, Nat.reduceEqDiff, Nat.reduceLeDiff, Nat.zero_add, if_true, if_false, Bool.not_true, Bool.not_false, Bool.false_eq_true, decide_true, decide_false, ite_true, ite_false, Option.some.injEq, reduceIte, hrow, mWhile]
  generalize hF : whileGo _ _ _ _ _ = s
  revert hF
  refine while_ind (P := fun t => t = s → _) (I := fun env h' => ∃ (n : Nat) (g : MH) (x3 : Option MV), 1 ≤ n ∧ n ≤ periodN r ∧ h' = h ++ .lst ((List.range 60).map (rowV r)) :: g ∧ env = [some (rv r), some (.ref h.length), some (.int (n : Nat)), x3])
    (m := fun env _ => match env with | [_, _, some (.int n), _] => (60 - n).toNat | _ => 0) ?_ fuel _ _ ?_ ?_
  · rintro env h' ⟨n, g, x3, hn1, hn2, rfl, rfl⟩
    generalize eh : h ++ .lst ((List.range 60).map (rowV r)) :: g = h2
    have w0 : h2[h.length]? = some (MO.lst ((List.range 60).map (rowV r))) := by rw [← eh]; exact at_len _ _ _
    have hlt : decide ((n : Int) < 60) = decide (n < 60) := decide_eq_decide.mpr (by omega)
    by_cases hz : n < 60
    · have hz' : decide (n < 60) = true := decide_eq_true hz
      simp only [Mv.mDef, Mv.mSeq, Mv.mSet, Mv.mRet, Mv.mRetN, Mv.mIfS, Mv.mVar, Mv.mC, Mv.mBin, Mv.mChain, Mv.mCall, Mv.mDo, Mv.mCons, Mv.mNil, Mv.mAndV, Mv.mOrV, Mv.mNotV, Mv.mAsB, Mv.mAndT, Mv.mOrT, Mv.mNotT, Mv.mIf, Mv.mTup, Mv.mLst, Mv.mNext, Mv.mBad, Mv.mDrop, Mv.mPar, Mv.mAsg, Mv.mStore, Mv.mNeg, Mv.fNeg, Mv.mYes, Mv.mNoP, Mv.mPart, Mv.mSl, Mv.fI, Mv.fAdd, Mv.fSub, Mv.fMul, Mv.fMod, Mv.fDiv, Mv.fPow, Mv.fLt, Mv.fLe, Mv.fGt, Mv.fGe, Mv.yes2, Mv.fIsN, Mv.fNotN, Mv.isNon, Mv.fIx, Mv.items_tup, Mv.items_new, Mv.list_new, Mv.lstOf_new, Mv.fEq_int, Mv.fNe_int, Mv.fLen_tup, Mv.fMax2, Mv.fMin2, Mv.fInt, Mv.fAbs, Mv.mIsi, Mv.isT, Mv.gN, Mv.gT, Mv.setAll, Mv.wipeM, Mv.R.bind_ok, Mv.R.bind_bad, Mv.R.noX_ok, Mv.R.andS_ok, Mv.R.andS_bad, Mv.S.andS_nx, Mv.S.andS_rt, Mv.S.andS_bad, Mv.S.andS_bk, Mv.S.andS_ct, List.map_cons, List.map_nil, List.cons_append, List.nil_append, List.append_nil, List.replicate_succ, List.replicate_zero, List.length_cons, List.length_nil, List.set_cons_zero, List.set_cons_succ, List.getElem?_cons_zero, List.getElem?_cons_succ, List.getElem?_nil, Nat.reduceAdd, Nat.reduceSub, Nat.reduceEqDiff, Nat.reduceLeDiff, Nat.zero_add, if_true, if_false, Bool.not_true, Bool.not_false, Bool.false_eq_true, decide_true, decide_false, ite_true, ite_false, Option.some.injEq, reduceIte, hlt, hz', mLc, mRng1, hb]
      rw [comp_pure (l := List.range 60) (enc := fun (k : Nat) => MV.int (k : Int)) (cb := fun _ => true) (f := fun k => rowV r ((k + n) % 60)) (fun i => by
        rw [itR_nx]
        show nxOf (ivs (prog 0 1 60))[i]? = _
        rw [nats_prog]; unfold ivs; rw [List.map_map]; rfl) (by rw [List.length_range]; decide)]
      · rw [filter_yes]
        have e1 : (List.range 60).map (fun k => rowV r ((k + n) % 60)) = (turned r n).map fun l => .tup (ivs l) := by
          unfold turned rowV
          rw [List.map_map]; rfl
        rw [e1]
        simp only [Mv.mDef, Mv.mSeq, Mv.mSet, Mv.mRet, Mv.mRetN, Mv.mIfS, Mv.mVar, Mv.mC, Mv.mBin, Mv.mChain, Mv.mCall, Mv.mDo, Mv.mCons, Mv.mNil, Mv.mAndV, Mv.mOrV, Mv.mNotV, Mv.mAsB, Mv.mAndT, Mv.mOrT, Mv.mNotT, Mv.mIf, Mv.mTup, Mv.mLst, Mv.mNext, Mv.mBad, Mv.mDrop, Mv.mPar, Mv.mAsg, Mv.mStore, Mv.mNeg, Mv.fNeg, Mv.mYes, Mv.mNoP, Mv.mPart, Mv.mSl, Mv.fI, Mv.fAdd, Mv.fSub, Mv.fMul, Mv.fMod, Mv.fDiv, Mv.fPow, Mv.fLt, Mv.fLe, Mv.fGt, Mv.fGe, Mv.yes2, Mv.fIsN, Mv.fNotN, Mv.isNon, Mv.fIx, Mv.items_tup, Mv.items_new, Mv.list_new, Mv.lstOf_new, Mv.fEq_int, Mv.fNe_int, Mv.fLen_tup, Mv.fMax2, Mv.fMin2, Mv.fInt, Mv.fAbs, Mv.mIsi, Mv.isT, Mv.gN, Mv.gT, Mv.setAll, Mv.wipeM, Mv.R.bind_ok, Mv.R.bind_bad, Mv.R.noX_ok, Mv.R.andS_ok, Mv.R.andS_bad, Mv.S.andS_nx, Mv.S.andS_rt, Mv.S.andS_bad, Mv.S.andS_bk, Mv.S.andS_ct, List.map_cons, List.map_nil, List.cons_append, List.nil_append, List.append_nil, List.replicate_succ, List.replicate_zero, List.length_cons, List.length_nil, List.set_cons_zero, List.set_cons_succ, List.getElem?_cons_zero, List.getElem?_cons_succ, List.getElem?_nil, Nat.reduceAdd, Nat.reduceSub, Nat.reduceEqDiff, Nat.reduceLeDiff, Nat.zero_add, if_true, if_false, Bool.not_true, Bool.not_false, Bool.false_eq_true, decide_true, decide_false, ite_true, ite_false, Option.some.injEq, reduceIte]
        rw [rowsV_eq] at w0
        rw [fNe_rows (look_new _ _) (look_app w0)]
        simp only [Mv.mDef, Mv.mSeq, Mv.mSet, Mv.mRet, Mv.mRetN, Mv.mIfS, Mv.mVar, Mv.mC, Mv.mBin, Mv.mChain, Mv.mCall, Mv.mDo, Mv.mCons, Mv.mNil, Mv.mAndV, Mv.mOrV, Mv.mNotV, Mv.mAsB, Mv.mAndT, Mv.mOrT, Mv.mNotT, Mv.mIf, Mv.mTup, Mv.mLst, Mv.mNext, Mv.mBad, Mv.mDrop, Mv.mPar, Mv.mAsg, Mv.mStore, Mv.mNeg, Mv.fNeg, Mv.mYes, Mv.mNoP, Mv.mPart, Mv.mSl, Mv.fI, Mv.fAdd, Mv.fSub, Mv.fMul, Mv.fMod, Mv.fDiv, Mv.fPow, Mv.fLt, Mv.fLe, Mv.fGt, Mv.fGe, Mv.yes2, Mv.fIsN, Mv.fNotN, Mv.isNon, Mv.fIx, Mv.items_tup, Mv.items_new, Mv.list_new, Mv.lstOf_new, Mv.fEq_int, Mv.fNe_int, Mv.fLen_tup, Mv.fMax2, Mv.fMin2, Mv.fInt, Mv.fAbs, Mv.mIsi, Mv.isT, Mv.gN, Mv.gT, Mv.setAll, Mv.wipeM, Mv.R.bind_ok, Mv.R.bind_bad, Mv.R.noX_ok, Mv.R.andS_ok, Mv.R.andS_bad, Mv.S.andS_nx, Mv.S.andS_rt, Mv.S.andS_bad, Mv.S.andS_bk, Mv.S.andS_ct, List.map_cons, List.map_nil, List.cons_append, List.nil_append, List.append_nil, List.replicate_succ, List.replicate_zero, List.length_cons, List.length_nil, List.set_cons_zero, List.set_cons_succ, List.getElem?_cons_zero, List.getElem?_cons_succ, List.getElem?_nil, Nat.reduceAdd, Nat.reduceSub, Nat.reduceEqDiff, Nat.reduceLeDiff, Nat.zero_add, if_true, if_false, Bool.not_true, Bool.not_false, Bool.false_eq_true, decide_true, decide_false, ite_true, ite_false, Option.some.injEq, reduceIte]
        have ed : decide (turned r n = rowsL r 60) = decide (n = periodN r) := decide_eq_decide.mpr ⟨fun z => by
          rcases Nat.lt_or_ge n (periodN r) with y | y
          · exact absurd ((turned_iff v n).mp z) (hper.2.2 n hn1 y)
          · omega, fun z => (turned_iff v n).mpr (z ▸ hper.2.1)⟩
        rw [ed]
        refine ⟨_, _, rfl, fun q => ?_, fun q => ?_⟩
        · have q : n = periodN r := by simpa using q
          rintro rfl
          simp only [Mv.mDef, Mv.mSeq, Mv.mSet, Mv.mRet, Mv.mRetN, Mv.mIfS, Mv.mVar, Mv.mC, Mv.mBin, Mv.mChain, Mv.mCall, Mv.mDo, Mv.mCons, Mv.mNil, Mv.mAndV, Mv.mOrV, Mv.mNotV, Mv.mAsB, Mv.mAndT, Mv.mOrT, Mv.mNotT, Mv.mIf, Mv.mTup, Mv.mLst, Mv.mNext, Mv.mBad, Mv.mDrop, Mv.mPar, Mv.mAsg, Mv.mStore, Mv.mNeg, Mv.fNeg, Mv.mYes, Mv.mNoP, Mv.mPart, Mv.mSl, Mv.fI, Mv.fAdd, Mv.fSub, Mv.fMul, Mv.fMod, Mv.fDiv, Mv.fPow, Mv.fLt, Mv.fLe, Mv.fGt, Mv.fGe, Mv.yes2, Mv.fIsN, Mv.fNotN, Mv.isNon, Mv.fIx, Mv.items_tup, Mv.items_new, Mv.list_new, Mv.lstOf_new, Mv.fEq_int, Mv.fNe_int, Mv.fLen_tup, Mv.fMax2, Mv.fMin2, Mv.fInt, Mv.fAbs, Mv.mIsi, Mv.isT, Mv.gN, Mv.gT, Mv.setAll, Mv.wipeM, Mv.R.bind_ok, Mv.R.bind_bad, Mv.R.noX_ok, Mv.R.andS_ok, Mv.R.andS_bad, Mv.S.andS_nx, Mv.S.andS_rt, Mv.S.andS_bad, Mv.S.andS_bk, Mv.S.andS_ct, List.map_cons, List.map_nil, List.cons_append, List.nil_append, List.append_nil, List.replicate_succ, List.replicate_zero, List.length_cons, List.length_nil, List.set_cons_zero, List.set_cons_succ, List.getElem?_cons_zero, List.getElem?_cons_succ, List.getElem?_nil, Nat.reduceAdd, Nat.reduceSub, Nat.reduceEqDiff, Nat.reduceLeDiff, Nat.zero_add, if_true, if_false, Bool.not_true, Bool.not_false, Bool.false_eq_true, decide_true, decide_false, ite_true, ite_false, Option.some.injEq, reduceIte]
          rw [← eh, q, List.append_assoc]
          exact ok_ex (List.prefix_append _ _)
        · have q : n ≠ periodN r := by simpa using q
          refine ⟨⟨n + 1, _, _, by omega, by omega, by rw [← eh, List.append_assoc]; rfl, rfl⟩, ?_⟩
          show (60 - ((n : Int) + 1)).toNat < (60 - (n : Int)).toNat
          omega
      · intro k hk
        have hk := List.mem_range.mp hk
        refine ⟨_, rfl, ?_⟩
        have e2 : ((k : Int) + (n : Int)) % 60 = (((k + n) % 60 : Nat) : Int) := by omega
        have e3 : ((List.range 60).map (rowV r))[(k + n) % 60]? = some (rowV r ((k + n) % 60)) := by
          rw [List.getElem?_map, List.getElem?_range (Nat.mod_lt _ (by decide))]; rfl
        have e4 : (0 : Int) < 60 := by decide
        simp only [Mv.mDef, Mv.mSeq, Mv.mSet, Mv.mRet, Mv.mRetN, Mv.mIfS, Mv.mVar, Mv.mC, Mv.mBin, Mv.mChain, Mv.mCall, Mv.mDo, Mv.mCons, Mv.mNil, Mv.mAndV, Mv.mOrV, Mv.mNotV, Mv.mAsB, Mv.mAndT, Mv.mOrT, Mv.mNotT, Mv.mIf, Mv.mTup, Mv.mLst, Mv.mNext, Mv.mBad, Mv.mDrop, Mv.mPar, Mv.mAsg, Mv.mStore, Mv.mNeg, Mv.fNeg, Mv.mYes, Mv.mNoP, Mv.mPart, Mv.mSl, Mv.fI, Mv.fAdd, Mv.fSub, Mv.fMul, Mv.fMod, Mv.fDiv, Mv.fPow, Mv.fLt, Mv.fLe, Mv.fGt, Mv.fGe, Mv.yes2, Mv.fIsN, Mv.fNotN, Mv.isNon, Mv.fIx, Mv.items_tup, Mv.items_new, Mv.list_new, Mv.lstOf_new, Mv.fEq_int, Mv.fNe_int, Mv.fLen_tup, Mv.fMax2, Mv.fMin2, Mv.fInt, Mv.fAbs, Mv.mIsi, Mv.isT, Mv.gN, Mv.gT, Mv.setAll, Mv.wipeM, Mv.R.bind_ok, Mv.R.bind_bad, Mv.R.noX_ok, Mv.R.andS_ok, Mv.R.andS_bad, Mv.S.andS_nx, Mv.S.andS_rt, Mv.S.andS_bad, Mv.S.andS_bk, Mv.S.andS_ct, List.map_cons, List.map_nil, List.cons_append, List.nil_append, List.append_nil, List.replicate_succ, List.replicate_zero, List.length_cons, List.length_nil, List.set_cons_zero, List.set_cons_succ, List.getElem?_cons_zero, List.getElem?_cons_succ, List.getElem?_nil, Nat.reduceAdd, Nat.reduceSub, Nat.reduceEqDiff, Nat.reduceLeDiff, Nat.zero_add, if_true, if_false, Bool.not_true, Bool.not_false, Bool.false_eq_true, decide_true, decide_false, ite_true, ite_false, Option.some.injEq, reduceIte, e2, e4, items_at w0, at_nat e3]
        exact ⟨trivial, fun _ => trivial⟩
    · have hz' : decide (n < 60) = false := decide_eq_false hz
      simp only [Mv.mDef, Mv.mSeq, Mv.mSet, Mv.mRet, Mv.mRetN, Mv.mIfS, Mv.mVar, Mv.mC, Mv.mBin, Mv.mChain, Mv.mCall, Mv.mDo, Mv.mCons, Mv.mNil, Mv.mAndV, Mv.mOrV, Mv.mNotV, Mv.mAsB, Mv.mAndT, Mv.mOrT, Mv.mNotT, Mv.mIf, Mv.mTup, Mv.mLst, Mv.mNext, Mv.mBad, Mv.mDrop, Mv.mPar, Mv.mAsg, Mv.mStore, Mv.mNeg, Mv.fNeg, Mv.mYes, Mv.mNoP, Mv.mPart, Mv.mSl, Mv.fI, Mv.fAdd, Mv.fSub, Mv.fMul, Mv.fMod, Mv.fDiv, Mv.fPow, Mv.fLt, Mv.fLe, Mv.fGt, Mv.fGe, Mv.yes2, Mv.fIsN, Mv.fNotN, Mv.isNon, Mv.fIx, Mv.items_tup, Mv.items_new, Mv.list_new, Mv.lstOf_new, Mv.fEq_int, Mv.fNe_int, Mv.fLen_tup, Mv.fMax2, Mv.fMin2, Mv.fInt, Mv.fAbs, Mv.mIsi, Mv.isT, Mv.gN, Mv.gT, Mv.setAll, Mv.wipeM, Mv.R.bind_ok, Mv.R.bind_bad, Mv.R.noX_ok, Mv.R.andS_ok, Mv.R.andS_bad, Mv.S.andS_nx, Mv.S.andS_rt, Mv.S.andS_bad, Mv.S.andS_bk, Mv.S.andS_ct, List.map_cons, List.map_nil, List.cons_append, List.nil_append, List.append_nil, List.replicate_succ, List.replicate_zero, List.length_cons, List.length_nil, List.set_cons_zero, List.set_cons_succ, List.getElem?_cons_zero, List.getElem?_cons_succ, List.getElem?_nil, Nat.reduceAdd, Nat.reduceSub, Nat.reduceEqDiff, Nat.reduceLeDiff, Nat.zero_add, if_true, if_false, Bool.not_true, Bool.not_false, Bool.false_eq_true, decide_true, decide_false, ite_true, ite_false, Option.some.injEq, reduceIte, hlt, hz']
      refine ⟨_, _, rfl, fun _ => ?_, fun q => by cases q⟩
      rintro rfl
      simp only [Mv.mDef, Mv.mSeq, Mv.mSet, Mv.mRet, Mv.mRetN, Mv.mIfS, Mv.mVar, Mv.mC, Mv.mBin, Mv.mChain, Mv.mCall, Mv.mDo, Mv.mCons, Mv.mNil, Mv.mAndV, Mv.mOrV, Mv.mNotV, Mv.mAsB, Mv.mAndT, Mv.mOrT, Mv.mNotT, Mv.mIf, Mv.mTup, Mv.mLst, Mv.mNext, Mv.mBad, Mv.mDrop, Mv.mPar, Mv.mAsg, Mv.mStore, Mv.mNeg, Mv.fNeg, Mv.mYes, Mv.mNoP, Mv.mPart, Mv.mSl, Mv.fI, Mv.fAdd, Mv.fSub, Mv.fMul, Mv.fMod, Mv.fDiv, Mv.fPow, Mv.fLt, Mv.fLe, Mv.fGt, Mv.fGe, Mv.yes2, Mv.fIsN, Mv.fNotN, Mv.isNon, Mv.fIx, Mv.items_tup, Mv.items_new, Mv.list_new, Mv.lstOf_new, Mv.fEq_int, Mv.fNe_int, Mv.fLen_tup, Mv.fMax2, Mv.fMin2, Mv.fInt, Mv.fAbs, Mv.mIsi, Mv.isT, Mv.gN, Mv.gT, Mv.setAll, Mv.wipeM, Mv.R.bind_ok, Mv.R.bind_bad, Mv.R.noX_ok, Mv.R.andS_ok, Mv.R.andS_bad, Mv.S.andS_nx, Mv.S.andS_rt, Mv.S.andS_bad, Mv.S.andS_bk, Mv.S.andS_ct, List.map_cons, List.map_nil, List.cons_append, List.nil_append, List.append_nil, List.replicate_succ, List.replicate_zero, List.length_cons, List.length_nil, List.set_cons_zero, List.set_cons_succ, List.getElem?_cons_zero, List.getElem?_cons_succ, List.getElem?_nil, Nat.reduceAdd, Nat.reduceSub, Nat.reduceEqDiff, Nat.reduceLeDiff, Nat.zero_add, if_true, if_false, Bool.not_true, Bool.not_false, Bool.false_eq_true, decide_true, decide_false, ite_true, ite_false, Option.some.injEq, reduceIte]
      have : n = periodN r := by omega
      rw [← eh, this]
      exact ⟨_, rfl⟩
  · exact ⟨1, [], none, by omega, hper.1, rfl, rfl⟩
  · have := fuel_ge
    show (60 - (1 : Int)).toNat < fuel
    omega
noncomputable def G_l_rows : List MV → MH → R MV := F_l_rows G_settled_of G_l_held
noncomputable def G_l_period : List MV → MH → R MV := G_period_of
theorem sim_l_period (xs : List MV) (h : MH) : Sim h (F_l_period G_l_rows xs h) (G_l_period xs h) := specOf_sim (fun r h v => by
  obtain ⟨g, e⟩ := F_l_period_eq v h
  show Sim h (F_l_period (F_l_rows G_settled_of G_l_held) [rv r] h) _
  rw [e]
  exact sim_drop0 (und_int _ _)) xs h

/-! ### the law's own gap -/
theorem enum_at {xs : List MV} {i : Nat} {x y : MV} (h : (enumL xs)[i]? = some x) (e : xs[i]? = some y) : x = .tup [.int (i : Nat), y] := by
  unfold enumL at h
  rw [List.getElem?_map, List.getElem?_zipIdx, e] at h
  simp at h
  exact h.symm
theorem enum_len (xs : List MV) : (enumL xs).length = xs.length := by simp [enumL]
/-- the best of the first i rows -/
def BestOf (r : Rule) (age : Int) (i : Nat) (b : MV) : Prop := (i = 0 ∧ b = .non) ∨ ∃ m j, b = .tup [.int m, .int (settled r + (j : Nat))] ∧ IsGap (firstO r age) i m j
theorem BestOf.keep {r : Rule} {age : Int} {i : Nat} {m o : Int} {j : Nat} (h : IsGap (firstO r age) i m j) (e : firstO r age i = some o) (l : ¬ m < o) : IsGap (firstO r age) (i + 1) m j := ⟨by have := h.lt; omega, h.at', fun k hk => by
  rcases Nat.lt_or_ge k i with z | z
  · exact h.all k z
  · have : k = i := by omega
    subst this
    exact ⟨o, e, by omega⟩, h.first⟩
theorem BestOf.new {r : Rule} {age : Int} {i : Nat} {o : Int} (e : firstO r age i = some o) (l : ∀ k, k < i → ∃ x, firstO r age k = some x ∧ x < o) : IsGap (firstO r age) (i + 1) o i := ⟨by omega, e, fun k hk => by
  rcases Nat.lt_or_ge k i with z | z
  · obtain ⟨x, a, b⟩ := l k z
    exact ⟨x, a, by omega⟩
  · have : k = i := by omega
    subst this
    exact ⟨o, e, by omega⟩, fun k hk z => by
  obtain ⟨x, a, b⟩ := l k hk
  rw [z] at a; cases a
  omega⟩
theorem F_l_gap_eq {r : Rule} (v : Valid r) (age : Int) (h : MH) : ∃ x g, F_l_gap G_settled_of G_l_rows [rv r, .int age] h = .ok x (h ++ g) ∧ GapIs (firstO r age) (settled r) 60 x := by
  unfold F_l_gap m_l_gap G_l_rows
  have hrow : ∀ h, F_l_rows G_settled_of G_l_held [rv r, .int 60] h = .ok (.ref h.length) (h ++ [.lst ((List.range 60).map (rowV r))]) := fun h => F_l_rows_eq v 60 (by decide) h
  simp only [Mv.mDef, Mv.mSeq, Mv.mSet, Mv.mRet, Mv.mRetN, Mv.mIfS, Mv.mVar, Mv.mC, Mv.mBin, Mv.mChain, Mv.mCall, Mv.mDo, Mv.mCons, Mv.mNil, Mv.mAndV, Mv.mOrV, Mv.mNotV, Mv.mAsB, Mv.mAndT, Mv.mOrT, Mv.mNotT, Mv.mIf, Mv.mTup, Mv.mLst, Mv.mNext, Mv.mBad, Mv.mDrop, Mv.mPar, Mv.mAsg, Mv.mStore, Mv.mNeg, Mv.fNeg, Mv.mYes, Mv.mNoP, Mv.mPart, Mv.mSl, Mv.fI, Mv.fAdd, Mv.fSub, Mv.fMul, Mv.fMod, Mv.fDiv, Mv.fPow, Mv.fLt, Mv.fLe, Mv.fGt, Mv.fGe, Mv.yes2, Mv.fIsN, Mv.fNotN, Mv.isNon, Mv.fIx, Mv.items_tup, Mv.items_new, Mv.list_new, Mv.lstOf_new, Mv.fEq_int, Mv.fNe_int, Mv.fLen_tup, Mv.fMax2, Mv.fMin2, Mv.fInt, Mv.fAbs, Mv.mIsi, Mv.isT, Mv.gN, Mv.gT, Mv.setAll, Mv.wipeM, Mv.R.bind_ok, Mv.R.bind_bad, Mv.R.noX_ok, Mv.R.andS_ok, Mv.R.andS_bad, Mv.S.andS_nx, Mv.S.andS_rt, Mv.S.andS_bad, Mv.S.andS_bk, Mv.S.andS_ct, List.map_cons, List.map_nil, List.cons_append, List.nil_append, List.append_nil, List.replicate_succ, List.replicate_zero, List.length_cons, List.length_nil, List.set_cons_zero, List.set_cons_succ, List.getElem?_cons_zero, List.getElem?_cons_succ, List.getElem?_nil, Nat.reduceAdd, Nat.reduceSub, Nat.reduceEqDiff, Nat.reduceLeDiff, Nat.zero_add, if_true, if_false, Bool.not_true, Bool.not_false, Bool.false_eq_true, decide_true, decide_false, ite_true, ite_false, Option.some.injEq, reduceIte, mFor, mEnumV, G_settled_of_eq v, hrow]
  generalize hF : forGo _ _ _ _ _ _ _ = s
  revert hF
  refine for_ind (xs := enumL ((List.range 60).map (rowV r))) (P := fun t => t = s → _)
    (fun i env h' => ∃ b g x4 x5 x6 x7, BestOf r age i b ∧ h' = h ++ .lst ((List.range 60).map (rowV r)) :: g ∧ env = [some (rv r), some (.int age), some b, some (.int (settled r)), x4, x5, x6, x7])
    ?_ ?_ ?_ fuel 0 _ _ ?_ (Nat.zero_le _) (by have := fuel_ge; simp only [enum_len, List.length_map, List.length_range]; omega)
  · rintro i env h' ⟨b, g, x4, x5, x6, x7, hb, rfl, rfl⟩
    exact itE_nx (fun i => itL_nx (at_len h g _) i) i
  · rintro env h' ⟨b, g, x4, x5, x6, x7, hb, rfl, rfl⟩ rfl
    rw [enum_len, List.length_map, List.length_range] at hb
    simp only [Mv.mDef, Mv.mSeq, Mv.mSet, Mv.mRet, Mv.mRetN, Mv.mIfS, Mv.mVar, Mv.mC, Mv.mBin, Mv.mChain, Mv.mCall, Mv.mDo, Mv.mCons, Mv.mNil, Mv.mAndV, Mv.mOrV, Mv.mNotV, Mv.mAsB, Mv.mAndT, Mv.mOrT, Mv.mNotT, Mv.mIf, Mv.mTup, Mv.mLst, Mv.mNext, Mv.mBad, Mv.mDrop, Mv.mPar, Mv.mAsg, Mv.mStore, Mv.mNeg, Mv.fNeg, Mv.mYes, Mv.mNoP, Mv.mPart, Mv.mSl, Mv.fI, Mv.fAdd, Mv.fSub, Mv.fMul, Mv.fMod, Mv.fDiv, Mv.fPow, Mv.fLt, Mv.fLe, Mv.fGt, Mv.fGe, Mv.yes2, Mv.fIsN, Mv.fNotN, Mv.isNon, Mv.fIx, Mv.items_tup, Mv.items_new, Mv.list_new, Mv.lstOf_new, Mv.fEq_int, Mv.fNe_int, Mv.fLen_tup, Mv.fMax2, Mv.fMin2, Mv.fInt, Mv.fAbs, Mv.mIsi, Mv.isT, Mv.gN, Mv.gT, Mv.setAll, Mv.wipeM, Mv.R.bind_ok, Mv.R.bind_bad, Mv.R.noX_ok, Mv.R.andS_ok, Mv.R.andS_bad, Mv.S.andS_nx, Mv.S.andS_rt, Mv.S.andS_bad, Mv.S.andS_bk, Mv.S.andS_ct, List.map_cons, List.map_nil, List.cons_append, List.nil_append, List.append_nil, List.replicate_succ, List.replicate_zero, List.length_cons, List.length_nil, List.set_cons_zero, List.set_cons_succ, List.getElem?_cons_zero, List.getElem?_cons_succ, List.getElem?_nil, Nat.reduceAdd, Nat.reduceSub, Nat.reduceEqDiff, Nat.reduceLeDiff, Nat.zero_add, if_true, if_false, Bool.not_true, Bool.not_false, Bool.false_eq_true, decide_true, decide_false, ite_true, ite_false, Option.some.injEq, reduceIte]
    rcases hb with ⟨z, _⟩ | ⟨m, j, rfl, hg⟩
    · omega
    · exact ⟨_, _, rfl, .inr ⟨_, _, rfl, hg⟩⟩
  · rintro i x env h' hx ⟨b, g, x4, x5, x6, x7, hb, rfl, rfl⟩
    have hi : i < 60 := by
      have := (List.getElem?_eq_some_iff.mp hx).1
      rwa [enum_len, List.length_map, List.length_range] at this
    have := enum_at hx (show _ = some (rowV r i) by rw [List.getElem?_map, List.getElem?_range hi]; rfl)
    subst this
    refine ⟨_, rfl, ?_⟩
    simp only [Mv.mDef, Mv.mSeq, Mv.mSet, Mv.mRet, Mv.mRetN, Mv.mIfS, Mv.mVar, Mv.mC, Mv.mBin, Mv.mChain, Mv.mCall, Mv.mDo, Mv.mCons, Mv.mNil, Mv.mAndV, Mv.mOrV, Mv.mNotV, Mv.mAsB, Mv.mAndT, Mv.mOrT, Mv.mNotT, Mv.mIf, Mv.mTup, Mv.mLst, Mv.mNext, Mv.mBad, Mv.mDrop, Mv.mPar, Mv.mAsg, Mv.mStore, Mv.mNeg, Mv.fNeg, Mv.mYes, Mv.mNoP, Mv.mPart, Mv.mSl, Mv.fI, Mv.fAdd, Mv.fSub, Mv.fMul, Mv.fMod, Mv.fDiv, Mv.fPow, Mv.fLt, Mv.fLe, Mv.fGt, Mv.fGe, Mv.yes2, Mv.fIsN, Mv.fNotN, Mv.isNon, Mv.fIx, Mv.items_tup, Mv.items_new, Mv.list_new, Mv.lstOf_new, Mv.fEq_int, Mv.fNe_int, Mv.fLen_tup, Mv.fMax2, Mv.fMin2, Mv.fInt, Mv.fAbs, Mv.mIsi, Mv.isT, Mv.gN, Mv.gT, Mv.setAll, Mv.wipeM, Mv.R.bind_ok, Mv.R.bind_bad, Mv.R.noX_ok, Mv.R.andS_ok, Mv.R.andS_bad, Mv.S.andS_nx, Mv.S.andS_rt, Mv.S.andS_bad, Mv.S.andS_bk, Mv.S.andS_ct, List.map_cons, List.map_nil, List.cons_append, List.nil_append, List.append_nil, List.replicate_succ, List.replicate_zero, List.length_cons, List.length_nil, List.set_cons_zero, List.set_cons_succ, List.getElem?_cons_zero, List.getElem?_cons_succ, List.getElem?_nil, Nat.reduceAdd, Nat.reduceSub, Nat.reduceEqDiff, Nat.reduceLeDiff, Nat.zero_add, if_true, if_false, Bool.not_true, Bool.not_false, Bool.false_eq_true, decide_true, decide_false, ite_true, ite_false, Option.some.injEq, reduceIte, mLc, mItV, rowV]
    rw [comp_pure (it := itT (ivs (rowF r i))) (l := rowF r i) (enc := MV.int) (cb := fun x => decide (age ≤ x)) (f := fun x => MV.int (x - age)) (fun j => itT_nx _ j _) (by have := rowF_len v i; unfold cap; omega)]
    · have eo : (rowF r i |>.filter fun x => decide (age ≤ x)).map (fun x => MV.int (x - age)) = ivs (olderL r age i) := by
        unfold olderL ivs
        rw [List.map_map]
        rfl
      rw [eo]
      generalize eh : h ++ MO.lst (List.map (rowV r) (List.range 60)) :: g = h2
      simp only [Mv.mDef, Mv.mSeq, Mv.mSet, Mv.mRet, Mv.mRetN, Mv.mIfS, Mv.mVar, Mv.mC, Mv.mBin, Mv.mChain, Mv.mCall, Mv.mDo, Mv.mCons, Mv.mNil, Mv.mAndV, Mv.mOrV, Mv.mNotV, Mv.mAsB, Mv.mAndT, Mv.mOrT, Mv.mNotT, Mv.mIf, Mv.mTup, Mv.mLst, Mv.mNext, Mv.mBad, Mv.mDrop, Mv.mPar, Mv.mAsg, Mv.mStore, Mv.mNeg, Mv.fNeg, Mv.mYes, Mv.mNoP, Mv.mPart, Mv.mSl, Mv.fI, Mv.fAdd, Mv.fSub, Mv.fMul, Mv.fMod, Mv.fDiv, Mv.fPow, Mv.fLt, Mv.fLe, Mv.fGt, Mv.fGe, Mv.yes2, Mv.fIsN, Mv.fNotN, Mv.isNon, Mv.fIx, Mv.items_tup, Mv.items_new, Mv.list_new, Mv.lstOf_new, Mv.fEq_int, Mv.fNe_int, Mv.fLen_tup, Mv.fMax2, Mv.fMin2, Mv.fInt, Mv.fAbs, Mv.mIsi, Mv.isT, Mv.gN, Mv.gT, Mv.setAll, Mv.wipeM, Mv.R.bind_ok, Mv.R.bind_bad, Mv.R.noX_ok, Mv.R.andS_ok, Mv.R.andS_bad, Mv.S.andS_nx, Mv.S.andS_rt, Mv.S.andS_bad, Mv.S.andS_bk, Mv.S.andS_ct, List.map_cons, List.map_nil, List.cons_append, List.nil_append, List.append_nil, List.replicate_succ, List.replicate_zero, List.length_cons, List.length_nil, List.set_cons_zero, List.set_cons_succ, List.getElem?_cons_zero, List.getElem?_cons_succ, List.getElem?_nil, Nat.reduceAdd, Nat.reduceSub, Nat.reduceEqDiff, Nat.reduceLeDiff, Nat.zero_add, if_true, if_false, Bool.not_true, Bool.not_false, Bool.false_eq_true, decide_true, decide_false, ite_true, ite_false, Option.some.injEq, reduceIte, Nat.zero_le]
      have w1 : (h2 ++ [MO.lst (ivs (olderL r age i))] ++ [MO.lst []])[h2.length]? = some (MO.lst (ivs (olderL r age i))) := look_app (look_new _ _)
      have w2 : (h2 ++ [MO.lst (ivs (olderL r age i))] ++ [MO.lst []])[(h2 ++ [MO.lst (ivs (olderL r age i))]).length]? = some (MO.lst (ivs [])) := look_new _ _
      rw [fEq_lints w1 w2]
      cases eol : olderL r age i with
      | nil =>
        simp only [Mv.mDef, Mv.mSeq, Mv.mSet, Mv.mRet, Mv.mRetN, Mv.mIfS, Mv.mVar, Mv.mC, Mv.mBin, Mv.mChain, Mv.mCall, Mv.mDo, Mv.mCons, Mv.mNil, Mv.mAndV, Mv.mOrV, Mv.mNotV, Mv.mAsB, Mv.mAndT, Mv.mOrT, Mv.mNotT, Mv.mIf, Mv.mTup, Mv.mLst, Mv.mNext, Mv.mBad, Mv.mDrop, Mv.mPar, Mv.mAsg, Mv.mStore, Mv.mNeg, Mv.fNeg, Mv.mYes, Mv.mNoP, Mv.mPart, Mv.mSl, Mv.fI, Mv.fAdd, Mv.fSub, Mv.fMul, Mv.fMod, Mv.fDiv, Mv.fPow, Mv.fLt, Mv.fLe, Mv.fGt, Mv.fGe, Mv.yes2, Mv.fIsN, Mv.fNotN, Mv.isNon, Mv.fIx, Mv.items_tup, Mv.items_new, Mv.list_new, Mv.lstOf_new, Mv.fEq_int, Mv.fNe_int, Mv.fLen_tup, Mv.fMax2, Mv.fMin2, Mv.fInt, Mv.fAbs, Mv.mIsi, Mv.isT, Mv.gN, Mv.gT, Mv.setAll, Mv.wipeM, Mv.R.bind_ok, Mv.R.bind_bad, Mv.R.noX_ok, Mv.R.andS_ok, Mv.R.andS_bad, Mv.S.andS_nx, Mv.S.andS_rt, Mv.S.andS_bad, Mv.S.andS_bk, Mv.S.andS_ct, List.map_cons, List.map_nil, List.cons_append, List.nil_append, List.append_nil, List.replicate_succ, List.replicate_zero, List.length_cons, List.length_nil, List.set_cons_zero, List.set_cons_succ, List.getElem?_cons_zero, List.getElem?_cons_succ, List.getElem?_nil, Nat.reduceAdd, Nat.reduceSub, Nat.reduceEqDiff, Nat.reduceLeDiff, Nat.zero_add, if_true, if_false, Bool.not_true, Bool.not_false, Bool.false_eq_true, decide_true, decide_false, ite_true, ite_false, Option.some.injEq, reduceIte]
        rintro rfl
        simp only [Mv.mDef, Mv.mSeq, Mv.mSet, Mv.mRet, Mv.mRetN, Mv.mIfS, Mv.mVar, Mv.mC, Mv.mBin, Mv.mChain, Mv.mCall, Mv.mDo, Mv.mCons, Mv.mNil, Mv.mAndV, Mv.mOrV, Mv.mNotV, Mv.mAsB, Mv.mAndT, Mv.mOrT, Mv.mNotT, Mv.mIf, Mv.mTup, Mv.mLst, Mv.mNext, Mv.mBad, Mv.mDrop, Mv.mPar, Mv.mAsg, Mv.mStore, Mv.mNeg, Mv.fNeg, Mv.mYes, Mv.mNoP, Mv.mPart, Mv.mSl, Mv.fI, Mv.fAdd, Mv.fSub, Mv.fMul, Mv.fMod, Mv.fDiv, Mv.fPow, Mv.fLt, Mv.fLe, Mv.fGt, Mv.fGe, Mv.yes2, Mv.fIsN, Mv.fNotN, Mv.isNon, Mv.fIx, Mv.items_tup, Mv.items_new, Mv.list_new, Mv.lstOf_new, Mv.fEq_int, Mv.fNe_int, Mv.fLen_tup, Mv.fMax2, Mv.fMin2, Mv.fInt, Mv.fAbs, Mv.mIsi, Mv.isT, Mv.gN, Mv.gT, Mv.setAll, Mv.wipeM, Mv.R.bind_ok, Mv.R.bind_bad, Mv.R.noX_ok, Mv.R.andS_ok, Mv.R.andS_bad, Mv.S.andS_nx, Mv.S.andS_rt, Mv.S.andS_bad, Mv.S.andS_bk, Mv.S.andS_ct, List.map_cons, List.map_nil, List.cons_append, List.nil_append, List.append_nil, List.replicate_succ, List.replicate_zero, List.length_cons, List.length_nil, List.set_cons_zero, List.set_cons_succ, List.getElem?_cons_zero, List.getElem?_cons_succ, List.getElem?_nil, Nat.reduceAdd, Nat.reduceSub, Nat.reduceEqDiff, Nat.reduceLeDiff, Nat.zero_add, if_true, if_false, Bool.not_true, Bool.not_false, Bool.false_eq_true, decide_true, decide_false, ite_true, ite_false, Option.some.injEq, reduceIte]
        refine ok_ex2 ?_ (.inl ⟨rfl, i, hi, by unfold firstO; rw [eol]; rfl⟩)
        rw [← eh, List.append_assoc, List.append_assoc]
        exact List.prefix_append _ _
      | cons o rest =>
        rw [eol] at w1
        have ne : decide (o :: rest = []) = false := rfl
        have az : atI (ivs (o :: rest)) 0 = some (.int o) := at_zero _ _
        have ef : firstO r age i = some o := by unfold firstO; rw [eol]; rfl
        simp only [Mv.mDef, Mv.mSeq, Mv.mSet, Mv.mRet, Mv.mRetN, Mv.mIfS, Mv.mVar, Mv.mC, Mv.mBin, Mv.mChain, Mv.mCall, Mv.mDo, Mv.mCons, Mv.mNil, Mv.mAndV, Mv.mOrV, Mv.mNotV, Mv.mAsB, Mv.mAndT, Mv.mOrT, Mv.mNotT, Mv.mIf, Mv.mTup, Mv.mLst, Mv.mNext, Mv.mBad, Mv.mDrop, Mv.mPar, Mv.mAsg, Mv.mStore, Mv.mNeg, Mv.fNeg, Mv.mYes, Mv.mNoP, Mv.mPart, Mv.mSl, Mv.fI, Mv.fAdd, Mv.fSub, Mv.fMul, Mv.fMod, Mv.fDiv, Mv.fPow, Mv.fLt, Mv.fLe, Mv.fGt, Mv.fGe, Mv.yes2, Mv.fIsN, Mv.fNotN, Mv.isNon, Mv.fIx, Mv.items_tup, Mv.items_new, Mv.list_new, Mv.lstOf_new, Mv.fEq_int, Mv.fNe_int, Mv.fLen_tup, Mv.fMax2, Mv.fMin2, Mv.fInt, Mv.fAbs, Mv.mIsi, Mv.isT, Mv.gN, Mv.gT, Mv.setAll, Mv.wipeM, Mv.R.bind_ok, Mv.R.bind_bad, Mv.R.noX_ok, Mv.R.andS_ok, Mv.R.andS_bad, Mv.S.andS_nx, Mv.S.andS_rt, Mv.S.andS_bad, Mv.S.andS_bk, Mv.S.andS_ct, List.map_cons, List.map_nil, List.cons_append, List.nil_append, List.append_nil, List.replicate_succ, List.replicate_zero, List.length_cons, List.length_nil, List.set_cons_zero, List.set_cons_succ, List.getElem?_cons_zero, List.getElem?_cons_succ, List.getElem?_nil, Nat.reduceAdd, Nat.reduceSub, Nat.reduceEqDiff, Nat.reduceLeDiff, Nat.zero_add, if_true, if_false, Bool.not_true, Bool.not_false, Bool.false_eq_true, decide_true, decide_false, ite_true, ite_false, Option.some.injEq, reduceIte, ne, items_at w1, az]
        rcases hb with ⟨rfl, rfl⟩ | ⟨m, j, rfl, hg⟩
        · simp only [Mv.mDef, Mv.mSeq, Mv.mSet, Mv.mRet, Mv.mRetN, Mv.mIfS, Mv.mVar, Mv.mC, Mv.mBin, Mv.mChain, Mv.mCall, Mv.mDo, Mv.mCons, Mv.mNil, Mv.mAndV, Mv.mOrV, Mv.mNotV, Mv.mAsB, Mv.mAndT, Mv.mOrT, Mv.mNotT, Mv.mIf, Mv.mTup, Mv.mLst, Mv.mNext, Mv.mBad, Mv.mDrop, Mv.mPar, Mv.mAsg, Mv.mStore, Mv.mNeg, Mv.fNeg, Mv.mYes, Mv.mNoP, Mv.mPart, Mv.mSl, Mv.fI, Mv.fAdd, Mv.fSub, Mv.fMul, Mv.fMod, Mv.fDiv, Mv.fPow, Mv.fLt, Mv.fLe, Mv.fGt, Mv.fGe, Mv.yes2, Mv.fIsN, Mv.fNotN, Mv.isNon, Mv.fIx, Mv.items_tup, Mv.items_new, Mv.list_new, Mv.lstOf_new, Mv.fEq_int, Mv.fNe_int, Mv.fLen_tup, Mv.fMax2, Mv.fMin2, Mv.fInt, Mv.fAbs, Mv.mIsi, Mv.isT, Mv.gN, Mv.gT, Mv.setAll, Mv.wipeM, Mv.R.bind_ok, Mv.R.bind_bad, Mv.R.noX_ok, Mv.R.andS_ok, Mv.R.andS_bad, Mv.S.andS_nx, Mv.S.andS_rt, Mv.S.andS_bad, Mv.S.andS_bk, Mv.S.andS_ct, List.map_cons, List.map_nil, List.cons_append, List.nil_append, List.append_nil, List.replicate_succ, List.replicate_zero, List.length_cons, List.length_nil, List.set_cons_zero, List.set_cons_succ, List.getElem?_cons_zero, List.getElem?_cons_succ, List.getElem?_nil, Nat.reduceAdd, Nat.reduceSub, Nat.reduceEqDiff, Nat.reduceLeDiff, Nat.zero_add, if_true, if_false, Bool.not_true, Bool.not_false, Bool.false_eq_true, decide_true, decide_false, ite_true, ite_false, Option.some.injEq, reduceIte, items_at w1, az]
          refine ⟨_, g ++ [MO.lst (ivs (o :: rest)), MO.lst []], _, _, _, _, .inr ⟨o, 0, rfl, BestOf.new ef fun k hk => absurd hk (Nat.not_lt_zero _)⟩, ?_, rfl⟩
          rw [← eh]
          simp
        · have az2 : atI [MV.int m, MV.int (settled r + (j : Nat))] 0 = some (.int m) := at_zero _ _
          simp only [Mv.mDef, Mv.mSeq, Mv.mSet, Mv.mRet, Mv.mRetN, Mv.mIfS, Mv.mVar, Mv.mC, Mv.mBin, Mv.mChain, Mv.mCall, Mv.mDo, Mv.mCons, Mv.mNil, Mv.mAndV, Mv.mOrV, Mv.mNotV, Mv.mAsB, Mv.mAndT, Mv.mOrT, Mv.mNotT, Mv.mIf, Mv.mTup, Mv.mLst, Mv.mNext, Mv.mBad, Mv.mDrop, Mv.mPar, Mv.mAsg, Mv.mStore, Mv.mNeg, Mv.fNeg, Mv.mYes, Mv.mNoP, Mv.mPart, Mv.mSl, Mv.fI, Mv.fAdd, Mv.fSub, Mv.fMul, Mv.fMod, Mv.fDiv, Mv.fPow, Mv.fLt, Mv.fLe, Mv.fGt, Mv.fGe, Mv.yes2, Mv.fIsN, Mv.fNotN, Mv.isNon, Mv.fIx, Mv.items_tup, Mv.items_new, Mv.list_new, Mv.lstOf_new, Mv.fEq_int, Mv.fNe_int, Mv.fLen_tup, Mv.fMax2, Mv.fMin2, Mv.fInt, Mv.fAbs, Mv.mIsi, Mv.isT, Mv.gN, Mv.gT, Mv.setAll, Mv.wipeM, Mv.R.bind_ok, Mv.R.bind_bad, Mv.R.noX_ok, Mv.R.andS_ok, Mv.R.andS_bad, Mv.S.andS_nx, Mv.S.andS_rt, Mv.S.andS_bad, Mv.S.andS_bk, Mv.S.andS_ct, List.map_cons, List.map_nil, List.cons_append, List.nil_append, List.append_nil, List.replicate_succ, List.replicate_zero, List.length_cons, List.length_nil, List.set_cons_zero, List.set_cons_succ, List.getElem?_cons_zero, List.getElem?_cons_succ, List.getElem?_nil, Nat.reduceAdd, Nat.reduceSub, Nat.reduceEqDiff, Nat.reduceLeDiff, Nat.zero_add, if_true, if_false, Bool.not_true, Bool.not_false, Bool.false_eq_true, decide_true, decide_false, ite_true, ite_false, Option.some.injEq, reduceIte, items_at w1, az, az2]
          by_cases hl : m < o
          · have hl' : decide (m < o) = true := decide_eq_true hl
            simp only [Mv.mDef, Mv.mSeq, Mv.mSet, Mv.mRet, Mv.mRetN, Mv.mIfS, Mv.mVar, Mv.mC, Mv.mBin, Mv.mChain, Mv.mCall, Mv.mDo, Mv.mCons, Mv.mNil, Mv.mAndV, Mv.mOrV, Mv.mNotV, Mv.mAsB, Mv.mAndT, Mv.mOrT, Mv.mNotT, Mv.mIf, Mv.mTup, Mv.mLst, Mv.mNext, Mv.mBad, Mv.mDrop, Mv.mPar, Mv.mAsg, Mv.mStore, Mv.mNeg, Mv.fNeg, Mv.mYes, Mv.mNoP, Mv.mPart, Mv.mSl, Mv.fI, Mv.fAdd, Mv.fSub, Mv.fMul, Mv.fMod, Mv.fDiv, Mv.fPow, Mv.fLt, Mv.fLe, Mv.fGt, Mv.fGe, Mv.yes2, Mv.fIsN, Mv.fNotN, Mv.isNon, Mv.fIx, Mv.items_tup, Mv.items_new, Mv.list_new, Mv.lstOf_new, Mv.fEq_int, Mv.fNe_int, Mv.fLen_tup, Mv.fMax2, Mv.fMin2, Mv.fInt, Mv.fAbs, Mv.mIsi, Mv.isT, Mv.gN, Mv.gT, Mv.setAll, Mv.wipeM, Mv.R.bind_ok, Mv.R.bind_bad, Mv.R.noX_ok, Mv.R.andS_ok, Mv.R.andS_bad, Mv.S.andS_nx, Mv.S.andS_rt, Mv.S.andS_bad, Mv.S.andS_bk, Mv.S.andS_ct, List.map_cons, List.map_nil, List.cons_append, List.nil_append, List.append_nil, List.replicate_succ, List.replicate_zero, List.length_cons, List.length_nil, List.set_cons_zero, List.set_cons_succ, List.getElem?_cons_zero, List.getElem?_cons_succ, List.getElem?_nil, Nat.reduceAdd, Nat.reduceSub, Nat.reduceEqDiff, Nat.reduceLeDiff, Nat.zero_add, if_true, if_false, Bool.not_true, Bool.not_false, Bool.false_eq_true, decide_true, decide_false, ite_true, ite_false, Option.some.injEq, reduceIte, hl', items_at w1, az]
            refine ⟨_, g ++ [MO.lst (ivs (o :: rest)), MO.lst []], _, _, _, _, .inr ⟨o, i, rfl, BestOf.new ef fun k hk => ?_⟩, ?_, rfl⟩
            · obtain ⟨x, a, b⟩ := hg.all k hk
              exact ⟨x, a, by omega⟩
            · rw [← eh]
              simp
          · have hl' : decide (m < o) = false := decide_eq_false hl
            simp only [Mv.mDef, Mv.mSeq, Mv.mSet, Mv.mRet, Mv.mRetN, Mv.mIfS, Mv.mVar, Mv.mC, Mv.mBin, Mv.mChain, Mv.mCall, Mv.mDo, Mv.mCons, Mv.mNil, Mv.mAndV, Mv.mOrV, Mv.mNotV, Mv.mAsB, Mv.mAndT, Mv.mOrT, Mv.mNotT, Mv.mIf, Mv.mTup, Mv.mLst, Mv.mNext, Mv.mBad, Mv.mDrop, Mv.mPar, Mv.mAsg, Mv.mStore, Mv.mNeg, Mv.fNeg, Mv.mYes, Mv.mNoP, Mv.mPart, Mv.mSl, Mv.fI, Mv.fAdd, Mv.fSub, Mv.fMul, Mv.fMod, Mv.fDiv, Mv.fPow, Mv.fLt, Mv.fLe, Mv.fGt, Mv.fGe, Mv.yes2, Mv.fIsN, Mv.fNotN, Mv.isNon, Mv.fIx, Mv.items_tup, Mv.items_new, Mv.list_new, Mv.lstOf_new, Mv.fEq_int, Mv.fNe_int, Mv.fLen_tup, Mv.fMax2, Mv.fMin2, Mv.fInt, Mv.fAbs, Mv.mIsi, Mv.isT, Mv.gN, Mv.gT, Mv.setAll, Mv.wipeM, Mv.R.bind_ok, Mv.R.bind_bad, Mv.R.noX_ok, Mv.R.andS_ok, Mv.R.andS_bad, Mv.S.andS_nx, Mv.S.andS_rt, Mv.S.andS_bad, Mv.S.andS_bk, Mv.S.andS_ct, List.map_cons, List.map_nil, List.cons_append, List.nil_append, List.append_nil, List.replicate_succ, List.replicate_zero, List.length_cons, List.length_nil, List.set_cons_zero, List.set_cons_succ, List.getElem?_cons_zero, List.getElem?_cons_succ, List.getElem?_nil, Nat.reduceAdd, Nat.reduceSub, Nat.reduceEqDiff, Nat.reduceLeDiff, Nat.zero_add, if_true, if_false, Bool.not_true, Bool.not_false, Bool.false_eq_true, decide_true, decide_false, ite_true, ite_false, Option.some.injEq, reduceIte, hl']
            refine ⟨_, g ++ [MO.lst (ivs (o :: rest)), MO.lst []], _, _, _, _, .inr ⟨m, j, rfl, BestOf.keep hg ef hl⟩, ?_, rfl⟩
            rw [← eh]
            simp
    · intro x hx
      refine ⟨_, rfl, ?_⟩
      simp only [Mv.mDef, Mv.mSeq, Mv.mSet, Mv.mRet, Mv.mRetN, Mv.mIfS, Mv.mVar, Mv.mC, Mv.mBin, Mv.mChain, Mv.mCall, Mv.mDo, Mv.mCons, Mv.mNil, Mv.mAndV, Mv.mOrV, Mv.mNotV, Mv.mAsB, Mv.mAndT, Mv.mOrT, Mv.mNotT, Mv.mIf, Mv.mTup, Mv.mLst, Mv.mNext, Mv.mBad, Mv.mDrop, Mv.mPar, Mv.mAsg, Mv.mStore, Mv.mNeg, Mv.fNeg, Mv.mYes, Mv.mNoP, Mv.mPart, Mv.mSl, Mv.fI, Mv.fAdd, Mv.fSub, Mv.fMul, Mv.fMod, Mv.fDiv, Mv.fPow, Mv.fLt, Mv.fLe, Mv.fGt, Mv.fGe, Mv.yes2, Mv.fIsN, Mv.fNotN, Mv.isNon, Mv.fIx, Mv.items_tup, Mv.items_new, Mv.list_new, Mv.lstOf_new, Mv.fEq_int, Mv.fNe_int, Mv.fLen_tup, Mv.fMax2, Mv.fMin2, Mv.fInt, Mv.fAbs, Mv.mIsi, Mv.isT, Mv.gN, Mv.gT, Mv.setAll, Mv.wipeM, Mv.R.bind_ok, Mv.R.bind_bad, Mv.R.noX_ok, Mv.R.andS_ok, Mv.R.andS_bad, Mv.S.andS_nx, Mv.S.andS_rt, Mv.S.andS_bad, Mv.S.andS_bk, Mv.S.andS_ct, List.map_cons, List.map_nil, List.cons_append, List.nil_append, List.append_nil, List.replicate_succ, List.replicate_zero, List.length_cons, List.length_nil, List.set_cons_zero, List.set_cons_succ, List.getElem?_cons_zero, List.getElem?_cons_succ, List.getElem?_nil, Nat.reduceAdd, Nat.reduceSub, Nat.reduceEqDiff, Nat.reduceLeDiff, Nat.zero_add, if_true, if_false, Bool.not_true, Bool.not_false, Bool.false_eq_true, decide_true, decide_false, ite_true, ite_false, Option.some.injEq, reduceIte]
      exact ⟨trivial, fun _ => trivial⟩
  · exact ⟨_, _, _, _, _, _, .inl ⟨rfl, rfl⟩, rfl, rfl⟩
noncomputable def G_l_gap : List MV → MH → R MV := specOf (α := Rule × Int) (fun p => [rv p.1, .int p.2]) (fun p => Valid p.1) fun p h => .ok (gapV p.1 p.2) h
theorem G_l_gap_eq {r : Rule} (v : Valid r) (age : Int) (h : MH) : G_l_gap [rv r, .int age] h = .ok (gapV r age) h := specOf_eq (a := ((r, age) : Rule × Int)) two_inj v h
theorem sim_l_gap (xs : List MV) (h : MH) : Sim h (F_l_gap G_settled_of G_l_rows xs h) (G_l_gap xs h) := specOf_sim (fun p h v => by
  obtain ⟨x, g, e, q⟩ := F_l_gap_eq v p.2 h
  rw [e, gapV_eq q, ← gapV_eq q]
  exact sim_drop0 (und_gapV _ _ _)) xs h
end Mv

set_option maxHeartbeats 4000000
namespace Mv
open PySem PySem.Spec L2

/-! ### what is drawn from the script -/
def primes : List Int := [1000003, 1000033, 1000037, 1000039, 1000081, 1000099, 1000117, 1000121, 1000133, 1000151, 1000159, 1000171, 1000183, 1000187, 1000193, 1000199]
theorem primes_at (k : Nat) (hk : k < 16) : ∃ p, primes[k]? = some p ∧ 1000003 ≤ p := by
  have : ∀ k : Fin 16, ∃ p, primes[k.val]? = some p ∧ 1000003 ≤ p := by
    intro k
    have h : k.val < primes.length := k.isLt
    refine ⟨primes[k.val], List.getElem?_eq_getElem h, ?_⟩
    have : ∀ p ∈ primes, (1000003 : Int) ≤ p := by decide
    exact this _ (List.getElem_mem h)
  exact this ⟨k, hk⟩
theorem F_l_draw_eq {c k b : Int} (h0 : 0 ≤ c) (h1 : c < 10 ^ 14) (h2 : 0 ≤ k) (h3 : k ≤ 100) (hb : 0 < b) (h : MH) : ∃ z, F_l_draw [.int c, .int k, .int b] h = .ok (.int z) h ∧ 0 ≤ z ∧ z < b := by
  unfold F_l_draw m_l_draw
  have a1 : CMulB c 48271 = true := cmul_ok (a := 48) (b := 20) (by omega) (by decide) (by decide) (by decide) (by decide)
  have a2 : CMulB k 69621 = true := cmul_ok (a := 8) (b := 20) (by omega) (by decide) (by decide) (by decide) (by decide)
  have a3 : (0 : Int) < 16 := by decide
  obtain ⟨p, e1, hp⟩ := primes_at (k % 16).toNat (by omega)
  have e2 : (k % 16) = (((k % 16).toNat : Nat) : Int) := by omega
  have e3 : atI (primes.map MV.int) (k % 16) = some (.int p) := by
    rw [e2]
    refine at_nat ?_
    rw [List.getElem?_map, e1]
    rfl
  have e4 : [MV.int 1000003, .int 1000033, .int 1000037, .int 1000039, .int 1000081, .int 1000099, .int 1000117, .int 1000121, .int 1000133, .int 1000151, .int 1000159, .int 1000171, .int 1000183, .int 1000187, .int 1000193, .int 1000199] = primes.map MV.int := rfl
  have hp0 : 0 < p := by omega
  have hc : ∀ m, m ≤ 16 → m ≤ cap := fun m hm => by unfold cap; omega
  simp only [Mv.mDef, Mv.mSeq, Mv.mSet, Mv.mRet, Mv.mRetN, Mv.mIfS, Mv.mVar, Mv.mC, Mv.mBin, Mv.mChain, Mv.mCall, Mv.mDo, Mv.mCons, Mv.mNil, Mv.mAndV, Mv.mOrV, Mv.mNotV, Mv.mAsB, Mv.mAndT, Mv.mOrT, Mv.mNotT, Mv.mIf, Mv.mTup, Mv.mLst, Mv.mNext, Mv.mBad, Mv.mDrop, Mv.mPar, Mv.mAsg, Mv.mStore, Mv.mNeg, Mv.fNeg, Mv.mYes, Mv.mNoP, Mv.mPart, Mv.mSl, Mv.fI, Mv.fAdd, Mv.fSub, Mv.fMul, Mv.fMod, Mv.fDiv, Mv.fPow, Mv.fLt, Mv.fLe, Mv.fGt, Mv.fGe, Mv.yes2, Mv.fIsN, Mv.fNotN, Mv.isNon, Mv.fIx, Mv.items_tup, Mv.items_new, Mv.list_new, Mv.lstOf_new, Mv.fEq_int, Mv.fNe_int, Mv.fLen_tup, Mv.fMax2, Mv.fMin2, Mv.fInt, Mv.fAbs, Mv.mIsi, Mv.isT, Mv.gN, Mv.gT, Mv.setAll, Mv.wipeM, Mv.R.bind_ok, Mv.R.bind_bad, Mv.R.noX_ok, Mv.R.andS_ok, Mv.R.andS_bad, Mv.S.andS_nx, Mv.S.andS_rt, Mv.S.andS_bad, Mv.S.andS_bk, Mv.S.andS_ct, List.map_cons, List.map_nil, List.cons_append, List.nil_append, List.append_nil, List.replicate_succ, List.replicate_zero, List.length_cons, List.length_nil, List.set_cons_zero, List.set_cons_succ, List.getElem?_cons_zero, List.getElem?_cons_succ, List.getElem?_nil, Nat.reduceAdd, Nat.reduceSub, Nat.reduceEqDiff, Nat.reduceLeDiff, Nat.zero_add, if_true, if_false, Bool.not_true, Bool.not_false, Bool.false_eq_true, decide_true, decide_false, ite_true, ite_false, Option.some.injEq, reduceIte, a1, a2, a3, hc _ (Nat.le_refl 16)]
  rw [e4, e3]
  simp only [Mv.mDef, Mv.mSeq, Mv.mSet, Mv.mRet, Mv.mRetN, Mv.mIfS, Mv.mVar, Mv.mC, Mv.mBin, Mv.mChain, Mv.mCall, Mv.mDo, Mv.mCons, Mv.mNil, Mv.mAndV, Mv.mOrV, Mv.mNotV, Mv.mAsB, Mv.mAndT, Mv.mOrT, Mv.mNotT, Mv.mIf, Mv.mTup, Mv.mLst, Mv.mNext, Mv.mBad, Mv.mDrop, Mv.mPar, Mv.mAsg, Mv.mStore, Mv.mNeg, Mv.fNeg, Mv.mYes, Mv.mNoP, Mv.mPart, Mv.mSl, Mv.fI, Mv.fAdd, Mv.fSub, Mv.fMul, Mv.fMod, Mv.fDiv, Mv.fPow, Mv.fLt, Mv.fLe, Mv.fGt, Mv.fGe, Mv.yes2, Mv.fIsN, Mv.fNotN, Mv.isNon, Mv.fIx, Mv.items_tup, Mv.items_new, Mv.list_new, Mv.lstOf_new, Mv.fEq_int, Mv.fNe_int, Mv.fLen_tup, Mv.fMax2, Mv.fMin2, Mv.fInt, Mv.fAbs, Mv.mIsi, Mv.isT, Mv.gN, Mv.gT, Mv.setAll, Mv.wipeM, Mv.R.bind_ok, Mv.R.bind_bad, Mv.R.noX_ok, Mv.R.andS_ok, Mv.R.andS_bad, Mv.S.andS_nx, Mv.S.andS_rt, Mv.S.andS_bad, Mv.S.andS_bk, Mv.S.andS_ct, List.map_cons, List.map_nil, List.cons_append, List.nil_append, List.append_nil, List.replicate_succ, List.replicate_zero, List.length_cons, List.length_nil, List.set_cons_zero, List.set_cons_succ, List.getElem?_cons_zero, List.getElem?_cons_succ, List.getElem?_nil, Nat.reduceAdd, Nat.reduceSub, Nat.reduceEqDiff, Nat.reduceLeDiff, Nat.zero_add, if_true, if_false, Bool.not_true, Bool.not_false, Bool.false_eq_true, decide_true, decide_false, ite_true, ite_false, Option.some.injEq, reduceIte, hp0, hb]
  exact ⟨_, rfl, Int.emod_nonneg _ (by omega), Int.emod_lt_of_pos _ hb⟩
theorem log2_lt {i : Int} {a : Nat} (h : 0 < a) (hi : i.natAbs < 2 ^ a) : i.natAbs.log2 < a := PySem.Flt.log2_lt_of h hi
theorem F_l_number_eq {c k b : Int} (h2 : 0 ≤ k) (h3 : k ≤ 100) (hb : 0 < b) (h : MH) : ∃ z, F_l_number F_l_draw [.int c, .int k, .int b] h = .ok (.int z) h ∧ 0 ≤ z ∧ z < b := by
  unfold F_l_number m_l_number
  have a1 : (0 : Int) < 24 := by decide
  have a2 : inR (k % 24) = true := inR_of (by omega)
  simp only [Mv.mDef, Mv.mSeq, Mv.mSet, Mv.mRet, Mv.mRetN, Mv.mIfS, Mv.mVar, Mv.mC, Mv.mBin, Mv.mChain, Mv.mCall, Mv.mDo, Mv.mCons, Mv.mNil, Mv.mAndV, Mv.mOrV, Mv.mNotV, Mv.mAsB, Mv.mAndT, Mv.mOrT, Mv.mNotT, Mv.mIf, Mv.mTup, Mv.mLst, Mv.mNext, Mv.mBad, Mv.mDrop, Mv.mPar, Mv.mAsg, Mv.mStore, Mv.mNeg, Mv.fNeg, Mv.mYes, Mv.mNoP, Mv.mPart, Mv.mSl, Mv.fI, Mv.fAdd, Mv.fSub, Mv.fMul, Mv.fMod, Mv.fDiv, Mv.fPow, Mv.fLt, Mv.fLe, Mv.fGt, Mv.fGe, Mv.yes2, Mv.fIsN, Mv.fNotN, Mv.isNon, Mv.fIx, Mv.items_tup, Mv.items_new, Mv.list_new, Mv.lstOf_new, Mv.fEq_int, Mv.fNe_int, Mv.fLen_tup, Mv.fMax2, Mv.fMin2, Mv.fInt, Mv.fAbs, Mv.mIsi, Mv.isT, Mv.gN, Mv.gT, Mv.setAll, Mv.wipeM, Mv.R.bind_ok, Mv.R.bind_bad, Mv.R.noX_ok, Mv.R.andS_ok, Mv.R.andS_bad, Mv.S.andS_nx, Mv.S.andS_rt, Mv.S.andS_bad, Mv.S.andS_bk, Mv.S.andS_ct, List.map_cons, List.map_nil, List.cons_append, List.nil_append, List.append_nil, List.replicate_succ, List.replicate_zero, List.length_cons, List.length_nil, List.set_cons_zero, List.set_cons_succ, List.getElem?_cons_zero, List.getElem?_cons_succ, List.getElem?_nil, Nat.reduceAdd, Nat.reduceSub, Nat.reduceEqDiff, Nat.reduceLeDiff, Nat.zero_add, if_true, if_false, Bool.not_true, Bool.not_false, Bool.false_eq_true, decide_true, decide_false, ite_true, ite_false, Option.some.injEq, reduceIte, mFor, mRng1, a1, a2]
  generalize hF : forGo _ _ _ _ _ _ _ = s
  revert hF
  refine for_ind (xs := ivs (prog 0 1 (k % 24).toNat)) (P := fun t => t = s → _)
    (fun i env h' => h' = h ∧ ∃ x4, env = [some (.int c), some (.int k), some (.int b), some (.int ((1009 : Int) ^ i)), x4, none, none])
    ?_ ?_ ?_ fuel 0 _ _ ?_ (Nat.zero_le _) (by have := fuel_ge; simp only [ints_length, prog_length]; omega)
  · rintro i env h' _
    exact itR_nx _ _ _ i h'
  · rintro env h' ⟨rfl, x4, rfl⟩ rfl
    rw [ints_length, prog_length]
    have hn : (k % 24).toNat < 24 := by omega
    generalize (k % 24).toNat = n at hn
    have hpos : (0 : Int) < 1009 ^ n := by
      have : (0 : Int) < 1009 := by decide
      exact Int.pow_pos this
    have hlog : ((1009 : Int) ^ n).natAbs.log2 < 9000 := by
      have : ∀ n : Fin 24, ((1009 : Int) ^ n.val).natAbs.log2 < 9000 := by decide
      exact this ⟨n, hn⟩
    have d1 : CDivB (c - 10 ^ (18 : Int).toNat) (1009 ^ n) = true := decide_eq_true ⟨hpos, hlog⟩
    have d2 : decide (0 ≤ (10 : Int) ∧ (10 : Int) ≤ 1000 ∧ 0 ≤ (18 : Int) ∧ (18 : Int) ≤ 1000) = true := by decide
    have d3 : (0 : Int) < 1009 := by decide
    have d4 : (0 : Int) < 1000003 := by decide
    have d5 : (0 : Int) < 9 := by decide
    simp only [Mv.mDef, Mv.mSeq, Mv.mSet, Mv.mRet, Mv.mRetN, Mv.mIfS, Mv.mVar, Mv.mC, Mv.mBin, Mv.mChain, Mv.mCall, Mv.mDo, Mv.mCons, Mv.mNil, Mv.mAndV, Mv.mOrV, Mv.mNotV, Mv.mAsB, Mv.mAndT, Mv.mOrT, Mv.mNotT, Mv.mIf, Mv.mTup, Mv.mLst, Mv.mNext, Mv.mBad, Mv.mDrop, Mv.mPar, Mv.mAsg, Mv.mStore, Mv.mNeg, Mv.fNeg, Mv.mYes, Mv.mNoP, Mv.mPart, Mv.mSl, Mv.fI, Mv.fAdd, Mv.fSub, Mv.fMul, Mv.fMod, Mv.fDiv, Mv.fPow, Mv.fLt, Mv.fLe, Mv.fGt, Mv.fGe, Mv.yes2, Mv.fIsN, Mv.fNotN, Mv.isNon, Mv.fIx, Mv.items_tup, Mv.items_new, Mv.list_new, Mv.lstOf_new, Mv.fEq_int, Mv.fNe_int, Mv.fLen_tup, Mv.fMax2, Mv.fMin2, Mv.fInt, Mv.fAbs, Mv.mIsi, Mv.isT, Mv.gN, Mv.gT, Mv.setAll, Mv.wipeM, Mv.R.bind_ok, Mv.R.bind_bad, Mv.R.noX_ok, Mv.R.andS_ok, Mv.R.andS_bad, Mv.S.andS_nx, Mv.S.andS_rt, Mv.S.andS_bad, Mv.S.andS_bk, Mv.S.andS_ct, List.map_cons, List.map_nil, List.cons_append, List.nil_append, List.append_nil, List.replicate_succ, List.replicate_zero, List.length_cons, List.length_nil, List.set_cons_zero, List.set_cons_succ, List.getElem?_cons_zero, List.getElem?_cons_succ, List.getElem?_nil, Nat.reduceAdd, Nat.reduceSub, Nat.reduceEqDiff, Nat.reduceLeDiff, Nat.zero_add, if_true, if_false, Bool.not_true, Bool.not_false, Bool.false_eq_true, decide_true, decide_false, ite_true, ite_false, Option.some.injEq, reduceIte, d2, d1]
    by_cases hr : 0 < (c - 10 ^ (18 : Int).toNat) / 1009 ^ n
    · have hr' : decide (0 < (c - 10 ^ (18 : Int).toNat) / 1009 ^ n) = true := decide_eq_true hr
      simp only [Mv.mDef, Mv.mSeq, Mv.mSet, Mv.mRet, Mv.mRetN, Mv.mIfS, Mv.mVar, Mv.mC, Mv.mBin, Mv.mChain, Mv.mCall, Mv.mDo, Mv.mCons, Mv.mNil, Mv.mAndV, Mv.mOrV, Mv.mNotV, Mv.mAsB, Mv.mAndT, Mv.mOrT, Mv.mNotT, Mv.mIf, Mv.mTup, Mv.mLst, Mv.mNext, Mv.mBad, Mv.mDrop, Mv.mPar, Mv.mAsg, Mv.mStore, Mv.mNeg, Mv.fNeg, Mv.mYes, Mv.mNoP, Mv.mPart, Mv.mSl, Mv.fI, Mv.fAdd, Mv.fSub, Mv.fMul, Mv.fMod, Mv.fDiv, Mv.fPow, Mv.fLt, Mv.fLe, Mv.fGt, Mv.fGe, Mv.yes2, Mv.fIsN, Mv.fNotN, Mv.isNon, Mv.fIx, Mv.items_tup, Mv.items_new, Mv.list_new, Mv.lstOf_new, Mv.fEq_int, Mv.fNe_int, Mv.fLen_tup, Mv.fMax2, Mv.fMin2, Mv.fInt, Mv.fAbs, Mv.mIsi, Mv.isT, Mv.gN, Mv.gT, Mv.setAll, Mv.wipeM, Mv.R.bind_ok, Mv.R.bind_bad, Mv.R.noX_ok, Mv.R.andS_ok, Mv.R.andS_bad, Mv.S.andS_nx, Mv.S.andS_rt, Mv.S.andS_bad, Mv.S.andS_bk, Mv.S.andS_ct, List.map_cons, List.map_nil, List.cons_append, List.nil_append, List.append_nil, List.replicate_succ, List.replicate_zero, List.length_cons, List.length_nil, List.set_cons_zero, List.set_cons_succ, List.getElem?_cons_zero, List.getElem?_cons_succ, List.getElem?_nil, Nat.reduceAdd, Nat.reduceSub, Nat.reduceEqDiff, Nat.reduceLeDiff, Nat.zero_add, if_true, if_false, Bool.not_true, Bool.not_false, Bool.false_eq_true, decide_true, decide_false, ite_true, ite_false, Option.some.injEq, reduceIte, hr', d3, hb]
      exact ⟨_, rfl, Int.emod_nonneg _ (by omega), Int.emod_lt_of_pos _ hb⟩
    · have hr' : decide (0 < (c - 10 ^ (18 : Int).toNat) / 1009 ^ n) = false := decide_eq_false hr
      simp only [Mv.mDef, Mv.mSeq, Mv.mSet, Mv.mRet, Mv.mRetN, Mv.mIfS, Mv.mVar, Mv.mC, Mv.mBin, Mv.mChain, Mv.mCall, Mv.mDo, Mv.mCons, Mv.mNil, Mv.mAndV, Mv.mOrV, Mv.mNotV, Mv.mAsB, Mv.mAndT, Mv.mOrT, Mv.mNotT, Mv.mIf, Mv.mTup, Mv.mLst, Mv.mNext, Mv.mBad, Mv.mDrop, Mv.mPar, Mv.mAsg, Mv.mStore, Mv.mNeg, Mv.fNeg, Mv.mYes, Mv.mNoP, Mv.mPart, Mv.mSl, Mv.fI, Mv.fAdd, Mv.fSub, Mv.fMul, Mv.fMod, Mv.fDiv, Mv.fPow, Mv.fLt, Mv.fLe, Mv.fGt, Mv.fGe, Mv.yes2, Mv.fIsN, Mv.fNotN, Mv.isNon, Mv.fIx, Mv.items_tup, Mv.items_new, Mv.list_new, Mv.lstOf_new, Mv.fEq_int, Mv.fNe_int, Mv.fLen_tup, Mv.fMax2, Mv.fMin2, Mv.fInt, Mv.fAbs, Mv.mIsi, Mv.isT, Mv.gN, Mv.gT, Mv.setAll, Mv.wipeM, Mv.R.bind_ok, Mv.R.bind_bad, Mv.R.noX_ok, Mv.R.andS_ok, Mv.R.andS_bad, Mv.S.andS_nx, Mv.S.andS_rt, Mv.S.andS_bad, Mv.S.andS_bk, Mv.S.andS_ct, List.map_cons, List.map_nil, List.cons_append, List.nil_append, List.append_nil, List.replicate_succ, List.replicate_zero, List.length_cons, List.length_nil, List.set_cons_zero, List.set_cons_succ, List.getElem?_cons_zero, List.getElem?_cons_succ, List.getElem?_nil, Nat.reduceAdd, Nat.reduceSub, Nat.reduceEqDiff, Nat.reduceLeDiff, Nat.zero_add, if_true, if_false, Bool.not_true, Bool.not_false, Bool.false_eq_true, decide_true, decide_false, ite_true, ite_false, Option.some.injEq, reduceIte, hr', d4]
      have m0 : 0 ≤ c % 1000003 := Int.emod_nonneg _ (by decide)
      have m1 : c % 1000003 < 1000003 := Int.emod_lt_of_pos _ (by decide)
      generalize c % 1000003 = w at m0 m1
      have c1 : CMulB 977 k = true := cmul_ok (a := 20) (b := 20) (by decide) (by omega) (by decide) (by decide) (by decide)
      have c2 : CMulB 31 k = true := cmul_ok (a := 20) (b := 20) (by decide) (by omega) (by decide) (by decide) (by decide)
      have c3 : CMulB (w + 977 * k) (w + 31 * k + 5) = true := cmul_ok (a := 30) (b := 30) (by omega) (by omega) (by decide) (by decide) (by decide)
      have u0 : 0 ≤ (w + 977 * k) * (w + 31 * k + 5) := Int.mul_nonneg (by omega) (by omega)
      have u1 : (w + 977 * k) * (w + 31 * k + 5) < 10 ^ 14 := by
        have : (w + 977 * k) * (w + 31 * k + 5) ≤ 2000000 * 2000000 := Int.mul_le_mul (by omega) (by omega) (by omega) (by omega)
        omega
      obtain ⟨z, ez, z0, z1⟩ := F_l_draw_eq (c := (w + 977 * k) * (w + 31 * k + 5)) (k := k % 9 + 1) (b := 999983) u0 u1 (by omega) (by omega) (by decide) h'
      simp only [Mv.mDef, Mv.mSeq, Mv.mSet, Mv.mRet, Mv.mRetN, Mv.mIfS, Mv.mVar, Mv.mC, Mv.mBin, Mv.mChain, Mv.mCall, Mv.mDo, Mv.mCons, Mv.mNil, Mv.mAndV, Mv.mOrV, Mv.mNotV, Mv.mAsB, Mv.mAndT, Mv.mOrT, Mv.mNotT, Mv.mIf, Mv.mTup, Mv.mLst, Mv.mNext, Mv.mBad, Mv.mDrop, Mv.mPar, Mv.mAsg, Mv.mStore, Mv.mNeg, Mv.fNeg, Mv.mYes, Mv.mNoP, Mv.mPart, Mv.mSl, Mv.fI, Mv.fAdd, Mv.fSub, Mv.fMul, Mv.fMod, Mv.fDiv, Mv.fPow, Mv.fLt, Mv.fLe, Mv.fGt, Mv.fGe, Mv.yes2, Mv.fIsN, Mv.fNotN, Mv.isNon, Mv.fIx, Mv.items_tup, Mv.items_new, Mv.list_new, Mv.lstOf_new, Mv.fEq_int, Mv.fNe_int, Mv.fLen_tup, Mv.fMax2, Mv.fMin2, Mv.fInt, Mv.fAbs, Mv.mIsi, Mv.isT, Mv.gN, Mv.gT, Mv.setAll, Mv.wipeM, Mv.R.bind_ok, Mv.R.bind_bad, Mv.R.noX_ok, Mv.R.andS_ok, Mv.R.andS_bad, Mv.S.andS_nx, Mv.S.andS_rt, Mv.S.andS_bad, Mv.S.andS_bk, Mv.S.andS_ct, List.map_cons, List.map_nil, List.cons_append, List.nil_append, List.append_nil, List.replicate_succ, List.replicate_zero, List.length_cons, List.length_nil, List.set_cons_zero, List.set_cons_succ, List.getElem?_cons_zero, List.getElem?_cons_succ, List.getElem?_nil, Nat.reduceAdd, Nat.reduceSub, Nat.reduceEqDiff, Nat.reduceLeDiff, Nat.zero_add, if_true, if_false, Bool.not_true, Bool.not_false, Bool.false_eq_true, decide_true, decide_false, ite_true, ite_false, Option.some.injEq, reduceIte, c1, c2, c3, d5, ez, hb]
      exact ⟨_, rfl, Int.emod_nonneg _ (by omega), Int.emod_lt_of_pos _ hb⟩
  · rintro i x env h' hx ⟨rfl, x4, rfl⟩
    have hi : i < 24 := by
      have := (List.getElem?_eq_some_iff.mp hx).1
      rw [ints_length, prog_length] at this
      omega
    obtain ⟨y, _, rfl⟩ := mem_ints.mp (List.mem_of_getElem? hx)
    have c1 : CMulB (1009 ^ i) 1009 = true := by
      have : ∀ n : Fin 24, CMulB ((1009 : Int) ^ n.val) 1009 = true := by decide
      exact this ⟨i, hi⟩
    refine ⟨_, rfl, ?_⟩
    simp only [Mv.mDef, Mv.mSeq, Mv.mSet, Mv.mRet, Mv.mRetN, Mv.mIfS, Mv.mVar, Mv.mC, Mv.mBin, Mv.mChain, Mv.mCall, Mv.mDo, Mv.mCons, Mv.mNil, Mv.mAndV, Mv.mOrV, Mv.mNotV, Mv.mAsB, Mv.mAndT, Mv.mOrT, Mv.mNotT, Mv.mIf, Mv.mTup, Mv.mLst, Mv.mNext, Mv.mBad, Mv.mDrop, Mv.mPar, Mv.mAsg, Mv.mStore, Mv.mNeg, Mv.fNeg, Mv.mYes, Mv.mNoP, Mv.mPart, Mv.mSl, Mv.fI, Mv.fAdd, Mv.fSub, Mv.fMul, Mv.fMod, Mv.fDiv, Mv.fPow, Mv.fLt, Mv.fLe, Mv.fGt, Mv.fGe, Mv.yes2, Mv.fIsN, Mv.fNotN, Mv.isNon, Mv.fIx, Mv.items_tup, Mv.items_new, Mv.list_new, Mv.lstOf_new, Mv.fEq_int, Mv.fNe_int, Mv.fLen_tup, Mv.fMax2, Mv.fMin2, Mv.fInt, Mv.fAbs, Mv.mIsi, Mv.isT, Mv.gN, Mv.gT, Mv.setAll, Mv.wipeM, Mv.R.bind_ok, Mv.R.bind_bad, Mv.R.noX_ok, Mv.R.andS_ok, Mv.R.andS_bad, Mv.S.andS_nx, Mv.S.andS_rt, Mv.S.andS_bad, Mv.S.andS_bk, Mv.S.andS_ct, List.map_cons, List.map_nil, List.cons_append, List.nil_append, List.append_nil, List.replicate_succ, List.replicate_zero, List.length_cons, List.length_nil, List.set_cons_zero, List.set_cons_succ, List.getElem?_cons_zero, List.getElem?_cons_succ, List.getElem?_nil, Nat.reduceAdd, Nat.reduceSub, Nat.reduceEqDiff, Nat.reduceLeDiff, Nat.zero_add, if_true, if_false, Bool.not_true, Bool.not_false, Bool.false_eq_true, decide_true, decide_false, ite_true, ite_false, Option.some.injEq, reduceIte, c1]
    exact ⟨trivial, _, by rw [Int.pow_succ]⟩
  · exact ⟨rfl, _, rfl⟩
/-- a script in the heap -/
def HasScript (h : MH) (s : Nat) (ns : List Int) : Prop := h[s]? = some (.lst (ivs ns)) ∨ h[s]? = some (.frz (ivs ns))
theorem HasScript.items {h : MH} {s : Nat} {ns : List Int} (q : HasScript h s ns) : itemsOf h (.ref s) = some (ivs ns) := by
  rcases q with e | e
  · exact items_at e
  · exact items_atf e
theorem F_l_cell_at_eq {h : MH} {s : Nat} {ns : List Int} (q : HasScript h s ns) {k : Int} (hk : 0 ≤ k) : ∃ z, F_l_cell_at [.ref s, .int k] h = .ok (.int z) h := by
  unfold F_l_cell_at m_l_cell_at
  simp only [Mv.mDef, Mv.mSeq, Mv.mSet, Mv.mRet, Mv.mRetN, Mv.mIfS, Mv.mVar, Mv.mC, Mv.mBin, Mv.mChain, Mv.mCall, Mv.mDo, Mv.mCons, Mv.mNil, Mv.mAndV, Mv.mOrV, Mv.mNotV, Mv.mAsB, Mv.mAndT, Mv.mOrT, Mv.mNotT, Mv.mIf, Mv.mTup, Mv.mLst, Mv.mNext, Mv.mBad, Mv.mDrop, Mv.mPar, Mv.mAsg, Mv.mStore, Mv.mNeg, Mv.fNeg, Mv.mYes, Mv.mNoP, Mv.mPart, Mv.mSl, Mv.fI, Mv.fAdd, Mv.fSub, Mv.fMul, Mv.fMod, Mv.fDiv, Mv.fPow, Mv.fLt, Mv.fLe, Mv.fGt, Mv.fGe, Mv.yes2, Mv.fIsN, Mv.fNotN, Mv.isNon, Mv.fIx, Mv.items_tup, Mv.items_new, Mv.list_new, Mv.lstOf_new, Mv.fEq_int, Mv.fNe_int, Mv.fLen_tup, Mv.fMax2, Mv.fMin2, Mv.fInt, Mv.fAbs, Mv.mIsi, Mv.isT, Mv.gN, Mv.gT, Mv.setAll, Mv.wipeM, Mv.R.bind_ok, Mv.R.bind_bad, Mv.R.noX_ok, Mv.R.andS_ok, Mv.R.andS_bad, Mv.S.andS_nx, Mv.S.andS_rt, Mv.S.andS_bad, Mv.S.andS_bk, Mv.S.andS_ct, List.map_cons, List.map_nil, List.cons_append, List.nil_append, List.append_nil, List.replicate_succ, List.replicate_zero, List.length_cons, List.length_nil, List.set_cons_zero, List.set_cons_succ, List.getElem?_cons_zero, List.getElem?_cons_succ, List.getElem?_nil, Nat.reduceAdd, Nat.reduceSub, Nat.reduceEqDiff, Nat.reduceLeDiff, Nat.zero_add, if_true, if_false, Bool.not_true, Bool.not_false, Bool.false_eq_true, decide_true, decide_false, ite_true, ite_false, Option.some.injEq, reduceIte, fLen_items q.items, ints_length]
  by_cases hl : k < (ns.length : Int)
  · have hl' : decide (k < (ns.length : Int)) = true := decide_eq_true hl
    have e0 : k = ((k.toNat : Nat) : Int) := by omega
    have e1 : atI (ivs ns) k = some (.int ns[k.toNat]) := by
      conv => lhs; rw [e0]
      refine at_nat ?_
      unfold ivs
      rw [List.getElem?_map, List.getElem?_eq_getElem (by omega)]
      rfl
    simp only [Mv.mDef, Mv.mSeq, Mv.mSet, Mv.mRet, Mv.mRetN, Mv.mIfS, Mv.mVar, Mv.mC, Mv.mBin, Mv.mChain, Mv.mCall, Mv.mDo, Mv.mCons, Mv.mNil, Mv.mAndV, Mv.mOrV, Mv.mNotV, Mv.mAsB, Mv.mAndT, Mv.mOrT, Mv.mNotT, Mv.mIf, Mv.mTup, Mv.mLst, Mv.mNext, Mv.mBad, Mv.mDrop, Mv.mPar, Mv.mAsg, Mv.mStore, Mv.mNeg, Mv.fNeg, Mv.mYes, Mv.mNoP, Mv.mPart, Mv.mSl, Mv.fI, Mv.fAdd, Mv.fSub, Mv.fMul, Mv.fMod, Mv.fDiv, Mv.fPow, Mv.fLt, Mv.fLe, Mv.fGt, Mv.fGe, Mv.yes2, Mv.fIsN, Mv.fNotN, Mv.isNon, Mv.fIx, Mv.items_tup, Mv.items_new, Mv.list_new, Mv.lstOf_new, Mv.fEq_int, Mv.fNe_int, Mv.fLen_tup, Mv.fMax2, Mv.fMin2, Mv.fInt, Mv.fAbs, Mv.mIsi, Mv.isT, Mv.gN, Mv.gT, Mv.setAll, Mv.wipeM, Mv.R.bind_ok, Mv.R.bind_bad, Mv.R.noX_ok, Mv.R.andS_ok, Mv.R.andS_bad, Mv.S.andS_nx, Mv.S.andS_rt, Mv.S.andS_bad, Mv.S.andS_bk, Mv.S.andS_ct, List.map_cons, List.map_nil, List.cons_append, List.nil_append, List.append_nil, List.replicate_succ, List.replicate_zero, List.length_cons, List.length_nil, List.set_cons_zero, List.set_cons_succ, List.getElem?_cons_zero, List.getElem?_cons_succ, List.getElem?_nil, Nat.reduceAdd, Nat.reduceSub, Nat.reduceEqDiff, Nat.reduceLeDiff, Nat.zero_add, if_true, if_false, Bool.not_true, Bool.not_false, Bool.false_eq_true, decide_true, decide_false, ite_true, ite_false, Option.some.injEq, reduceIte, hl', q.items, e1]
    exact ⟨_, rfl⟩
  · have hl' : decide (k < (ns.length : Int)) = false := decide_eq_false hl
    simp only [Mv.mDef, Mv.mSeq, Mv.mSet, Mv.mRet, Mv.mRetN, Mv.mIfS, Mv.mVar, Mv.mC, Mv.mBin, Mv.mChain, Mv.mCall, Mv.mDo, Mv.mCons, Mv.mNil, Mv.mAndV, Mv.mOrV, Mv.mNotV, Mv.mAsB, Mv.mAndT, Mv.mOrT, Mv.mNotT, Mv.mIf, Mv.mTup, Mv.mLst, Mv.mNext, Mv.mBad, Mv.mDrop, Mv.mPar, Mv.mAsg, Mv.mStore, Mv.mNeg, Mv.fNeg, Mv.mYes, Mv.mNoP, Mv.mPart, Mv.mSl, Mv.fI, Mv.fAdd, Mv.fSub, Mv.fMul, Mv.fMod, Mv.fDiv, Mv.fPow, Mv.fLt, Mv.fLe, Mv.fGt, Mv.fGe, Mv.yes2, Mv.fIsN, Mv.fNotN, Mv.isNon, Mv.fIx, Mv.items_tup, Mv.items_new, Mv.list_new, Mv.lstOf_new, Mv.fEq_int, Mv.fNe_int, Mv.fLen_tup, Mv.fMax2, Mv.fMin2, Mv.fInt, Mv.fAbs, Mv.mIsi, Mv.isT, Mv.gN, Mv.gT, Mv.setAll, Mv.wipeM, Mv.R.bind_ok, Mv.R.bind_bad, Mv.R.noX_ok, Mv.R.andS_ok, Mv.R.andS_bad, Mv.S.andS_nx, Mv.S.andS_rt, Mv.S.andS_bad, Mv.S.andS_bk, Mv.S.andS_ct, List.map_cons, List.map_nil, List.cons_append, List.nil_append, List.append_nil, List.replicate_succ, List.replicate_zero, List.length_cons, List.length_nil, List.set_cons_zero, List.set_cons_succ, List.getElem?_cons_zero, List.getElem?_cons_succ, List.getElem?_nil, Nat.reduceAdd, Nat.reduceSub, Nat.reduceEqDiff, Nat.reduceLeDiff, Nat.zero_add, if_true, if_false, Bool.not_true, Bool.not_false, Bool.false_eq_true, decide_true, decide_false, ite_true, ite_false, Option.some.injEq, reduceIte, hl']
    exact ⟨_, rfl⟩
/-- what is drawn from -/
def drawO (s : Nat) (b k : Int) : MO := .lst [.ref s, .int b, .int k]
theorem F_l_next_eq {h : MH} {s n : Nat} {ns : List Int} {by' k : Int} (q : HasScript h s ns) (e : h[n]? = some (drawO s by' k)) (hs : s ≠ n) (h0 : 0 ≤ by') (h1 : 0 ≤ k) (h2 : k ≤ 100000) {b : Int} (hb : 0 < b) :
    ∃ z, F_l_next F_l_cell_at (F_l_number F_l_draw) [.ref n, .int b] h = .ok (.int z) (h.set n (drawO s by' (k + 1))) ∧ 0 ≤ z ∧ z < b := by
  unfold F_l_next m_l_next
  have hn := (List.getElem?_eq_some_iff.mp e).1
  have e2 : (h.set n (drawO s by' (k + 1)))[n]? = some (drawO s by' (k + 1)) := by simp [hn]
  have q2 : HasScript (h.set n (drawO s by' (k + 1))) s ns := by
    unfold HasScript at q ⊢
    rw [List.getElem?_set_ne (fun z => hs z.symm)]
    exact q
  have i0 : itemsOf h (.ref n) = some [.ref s, .int by', .int k] := items_at e
  have l0 : lstOf h n = some [.ref s, .int by', .int k] := lstOf_at e
  have i1 : itemsOf (h.set n (drawO s by' (k + 1))) (.ref n) = some [.ref s, .int by', .int (k + 1)] := items_at e2
  have x0 : ∀ a b c : MV, atI [a, b, c] 0 = some a := fun _ _ _ => rfl
  have x1 : ∀ a b c : MV, atI [a, b, c] 1 = some b := fun _ _ _ => rfl
  have x2 : ∀ a b c : MV, atI [a, b, c] 2 = some c := fun _ _ _ => rfl
  have y2 : ixN 3 2 = some 2 := rfl
  have st : (h.set n (.lst [.ref s, .int by', .int (k + 1)])) = h.set n (drawO s by' (k + 1)) := rfl
  have d1 : CDivB (k + 1) 12 = true := decide_eq_true ⟨by decide, by decide⟩
  have d2 : (0 : Int) < 12 := by decide
  have d3 : CMulB 31 ((k + 1) / 12) = true := cmul_ok (a := 20) (b := 20) (by decide) (by omega) (by decide) (by decide) (by decide)
  simp only [Mv.mDef, Mv.mSeq, Mv.mSet, Mv.mRet, Mv.mRetN, Mv.mIfS, Mv.mVar, Mv.mC, Mv.mBin, Mv.mChain, Mv.mCall, Mv.mDo, Mv.mCons, Mv.mNil, Mv.mAndV, Mv.mOrV, Mv.mNotV, Mv.mAsB, Mv.mAndT, Mv.mOrT, Mv.mNotT, Mv.mIf, Mv.mTup, Mv.mLst, Mv.mNext, Mv.mBad, Mv.mDrop, Mv.mPar, Mv.mAsg, Mv.mStore, Mv.mNeg, Mv.fNeg, Mv.mYes, Mv.mNoP, Mv.mPart, Mv.mSl, Mv.fI, Mv.fAdd, Mv.fSub, Mv.fMul, Mv.fMod, Mv.fDiv, Mv.fPow, Mv.fLt, Mv.fLe, Mv.fGt, Mv.fGe, Mv.yes2, Mv.fIsN, Mv.fNotN, Mv.isNon, Mv.fIx, Mv.items_tup, Mv.items_new, Mv.list_new, Mv.lstOf_new, Mv.fEq_int, Mv.fNe_int, Mv.fLen_tup, Mv.fMax2, Mv.fMin2, Mv.fInt, Mv.fAbs, Mv.mIsi, Mv.isT, Mv.gN, Mv.gT, Mv.setAll, Mv.wipeM, Mv.R.bind_ok, Mv.R.bind_bad, Mv.R.noX_ok, Mv.R.andS_ok, Mv.R.andS_bad, Mv.S.andS_nx, Mv.S.andS_rt, Mv.S.andS_bad, Mv.S.andS_bk, Mv.S.andS_ct, List.map_cons, List.map_nil, List.cons_append, List.nil_append, List.append_nil, List.replicate_succ, List.replicate_zero, List.length_cons, List.length_nil, List.set_cons_zero, List.set_cons_succ, List.getElem?_cons_zero, List.getElem?_cons_succ, List.getElem?_nil, Nat.reduceAdd, Nat.reduceSub, Nat.reduceEqDiff, Nat.reduceLeDiff, Nat.zero_add, if_true, if_false, Bool.not_true, Bool.not_false, Bool.false_eq_true, decide_true, decide_false, ite_true, ite_false, Option.some.injEq, reduceIte, i0, l0, x0, x1, x2, y2, st, i1, d1]
  obtain ⟨z, ez⟩ := F_l_cell_at_eq q2 (k := by' + (k + 1) / 12) (by omega)
  simp only [Mv.mDef, Mv.mSeq, Mv.mSet, Mv.mRet, Mv.mRetN, Mv.mIfS, Mv.mVar, Mv.mC, Mv.mBin, Mv.mChain, Mv.mCall, Mv.mDo, Mv.mCons, Mv.mNil, Mv.mAndV, Mv.mOrV, Mv.mNotV, Mv.mAsB, Mv.mAndT, Mv.mOrT, Mv.mNotT, Mv.mIf, Mv.mTup, Mv.mLst, Mv.mNext, Mv.mBad, Mv.mDrop, Mv.mPar, Mv.mAsg, Mv.mStore, Mv.mNeg, Mv.fNeg, Mv.mYes, Mv.mNoP, Mv.mPart, Mv.mSl, Mv.fI, Mv.fAdd, Mv.fSub, Mv.fMul, Mv.fMod, Mv.fDiv, Mv.fPow, Mv.fLt, Mv.fLe, Mv.fGt, Mv.fGe, Mv.yes2, Mv.fIsN, Mv.fNotN, Mv.isNon, Mv.fIx, Mv.items_tup, Mv.items_new, Mv.list_new, Mv.lstOf_new, Mv.fEq_int, Mv.fNe_int, Mv.fLen_tup, Mv.fMax2, Mv.fMin2, Mv.fInt, Mv.fAbs, Mv.mIsi, Mv.isT, Mv.gN, Mv.gT, Mv.setAll, Mv.wipeM, Mv.R.bind_ok, Mv.R.bind_bad, Mv.R.noX_ok, Mv.R.andS_ok, Mv.R.andS_bad, Mv.S.andS_nx, Mv.S.andS_rt, Mv.S.andS_bad, Mv.S.andS_bk, Mv.S.andS_ct, List.map_cons, List.map_nil, List.cons_append, List.nil_append, List.append_nil, List.replicate_succ, List.replicate_zero, List.length_cons, List.length_nil, List.set_cons_zero, List.set_cons_succ, List.getElem?_cons_zero, List.getElem?_cons_succ, List.getElem?_nil, Nat.reduceAdd, Nat.reduceSub, Nat.reduceEqDiff, Nat.reduceLeDiff, Nat.zero_add, if_true, if_false, Bool.not_true, Bool.not_false, Bool.false_eq_true, decide_true, decide_false, ite_true, ite_false, Option.some.injEq, reduceIte, ez, d3, i1, x2, d2]
  obtain ⟨w, ew, w0, w1⟩ := F_l_number_eq (c := z + 31 * ((k + 1) / 12)) (k := (k + 1) % 12 + 1) (b := b) (by omega) (by omega) hb (h.set n (drawO s by' (k + 1)))
  simp only [Mv.mDef, Mv.mSeq, Mv.mSet, Mv.mRet, Mv.mRetN, Mv.mIfS, Mv.mVar, Mv.mC, Mv.mBin, Mv.mChain, Mv.mCall, Mv.mDo, Mv.mCons, Mv.mNil, Mv.mAndV, Mv.mOrV, Mv.mNotV, Mv.mAsB, Mv.mAndT, Mv.mOrT, Mv.mNotT, Mv.mIf, Mv.mTup, Mv.mLst, Mv.mNext, Mv.mBad, Mv.mDrop, Mv.mPar, Mv.mAsg, Mv.mStore, Mv.mNeg, Mv.fNeg, Mv.mYes, Mv.mNoP, Mv.mPart, Mv.mSl, Mv.fI, Mv.fAdd, Mv.fSub, Mv.fMul, Mv.fMod, Mv.fDiv, Mv.fPow, Mv.fLt, Mv.fLe, Mv.fGt, Mv.fGe, Mv.yes2, Mv.fIsN, Mv.fNotN, Mv.isNon, Mv.fIx, Mv.items_tup, Mv.items_new, Mv.list_new, Mv.lstOf_new, Mv.fEq_int, Mv.fNe_int, Mv.fLen_tup, Mv.fMax2, Mv.fMin2, Mv.fInt, Mv.fAbs, Mv.mIsi, Mv.isT, Mv.gN, Mv.gT, Mv.setAll, Mv.wipeM, Mv.R.bind_ok, Mv.R.bind_bad, Mv.R.noX_ok, Mv.R.andS_ok, Mv.R.andS_bad, Mv.S.andS_nx, Mv.S.andS_rt, Mv.S.andS_bad, Mv.S.andS_bk, Mv.S.andS_ct, List.map_cons, List.map_nil, List.cons_append, List.nil_append, List.append_nil, List.replicate_succ, List.replicate_zero, List.length_cons, List.length_nil, List.set_cons_zero, List.set_cons_succ, List.getElem?_cons_zero, List.getElem?_cons_succ, List.getElem?_nil, Nat.reduceAdd, Nat.reduceSub, Nat.reduceEqDiff, Nat.reduceLeDiff, Nat.zero_add, if_true, if_false, Bool.not_true, Bool.not_false, Bool.false_eq_true, decide_true, decide_false, ite_true, ite_false, Option.some.injEq, reduceIte, ew]
  exact ⟨_, rfl, w0, w1⟩
end Mv

set_option maxHeartbeats 4000000
namespace Mv
open PySem PySem.Spec L2

/-! ### heaps that go on, but for one list -/
def Ext (n : Nat) (h h' : MH) : Prop := h.length ≤ h'.length ∧ ∀ m, m < h.length → m ≠ n → h'[m]? = h[m]?
theorem Ext.refl {n : Nat} {h : MH} : Ext n h h := ⟨Nat.le_refl _, fun _ _ _ => rfl⟩
theorem Ext.trans {n : Nat} {h h' h'' : MH} (e : Ext n h h') (f : Ext n h' h'') : Ext n h h'' := ⟨Nat.le_trans e.1 f.1, fun m hm hn => (f.2 m (Nat.lt_of_lt_of_le hm e.1) hn).trans (e.2 m hm hn)⟩
theorem Ext.app {n : Nat} {h h' g : MH} (e : Ext n h h') : Ext n h (h' ++ g) := ⟨by rw [List.length_append]; exact Nat.le_trans e.1 (Nat.le_add_right _ _), fun m hm hn => by
  rw [List.getElem?_append_left (Nat.lt_of_lt_of_le hm e.1)]
  exact e.2 m hm hn⟩
theorem Ext.set {n : Nat} {h h' : MH} {o : MO} (e : Ext n h h') : Ext n h (h'.set n o) := ⟨by rw [List.length_set]; exact e.1, fun m hm hn => by
  rw [List.getElem?_set_ne (fun z => hn z.symm)]
  exact e.2 m hm hn⟩
theorem Ext.set' {n p : Nat} {h h' : MH} {o : MO} (e : Ext n h h') (hp : h.length ≤ p) : Ext n h (h'.set p o) := ⟨by rw [List.length_set]; exact e.1, fun m hm hn => by
  rw [List.getElem?_set_ne (by omega)]
  exact e.2 m hm hn⟩
theorem Ext.look {n m : Nat} {h h' : MH} {o : MO} (e : Ext n h h') (q : h[m]? = some o) (hn : m ≠ n) : h'[m]? = some o := (e.2 m (List.getElem?_eq_some_iff.mp q).1 hn).trans q
theorem Ext.script {n m : Nat} {h h' : MH} {ns : List Int} (e : Ext n h h') (q : HasScript h m ns) (hn : m ≠ n) : HasScript h' m ns := q.elim (fun q => .inl (e.look q hn)) fun q => .inr (e.look q hn)
/-- the list n draws: it has drawn k times -/
structure Draw (ns : List Int) (s n : Nat) (h : MH) (k : Nat) : Prop where
  scr : HasScript h s ns
  ne : s ≠ n
  at' : ∃ b : Nat, h[n]? = some (drawO s b k)
theorem Draw.lt {ns : List Int} {s n k : Nat} {h : MH} (d : Draw ns s n h k) : n < h.length := by
  obtain ⟨b, e⟩ := d.at'
  exact (List.getElem?_eq_some_iff.mp e).1
theorem HasScript.app {h g : MH} {s : Nat} {ns : List Int} (q : HasScript h s ns) : HasScript (h ++ g) s ns := q.elim (fun q => .inl (look_app q)) fun q => .inr (look_app q)
theorem Draw.app {ns : List Int} {s n k : Nat} {h g : MH} (d : Draw ns s n h k) : Draw ns s n (h ++ g) k := ⟨d.scr.app, d.ne, d.at'.imp fun _ e => look_app e⟩
theorem HasScript.lt {h : MH} {s : Nat} {ns : List Int} (q : HasScript h s ns) : s < h.length := q.elim (fun q => (List.getElem?_eq_some_iff.mp q).1) fun q => (List.getElem?_eq_some_iff.mp q).1
theorem Draw.set {ns : List Int} {s n k p : Nat} {h : MH} {o : MO} (d : Draw ns s n h k) (hs : s ≠ p) (hn : n ≠ p) : Draw ns s n (h.set p o) k := ⟨d.scr.elim (fun q => .inl (by rw [List.getElem?_set_ne (fun z => hs z.symm)]; exact q)) fun q => .inr (by rw [List.getElem?_set_ne (fun z => hs z.symm)]; exact q), d.ne, d.at'.imp fun _ e => by rw [List.getElem?_set_ne (fun z => hn z.symm)]; exact e⟩
noncomputable def G_l_next : List MV → MH → R MV := F_l_next F_l_cell_at (F_l_number F_l_draw)
/-- one number is drawn -/
theorem next_step {ns : List Int} {s n k : Nat} {h : MH} (d : Draw ns s n h k) (hk : k ≤ 100000) {b : Int} (hb : 0 < b) : ∃ z o, G_l_next [.ref n, .int b] h = .ok (.int z) (h.set n o) ∧ 0 ≤ z ∧ z < b ∧ Draw ns s n (h.set n o) (k + 1) := by
  obtain ⟨b', e⟩ := d.at'
  obtain ⟨z, ez, z0, z1⟩ := F_l_next_eq d.scr e d.ne (by omega) (by omega) (by omega) hb
  refine ⟨z, _, ez, z0, z1, ?_, d.ne, b', ?_⟩
  · exact d.scr.elim (fun q => .inl (by rw [List.getElem?_set_ne (fun z => d.ne z.symm)]; exact q)) fun q => .inr (by rw [List.getElem?_set_ne (fun z => d.ne z.symm)]; exact q)
  · rw [List.getElem?_set_self d.lt]
    rfl

/-! ### a rule is drawn -/
theorem F_l_rule_eq {ns : List Int} {s n k : Nat} {h : MH} (d : Draw ns s n h k) (hk : k ≤ 50000) {most : Int} (m0 : 0 ≤ most) (m1 : most ≤ 12) :
    ∃ r h' k', F_l_rule G_l_next [.ref n, .int most] h = .ok (rv r) h' ∧ Valid r ∧ Ext n h h' ∧ Draw ns s n h' k' ∧ k' ≤ k + 20 := by
  unfold F_l_rule m_l_rule
  have hsl := d.scr.lt
  have hnl := d.lt
  have d0 : Draw ns s n (h ++ [.lst []]) k := d.app
  obtain ⟨z, o, e1, z0, z1, d1⟩ := next_step d0 (by omega) (b := 3) (by decide)
  have hb : inR (1 + z) = true := inR_of (by omega)
  simp only [Mv.mDef, Mv.mSeq, Mv.mSet, Mv.mRet, Mv.mRetN, Mv.mIfS, Mv.mVar, Mv.mC, Mv.mBin, Mv.mChain, Mv.mCall, Mv.mDo, Mv.mCons, Mv.mNil, Mv.mAndV, Mv.mOrV, Mv.mNotV, Mv.mAsB, Mv.mAndT, Mv.mOrT, Mv.mNotT, Mv.mIf, Mv.mTup, Mv.mLst, Mv.mNext, Mv.mBad, Mv.mDrop, Mv.mPar, Mv.mAsg, Mv.mStore, Mv.mNeg, Mv.fNeg, Mv.mYes, Mv.mNoP, Mv.mPart, Mv.mSl, Mv.fI, Mv.fAdd, Mv.fSub, Mv.fMul, Mv.fMod, Mv.fDiv, Mv.fPow, Mv.fLt, Mv.fLe, Mv.fGt, Mv.fGe, Mv.yes2, Mv.fIsN, Mv.fNotN, Mv.isNon, Mv.fIx, Mv.items_tup, Mv.items_new, Mv.list_new, Mv.lstOf_new, Mv.fEq_int, Mv.fNe_int, Mv.fLen_tup, Mv.fMax2, Mv.fMin2, Mv.fInt, Mv.fAbs, Mv.mIsi, Mv.isT, Mv.gN, Mv.gT, Mv.setAll, Mv.wipeM, Mv.R.bind_ok, Mv.R.bind_bad, Mv.R.noX_ok, Mv.R.andS_ok, Mv.R.andS_bad, Mv.S.andS_nx, Mv.S.andS_rt, Mv.S.andS_bad, Mv.S.andS_bk, Mv.S.andS_ct, List.map_cons, List.map_nil, List.cons_append, List.nil_append, List.append_nil, List.replicate_succ, List.replicate_zero, List.length_cons, List.length_nil, List.set_cons_zero, List.set_cons_succ, List.getElem?_cons_zero, List.getElem?_cons_succ, List.getElem?_nil, Nat.reduceAdd, Nat.reduceSub, Nat.reduceEqDiff, Nat.reduceLeDiff, Nat.zero_add, if_true, if_false, Bool.not_true, Bool.not_false, Bool.false_eq_true, decide_true, decide_false, ite_true, ite_false, Option.some.injEq, reduceIte, Nat.zero_le, mFor, mRng1, e1, hb]
  generalize hF : forGo _ _ _ _ _ _ _ = t
  revert hF
  refine for_ind (xs := ivs (prog 0 1 (1 + z).toNat)) (P := fun u => u = t → _)
    (fun i env h' => ∃ (r : Rule) (k' : Nat) (x3 : Option MV), h'[h.length]? = some (.lst (r.map pv2)) ∧ r.length = i ∧ (∀ p ∈ r, 1 ≤ p.1 ∧ p.1 ≤ 6 ∧ 0 ≤ p.2 ∧ p.2 ≤ 12) ∧ Ext n h h' ∧ Draw ns s n h' k' ∧ k' = k + 1 + 2 * i ∧ env = [some (.ref n), some (.int most), some (.ref h.length), x3])
    ?_ ?_ ?_ fuel 0 _ _ ?_ (Nat.zero_le _) (by have := fuel_ge; simp only [ints_length, prog_length]; omega)
  · rintro i env h' _
    exact itR_nx _ _ _ i h'
  · rintro env h' ⟨r, k', x3, e, hr, hv, ex, dr, hk', rfl⟩ rfl
    rw [ints_length, prog_length] at hr hk'
    have d2 : CDivB most 2 = true := decide_eq_true ⟨by decide, by decide⟩
    obtain ⟨y, o2, e2, y0, y1, dr2⟩ := next_step dr (by omega) (b := 2) (by decide)
    have hpn : h.length ≠ n := by omega
    have e3 : (h'.set n o2)[h.length]? = some (.lst (r.map pv2)) := by rw [List.getElem?_set_ne (by omega)]; exact e
    simp only [Mv.mDef, Mv.mSeq, Mv.mSet, Mv.mRet, Mv.mRetN, Mv.mIfS, Mv.mVar, Mv.mC, Mv.mBin, Mv.mChain, Mv.mCall, Mv.mDo, Mv.mCons, Mv.mNil, Mv.mAndV, Mv.mOrV, Mv.mNotV, Mv.mAsB, Mv.mAndT, Mv.mOrT, Mv.mNotT, Mv.mIf, Mv.mTup, Mv.mLst, Mv.mNext, Mv.mBad, Mv.mDrop, Mv.mPar, Mv.mAsg, Mv.mStore, Mv.mNeg, Mv.fNeg, Mv.mYes, Mv.mNoP, Mv.mPart, Mv.mSl, Mv.fI, Mv.fAdd, Mv.fSub, Mv.fMul, Mv.fMod, Mv.fDiv, Mv.fPow, Mv.fLt, Mv.fLe, Mv.fGt, Mv.fGe, Mv.yes2, Mv.fIsN, Mv.fNotN, Mv.isNon, Mv.fIx, Mv.items_tup, Mv.items_new, Mv.list_new, Mv.lstOf_new, Mv.fEq_int, Mv.fNe_int, Mv.fLen_tup, Mv.fMax2, Mv.fMin2, Mv.fInt, Mv.fAbs, Mv.mIsi, Mv.isT, Mv.gN, Mv.gT, Mv.setAll, Mv.wipeM, Mv.R.bind_ok, Mv.R.bind_bad, Mv.R.noX_ok, Mv.R.andS_ok, Mv.R.andS_bad, Mv.S.andS_nx, Mv.S.andS_rt, Mv.S.andS_bad, Mv.S.andS_bk, Mv.S.andS_ct, List.map_cons, List.map_nil, List.cons_append, List.nil_append, List.append_nil, List.replicate_succ, List.replicate_zero, List.length_cons, List.length_nil, List.set_cons_zero, List.set_cons_succ, List.getElem?_cons_zero, List.getElem?_cons_succ, List.getElem?_nil, Nat.reduceAdd, Nat.reduceSub, Nat.reduceEqDiff, Nat.reduceLeDiff, Nat.zero_add, if_true, if_false, Bool.not_true, Bool.not_false, Bool.false_eq_true, decide_true, decide_false, ite_true, ite_false, Option.some.injEq, reduceIte, e2]
    by_cases hy : y = 0
    · have hy' : decide (y = 0) = true := decide_eq_true hy
      obtain ⟨x, o3, e4, x0, x1, dr3⟩ := next_step dr2 (by omega) (b := 1 + most / 2) (by omega)
      have e5 : ((h'.set n o2).set n o3)[h.length]? = some (.lst (r.map pv2)) := by rw [List.getElem?_set_ne (by omega)]; exact e3
      cases r with
      | nil => simp at hr; omega
      | cons q r =>
        have ix : ixN (List.map pv2 (q :: r)).length 0 = some 0 := by simp [ixN]
        have hc2 : ∀ m, m ≤ 2 → m ≤ cap := fun m hm => by unfold cap; omega
        simp only [Mv.mDef, Mv.mSeq, Mv.mSet, Mv.mRet, Mv.mRetN, Mv.mIfS, Mv.mVar, Mv.mC, Mv.mBin, Mv.mChain, Mv.mCall, Mv.mDo, Mv.mCons, Mv.mNil, Mv.mAndV, Mv.mOrV, Mv.mNotV, Mv.mAsB, Mv.mAndT, Mv.mOrT, Mv.mNotT, Mv.mIf, Mv.mTup, Mv.mLst, Mv.mNext, Mv.mBad, Mv.mDrop, Mv.mPar, Mv.mAsg, Mv.mStore, Mv.mNeg, Mv.fNeg, Mv.mYes, Mv.mNoP, Mv.mPart, Mv.mSl, Mv.fI, Mv.fAdd, Mv.fSub, Mv.fMul, Mv.fMod, Mv.fDiv, Mv.fPow, Mv.fLt, Mv.fLe, Mv.fGt, Mv.fGe, Mv.yes2, Mv.fIsN, Mv.fNotN, Mv.isNon, Mv.fIx, Mv.items_tup, Mv.items_new, Mv.list_new, Mv.lstOf_new, Mv.fEq_int, Mv.fNe_int, Mv.fLen_tup, Mv.fMax2, Mv.fMin2, Mv.fInt, Mv.fAbs, Mv.mIsi, Mv.isT, Mv.gN, Mv.gT, Mv.setAll, Mv.wipeM, Mv.R.bind_ok, Mv.R.bind_bad, Mv.R.noX_ok, Mv.R.andS_ok, Mv.R.andS_bad, Mv.S.andS_nx, Mv.S.andS_rt, Mv.S.andS_bad, Mv.S.andS_bk, Mv.S.andS_ct, List.map_cons, List.map_nil, List.cons_append, List.nil_append, List.append_nil, List.replicate_succ, List.replicate_zero, List.length_cons, List.length_nil, List.set_cons_zero, List.set_cons_succ, List.getElem?_cons_zero, List.getElem?_cons_succ, List.getElem?_nil, Nat.reduceAdd, Nat.reduceSub, Nat.reduceEqDiff, Nat.reduceLeDiff, Nat.zero_add, if_true, if_false, Bool.not_true, Bool.not_false, Bool.false_eq_true, decide_true, decide_false, ite_true, ite_false, Option.some.injEq, reduceIte, hy', d2, e4, lstOf_at e5, hc2 _ (Nat.le_refl 2)]
        have ix2 : ixN ((List.map pv2 r).length + 1) 0 = some 0 := by simp [ixN]
        simp only [Mv.mDef, Mv.mSeq, Mv.mSet, Mv.mRet, Mv.mRetN, Mv.mIfS, Mv.mVar, Mv.mC, Mv.mBin, Mv.mChain, Mv.mCall, Mv.mDo, Mv.mCons, Mv.mNil, Mv.mAndV, Mv.mOrV, Mv.mNotV, Mv.mAsB, Mv.mAndT, Mv.mOrT, Mv.mNotT, Mv.mIf, Mv.mTup, Mv.mLst, Mv.mNext, Mv.mBad, Mv.mDrop, Mv.mPar, Mv.mAsg, Mv.mStore, Mv.mNeg, Mv.fNeg, Mv.mYes, Mv.mNoP, Mv.mPart, Mv.mSl, Mv.fI, Mv.fAdd, Mv.fSub, Mv.fMul, Mv.fMod, Mv.fDiv, Mv.fPow, Mv.fLt, Mv.fLe, Mv.fGt, Mv.fGe, Mv.yes2, Mv.fIsN, Mv.fNotN, Mv.isNon, Mv.fIx, Mv.items_tup, Mv.items_new, Mv.list_new, Mv.lstOf_new, Mv.fEq_int, Mv.fNe_int, Mv.fLen_tup, Mv.fMax2, Mv.fMin2, Mv.fInt, Mv.fAbs, Mv.mIsi, Mv.isT, Mv.gN, Mv.gT, Mv.setAll, Mv.wipeM, Mv.R.bind_ok, Mv.R.bind_bad, Mv.R.noX_ok, Mv.R.andS_ok, Mv.R.andS_bad, Mv.S.andS_nx, Mv.S.andS_rt, Mv.S.andS_bad, Mv.S.andS_bk, Mv.S.andS_ct, List.map_cons, List.map_nil, List.cons_append, List.nil_append, List.append_nil, List.replicate_succ, List.replicate_zero, List.length_cons, List.length_nil, List.set_cons_zero, List.set_cons_succ, List.getElem?_cons_zero, List.getElem?_cons_succ, List.getElem?_nil, Nat.reduceAdd, Nat.reduceSub, Nat.reduceEqDiff, Nat.reduceLeDiff, Nat.zero_add, if_true, if_false, Bool.not_true, Bool.not_false, Bool.false_eq_true, decide_true, decide_false, ite_true, ite_false, Option.some.injEq, reduceIte, ix2]
        have hlen : h.length < ((h'.set n o2).set n o3).length := (List.getElem?_eq_some_iff.mp e5).1
        have e6 : (((h'.set n o2).set n o3).set h.length (MO.lst (MV.tup [.int 1, .int x] :: List.map pv2 r)))[h.length]? = some (.lst (MV.tup [.int 1, .int x] :: List.map pv2 r)) := by rw [List.getElem?_set_self hlen]
        simp only [Mv.mDef, Mv.mSeq, Mv.mSet, Mv.mRet, Mv.mRetN, Mv.mIfS, Mv.mVar, Mv.mC, Mv.mBin, Mv.mChain, Mv.mCall, Mv.mDo, Mv.mCons, Mv.mNil, Mv.mAndV, Mv.mOrV, Mv.mNotV, Mv.mAsB, Mv.mAndT, Mv.mOrT, Mv.mNotT, Mv.mIf, Mv.mTup, Mv.mLst, Mv.mNext, Mv.mBad, Mv.mDrop, Mv.mPar, Mv.mAsg, Mv.mStore, Mv.mNeg, Mv.fNeg, Mv.mYes, Mv.mNoP, Mv.mPart, Mv.mSl, Mv.fI, Mv.fAdd, Mv.fSub, Mv.fMul, Mv.fMod, Mv.fDiv, Mv.fPow, Mv.fLt, Mv.fLe, Mv.fGt, Mv.fGe, Mv.yes2, Mv.fIsN, Mv.fNotN, Mv.isNon, Mv.fIx, Mv.items_tup, Mv.items_new, Mv.list_new, Mv.lstOf_new, Mv.fEq_int, Mv.fNe_int, Mv.fLen_tup, Mv.fMax2, Mv.fMin2, Mv.fInt, Mv.fAbs, Mv.mIsi, Mv.isT, Mv.gN, Mv.gT, Mv.setAll, Mv.wipeM, Mv.R.bind_ok, Mv.R.bind_bad, Mv.R.noX_ok, Mv.R.andS_ok, Mv.R.andS_bad, Mv.S.andS_nx, Mv.S.andS_rt, Mv.S.andS_bad, Mv.S.andS_bk, Mv.S.andS_ct, List.map_cons, List.map_nil, List.cons_append, List.nil_append, List.append_nil, List.replicate_succ, List.replicate_zero, List.length_cons, List.length_nil, List.set_cons_zero, List.set_cons_succ, List.getElem?_cons_zero, List.getElem?_cons_succ, List.getElem?_nil, Nat.reduceAdd, Nat.reduceSub, Nat.reduceEqDiff, Nat.reduceLeDiff, Nat.zero_add, if_true, if_false, Bool.not_true, Bool.not_false, Bool.false_eq_true, decide_true, decide_false, ite_true, ite_false, Option.some.injEq, reduceIte, fTuple_at (items_at e6)]
        refine ⟨(1, x) :: r, _, _, rfl, ⟨by simp, by simp at hr ⊢; omega, fun p hp => ?_⟩, ((ex.set).set).set' (Nat.le_refl _), dr3.set (by omega) (by omega), by omega⟩
        rcases List.mem_cons.mp hp with rfl | hp
        · simp only; omega
        · exact hv p (List.mem_cons_of_mem _ hp)
    · have hy' : decide (y = 0) = false := decide_eq_false hy
      simp only [Mv.mDef, Mv.mSeq, Mv.mSet, Mv.mRet, Mv.mRetN, Mv.mIfS, Mv.mVar, Mv.mC, Mv.mBin, Mv.mChain, Mv.mCall, Mv.mDo, Mv.mCons, Mv.mNil, Mv.mAndV, Mv.mOrV, Mv.mNotV, Mv.mAsB, Mv.mAndT, Mv.mOrT, Mv.mNotT, Mv.mIf, Mv.mTup, Mv.mLst, Mv.mNext, Mv.mBad, Mv.mDrop, Mv.mPar, Mv.mAsg, Mv.mStore, Mv.mNeg, Mv.fNeg, Mv.mYes, Mv.mNoP, Mv.mPart, Mv.mSl, Mv.fI, Mv.fAdd, Mv.fSub, Mv.fMul, Mv.fMod, Mv.fDiv, Mv.fPow, Mv.fLt, Mv.fLe, Mv.fGt, Mv.fGe, Mv.yes2, Mv.fIsN, Mv.fNotN, Mv.isNon, Mv.fIx, Mv.items_tup, Mv.items_new, Mv.list_new, Mv.lstOf_new, Mv.fEq_int, Mv.fNe_int, Mv.fLen_tup, Mv.fMax2, Mv.fMin2, Mv.fInt, Mv.fAbs, Mv.mIsi, Mv.isT, Mv.gN, Mv.gT, Mv.setAll, Mv.wipeM, Mv.R.bind_ok, Mv.R.bind_bad, Mv.R.noX_ok, Mv.R.andS_ok, Mv.R.andS_bad, Mv.S.andS_nx, Mv.S.andS_rt, Mv.S.andS_bad, Mv.S.andS_bk, Mv.S.andS_ct, List.map_cons, List.map_nil, List.cons_append, List.nil_append, List.append_nil, List.replicate_succ, List.replicate_zero, List.length_cons, List.length_nil, List.set_cons_zero, List.set_cons_succ, List.getElem?_cons_zero, List.getElem?_cons_succ, List.getElem?_nil, Nat.reduceAdd, Nat.reduceSub, Nat.reduceEqDiff, Nat.reduceLeDiff, Nat.zero_add, if_true, if_false, Bool.not_true, Bool.not_false, Bool.false_eq_true, decide_true, decide_false, ite_true, ite_false, Option.some.injEq, reduceIte, hy', fTuple_at (items_at e3)]
      exact ⟨r, _, _, rfl, ⟨by omega, by omega, hv⟩, ex.set, dr2, by omega⟩
  · rintro i x env h' hx ⟨r, k', x3, e, hr, hv, ex, dr, hk', rfl⟩
    have hi : i < (1 + z).toNat := by
      have := (List.getElem?_eq_some_iff.mp hx).1
      rwa [ints_length, prog_length] at this
    obtain ⟨y, _, rfl⟩ := mem_ints.mp (List.mem_of_getElem? hx)
    obtain ⟨a, o2, e2, a0, a1, dr2⟩ := next_step dr (by omega) (b := 6) (by decide)
    obtain ⟨c, o3, e4, c0, c1, dr3⟩ := next_step dr2 (by omega) (b := most + 1) (by omega)
    have e5 : ((h'.set n o2).set n o3)[h.length]? = some (.lst (r.map pv2)) := by rw [List.getElem?_set_ne (by omega), List.getElem?_set_ne (by omega)]; exact e
    have hc2 : ∀ m, m ≤ 2 → m ≤ cap := fun m hm => by unfold cap; omega
    have hlc : (r.map pv2).length < cap := by rw [List.length_map]; unfold cap; omega
    have hlen : h.length < ((h'.set n o2).set n o3).length := (List.getElem?_eq_some_iff.mp e5).1
    refine ⟨_, rfl, ?_⟩
    simp only [Mv.mDef, Mv.mSeq, Mv.mSet, Mv.mRet, Mv.mRetN, Mv.mIfS, Mv.mVar, Mv.mC, Mv.mBin, Mv.mChain, Mv.mCall, Mv.mDo, Mv.mCons, Mv.mNil, Mv.mAndV, Mv.mOrV, Mv.mNotV, Mv.mAsB, Mv.mAndT, Mv.mOrT, Mv.mNotT, Mv.mIf, Mv.mTup, Mv.mLst, Mv.mNext, Mv.mBad, Mv.mDrop, Mv.mPar, Mv.mAsg, Mv.mStore, Mv.mNeg, Mv.fNeg, Mv.mYes, Mv.mNoP, Mv.mPart, Mv.mSl, Mv.fI, Mv.fAdd, Mv.fSub, Mv.fMul, Mv.fMod, Mv.fDiv, Mv.fPow, Mv.fLt, Mv.fLe, Mv.fGt, Mv.fGe, Mv.yes2, Mv.fIsN, Mv.fNotN, Mv.isNon, Mv.fIx, Mv.items_tup, Mv.items_new, Mv.list_new, Mv.lstOf_new, Mv.fEq_int, Mv.fNe_int, Mv.fLen_tup, Mv.fMax2, Mv.fMin2, Mv.fInt, Mv.fAbs, Mv.mIsi, Mv.isT, Mv.gN, Mv.gT, Mv.setAll, Mv.wipeM, Mv.R.bind_ok, Mv.R.bind_bad, Mv.R.noX_ok, Mv.R.andS_ok, Mv.R.andS_bad, Mv.S.andS_nx, Mv.S.andS_rt, Mv.S.andS_bad, Mv.S.andS_bk, Mv.S.andS_ct, List.map_cons, List.map_nil, List.cons_append, List.nil_append, List.append_nil, List.replicate_succ, List.replicate_zero, List.length_cons, List.length_nil, List.set_cons_zero, List.set_cons_succ, List.getElem?_cons_zero, List.getElem?_cons_succ, List.getElem?_nil, Nat.reduceAdd, Nat.reduceSub, Nat.reduceEqDiff, Nat.reduceLeDiff, Nat.zero_add, if_true, if_false, Bool.not_true, Bool.not_false, Bool.false_eq_true, decide_true, decide_false, ite_true, ite_false, Option.some.injEq, reduceIte, mLm, list_ref, items_at e, e2, e4, hc2 _ (Nat.le_refl 2), fAppend, lstOf_at e5, hlc]
    refine ⟨r ++ [(1 + a, c)], _, _, ?_, by simp [hr], fun p hp => ?_, ((ex.set).set).set' (Nat.le_refl _), dr3.set (by omega) (by omega), by omega, rfl⟩
    · rw [List.getElem?_set_self hlen]
      simp [pv2]
    · rcases List.mem_append.mp hp with hp | hp
      · exact hv p hp
      · have := List.mem_singleton.mp hp
        subst this
        simp only
        omega
  · refine ⟨[], k + 1, none, ?_, rfl, (fun p hp => by cases hp), (Ext.refl.app).set, d1, rfl, rfl⟩
    rw [List.getElem?_set_ne (by omega)]
    exact look_new _ _
end Mv

set_option maxHeartbeats 4000000
namespace Mv
open PySem PySem.Spec L2

theorem fNe_gapV (r : Rule) (age : Int) (h : MH) : fNe (gapV r age) (gapV r age) h = .ok (.bl false) h := by
  unfold gapV
  split
  · rename_i q
    have := q.choose_spec
    generalize q.choose = y at *
    rcases this with ⟨rfl, _⟩ | ⟨m, i, rfl, _⟩
    · rfl
    · have := fNe_tints [m, settled r + (i : Nat)] [m, settled r + (i : Nat)] h
      rw [decide_eq_true rfl] at this
      exact this
  · rfl
noncomputable def G_settled : List MV → MH → R MV := F_settled G_check_rule G_settled_of
noncomputable def G_period : List MV → MH → R MV := F_period G_check_rule G_period_of
noncomputable def G_held : List MV → MH → R MV := F_held G_check_rule (F_check_time F_is_integer) G_held_at
noncomputable def G_l_one_right : List MV → MH → R MV := F_l_one_right G_settled G_settled_of G_period G_l_period G_l_next G_held G_l_held G_greatest G_gap G_l_gap
theorem F_l_one_right_eq {ns : List Int} {s n k : Nat} {h : MH} (d : Draw ns s n h k) (hk : k ≤ 60000) {r : Rule} (v : Valid r) : ∃ h', G_l_one_right [.ref n, rv r] h = .ok (.bl true) h' ∧ Ext n h h' := by
  unfold G_l_one_right F_l_one_right m_l_one_right G_settled G_period G_l_period G_held
  have b6 : inR 6 = true := inR_of (by omega)
  have b73 : inR 73 = true := inR_of (by omega)
  simp only [Mv.mDef, Mv.mSeq, Mv.mSet, Mv.mRet, Mv.mRetN, Mv.mIfS, Mv.mVar, Mv.mC, Mv.mBin, Mv.mChain, Mv.mCall, Mv.mDo, Mv.mCons, Mv.mNil, Mv.mAndV, Mv.mOrV, Mv.mNotV, Mv.mAsB, Mv.mAndT, Mv.mOrT, Mv.mNotT, Mv.mIf, Mv.mTup, Mv.mLst, Mv.mNext, Mv.mBad, Mv.mDrop, Mv.mPar, Mv.mAsg, Mv.mStore, Mv.mNeg, Mv.fNeg, Mv.mYes, Mv.mNoP, Mv.mPart, Mv.mSl, Mv.fI, Mv.fAdd, Mv.fSub, Mv.fMul, Mv.fMod, Mv.fDiv, Mv.fPow, Mv.fLt, Mv.fLe, Mv.fGt, Mv.fGe, Mv.yes2, Mv.fIsN, Mv.fNotN, Mv.isNon, Mv.fIx, Mv.items_tup, Mv.items_new, Mv.list_new, Mv.lstOf_new, Mv.fEq_int, Mv.fNe_int, Mv.fLen_tup, Mv.fMax2, Mv.fMin2, Mv.fInt, Mv.fAbs, Mv.mIsi, Mv.isT, Mv.gN, Mv.gT, Mv.setAll, Mv.wipeM, Mv.R.bind_ok, Mv.R.bind_bad, Mv.R.noX_ok, Mv.R.andS_ok, Mv.R.andS_bad, Mv.S.andS_nx, Mv.S.andS_rt, Mv.S.andS_bad, Mv.S.andS_bk, Mv.S.andS_ct, List.map_cons, List.map_nil, List.cons_append, List.nil_append, List.append_nil, List.replicate_succ, List.replicate_zero, List.length_cons, List.length_nil, List.set_cons_zero, List.set_cons_succ, List.getElem?_cons_zero, List.getElem?_cons_succ, List.getElem?_nil, Nat.reduceAdd, Nat.reduceSub, Nat.reduceEqDiff, Nat.reduceLeDiff, Nat.zero_add, if_true, if_false, Bool.not_true, Bool.not_false, Bool.false_eq_true, decide_true, decide_false, ite_true, ite_false, Option.some.injEq, reduceIte, F_settled_eq v, G_settled_of_eq v, F_period_eq v, G_period_of_eq v, mFor, mRng1, b6, eq_self]
  generalize hF : forGo _ _ _ _ _ _ _ = t
  revert hF
  refine for_ind (xs := ivs (prog 0 1 6)) (P := fun u => u = t → _)
    (fun i env h' => ∃ (k' : Nat) (x2 x3 x4 : Option MV), Ext n h h' ∧ Draw ns s n h' k' ∧ k' = k + i ∧ env = [some (.ref n), some (rv r), x2, x3, x4])
    ?_ ?_ ?_ fuel 0 _ _ ?_ (Nat.zero_le _) (by have := fuel_ge; simp only [ints_length, prog_length]; omega)
  · rintro i env h' _
    exact itR_nx _ _ _ i h'
  · rintro env h' ⟨k', x2, x3, x4, ex, dr, hk', rfl⟩ rfl
    rw [ints_length, prog_length] at hk'
    simp only [Mv.mDef, Mv.mSeq, Mv.mSet, Mv.mRet, Mv.mRetN, Mv.mIfS, Mv.mVar, Mv.mC, Mv.mBin, Mv.mChain, Mv.mCall, Mv.mDo, Mv.mCons, Mv.mNil, Mv.mAndV, Mv.mOrV, Mv.mNotV, Mv.mAsB, Mv.mAndT, Mv.mOrT, Mv.mNotT, Mv.mIf, Mv.mTup, Mv.mLst, Mv.mNext, Mv.mBad, Mv.mDrop, Mv.mPar, Mv.mAsg, Mv.mStore, Mv.mNeg, Mv.fNeg, Mv.mYes, Mv.mNoP, Mv.mPart, Mv.mSl, Mv.fI, Mv.fAdd, Mv.fSub, Mv.fMul, Mv.fMod, Mv.fDiv, Mv.fPow, Mv.fLt, Mv.fLe, Mv.fGt, Mv.fGe, Mv.yes2, Mv.fIsN, Mv.fNotN, Mv.isNon, Mv.fIx, Mv.items_tup, Mv.items_new, Mv.list_new, Mv.lstOf_new, Mv.fEq_int, Mv.fNe_int, Mv.fLen_tup, Mv.fMax2, Mv.fMin2, Mv.fInt, Mv.fAbs, Mv.mIsi, Mv.isT, Mv.gN, Mv.gT, Mv.setAll, Mv.wipeM, Mv.R.bind_ok, Mv.R.bind_bad, Mv.R.noX_ok, Mv.R.andS_ok, Mv.R.andS_bad, Mv.S.andS_nx, Mv.S.andS_rt, Mv.S.andS_bad, Mv.S.andS_bk, Mv.S.andS_ct, List.map_cons, List.map_nil, List.cons_append, List.nil_append, List.append_nil, List.replicate_succ, List.replicate_zero, List.length_cons, List.length_nil, List.set_cons_zero, List.set_cons_succ, List.getElem?_cons_zero, List.getElem?_cons_succ, List.getElem?_nil, Nat.reduceAdd, Nat.reduceSub, Nat.reduceEqDiff, Nat.reduceLeDiff, Nat.zero_add, if_true, if_false, Bool.not_true, Bool.not_false, Bool.false_eq_true, decide_true, decide_false, ite_true, ite_false, Option.some.injEq, reduceIte, G_greatest_eq v, mLc, mRng1, b73]
    rw [comp_pure (l := List.range 73) (enc := fun (k : Nat) => MV.int (k : Int)) (cb := fun _ => true) (f := fun (k : Nat) => MV.int ((heldAt r (k : Int)).length : Int)) (fun i => by
      rw [itR_nx]
      show nxOf (ivs (prog 0 1 73))[i]? = _
      rw [nats_prog]; unfold ivs; rw [List.map_map]; rfl) (by rw [List.length_range]; decide)]
    · rw [filter_yes]
      simp only [Mv.mDef, Mv.mSeq, Mv.mSet, Mv.mRet, Mv.mRetN, Mv.mIfS, Mv.mVar, Mv.mC, Mv.mBin, Mv.mChain, Mv.mCall, Mv.mDo, Mv.mCons, Mv.mNil, Mv.mAndV, Mv.mOrV, Mv.mNotV, Mv.mAsB, Mv.mAndT, Mv.mOrT, Mv.mNotT, Mv.mIf, Mv.mTup, Mv.mLst, Mv.mNext, Mv.mBad, Mv.mDrop, Mv.mPar, Mv.mAsg, Mv.mStore, Mv.mNeg, Mv.fNeg, Mv.mYes, Mv.mNoP, Mv.mPart, Mv.mSl, Mv.fI, Mv.fAdd, Mv.fSub, Mv.fMul, Mv.fMod, Mv.fDiv, Mv.fPow, Mv.fLt, Mv.fLe, Mv.fGt, Mv.fGe, Mv.yes2, Mv.fIsN, Mv.fNotN, Mv.isNon, Mv.fIx, Mv.items_tup, Mv.items_new, Mv.list_new, Mv.lstOf_new, Mv.fEq_int, Mv.fNe_int, Mv.fLen_tup, Mv.fMax2, Mv.fMin2, Mv.fInt, Mv.fAbs, Mv.mIsi, Mv.isT, Mv.gN, Mv.gT, Mv.setAll, Mv.wipeM, Mv.R.bind_ok, Mv.R.bind_bad, Mv.R.noX_ok, Mv.R.andS_ok, Mv.R.andS_bad, Mv.S.andS_nx, Mv.S.andS_rt, Mv.S.andS_bad, Mv.S.andS_bk, Mv.S.andS_ct, List.map_cons, List.map_nil, List.cons_append, List.nil_append, List.append_nil, List.replicate_succ, List.replicate_zero, List.length_cons, List.length_nil, List.set_cons_zero, List.set_cons_succ, List.getElem?_cons_zero, List.getElem?_cons_succ, List.getElem?_nil, Nat.reduceAdd, Nat.reduceSub, Nat.reduceEqDiff, Nat.reduceLeDiff, Nat.zero_add, if_true, if_false, Bool.not_true, Bool.not_false, Bool.false_eq_true, decide_true, decide_false, ite_true, ite_false, Option.some.injEq, reduceIte, fMax_ns (items_new h' _) (ints_map (List.range 73) fun (k : Nat) => ((heldAt r (k : Int)).length : Int)) (lens_ne (r := r) (n := 73) (by decide))]
      have em : maxOf (lens r ((settled r).toNat + turnN r)) = maxOf ((List.range 73).map fun (k : Nat) => ((heldAt r (k : Int)).length : Int)) := greatest_73 v
      rw [em]
      have dr0 := dr.app (g := [MO.lst ((List.range 73).map fun (k : Nat) => MV.int ((heldAt r (k : Int)).length : Int))])
      have ex0 : Ext n h (h' ++ [MO.lst ((List.range 73).map fun (k : Nat) => MV.int ((heldAt r (k : Int)).length : Int))]) := ex.app
      generalize h' ++ [MO.lst ((List.range 73).map fun (k : Nat) => MV.int ((heldAt r (k : Int)).length : Int))] = h2 at *
      obtain ⟨a, o1, e1, a0, a1, dr1⟩ := next_step dr0 (by omega) (b := 13) (by decide)
      obtain ⟨c, o2, e2, c0, c1, dr2⟩ := next_step dr1 (by omega) (b := 6) (by decide)
      have hc3 : ∀ m, m ≤ 3 → m ≤ cap := fun m hm => by unfold cap; omega
      simp only [Mv.mDef, Mv.mSeq, Mv.mSet, Mv.mRet, Mv.mRetN, Mv.mIfS, Mv.mVar, Mv.mC, Mv.mBin, Mv.mChain, Mv.mCall, Mv.mDo, Mv.mCons, Mv.mNil, Mv.mAndV, Mv.mOrV, Mv.mNotV, Mv.mAsB, Mv.mAndT, Mv.mOrT, Mv.mNotT, Mv.mIf, Mv.mTup, Mv.mLst, Mv.mNext, Mv.mBad, Mv.mDrop, Mv.mPar, Mv.mAsg, Mv.mStore, Mv.mNeg, Mv.fNeg, Mv.mYes, Mv.mNoP, Mv.mPart, Mv.mSl, Mv.fI, Mv.fAdd, Mv.fSub, Mv.fMul, Mv.fMod, Mv.fDiv, Mv.fPow, Mv.fLt, Mv.fLe, Mv.fGt, Mv.fGe, Mv.yes2, Mv.fIsN, Mv.fNotN, Mv.isNon, Mv.fIx, Mv.items_tup, Mv.items_new, Mv.list_new, Mv.lstOf_new, Mv.fEq_int, Mv.fNe_int, Mv.fLen_tup, Mv.fMax2, Mv.fMin2, Mv.fInt, Mv.fAbs, Mv.mIsi, Mv.isT, Mv.gN, Mv.gT, Mv.setAll, Mv.wipeM, Mv.R.bind_ok, Mv.R.bind_bad, Mv.R.noX_ok, Mv.R.andS_ok, Mv.R.andS_bad, Mv.S.andS_nx, Mv.S.andS_rt, Mv.S.andS_bad, Mv.S.andS_bk, Mv.S.andS_ct, List.map_cons, List.map_nil, List.cons_append, List.nil_append, List.append_nil, List.replicate_succ, List.replicate_zero, List.length_cons, List.length_nil, List.set_cons_zero, List.set_cons_succ, List.getElem?_cons_zero, List.getElem?_cons_succ, List.getElem?_nil, Nat.reduceAdd, Nat.reduceSub, Nat.reduceEqDiff, Nat.reduceLeDiff, Nat.zero_add, if_true, if_false, Bool.not_true, Bool.not_false, Bool.false_eq_true, decide_true, decide_false, ite_true, ite_false, Option.some.injEq, reduceIte, eq_self, e1, e2, hc3 _ (Nat.le_refl 3), mItV, mFor]
      generalize hF : forGo _ _ _ _ _ _ _ = t
      revert hF
      refine for_ind (xs := ivs [0, a, c]) (P := fun u => u = t → _)
        (fun i env h' => ∃ (x2 x3 x4 : Option MV), Ext n h h' ∧ env = [some (.ref n), some (rv r), x2, x3, x4])
        ?_ ?_ ?_ fuel 0 _ _ ?_ (Nat.zero_le _) (by have := fuel_ge; simp only [ints_length, List.length_cons, List.length_nil]; omega)
      · rintro i env h' _
        exact itT_nx _ i h'
      · rintro env h' ⟨x2, x3, x4, ex, rfl⟩ rfl
        simp only [Mv.mDef, Mv.mSeq, Mv.mSet, Mv.mRet, Mv.mRetN, Mv.mIfS, Mv.mVar, Mv.mC, Mv.mBin, Mv.mChain, Mv.mCall, Mv.mDo, Mv.mCons, Mv.mNil, Mv.mAndV, Mv.mOrV, Mv.mNotV, Mv.mAsB, Mv.mAndT, Mv.mOrT, Mv.mNotT, Mv.mIf, Mv.mTup, Mv.mLst, Mv.mNext, Mv.mBad, Mv.mDrop, Mv.mPar, Mv.mAsg, Mv.mStore, Mv.mNeg, Mv.fNeg, Mv.mYes, Mv.mNoP, Mv.mPart, Mv.mSl, Mv.fI, Mv.fAdd, Mv.fSub, Mv.fMul, Mv.fMod, Mv.fDiv, Mv.fPow, Mv.fLt, Mv.fLe, Mv.fGt, Mv.fGe, Mv.yes2, Mv.fIsN, Mv.fNotN, Mv.isNon, Mv.fIx, Mv.items_tup, Mv.items_new, Mv.list_new, Mv.lstOf_new, Mv.fEq_int, Mv.fNe_int, Mv.fLen_tup, Mv.fMax2, Mv.fMin2, Mv.fInt, Mv.fAbs, Mv.mIsi, Mv.isT, Mv.gN, Mv.gT, Mv.setAll, Mv.wipeM, Mv.R.bind_ok, Mv.R.bind_bad, Mv.R.noX_ok, Mv.R.andS_ok, Mv.R.andS_bad, Mv.S.andS_nx, Mv.S.andS_rt, Mv.S.andS_bad, Mv.S.andS_bk, Mv.S.andS_ct, List.map_cons, List.map_nil, List.cons_append, List.nil_append, List.append_nil, List.replicate_succ, List.replicate_zero, List.length_cons, List.length_nil, List.set_cons_zero, List.set_cons_succ, List.getElem?_cons_zero, List.getElem?_cons_succ, List.getElem?_nil, Nat.reduceAdd, Nat.reduceSub, Nat.reduceEqDiff, Nat.reduceLeDiff, Nat.zero_add, if_true, if_false, Bool.not_true, Bool.not_false, Bool.false_eq_true, decide_true, decide_false, ite_true, ite_false, Option.some.injEq, reduceIte]
        exact ⟨_, rfl, ex⟩
      · rintro i x env h' hx ⟨x2, x3, x4, ex, rfl⟩
        obtain ⟨y, hy, rfl⟩ := mem_ints.mp (List.mem_of_getElem? hx)
        have hy2 : 0 ≤ y ∧ y ≤ 12 := by
          simp only [List.mem_cons, List.mem_nil_iff, or_false] at hy
          omega
        refine ⟨_, rfl, ?_⟩
        simp only [Mv.mDef, Mv.mSeq, Mv.mSet, Mv.mRet, Mv.mRetN, Mv.mIfS, Mv.mVar, Mv.mC, Mv.mBin, Mv.mChain, Mv.mCall, Mv.mDo, Mv.mCons, Mv.mNil, Mv.mAndV, Mv.mOrV, Mv.mNotV, Mv.mAsB, Mv.mAndT, Mv.mOrT, Mv.mNotT, Mv.mIf, Mv.mTup, Mv.mLst, Mv.mNext, Mv.mBad, Mv.mDrop, Mv.mPar, Mv.mAsg, Mv.mStore, Mv.mNeg, Mv.fNeg, Mv.mYes, Mv.mNoP, Mv.mPart, Mv.mSl, Mv.fI, Mv.fAdd, Mv.fSub, Mv.fMul, Mv.fMod, Mv.fDiv, Mv.fPow, Mv.fLt, Mv.fLe, Mv.fGt, Mv.fGe, Mv.yes2, Mv.fIsN, Mv.fNotN, Mv.isNon, Mv.fIx, Mv.items_tup, Mv.items_new, Mv.list_new, Mv.lstOf_new, Mv.fEq_int, Mv.fNe_int, Mv.fLen_tup, Mv.fMax2, Mv.fMin2, Mv.fInt, Mv.fAbs, Mv.mIsi, Mv.isT, Mv.gN, Mv.gT, Mv.setAll, Mv.wipeM, Mv.R.bind_ok, Mv.R.bind_bad, Mv.R.noX_ok, Mv.R.andS_ok, Mv.R.andS_bad, Mv.S.andS_nx, Mv.S.andS_rt, Mv.S.andS_bad, Mv.S.andS_bk, Mv.S.andS_ct, List.map_cons, List.map_nil, List.cons_append, List.nil_append, List.append_nil, List.replicate_succ, List.replicate_zero, List.length_cons, List.length_nil, List.set_cons_zero, List.set_cons_succ, List.getElem?_cons_zero, List.getElem?_cons_succ, List.getElem?_nil, Nat.reduceAdd, Nat.reduceSub, Nat.reduceEqDiff, Nat.reduceLeDiff, Nat.zero_add, if_true, if_false, Bool.not_true, Bool.not_false, Bool.false_eq_true, decide_true, decide_false, ite_true, ite_false, Option.some.injEq, reduceIte, G_gap_eq v hy2.1 hy2.2, G_l_gap_eq v, fNe_gapV]
        exact ⟨_, _, _, ex, rfl⟩
      · exact ⟨_, _, _, ex0.set.set, rfl⟩
    · intro k hk
      have hk := List.mem_range.mp hk
      refine ⟨_, rfl, ?_⟩
      simp only [Mv.mDef, Mv.mSeq, Mv.mSet, Mv.mRet, Mv.mRetN, Mv.mIfS, Mv.mVar, Mv.mC, Mv.mBin, Mv.mChain, Mv.mCall, Mv.mDo, Mv.mCons, Mv.mNil, Mv.mAndV, Mv.mOrV, Mv.mNotV, Mv.mAsB, Mv.mAndT, Mv.mOrT, Mv.mNotT, Mv.mIf, Mv.mTup, Mv.mLst, Mv.mNext, Mv.mBad, Mv.mDrop, Mv.mPar, Mv.mAsg, Mv.mStore, Mv.mNeg, Mv.fNeg, Mv.mYes, Mv.mNoP, Mv.mPart, Mv.mSl, Mv.fI, Mv.fAdd, Mv.fSub, Mv.fMul, Mv.fMod, Mv.fDiv, Mv.fPow, Mv.fLt, Mv.fLe, Mv.fGt, Mv.fGe, Mv.yes2, Mv.fIsN, Mv.fNotN, Mv.isNon, Mv.fIx, Mv.items_tup, Mv.items_new, Mv.list_new, Mv.lstOf_new, Mv.fEq_int, Mv.fNe_int, Mv.fLen_tup, Mv.fMax2, Mv.fMin2, Mv.fInt, Mv.fAbs, Mv.mIsi, Mv.isT, Mv.gN, Mv.gT, Mv.setAll, Mv.wipeM, Mv.R.bind_ok, Mv.R.bind_bad, Mv.R.noX_ok, Mv.R.andS_ok, Mv.R.andS_bad, Mv.S.andS_nx, Mv.S.andS_rt, Mv.S.andS_bad, Mv.S.andS_bk, Mv.S.andS_ct, List.map_cons, List.map_nil, List.cons_append, List.nil_append, List.append_nil, List.replicate_succ, List.replicate_zero, List.length_cons, List.length_nil, List.set_cons_zero, List.set_cons_succ, List.getElem?_cons_zero, List.getElem?_cons_succ, List.getElem?_nil, Nat.reduceAdd, Nat.reduceSub, Nat.reduceEqDiff, Nat.reduceLeDiff, Nat.zero_add, if_true, if_false, Bool.not_true, Bool.not_false, Bool.false_eq_true, decide_true, decide_false, ite_true, ite_false, Option.some.injEq, reduceIte, G_l_held_eq v (t := (k : Int)) (by omega) (by omega), ints_length]
      exact ⟨trivial, fun _ => trivial⟩
  · rintro i x env h' hx ⟨k', x2, x3, x4, ex, dr, hk', rfl⟩
    have hi : i < 6 := by
      have := (List.getElem?_eq_some_iff.mp hx).1
      rwa [ints_length, prog_length] at this
    obtain ⟨y, hy, rfl⟩ := mem_ints.mp (List.mem_of_getElem? hx)
    obtain ⟨a, o1, e1, a0, a1, dr1⟩ := next_step dr (by omega) (b := 40) (by decide)
    refine ⟨_, rfl, ?_⟩
    by_cases q : y < 5
    · have q' : decide (y < 5) = true := decide_eq_true q
      simp only [Mv.mDef, Mv.mSeq, Mv.mSet, Mv.mRet, Mv.mRetN, Mv.mIfS, Mv.mVar, Mv.mC, Mv.mBin, Mv.mChain, Mv.mCall, Mv.mDo, Mv.mCons, Mv.mNil, Mv.mAndV, Mv.mOrV, Mv.mNotV, Mv.mAsB, Mv.mAndT, Mv.mOrT, Mv.mNotT, Mv.mIf, Mv.mTup, Mv.mLst, Mv.mNext, Mv.mBad, Mv.mDrop, Mv.mPar, Mv.mAsg, Mv.mStore, Mv.mNeg, Mv.fNeg, Mv.mYes, Mv.mNoP, Mv.mPart, Mv.mSl, Mv.fI, Mv.fAdd, Mv.fSub, Mv.fMul, Mv.fMod, Mv.fDiv, Mv.fPow, Mv.fLt, Mv.fLe, Mv.fGt, Mv.fGe, Mv.yes2, Mv.fIsN, Mv.fNotN, Mv.isNon, Mv.fIx, Mv.items_tup, Mv.items_new, Mv.list_new, Mv.lstOf_new, Mv.fEq_int, Mv.fNe_int, Mv.fLen_tup, Mv.fMax2, Mv.fMin2, Mv.fInt, Mv.fAbs, Mv.mIsi, Mv.isT, Mv.gN, Mv.gT, Mv.setAll, Mv.wipeM, Mv.R.bind_ok, Mv.R.bind_bad, Mv.R.noX_ok, Mv.R.andS_ok, Mv.R.andS_bad, Mv.S.andS_nx, Mv.S.andS_rt, Mv.S.andS_bad, Mv.S.andS_bk, Mv.S.andS_ct, List.map_cons, List.map_nil, List.cons_append, List.nil_append, List.append_nil, List.replicate_succ, List.replicate_zero, List.length_cons, List.length_nil, List.set_cons_zero, List.set_cons_succ, List.getElem?_cons_zero, List.getElem?_cons_succ, List.getElem?_nil, Nat.reduceAdd, Nat.reduceSub, Nat.reduceEqDiff, Nat.reduceLeDiff, Nat.zero_add, if_true, if_false, Bool.not_true, Bool.not_false, Bool.false_eq_true, decide_true, decide_false, ite_true, ite_false, Option.some.injEq, reduceIte, q', e1, F_held_eq v (t := a) (by omega) (by omega), G_l_held_eq v (t := a) (by omega) (by omega), fNe_tints, eq_self]
      exact ⟨_, _, _, _, ex.set, dr1, by omega, rfl⟩
    · have q' : decide (y < 5) = false := decide_eq_false q
      simp only [Mv.mDef, Mv.mSeq, Mv.mSet, Mv.mRet, Mv.mRetN, Mv.mIfS, Mv.mVar, Mv.mC, Mv.mBin, Mv.mChain, Mv.mCall, Mv.mDo, Mv.mCons, Mv.mNil, Mv.mAndV, Mv.mOrV, Mv.mNotV, Mv.mAsB, Mv.mAndT, Mv.mOrT, Mv.mNotT, Mv.mIf, Mv.mTup, Mv.mLst, Mv.mNext, Mv.mBad, Mv.mDrop, Mv.mPar, Mv.mAsg, Mv.mStore, Mv.mNeg, Mv.fNeg, Mv.mYes, Mv.mNoP, Mv.mPart, Mv.mSl, Mv.fI, Mv.fAdd, Mv.fSub, Mv.fMul, Mv.fMod, Mv.fDiv, Mv.fPow, Mv.fLt, Mv.fLe, Mv.fGt, Mv.fGe, Mv.yes2, Mv.fIsN, Mv.fNotN, Mv.isNon, Mv.fIx, Mv.items_tup, Mv.items_new, Mv.list_new, Mv.lstOf_new, Mv.fEq_int, Mv.fNe_int, Mv.fLen_tup, Mv.fMax2, Mv.fMin2, Mv.fInt, Mv.fAbs, Mv.mIsi, Mv.isT, Mv.gN, Mv.gT, Mv.setAll, Mv.wipeM, Mv.R.bind_ok, Mv.R.bind_bad, Mv.R.noX_ok, Mv.R.andS_ok, Mv.R.andS_bad, Mv.S.andS_nx, Mv.S.andS_rt, Mv.S.andS_bad, Mv.S.andS_bk, Mv.S.andS_ct, List.map_cons, List.map_nil, List.cons_append, List.nil_append, List.append_nil, List.replicate_succ, List.replicate_zero, List.length_cons, List.length_nil, List.set_cons_zero, List.set_cons_succ, List.getElem?_cons_zero, List.getElem?_cons_succ, List.getElem?_nil, Nat.reduceAdd, Nat.reduceSub, Nat.reduceEqDiff, Nat.reduceLeDiff, Nat.zero_add, if_true, if_false, Bool.not_true, Bool.not_false, Bool.false_eq_true, decide_true, decide_false, ite_true, ite_false, Option.some.injEq, reduceIte, q', e1, F_held_eq v (t := 961 + a) (by omega) (by omega), G_l_held_eq v (t := 961 + a) (by omega) (by omega), fNe_tints, eq_self]
      exact ⟨_, _, _, _, ex.set, dr1, by omega, rfl⟩
  · exact ⟨k, _, _, _, Ext.refl, d, rfl, rfl⟩
noncomputable def G_l_rule : List MV → MH → R MV := F_l_rule G_l_next
theorem F_law_eq {ns : List Int} {s : Nat} {h : MH} (q : HasScript h s ns) : ∃ h', F_law G_l_rule G_l_one_right [.ref s] h = .ok (.bl true) h' := by
  unfold F_law m_law G_l_rule
  generalize em : (if (if (ns.length : Int) < 16 then (ns.length : Int) else 16) > 1 then (if (ns.length : Int) < 16 then (ns.length : Int) else 16) else 1) = m
  have hm : 1 ≤ m ∧ m ≤ 16 := by rw [← em]; split <;> split <;> omega
  have b0 : inR 0 = true := inR_of (by omega)
  have bm : inR m = true := inR_of (by omega)
  have b4 : (0 : Int) < 4 ∧ (4 : Int) < 1000000 := by decide
  simp only [Mv.mDef, Mv.mSeq, Mv.mSet, Mv.mRet, Mv.mRetN, Mv.mIfS, Mv.mVar, Mv.mC, Mv.mBin, Mv.mChain, Mv.mCall, Mv.mDo, Mv.mCons, Mv.mNil, Mv.mAndV, Mv.mOrV, Mv.mNotV, Mv.mAsB, Mv.mAndT, Mv.mOrT, Mv.mNotT, Mv.mIf, Mv.mTup, Mv.mLst, Mv.mNext, Mv.mBad, Mv.mDrop, Mv.mPar, Mv.mAsg, Mv.mStore, Mv.mNeg, Mv.fNeg, Mv.mYes, Mv.mNoP, Mv.mPart, Mv.mSl, Mv.fI, Mv.fAdd, Mv.fSub, Mv.fMul, Mv.fMod, Mv.fDiv, Mv.fPow, Mv.fLt, Mv.fLe, Mv.fGt, Mv.fGe, Mv.yes2, Mv.fIsN, Mv.fNotN, Mv.isNon, Mv.fIx, Mv.items_tup, Mv.items_new, Mv.list_new, Mv.lstOf_new, Mv.fEq_int, Mv.fNe_int, Mv.fLen_tup, Mv.fMax2, Mv.fMin2, Mv.fInt, Mv.fAbs, Mv.mIsi, Mv.isT, Mv.gN, Mv.gT, Mv.setAll, Mv.wipeM, Mv.R.bind_ok, Mv.R.bind_bad, Mv.R.noX_ok, Mv.R.andS_ok, Mv.R.andS_bad, Mv.S.andS_nx, Mv.S.andS_rt, Mv.S.andS_bad, Mv.S.andS_bk, Mv.S.andS_ct, List.map_cons, List.map_nil, List.cons_append, List.nil_append, List.append_nil, List.replicate_succ, List.replicate_zero, List.length_cons, List.length_nil, List.set_cons_zero, List.set_cons_succ, List.getElem?_cons_zero, List.getElem?_cons_succ, List.getElem?_nil, Nat.reduceAdd, Nat.reduceSub, Nat.reduceEqDiff, Nat.reduceLeDiff, Nat.zero_add, if_true, if_false, Bool.not_true, Bool.not_false, Bool.false_eq_true, decide_true, decide_false, ite_true, ite_false, Option.some.injEq, reduceIte, fLen_items q.items, ints_length, mFor, mRng3, em, b0, bm, b4, and_self]
  have hr : rngN 0 m 4 ≤ 16 := by
    unfold rngN
    split
    · have : (m - 0 - 1) / 4 ≤ m - 0 - 1 := Int.ediv_le_self _ (by omega)
      omega
    · omega
  generalize hF : forGo _ _ _ _ _ _ _ = t
  revert hF
  refine for_ind (xs := ivs (prog 0 4 (rngN 0 m 4))) (P := fun u => u = t → _)
    (fun i env h' => ∃ (x1 x2 : Option MV), HasScript h' s ns ∧ env = [some (.ref s), x1, x2])
    ?_ ?_ ?_ fuel 0 _ _ ?_ (Nat.zero_le _) (by have := fuel_ge; simp only [ints_length, prog_length]; omega)
  · rintro i env h' _
    exact itR_nx _ _ _ i h'
  · rintro env h' ⟨x1, x2, q, rfl⟩ rfl
    simp only [Mv.mDef, Mv.mSeq, Mv.mSet, Mv.mRet, Mv.mRetN, Mv.mIfS, Mv.mVar, Mv.mC, Mv.mBin, Mv.mChain, Mv.mCall, Mv.mDo, Mv.mCons, Mv.mNil, Mv.mAndV, Mv.mOrV, Mv.mNotV, Mv.mAsB, Mv.mAndT, Mv.mOrT, Mv.mNotT, Mv.mIf, Mv.mTup, Mv.mLst, Mv.mNext, Mv.mBad, Mv.mDrop, Mv.mPar, Mv.mAsg, Mv.mStore, Mv.mNeg, Mv.fNeg, Mv.mYes, Mv.mNoP, Mv.mPart, Mv.mSl, Mv.fI, Mv.fAdd, Mv.fSub, Mv.fMul, Mv.fMod, Mv.fDiv, Mv.fPow, Mv.fLt, Mv.fLe, Mv.fGt, Mv.fGe, Mv.yes2, Mv.fIsN, Mv.fNotN, Mv.isNon, Mv.fIx, Mv.items_tup, Mv.items_new, Mv.list_new, Mv.lstOf_new, Mv.fEq_int, Mv.fNe_int, Mv.fLen_tup, Mv.fMax2, Mv.fMin2, Mv.fInt, Mv.fAbs, Mv.mIsi, Mv.isT, Mv.gN, Mv.gT, Mv.setAll, Mv.wipeM, Mv.R.bind_ok, Mv.R.bind_bad, Mv.R.noX_ok, Mv.R.andS_ok, Mv.R.andS_bad, Mv.S.andS_nx, Mv.S.andS_rt, Mv.S.andS_bad, Mv.S.andS_bk, Mv.S.andS_ct, List.map_cons, List.map_nil, List.cons_append, List.nil_append, List.append_nil, List.replicate_succ, List.replicate_zero, List.length_cons, List.length_nil, List.set_cons_zero, List.set_cons_succ, List.getElem?_cons_zero, List.getElem?_cons_succ, List.getElem?_nil, Nat.reduceAdd, Nat.reduceSub, Nat.reduceEqDiff, Nat.reduceLeDiff, Nat.zero_add, if_true, if_false, Bool.not_true, Bool.not_false, Bool.false_eq_true, decide_true, decide_false, ite_true, ite_false, Option.some.injEq, reduceIte]
    exact ⟨_, rfl⟩
  · rintro i x env h' hx ⟨x1, x2, q, rfl⟩
    obtain ⟨y, hy, rfl⟩ := mem_ints.mp (List.mem_of_getElem? hx)
    obtain ⟨j, _, ey⟩ := mem_prog.mp hy
    have hn : s ≠ h'.length := fun z => by have := q.lt; omega
    have d : Draw ns s h'.length (h' ++ [.lst [.ref s, .int y, .int 0]]) 0 := ⟨q.app, hn, y.toNat, by
      have : ((y.toNat : Nat) : Int) = y := by omega
      unfold drawO
      rw [this]
      exact look_new _ _⟩
    obtain ⟨r, h2, k2, e1, v, ex, d2, hk⟩ := F_l_rule_eq d (by omega) (most := 12) (by decide) (by decide)
    obtain ⟨h3, e2, ex2⟩ := F_l_one_right_eq d2 (by omega) v
    have hc3 : ∀ m, m ≤ 3 → m ≤ cap := fun m hm => by unfold cap; omega
    refine ⟨_, rfl, ?_⟩
    simp only [Mv.mDef, Mv.mSeq, Mv.mSet, Mv.mRet, Mv.mRetN, Mv.mIfS, Mv.mVar, Mv.mC, Mv.mBin, Mv.mChain, Mv.mCall, Mv.mDo, Mv.mCons, Mv.mNil, Mv.mAndV, Mv.mOrV, Mv.mNotV, Mv.mAsB, Mv.mAndT, Mv.mOrT, Mv.mNotT, Mv.mIf, Mv.mTup, Mv.mLst, Mv.mNext, Mv.mBad, Mv.mDrop, Mv.mPar, Mv.mAsg, Mv.mStore, Mv.mNeg, Mv.fNeg, Mv.mYes, Mv.mNoP, Mv.mPart, Mv.mSl, Mv.fI, Mv.fAdd, Mv.fSub, Mv.fMul, Mv.fMod, Mv.fDiv, Mv.fPow, Mv.fLt, Mv.fLe, Mv.fGt, Mv.fGe, Mv.yes2, Mv.fIsN, Mv.fNotN, Mv.isNon, Mv.fIx, Mv.items_tup, Mv.items_new, Mv.list_new, Mv.lstOf_new, Mv.fEq_int, Mv.fNe_int, Mv.fLen_tup, Mv.fMax2, Mv.fMin2, Mv.fInt, Mv.fAbs, Mv.mIsi, Mv.isT, Mv.gN, Mv.gT, Mv.setAll, Mv.wipeM, Mv.R.bind_ok, Mv.R.bind_bad, Mv.R.noX_ok, Mv.R.andS_ok, Mv.R.andS_bad, Mv.S.andS_nx, Mv.S.andS_rt, Mv.S.andS_bad, Mv.S.andS_bk, Mv.S.andS_ct, List.map_cons, List.map_nil, List.cons_append, List.nil_append, List.append_nil, List.replicate_succ, List.replicate_zero, List.length_cons, List.length_nil, List.set_cons_zero, List.set_cons_succ, List.getElem?_cons_zero, List.getElem?_cons_succ, List.getElem?_nil, Nat.reduceAdd, Nat.reduceSub, Nat.reduceEqDiff, Nat.reduceLeDiff, Nat.zero_add, if_true, if_false, Bool.not_true, Bool.not_false, Bool.false_eq_true, decide_true, decide_false, ite_true, ite_false, Option.some.injEq, reduceIte, hc3 _ (Nat.le_refl 3), e1, e2]
    exact ⟨_, _, ex2.script d2.scr hn, rfl⟩
  · exact ⟨_, _, q, rfl⟩
end Mv

set_option maxHeartbeats 4000000
namespace Mv
open PySem PySem.Spec L2
open PyProof.Rows hiding St
def noList (K : PySem.W.Frag) : Bool := K.all fun p => match p.2.cls with | .type n => !(n == "list") | _ => true
theorem noList_ne {K : PySem.W.Frag} (z : noList K = true) {a : Addr} {o : Obj} (e : K.lookup a = some o) : o.cls ≠ .type "list" := fun q => by
  have hm : ∀ (K : PySem.W.Frag), K.lookup a = some o → ∃ p ∈ K, p.2 = o := fun K => by
    induction K with
    | nil => intro e; cases e
    | cons x K ih =>
      intro e
      rw [List.lookup_cons] at e
      split at e
      · cases e
        exact ⟨x, List.mem_cons_self .., rfl⟩
      · obtain ⟨p, h1, h2⟩ := ih e
        exact ⟨p, List.mem_cons_of_mem _ h1, h2⟩
  obtain ⟨p, h1, h2⟩ := hm K e
  have := List.all_eq_true.mp z p h1
  rw [h2, q] at this
  cases this
theorem script_in {K : PySem.W.Frag} (z : noList K = true) {H : Hp} {a : Addr} {ns : List Int} (hl : ns.length ≤ 63) (hO : Only H) (hS : SqL K H a (ns.map V.int)) : HR K [a] H [.frz (ivs ns)] ∧ IsVs K [a] H [.ref 0] [.ref a] ∧ HasScript [.frz (ivs ns)] 0 ns := by
  have hi : ∀ ns : List Int, IsVs K [a] H (ivs ns) (ns.map V.int) := fun ns => by
    induction ns with
    | nil => exact .nil
    | cons n ns ih => exact .cons (.int n) ih
  have hH : ∃ o, H a = some (.frz o (.lst (ns.map V.int))) := by
    rcases hS with (q | ⟨o, q⟩) | ⟨o, _, _, q, c, _⟩
    · rcases hO a with y | ⟨_, _, y⟩
      · rw [q] at y; cases y
      · rw [q] at y; cases y
    · exact ⟨o, q⟩
    · exact absurd c (noList_ne z q)
  obtain ⟨o, hH⟩ := hH
  refine ⟨⟨rfl, by simp, fun n b u e1 e2 => ?_⟩, .cons (.ref rfl) .nil, .inr rfl⟩
  cases n with
  | zero =>
    cases e1
    cases e2
    exact ⟨by rw [ints_length]; exact Nat.le_trans hl (by decide), o, _, hH, hi ns⟩
  | succ n => cases e1
theorem all_mk {P : Program} {w : World} {K : PySem.W.Frag} {h : Heap} {mg : Str → Option Value} {fa : Addr} (X : K.In h) (G : h.Ns mainGlobals mg) (hfa : mg "law" = some (.ref fa))
    {f0 : Addr} {od0 an0 : Option Addr} {sl0 : Array (Option Value)} {oc0 kV0 dc0 pm0 cd0 ct0 : Value}
    (a0 : PySem.W.nsIn K mainGlobals "is_integer" = some (some (.ref f0))) (l0 : K.lookup f0 = some ⟨oc0, od0, .func (PySem.W.fnOf "is_integer" "is_integer" (defArgs s_is_integer) (defBody s_is_integer) (defScope s_is_integer) .none kV0 dc0 pm0 an0 cd0 ct0), sl0⟩) (c0 : PySem.W.codeIn K cd0 "is_integer" = true) (k0 : PySem.W.keepIn K (.ref f0) = true)
    {f1 : Addr} {od1 an1 : Option Addr} {sl1 : Array (Option Value)} {oc1 kV1 dc1 pm1 cd1 ct1 : Value}
    (a1 : PySem.W.nsIn K mainGlobals "is_pair" = some (some (.ref f1))) (l1 : K.lookup f1 = some ⟨oc1, od1, .func (PySem.W.fnOf "is_pair" "is_pair" (defArgs s_is_pair) (defBody s_is_pair) (defScope s_is_pair) .none kV1 dc1 pm1 an1 cd1 ct1), sl1⟩) (c1 : PySem.W.codeIn K cd1 "is_pair" = true) (k1 : PySem.W.keepIn K (.ref f1) = true)
    {f2 : Addr} {od2 an2 : Option Addr} {sl2 : Array (Option Value)} {oc2 kV2 dc2 pm2 cd2 ct2 : Value}
    (a2 : PySem.W.nsIn K mainGlobals "check_rule" = some (some (.ref f2))) (l2 : K.lookup f2 = some ⟨oc2, od2, .func (PySem.W.fnOf "check_rule" "check_rule" (defArgs s_check_rule) (defBody s_check_rule) (defScope s_check_rule) .none kV2 dc2 pm2 an2 cd2 ct2), sl2⟩) (c2 : PySem.W.codeIn K cd2 "check_rule" = true) (k2 : PySem.W.keepIn K (.ref f2) = true)
    {f3 : Addr} {od3 an3 : Option Addr} {sl3 : Array (Option Value)} {oc3 kV3 dc3 pm3 cd3 ct3 : Value}
    (a3 : PySem.W.nsIn K mainGlobals "check_time" = some (some (.ref f3))) (l3 : K.lookup f3 = some ⟨oc3, od3, .func (PySem.W.fnOf "check_time" "check_time" (defArgs s_check_time) (defBody s_check_time) (defScope s_check_time) .none kV3 dc3 pm3 an3 cd3 ct3), sl3⟩) (c3 : PySem.W.codeIn K cd3 "check_time" = true) (k3 : PySem.W.keepIn K (.ref f3) = true)
    {f4 : Addr} {od4 an4 : Option Addr} {sl4 : Array (Option Value)} {oc4 kV4 dc4 pm4 cd4 ct4 : Value}
    (a4 : PySem.W.nsIn K mainGlobals "is_held" = some (some (.ref f4))) (l4 : K.lookup f4 = some ⟨oc4, od4, .func (PySem.W.fnOf "is_held" "is_held" (defArgs s_is_held) (defBody s_is_held) (defScope s_is_held) .none kV4 dc4 pm4 an4 cd4 ct4), sl4⟩) (c4 : PySem.W.codeIn K cd4 "is_held" = true) (k4 : PySem.W.keepIn K (.ref f4) = true)
    {f5 : Addr} {od5 an5 : Option Addr} {sl5 : Array (Option Value)} {oc5 kV5 dc5 pm5 cd5 ct5 : Value}
    (a5 : PySem.W.nsIn K mainGlobals "settled_of" = some (some (.ref f5))) (l5 : K.lookup f5 = some ⟨oc5, od5, .func (PySem.W.fnOf "settled_of" "settled_of" (defArgs s_settled_of) (defBody s_settled_of) (defScope s_settled_of) .none kV5 dc5 pm5 an5 cd5 ct5), sl5⟩) (c5 : PySem.W.codeIn K cd5 "settled_of" = true) (k5 : PySem.W.keepIn K (.ref f5) = true)
    {f6 : Addr} {od6 an6 : Option Addr} {sl6 : Array (Option Value)} {oc6 kV6 dc6 pm6 cd6 ct6 : Value}
    (a6 : PySem.W.nsIn K mainGlobals "held_at" = some (some (.ref f6))) (l6 : K.lookup f6 = some ⟨oc6, od6, .func (PySem.W.fnOf "held_at" "held_at" (defArgs s_held_at) (defBody s_held_at) (defScope s_held_at) .none kV6 dc6 pm6 an6 cd6 ct6), sl6⟩) (c6 : PySem.W.codeIn K cd6 "held_at" = true) (k6 : PySem.W.keepIn K (.ref f6) = true)
    {f7 : Addr} {od7 an7 : Option Addr} {sl7 : Array (Option Value)} {oc7 kV7 dc7 pm7 cd7 ct7 : Value}
    (a7 : PySem.W.nsIn K mainGlobals "common" = some (some (.ref f7))) (l7 : K.lookup f7 = some ⟨oc7, od7, .func (PySem.W.fnOf "common" "common" (defArgs s_common) (defBody s_common) (defScope s_common) .none kV7 dc7 pm7 an7 cd7 ct7), sl7⟩) (c7 : PySem.W.codeIn K cd7 "common" = true) (k7 : PySem.W.keepIn K (.ref f7) = true)
    {f8 : Addr} {od8 an8 : Option Addr} {sl8 : Array (Option Value)} {oc8 kV8 dc8 pm8 cd8 ct8 : Value}
    (a8 : PySem.W.nsIn K mainGlobals "turn_of" = some (some (.ref f8))) (l8 : K.lookup f8 = some ⟨oc8, od8, .func (PySem.W.fnOf "turn_of" "turn_of" (defArgs s_turn_of) (defBody s_turn_of) (defScope s_turn_of) .none kV8 dc8 pm8 an8 cd8 ct8), sl8⟩) (c8 : PySem.W.codeIn K cd8 "turn_of" = true) (k8 : PySem.W.keepIn K (.ref f8) = true)
    {f9 : Addr} {od9 an9 : Option Addr} {sl9 : Array (Option Value)} {oc9 kV9 dc9 pm9 cd9 ct9 : Value}
    (a9 : PySem.W.nsIn K mainGlobals "round_of" = some (some (.ref f9))) (l9 : K.lookup f9 = some ⟨oc9, od9, .func (PySem.W.fnOf "round_of" "round_of" (defArgs s_round_of) (defBody s_round_of) (defScope s_round_of) .none kV9 dc9 pm9 an9 cd9 ct9), sl9⟩) (c9 : PySem.W.codeIn K cd9 "round_of" = true) (k9 : PySem.W.keepIn K (.ref f9) = true)
    {f10 : Addr} {od10 an10 : Option Addr} {sl10 : Array (Option Value)} {oc10 kV10 dc10 pm10 cd10 ct10 : Value}
    (a10 : PySem.W.nsIn K mainGlobals "period_of" = some (some (.ref f10))) (l10 : K.lookup f10 = some ⟨oc10, od10, .func (PySem.W.fnOf "period_of" "period_of" (defArgs s_period_of) (defBody s_period_of) (defScope s_period_of) .none kV10 dc10 pm10 an10 cd10 ct10), sl10⟩) (c10 : PySem.W.codeIn K cd10 "period_of" = true) (k10 : PySem.W.keepIn K (.ref f10) = true)
    {f11 : Addr} {od11 an11 : Option Addr} {sl11 : Array (Option Value)} {oc11 kV11 dc11 pm11 cd11 ct11 : Value}
    (a11 : PySem.W.nsIn K mainGlobals "held" = some (some (.ref f11))) (l11 : K.lookup f11 = some ⟨oc11, od11, .func (PySem.W.fnOf "held" "held" (defArgs s_held) (defBody s_held) (defScope s_held) .none kV11 dc11 pm11 an11 cd11 ct11), sl11⟩) (c11 : PySem.W.codeIn K cd11 "held" = true) (k11 : PySem.W.keepIn K (.ref f11) = true)
    {f12 : Addr} {od12 an12 : Option Addr} {sl12 : Array (Option Value)} {oc12 kV12 dc12 pm12 cd12 ct12 : Value}
    (a12 : PySem.W.nsIn K mainGlobals "settled" = some (some (.ref f12))) (l12 : K.lookup f12 = some ⟨oc12, od12, .func (PySem.W.fnOf "settled" "settled" (defArgs s_settled) (defBody s_settled) (defScope s_settled) .none kV12 dc12 pm12 an12 cd12 ct12), sl12⟩) (c12 : PySem.W.codeIn K cd12 "settled" = true) (k12 : PySem.W.keepIn K (.ref f12) = true)
    {f13 : Addr} {od13 an13 : Option Addr} {sl13 : Array (Option Value)} {oc13 kV13 dc13 pm13 cd13 ct13 : Value}
    (a13 : PySem.W.nsIn K mainGlobals "period" = some (some (.ref f13))) (l13 : K.lookup f13 = some ⟨oc13, od13, .func (PySem.W.fnOf "period" "period" (defArgs s_period) (defBody s_period) (defScope s_period) .none kV13 dc13 pm13 an13 cd13 ct13), sl13⟩) (c13 : PySem.W.codeIn K cd13 "period" = true) (k13 : PySem.W.keepIn K (.ref f13) = true)
    {f14 : Addr} {od14 an14 : Option Addr} {sl14 : Array (Option Value)} {oc14 kV14 dc14 pm14 cd14 ct14 : Value}
    (a14 : PySem.W.nsIn K mainGlobals "greatest" = some (some (.ref f14))) (l14 : K.lookup f14 = some ⟨oc14, od14, .func (PySem.W.fnOf "greatest" "greatest" (defArgs s_greatest) (defBody s_greatest) (defScope s_greatest) .none kV14 dc14 pm14 an14 cd14 ct14), sl14⟩) (c14 : PySem.W.codeIn K cd14 "greatest" = true) (k14 : PySem.W.keepIn K (.ref f14) = true)
    {f15 : Addr} {od15 an15 : Option Addr} {sl15 : Array (Option Value)} {oc15 kV15 dc15 pm15 cd15 ct15 : Value}
    (a15 : PySem.W.nsIn K mainGlobals "gap" = some (some (.ref f15))) (l15 : K.lookup f15 = some ⟨oc15, od15, .func (PySem.W.fnOf "gap" "gap" (defArgs s_gap) (defBody s_gap) (defScope s_gap) .none kV15 dc15 pm15 an15 cd15 ct15), sl15⟩) (c15 : PySem.W.codeIn K cd15 "gap" = true) (k15 : PySem.W.keepIn K (.ref f15) = true)
    {f16 : Addr} {od16 an16 : Option Addr} {sl16 : Array (Option Value)} {oc16 kV16 dc16 pm16 cd16 ct16 : Value}
    (a16 : PySem.W.nsIn K mainGlobals "_law_cell_at" = some (some (.ref f16))) (l16 : K.lookup f16 = some ⟨oc16, od16, .func (PySem.W.fnOf "_law_cell_at" "_law_cell_at" (defArgs s_l_cell_at) (defBody s_l_cell_at) (defScope s_l_cell_at) .none kV16 dc16 pm16 an16 cd16 ct16), sl16⟩) (c16 : PySem.W.codeIn K cd16 "_law_cell_at" = true) (k16 : PySem.W.keepIn K (.ref f16) = true)
    {f17 : Addr} {od17 an17 : Option Addr} {sl17 : Array (Option Value)} {oc17 kV17 dc17 pm17 cd17 ct17 : Value}
    (a17 : PySem.W.nsIn K mainGlobals "_law_draw" = some (some (.ref f17))) (l17 : K.lookup f17 = some ⟨oc17, od17, .func (PySem.W.fnOf "_law_draw" "_law_draw" (defArgs s_l_draw) (defBody s_l_draw) (defScope s_l_draw) .none kV17 dc17 pm17 an17 cd17 ct17), sl17⟩) (c17 : PySem.W.codeIn K cd17 "_law_draw" = true) (k17 : PySem.W.keepIn K (.ref f17) = true)
    {f18 : Addr} {od18 an18 : Option Addr} {sl18 : Array (Option Value)} {oc18 kV18 dc18 pm18 cd18 ct18 : Value}
    (a18 : PySem.W.nsIn K mainGlobals "_law_number" = some (some (.ref f18))) (l18 : K.lookup f18 = some ⟨oc18, od18, .func (PySem.W.fnOf "_law_number" "_law_number" (defArgs s_l_number) (defBody s_l_number) (defScope s_l_number) .none kV18 dc18 pm18 an18 cd18 ct18), sl18⟩) (c18 : PySem.W.codeIn K cd18 "_law_number" = true) (k18 : PySem.W.keepIn K (.ref f18) = true)
    {f19 : Addr} {od19 an19 : Option Addr} {sl19 : Array (Option Value)} {oc19 kV19 dc19 pm19 cd19 ct19 : Value}
    (a19 : PySem.W.nsIn K mainGlobals "_law_next" = some (some (.ref f19))) (l19 : K.lookup f19 = some ⟨oc19, od19, .func (PySem.W.fnOf "_law_next" "_law_next" (defArgs s_l_next) (defBody s_l_next) (defScope s_l_next) .none kV19 dc19 pm19 an19 cd19 ct19), sl19⟩) (c19 : PySem.W.codeIn K cd19 "_law_next" = true) (k19 : PySem.W.keepIn K (.ref f19) = true)
    {f20 : Addr} {od20 an20 : Option Addr} {sl20 : Array (Option Value)} {oc20 kV20 dc20 pm20 cd20 ct20 : Value}
    (a20 : PySem.W.nsIn K mainGlobals "_law_rule" = some (some (.ref f20))) (l20 : K.lookup f20 = some ⟨oc20, od20, .func (PySem.W.fnOf "_law_rule" "_law_rule" (defArgs s_l_rule) (defBody s_l_rule) (defScope s_l_rule) .none kV20 dc20 pm20 an20 cd20 ct20), sl20⟩) (c20 : PySem.W.codeIn K cd20 "_law_rule" = true) (k20 : PySem.W.keepIn K (.ref f20) = true)
    {f21 : Addr} {od21 an21 : Option Addr} {sl21 : Array (Option Value)} {oc21 kV21 dc21 pm21 cd21 ct21 : Value}
    (a21 : PySem.W.nsIn K mainGlobals "_law_held" = some (some (.ref f21))) (l21 : K.lookup f21 = some ⟨oc21, od21, .func (PySem.W.fnOf "_law_held" "_law_held" (defArgs s_l_held) (defBody s_l_held) (defScope s_l_held) .none kV21 dc21 pm21 an21 cd21 ct21), sl21⟩) (c21 : PySem.W.codeIn K cd21 "_law_held" = true) (k21 : PySem.W.keepIn K (.ref f21) = true)
    {f22 : Addr} {od22 an22 : Option Addr} {sl22 : Array (Option Value)} {oc22 kV22 dc22 pm22 cd22 ct22 : Value}
    (a22 : PySem.W.nsIn K mainGlobals "_law_settled" = some (some (.ref f22))) (l22 : K.lookup f22 = some ⟨oc22, od22, .func (PySem.W.fnOf "_law_settled" "_law_settled" (defArgs s_l_settled) (defBody s_l_settled) (defScope s_l_settled) .none kV22 dc22 pm22 an22 cd22 ct22), sl22⟩) (c22 : PySem.W.codeIn K cd22 "_law_settled" = true) (k22 : PySem.W.keepIn K (.ref f22) = true)
    {f23 : Addr} {od23 an23 : Option Addr} {sl23 : Array (Option Value)} {oc23 kV23 dc23 pm23 cd23 ct23 : Value}
    (a23 : PySem.W.nsIn K mainGlobals "_law_rows" = some (some (.ref f23))) (l23 : K.lookup f23 = some ⟨oc23, od23, .func (PySem.W.fnOf "_law_rows" "_law_rows" (defArgs s_l_rows) (defBody s_l_rows) (defScope s_l_rows) .none kV23 dc23 pm23 an23 cd23 ct23), sl23⟩) (c23 : PySem.W.codeIn K cd23 "_law_rows" = true) (k23 : PySem.W.keepIn K (.ref f23) = true)
    {f24 : Addr} {od24 an24 : Option Addr} {sl24 : Array (Option Value)} {oc24 kV24 dc24 pm24 cd24 ct24 : Value}
    (a24 : PySem.W.nsIn K mainGlobals "_law_period" = some (some (.ref f24))) (l24 : K.lookup f24 = some ⟨oc24, od24, .func (PySem.W.fnOf "_law_period" "_law_period" (defArgs s_l_period) (defBody s_l_period) (defScope s_l_period) .none kV24 dc24 pm24 an24 cd24 ct24), sl24⟩) (c24 : PySem.W.codeIn K cd24 "_law_period" = true) (k24 : PySem.W.keepIn K (.ref f24) = true)
    {f25 : Addr} {od25 an25 : Option Addr} {sl25 : Array (Option Value)} {oc25 kV25 dc25 pm25 cd25 ct25 : Value}
    (a25 : PySem.W.nsIn K mainGlobals "_law_gap" = some (some (.ref f25))) (l25 : K.lookup f25 = some ⟨oc25, od25, .func (PySem.W.fnOf "_law_gap" "_law_gap" (defArgs s_l_gap) (defBody s_l_gap) (defScope s_l_gap) .none kV25 dc25 pm25 an25 cd25 ct25), sl25⟩) (c25 : PySem.W.codeIn K cd25 "_law_gap" = true) (k25 : PySem.W.keepIn K (.ref f25) = true)
    {f26 : Addr} {od26 an26 : Option Addr} {sl26 : Array (Option Value)} {oc26 kV26 dc26 pm26 cd26 ct26 : Value}
    (a26 : PySem.W.nsIn K mainGlobals "_law_one_right" = some (some (.ref f26))) (l26 : K.lookup f26 = some ⟨oc26, od26, .func (PySem.W.fnOf "_law_one_right" "_law_one_right" (defArgs s_l_one_right) (defBody s_l_one_right) (defScope s_l_one_right) .none kV26 dc26 pm26 an26 cd26 ct26), sl26⟩) (c26 : PySem.W.codeIn K cd26 "_law_one_right" = true) (k26 : PySem.W.keepIn K (.ref f26) = true)
    {f27 : Addr} {od27 an27 : Option Addr} {sl27 : Array (Option Value)} {oc27 kV27 dc27 pm27 cd27 ct27 : Value}
    (a27 : PySem.W.nsIn K mainGlobals "law" = some (some (.ref f27))) (l27 : K.lookup f27 = some ⟨oc27, od27, .func (PySem.W.fnOf "law" "law" (defArgs s_law) (defBody s_law) (defScope s_law) .none kV27 dc27 pm27 an27 cd27 ct27), sl27⟩) (c27 : PySem.W.codeIn K cd27 "law" = true) (k27 : PySem.W.keepIn K (.ref f27) = true)
    (z_any : PySem.W.nsIn K mainGlobals "any" = some none)
    (z_bool : PySem.W.nsIn K mainGlobals "bool" = some none)
    (z_enumerate : PySem.W.nsIn K mainGlobals "enumerate" = some none)
    (z_int : PySem.W.nsIn K mainGlobals "int" = some none)
    (z_isinstance : PySem.W.nsIn K mainGlobals "isinstance" = some none)
    (z_len : PySem.W.nsIn K mainGlobals "len" = some none)
    (z_max : PySem.W.nsIn K mainGlobals "max" = some none)
    (z_min : PySem.W.nsIn K mainGlobals "min" = some none)
    (z_range : PySem.W.nsIn K mainGlobals "range" = some none)
    (z_tuple : PySem.W.nsIn K mainGlobals "tuple" = some none)
    {t_MAX_EVERY : Nat} (n_MAX_EVERY : PySem.W.nsIn K mainGlobals "MAX_EVERY" = some (some (.int 6 t_MAX_EVERY)))
    {t_MAX_PAIRS : Nat} (n_MAX_PAIRS : PySem.W.nsIn K mainGlobals "MAX_PAIRS" = some (some (.int 3 t_MAX_PAIRS)))
    {t_MAX_TIME : Nat} (n_MAX_TIME : PySem.W.nsIn K mainGlobals "MAX_TIME" = some (some (.int 1000 t_MAX_TIME)))
    {t_MAX_UNTIL : Nat} (n_MAX_UNTIL : PySem.W.nsIn K mainGlobals "MAX_UNTIL" = some (some (.int 12 t_MAX_UNTIL)))
    : ∃ fd : FuncData, (∀ (s : Shared) (v : Value), BindsTo s fd ⟨[v], []⟩ [("_law_script", v)]) ∧ ∀ base : Heap, K.In base → base.Ns mainGlobals mg → FnOk P w K mg base CX0 7 fa fd ["_law_script"] (spM K 1 (F_law G_l_rule G_l_one_right)) := by
  have e := hfa.symm.trans (PySem.W.mg_of X G a27)
  cases e
  have B : Glb mg := ⟨PySem.W.mg_none_of X G z_any, PySem.W.mg_none_of X G z_bool, PySem.W.mg_none_of X G z_enumerate, PySem.W.mg_none_of X G z_int, PySem.W.mg_none_of X G z_isinstance, PySem.W.mg_none_of X G z_len, PySem.W.mg_none_of X G z_max, PySem.W.mg_none_of X G z_min, PySem.W.mg_none_of X G z_range, PySem.W.mg_none_of X G z_tuple, ⟨_, PySem.W.mg_of X G n_MAX_EVERY⟩, ⟨_, PySem.W.mg_of X G n_MAX_PAIRS⟩, ⟨_, PySem.W.mg_of X G n_MAX_TIME⟩, ⟨_, PySem.W.mg_of X G n_MAX_UNTIL⟩⟩
  refine ⟨PySem.W.fnOf "law" "law" (defArgs s_law) (defBody s_law) (defScope s_law) .none kV27 dc27 pm27 an27 cd27 ct27, fun s v => .of_eq rfl, fun base _ _ => ?_⟩
  have D_is_integer : Def P w K mg base 1 "is_integer" 3 (F_is_integer) := w_is_integer B (fun_mk (st := s_is_integer) l0 c0 k0) (PySem.W.mg_of X G a0)
  have D_is_pair : Def P w K mg base 2 "is_pair" 1 (F_is_pair F_is_integer) := w_is_pair B D_is_integer (fun_mk (st := s_is_pair) l1 c1 k1) (PySem.W.mg_of X G a1)
  have D_check_rule : Def P w K mg base 3 "check_rule" 1 (G_check_rule) := w_check_rule B D_is_pair (fun_mk (st := s_check_rule) l2 c2 k2) (PySem.W.mg_of X G a2)
  have D_check_time : Def P w K mg base 2 "check_time" 1 (F_check_time F_is_integer) := w_check_time B D_is_integer (fun_mk (st := s_check_time) l3 c3 k3) (PySem.W.mg_of X G a3)
  have D_is_held : Def P w K mg base 1 "is_held" 3 (G_is_held) := (w_is_held B (fun_mk (st := s_is_held) l4 c4 k4) (PySem.W.mg_of X G a4)).as fun xs h _ => sim_is_held xs h
  have D_settled_of : Def P w K mg base 1 "settled_of" 1 (G_settled_of) := (w_settled_of B (fun_mk (st := s_settled_of) l5 c5 k5) (PySem.W.mg_of X G a5)).as fun xs h _ => sim_settled_of xs h
  have D_held_at : Def P w K mg base 2 "held_at" 2 (G_held_at) := (w_held_at B D_settled_of D_is_held (fun_mk (st := s_held_at) l6 c6 k6) (PySem.W.mg_of X G a6)).as fun xs h _ => sim_held_at xs h
  have D_common : Def P w K mg base 1 "common" 2 (G_common) := (w_common B (fun_mk (st := s_common) l7 c7 k7) (PySem.W.mg_of X G a7)).as fun xs h _ => sim_common xs h
  have D_turn_of : Def P w K mg base 2 "turn_of" 1 (F_turn_of G_common) := w_turn_of B D_common (fun_mk (st := s_turn_of) l8 c8 k8) (PySem.W.mg_of X G a8)
  have D_round_of : Def P w K mg base 3 "round_of" 1 (G_round_of) := w_round_of B D_turn_of D_settled_of D_held_at (fun_mk (st := s_round_of) l9 c9 k9) (PySem.W.mg_of X G a9)
  have D_period_of : Def P w K mg base 4 "period_of" 1 (G_period_of) := (w_period_of B D_round_of (fun_mk (st := s_period_of) l10 c10 k10) (PySem.W.mg_of X G a10)).as fun xs h _ => sim_period_of xs h
  have D_held : Def P w K mg base 4 "held" 2 (G_held) := w_held B D_check_rule D_check_time D_held_at (fun_mk (st := s_held) l11 c11 k11) (PySem.W.mg_of X G a11)
  have D_settled : Def P w K mg base 4 "settled" 1 (G_settled) := w_settled B D_check_rule D_settled_of (fun_mk (st := s_settled) l12 c12 k12) (PySem.W.mg_of X G a12)
  have D_period : Def P w K mg base 5 "period" 1 (G_period) := w_period B D_check_rule D_period_of (fun_mk (st := s_period) l13 c13 k13) (PySem.W.mg_of X G a13)
  have D_greatest : Def P w K mg base 4 "greatest" 1 (G_greatest) := (w_greatest B D_check_rule D_settled_of D_turn_of D_held_at (fun_mk (st := s_greatest) l14 c14 k14) (PySem.W.mg_of X G a14)).as fun xs h _ => sim_greatest xs h
  have D_gap : Def P w K mg base 4 "gap" 2 (G_gap) := (w_gap B D_check_rule D_is_integer D_round_of D_settled_of (fun_mk (st := s_gap) l15 c15 k15) (PySem.W.mg_of X G a15)).as fun xs h _ => sim_gap xs h
  have D_l_cell_at : Def P w K mg base 1 "_law_cell_at" 2 (F_l_cell_at) := w_l_cell_at B (fun_mk (st := s_l_cell_at) l16 c16 k16) (PySem.W.mg_of X G a16)
  have D_l_draw : Def P w K mg base 1 "_law_draw" 3 (F_l_draw) := w_l_draw B (fun_mk (st := s_l_draw) l17 c17 k17) (PySem.W.mg_of X G a17)
  have D_l_number : Def P w K mg base 2 "_law_number" 3 (F_l_number F_l_draw) := w_l_number B D_l_draw (fun_mk (st := s_l_number) l18 c18 k18) (PySem.W.mg_of X G a18)
  have D_l_next : Def P w K mg base 3 "_law_next" 2 (G_l_next) := w_l_next B D_l_cell_at D_l_number (fun_mk (st := s_l_next) l19 c19 k19) (PySem.W.mg_of X G a19)
  have D_l_rule : Def P w K mg base 4 "_law_rule" 2 (G_l_rule) := w_l_rule B D_l_next (fun_mk (st := s_l_rule) l20 c20 k20) (PySem.W.mg_of X G a20)
  have D_l_held : Def P w K mg base 1 "_law_held" 2 (G_l_held) := (w_l_held B (fun_mk (st := s_l_held) l21 c21 k21) (PySem.W.mg_of X G a21)).as fun xs h _ => sim_l_held xs h
  have D_l_settled : Def P w K mg base 1 "_law_settled" 1 (G_settled_of) := (w_l_settled B (fun_mk (st := s_l_settled) l22 c22 k22) (PySem.W.mg_of X G a22)).as fun xs h _ => sim_settled_of xs h
  have D_l_rows : Def P w K mg base 2 "_law_rows" 2 (G_l_rows) := w_l_rows B D_l_settled D_l_held (fun_mk (st := s_l_rows) l23 c23 k23) (PySem.W.mg_of X G a23)
  have D_l_period : Def P w K mg base 3 "_law_period" 1 (G_l_period) := (w_l_period B D_l_rows (fun_mk (st := s_l_period) l24 c24 k24) (PySem.W.mg_of X G a24)).as fun xs h _ => sim_l_period xs h
  have D_l_gap : Def P w K mg base 3 "_law_gap" 2 (G_l_gap) := (w_l_gap B D_l_settled D_l_rows (fun_mk (st := s_l_gap) l25 c25 k25) (PySem.W.mg_of X G a25)).as fun xs h _ => sim_l_gap xs h
  have D_l_one_right : Def P w K mg base 6 "_law_one_right" 2 (G_l_one_right) := w_l_one_right B D_settled D_l_settled D_period D_l_period D_l_next D_held D_l_held D_greatest D_gap D_l_gap (fun_mk (st := s_l_one_right) l26 c26 k26) (PySem.W.mg_of X G a26)
  exact f_law B D_l_rule D_l_one_right (fun_mk (st := s_law) l27 c27 k27)
theorem sp_ok {K : PySem.W.Frag} (z : noList K = true) {H : Hp} {a : Addr} {ns : List Int} (hl : ns.length ≤ 63) (hO : Only H) (hS : SqL K H a (ns.map V.int)) : spM K 1 (F_law G_l_rule G_l_one_right) [.ref a] H (fun v _ => v = .bl true) fun _ _ _ => False := by
  obtain ⟨h1, h2, h3⟩ := script_in z hl hO hS
  obtain ⟨h4, e⟩ := F_law_eq h3
  refine ⟨rfl, [a], _, _, h1, h2, ?_⟩
  rw [e]
  exact fun φ2 H2 b _ _ t => (by cases t; rfl)
end Mv
open PySem PySem.W
open PyProof.Rows
set_option maxHeartbeats 0 in
theorem PySem.Challenge.cw_thinsnaps_k31_whole_rules_holds : PySem.Challenge.rw_thinsnaps_k31_whole_rules.Holds := by
  w_on; o_law; k_head; (case hw => w_witness2)
  k_fill
  refine L2.walk_ofB (l := PySem.Challenge.rw_thinsnaps_k31_whole_rules) (n := 63) (k := 7) (x := "_law_script") (CX := fun _ => L2.CX0) (sp := fun w => Mv.spM _ 1 (Mv.F_law Mv.G_l_rule Mv.G_l_one_right)) rfl (by decide) rfl ⟨rfl, by decide, by decide⟩ (fun w h Y => PySem.W.kIn_of Y) ?F (fun w H a ns hl _ hO hS => Mv.sp_ok (by kernel_rfl) hl hO hS) (fun _ _ _ _ _ h => h)
  case F =>
    intro w mg fa h KX G hmg
    refine' Mv.all_mk KX G hmg ?a0 ?l0 ?c0 ?k0 ?a1 ?l1 ?c1 ?k1 ?a2 ?l2 ?c2 ?k2 ?a3 ?l3 ?c3 ?k3 ?a4 ?l4 ?c4 ?k4 ?a5 ?l5 ?c5 ?k5 ?a6 ?l6 ?c6 ?k6 ?a7 ?l7 ?c7 ?k7 ?a8 ?l8 ?c8 ?k8 ?a9 ?l9 ?c9 ?k9 ?a10 ?l10 ?c10 ?k10 ?a11 ?l11 ?c11 ?k11 ?a12 ?l12 ?c12 ?k12 ?a13 ?l13 ?c13 ?k13 ?a14 ?l14 ?c14 ?k14 ?a15 ?l15 ?c15 ?k15 ?a16 ?l16 ?c16 ?k16 ?a17 ?l17 ?c17 ?k17 ?a18 ?l18 ?c18 ?k18 ?a19 ?l19 ?c19 ?k19 ?a20 ?l20 ?c20 ?k20 ?a21 ?l21 ?c21 ?k21 ?a22 ?l22 ?c22 ?k22 ?a23 ?l23 ?c23 ?k23 ?a24 ?l24 ?c24 ?k24 ?a25 ?l25 ?c25 ?k25 ?a26 ?l26 ?c26 ?k26 ?a27 ?l27 ?c27 ?k27 ?z_any ?z_bool ?z_enumerate ?z_int ?z_isinstance ?z_len ?z_max ?z_min ?z_range ?z_tuple ?n_MAX_EVERY ?n_MAX_PAIRS ?n_MAX_TIME ?n_MAX_UNTIL
    (case a0 => k_is); (case l0 => k_is); (case c0 => k_is); (case k0 => k_is); (case a1 => k_is); (case l1 => k_is); (case c1 => k_is); (case k1 => k_is)
    (case a2 => k_is); (case l2 => k_is); (case c2 => k_is); (case k2 => k_is); (case a3 => k_is); (case l3 => k_is); (case c3 => k_is); (case k3 => k_is)
    (case a4 => k_is); (case l4 => k_is); (case c4 => k_is); (case k4 => k_is); (case a5 => k_is); (case l5 => k_is); (case c5 => k_is); (case k5 => k_is)
    (case a6 => k_is); (case l6 => k_is); (case c6 => k_is); (case k6 => k_is); (case a7 => k_is); (case l7 => k_is); (case c7 => k_is); (case k7 => k_is)
    (case a8 => k_is); (case l8 => k_is); (case c8 => k_is); (case k8 => k_is); (case a9 => k_is); (case l9 => k_is); (case c9 => k_is); (case k9 => k_is)
    (case a10 => k_is); (case l10 => k_is); (case c10 => k_is); (case k10 => k_is); (case a11 => k_is); (case l11 => k_is); (case c11 => k_is); (case k11 => k_is)
    (case a12 => k_is); (case l12 => k_is); (case c12 => k_is); (case k12 => k_is); (case a13 => k_is); (case l13 => k_is); (case c13 => k_is); (case k13 => k_is)
    (case a14 => k_is); (case l14 => k_is); (case c14 => k_is); (case k14 => k_is); (case a15 => k_is); (case l15 => k_is); (case c15 => k_is); (case k15 => k_is)
    (case a16 => k_is); (case l16 => k_is); (case c16 => k_is); (case k16 => k_is); (case a17 => k_is); (case l17 => k_is); (case c17 => k_is); (case k17 => k_is)
    (case a18 => k_is); (case l18 => k_is); (case c18 => k_is); (case k18 => k_is); (case a19 => k_is); (case l19 => k_is); (case c19 => k_is); (case k19 => k_is)
    (case a20 => k_is); (case l20 => k_is); (case c20 => k_is); (case k20 => k_is); (case a21 => k_is); (case l21 => k_is); (case c21 => k_is); (case k21 => k_is)
    (case a22 => k_is); (case l22 => k_is); (case c22 => k_is); (case k22 => k_is); (case a23 => k_is); (case l23 => k_is); (case c23 => k_is); (case k23 => k_is)
    (case a24 => k_is); (case l24 => k_is); (case c24 => k_is); (case k24 => k_is); (case a25 => k_is); (case l25 => k_is); (case c25 => k_is); (case k25 => k_is)
    (case a26 => k_is); (case l26 => k_is); (case c26 => k_is); (case k26 => k_is); (case a27 => k_is); (case l27 => k_is); (case c27 => k_is); (case k27 => k_is)
    (case z_any => k_is); (case z_bool => k_is); (case z_enumerate => k_is); (case z_int => k_is); (case z_isinstance => k_is); (case z_len => k_is); (case z_max => k_is); (case z_min => k_is)
    (case z_range => k_is); (case z_tuple => k_is); (case n_MAX_EVERY => k_is); (case n_MAX_PAIRS => k_is); (case n_MAX_TIME => k_is); (case n_MAX_UNTIL => k_is)

