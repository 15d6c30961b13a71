import PyProof.Rows.All
import Wide.All
import OpenK.AllK
import Wide.FinOn
import HandS.Base
import HandS.Call
import HandS.List
import HandS.Comp
import HandS.Ends
import HandS.Iter
import HandS.Words
import HandS.TupAny
import HandS.Deep
import HandS.IsInst
import HandS.Wide
import HandS.ForMost
import KE.GoesEnum
import KE.GoesMore
import HandS.Property
import HandS.MakeKwOnly
import HandS.OwnEq
import HandS.Style
import HandS.Conv
import HandS.Star
import HandS.EndBits
import KE.RegKIsAll
import PySem.Challenge.RW_thinsnaps_k34_whole_pauses
set_option Elab.async false
set_option linter.all false
set_option maxRecDepth 100000
set_option maxHeartbeats 4000000
/-! Mv: a functional layer over HandS: deep values, a small heap, one lemma a construct. -/
namespace Mv
open PySem PySem.Spec L2

/-- the written part, the module's names -/
structure KC where
  K : PySem.W.Frag
  mg : Str → Option Value
instance : Coe KC PySem.W.Frag := ⟨KC.K⟩
abbrev kc (X : Cx) : KC := ⟨X.K, X.mg⟩

/-! ### values, objects -/
inductive MV where
  | non | bl (b : Bool) | int (i : Int) | str (x : Str) | ref (n : Nat) | tup (xs : List MV)
inductive MO where
  | lst (xs : List MV) | frz (xs : List MV) | dct (kvs : List (MV × MV)) | fdc (kvs : List (MV × MV)) | ins (c : Nat) (fs : List MV)
abbrev MH := List MO
abbrev MEnv := List (Option MV)

mutual
inductive IsV (K : KC) (φ : List Addr) (H : Hp) : MV → V → Prop
  | non : IsV K φ H .non .non
  | bl (b : Bool) : IsV K φ H (.bl b) (.bl b)
  | int (i : Int) : IsV K φ H (.int i) (.int i)
  | str (x : Str) : IsV K φ H (.str x) (.str x)
  | ref {n : Nat} {a : Addr} : φ[n]? = some a → IsV K φ H (.ref n) (.ref a)
  | tup {a : Addr} {vs : List V} {xs : List MV} : SqT K H a vs → IsVs K φ H xs vs → IsV K φ H (.tup xs) (.ref a)
inductive IsVs (K : KC) (φ : List Addr) (H : Hp) : List MV → List V → Prop
  | nil : IsVs K φ H [] []
  | cons {x : MV} {v : V} {xs : List MV} {vs : List V} : IsV K φ H x v → IsVs K φ H xs vs → IsVs K φ H (x :: xs) (v :: vs)
end

/-- φ, H go on as φ', H' -/
structure Keep (φ : List Addr) (H : Hp) (φ' : List Addr) (H' : Hp) : Prop where
  ext : ∃ more, φ' = φ ++ more ∧ ∀ b ∈ more, H b = none
  dom : ∀ b o, H b = some o → ∃ o', H' b = some o'
  out : ∀ b o, H b = some o → b ∉ φ → H' b = some o
  tup : ∀ b xs, H b = some (.tup xs) → H' b = some (.tup xs)
  frz : ∀ b o u, H b = some (.frz o u) → H' b = some (.frz o u)

section
variable {K : KC} {φ φ1 φ2 : List Addr} {H H1 H2 : Hp}
theorem Keep.refl : Keep φ H φ H := ⟨⟨[], by simp⟩, fun _ o e => ⟨o, e⟩, fun _ _ e _ => e, fun _ _ e => e, fun _ _ _ e => e⟩
theorem Keep.back (a : Keep φ H φ1 H1) {b : Addr} (h : H1 b = none) : H b = none := by
  cases q : H b with
  | none => rfl
  | some o =>
    obtain ⟨o', e⟩ := a.dom b o q
    rw [h] at e; cases e
theorem Keep.trans (a : Keep φ H φ1 H1) (b : Keep φ1 H1 φ2 H2) : Keep φ H φ2 H2 := by
  obtain ⟨m1, e1, f1⟩ := a.ext
  obtain ⟨m2, e2, f2⟩ := b.ext
  have nn : ∀ c o, H c = some o → c ∉ φ → c ∉ φ1 := fun c o h n z => by
    rw [e1] at z
    rcases List.mem_append.mp z with z | z
    · exact n z
    · rw [f1 c z] at h; cases h
  refine ⟨⟨m1 ++ m2, by rw [e2, e1, List.append_assoc], fun c hc => ?_⟩, fun c o h => ?_, fun c o h n => b.out c o (a.out c o h n) (nn c o h n), fun c xs h => b.tup c xs (a.tup c xs h), fun c o u h => b.frz c o u (a.frz c o u h)⟩
  · rcases List.mem_append.mp hc with hc | hc
    · exact f1 c hc
    · exact a.back (f2 c hc)
  · obtain ⟨o', e⟩ := a.dom c o h
    exact b.dom c o' e
/-- an untracked new object is laid -/
theorem Keep.new {p : Addr} {o : HO} (h : H p = none) : Keep φ H φ (upd H p o) := by
  have k : ∀ b u, H b = some u → upd H p o b = some u := fun b u e => by rw [upd_ne (ne_of_none e h)]; exact e
  exact ⟨⟨[], by simp⟩, fun b u e => ⟨u, k b u e⟩, fun b u e _ => k b u e, fun b xs e => k b _ e, fun b u v e => k b _ e⟩
theorem Keep.lay {p : Addr} {o : HO} (h : H p = none) : Keep φ H (φ ++ [p]) (upd H p o) := by
  have k : ∀ b u, H b = some u → upd H p o b = some u := fun b u e => by rw [upd_ne (ne_of_none e h)]; exact e
  exact ⟨⟨[p], rfl, fun b hb => by rw [List.mem_singleton.mp hb]; exact h⟩, fun b u e => ⟨u, k b u e⟩, fun b u e _ => k b u e, fun b xs e => k b _ e, fun b u v e => k b _ e⟩
theorem Keep.get (a : Keep φ H φ1 H1) {n : Nat} {p : Addr} (e : φ[n]? = some p) : φ1[n]? = some p := by
  obtain ⟨m, rfl, _⟩ := a.ext
  rw [List.getElem?_append_left (List.getElem?_eq_some_iff.mp e).1]
  exact e
theorem Keep.sqT (a : Keep φ H φ1 H1) {p : Addr} {vs : List V} (h : SqT K H p vs) : SqT K H1 p vs := by
  rcases h with (h | ⟨o, h⟩) | h
  · exact .inl (.inl (a.tup _ _ h))
  · exact .inl (.inr ⟨o, a.frz _ _ _ h⟩)
  · exact .inr h
mutual
theorem IsV.keep (a : Keep φ H φ1 H1) : ∀ {x : MV} {v : V}, IsV K φ H x v → IsV K φ1 H1 x v
  | _, _, .non => .non
  | _, _, .bl b => .bl b
  | _, _, .int i => .int i
  | _, _, .str s => .str s
  | _, _, .ref e => .ref (a.get e)
  | _, _, .tup h t => .tup (a.sqT h) (IsVs.keep a t)
theorem IsVs.keep (a : Keep φ H φ1 H1) : ∀ {xs : List MV} {vs : List V}, IsVs K φ H xs vs → IsVs K φ1 H1 xs vs
  | _, _, .nil => .nil
  | _, _, .cons h t => .cons (IsV.keep a h) (IsVs.keep a t)
end
theorem IsVs.length : ∀ {xs : List MV} {vs : List V}, IsVs K φ H xs vs → vs.length = xs.length
  | _, _, .nil => rfl
  | _, _, .cons _ t => by simp [IsVs.length t]
theorem IsVs.get : ∀ {xs : List MV} {vs : List V} {i : Nat} {x : MV}, IsVs K φ H xs vs → xs[i]? = some x → ∃ v, vs[i]? = some v ∧ IsV K φ H x v
  | _, _, _, _, .nil, e => by simp at e
  | _, _, 0, _, .cons h t, e => by simp at e; subst e; exact ⟨_, rfl, h⟩
  | _, _, i + 1, _, .cons h t, e => by
    obtain ⟨v, e1, h1⟩ := IsVs.get t (by simpa using e)
    exact ⟨v, by simpa using e1, h1⟩
theorem IsVs.append : ∀ {xs ys : List MV} {vs ws : List V}, IsVs K φ H xs vs → IsVs K φ H ys ws → IsVs K φ H (xs ++ ys) (vs ++ ws)
  | _, _, _, _, .nil, h => h
  | _, _, _, _, .cons a t, h => .cons a (IsVs.append t h)
theorem IsVs.drop : ∀ {xs : List MV} {vs : List V} (n : Nat), IsVs K φ H xs vs → IsVs K φ H (xs.drop n) (vs.drop n)
  | _, _, 0, h => h
  | _, _, _ + 1, .nil => .nil
  | _, _, n + 1, .cons _ t => IsVs.drop n t
theorem IsVs.take : ∀ {xs : List MV} {vs : List V} (n : Nat), IsVs K φ H xs vs → IsVs K φ H (xs.take n) (vs.take n)
  | _, _, 0, h => .nil
  | _, _, _ + 1, .nil => .nil
  | _, _, n + 1, .cons a t => .cons a (IsVs.take n t)
theorem IsVs.set {x : MV} {v : V} (h : IsV K φ H x v) : ∀ {xs : List MV} {vs : List V} (n : Nat), IsVs K φ H xs vs → IsVs K φ H (xs.set n x) (vs.set n v)
  | _, _, _, .nil => .nil
  | _, _, 0, .cons _ t => .cons h t
  | _, _, n + 1, .cons a t => .cons a (IsVs.set h n t)
end

def kMV : Key → MV
  | .inl i => .int i
  | .inr x => .str x
/-- a dict's keys (tuples), its values -/
def DR (K : KC) (φ : List Addr) (H : Hp) (kvs : List (MV × MV)) (ws : List (List Key × V)) : Prop := kvs.length ≤ 100000 ∧ (ws.map fun p => MV.tup (p.1.map kMV)) = kvs.map (·.1) ∧ IsVs K φ H (kvs.map (·.2)) (ws.map (·.2))
/-- the classes: their names, their fields in the order in which they are stored -/
def tab : List (Str × List Str) := [("Promise", ["far", "least", "parts", "many"]), ("Turn", ["states"]), ("Ranks", ["ranks"]), ("Search", ["steps", "ticks"]), ("Fewest", ["number", "turn", "ranks"]), ("Least", ["part", "turn", "ranks"]),
  ("Keeps", ["states"]), ("Misses", ["time", "age"]), ("Same", ["states"]), ("Differ", ["time"]), ("Deal", ["choice", "doubts"]), ("Thrift", ["mean", "states", "heights"]), ("Session", ["plan", "price", "now", "lines", "mark"]), ("Trial", ["session", "now", "lines", "mark"])]
/-- an instance's class, its fields -/
def InsR (K : KC) (H : Hp) (a : Addr) (c n : Nat) (gs : List (Str × V)) : Prop := ∃ C dx nm fl, tab[c]? = some (nm, fl) ∧ K.mg nm = some (.ref C) ∧ Cls K C ∧ H a = some (.ins C dx gs) ∧ gs.map (·.1) = fl.take n ∧ n ≤ fl.length
theorem InsR.ex {K : KC} {H : Hp} {a : Addr} {c n : Nat} {gs : List (Str × V)} (r : InsR K H a c n gs) : ∃ u, H a = some u := by
  obtain ⟨C, dx, nm, fl, _, _, _, e, _⟩ := r; exact ⟨_, e⟩
theorem InsR.to {K : KC} {H H1 : Hp} {a : Addr} {c n : Nat} {gs : List (Str × V)} (r : InsR K H a c n gs) (e : H1 a = H a) : InsR K H1 a c n gs := by
  obtain ⟨C, dx, nm, fl, q1, q2, q3, q, q4, q5⟩ := r; exact ⟨C, dx, nm, fl, q1, q2, q3, e.trans q, q4, q5⟩
/-- an object of the small heap, as it stands -/
def OR (K : KC) (φ : List Addr) (H : Hp) (a : Addr) : MO → Prop
  | .lst xs => xs.length ≤ sizeLine ∧ ∃ vs, H a = some (.lst vs) ∧ IsVs K φ H xs vs
  | .frz xs => xs.length ≤ sizeLine ∧ ∃ o vs, H a = some (.frz o (.lst vs)) ∧ IsVs K φ H xs vs
  | .dct kvs => ∃ ws, H a = some (.dT ws) ∧ DR K φ H kvs ws
  | .fdc kvs => ∃ o ws, H a = some (.frz o (.dT ws)) ∧ DR K φ H kvs ws
  | .ins c fs => ∃ gs, InsR K H a c fs.length gs ∧ IsVs K φ H fs (gs.map (·.2))
structure HR (K : KC) (φ : List Addr) (H : Hp) (h : MH) : Prop where
  len : φ.length = h.length
  nd : φ.Nodup
  at_ : ∀ (n : Nat) (a : Addr) (o : MO), φ[n]? = some a → h[n]? = some o → OR K φ H a o
structure ER (K : KC) (φ : List Addr) (H : Hp) (σ : St) (env : MEnv) : Prop where
  len : σ.length = env.length
  at_ : ∀ (i : Nat) (x : MV), env[i]? = some (some x) → ∃ v, σ[i]? = some (some v) ∧ IsV K φ H x v

section
variable {K : KC} {φ φ1 φ2 : List Addr} {H H1 H2 : Hp} {h : MH} {σ : St} {env : MEnv}
theorem OR.ex {a : Addr} {o : MO} (r : OR K φ H a o) : ∃ u, H a = some u := by
  cases o with
  | lst xs => obtain ⟨_, vs, e, _⟩ := r; exact ⟨_, e⟩
  | frz xs => obtain ⟨_, o, vs, e, _⟩ := r; exact ⟨_, e⟩
  | dct _ => obtain ⟨ws, e, _⟩ := r; exact ⟨_, e⟩
  | fdc _ => obtain ⟨o, ws, e, _⟩ := r; exact ⟨_, e⟩
  | ins _ _ => obtain ⟨gs, e, _⟩ := r; exact e.ex
theorem HR.ex (r : HR K φ H h) {a : Addr} (ha : a ∈ φ) : ∃ u, H a = some u := by
  obtain ⟨n, e⟩ := List.mem_iff_getElem?.mp ha
  have hn : n < h.length := by rw [← r.len]; exact (List.getElem?_eq_some_iff.mp e).1
  exact (r.at_ n a _ e (List.getElem?_eq_getElem hn)).ex
theorem HR.fresh (r : HR K φ H h) {p : Addr} (hp : H p = none) : p ∉ φ := fun z => by
  obtain ⟨u, e⟩ := r.ex z
  rw [hp] at e; cases e
theorem HR.addr (r : HR K φ H h) {n : Nat} {o : MO} (e : h[n]? = some o) : ∃ a, φ[n]? = some a := by
  have hn : n < φ.length := by rw [r.len]; exact (List.getElem?_eq_some_iff.mp e).1
  exact ⟨_, List.getElem?_eq_getElem hn⟩
theorem OR.keepH {a : Addr} {o : MO} (r : OR K φ H a o) (k : Keep φ H φ1 H1) (e : H1 a = H a) : OR K φ1 H1 a o := by
  cases o with
  | lst xs => obtain ⟨l, vs, q, t⟩ := r; exact ⟨l, vs, e.trans q, t.keep k⟩
  | frz xs => obtain ⟨l, o, vs, q, t⟩ := r; exact ⟨l, o, vs, e.trans q, t.keep k⟩
  | dct _ => obtain ⟨ws, q, l, ek, t⟩ := r; exact ⟨ws, e.trans q, l, ek, t.keep k⟩
  | fdc _ => obtain ⟨o, ws, q, l, ek, t⟩ := r; exact ⟨o, ws, e.trans q, l, ek, t.keep k⟩
  | ins _ _ => obtain ⟨gs, q, t⟩ := r; exact ⟨gs, q.to e, t.keep k⟩
/-- what is laid beside the small heap -/
theorem HR.new (r : HR K φ H h) {p : Addr} {o : HO} (hp : H p = none) : HR K φ (upd H p o) h :=
  ⟨r.len, r.nd, fun n a u e1 e2 => (r.at_ n a u e1 e2).keepH (Keep.new hp) (upd_ne fun z => r.fresh hp (z ▸ List.mem_of_getElem? e1))⟩
theorem HR.layO (r : HR K φ H h) {p : Addr} {o : HO} {mo : MO} (hp : H p = none) (ho : OR K (φ ++ [p]) (upd H p o) p mo) :
    HR K (φ ++ [p]) (upd H p o) (h ++ [mo]) := by
  have np := r.fresh hp
  have k : Keep φ H (φ ++ [p]) (upd H p o) := Keep.lay hp
  refine ⟨by simp [r.len], ?_, fun n a u e1 e2 => ?_⟩
  · rw [List.nodup_append]
    refine ⟨r.nd, by simp, fun a ha b hb z => ?_⟩
    rw [List.mem_singleton.mp hb] at z
    exact np (z ▸ ha)
  · by_cases hn : n < φ.length
    · rw [List.getElem?_append_left hn] at e1
      rw [List.getElem?_append_left (by rw [← r.len]; exact hn)] at e2
      exact (r.at_ n a u e1 e2).keepH k (upd_ne fun z => np (z ▸ List.mem_of_getElem? e1))
    · have hn' : n = φ.length := by
        have := (List.getElem?_eq_some_iff.mp e1).1
        simp at this; omega
      subst hn'
      rw [List.getElem?_append_right (Nat.le_refl _)] at e1
      rw [List.getElem?_append_right (by rw [r.len]; exact Nat.le_refl _)] at e2
      simp at e1
      rw [r.len] at e2
      simp at e2
      subst e1 e2
      exact ho
theorem HR.lay (r : HR K φ H h) {p : Addr} {xs : List MV} {vs : List V} (hp : H p = none) (hl : xs.length ≤ sizeLine) (t : IsVs K φ H xs vs) :
    HR K (φ ++ [p]) (upd H p (.lst vs)) (h ++ [.lst xs]) := r.layO hp ⟨hl, vs, upd_same, t.keep (Keep.lay hp)⟩
theorem lay_at (r : HR K φ H h) {p : Addr} : (φ ++ [p])[h.length]? = some p := by
  rw [← r.len, List.getElem?_append_right (Nat.le_refl _)]
  simp
/-- a list, an instance is changed -/
theorem Keep.putO {a : Addr} {o : HO} {u : HO} (ha : a ∈ φ) (e : H a = some u) (n1 : ∀ xs, u ≠ .tup xs) (n2 : ∀ v w, u ≠ .frz v w) : Keep φ H φ (upd H a o) := by
  refine ⟨⟨[], by simp⟩, fun b o q => ?_, fun b o q n => ?_, fun b xs q => ?_, fun b o u q => ?_⟩
  · by_cases hb : b = a
    · subst hb; exact ⟨_, upd_same⟩
    · exact ⟨o, by rw [upd_ne hb]; exact q⟩
  · rw [upd_ne fun z => n (by rw [z]; exact ha)]; exact q
  · rw [upd_ne fun z => by rw [z, e] at q; cases q; exact n1 _ rfl]; exact q
  · rw [upd_ne fun z => by rw [z, e] at q; cases q; exact n2 _ _ rfl]; exact q
theorem Keep.put {a : Addr} {vs ws : List V} (ha : a ∈ φ) (e : H a = some (.lst vs)) : Keep φ H φ (upd H a (.lst ws)) := Keep.putO ha e (fun _ z => by cases z) (fun _ _ z => by cases z)
theorem HR.putO (r : HR K φ H h) {n : Nat} {a : Addr} {mo mo' : MO} {o : HO} (e1 : φ[n]? = some a) (e2 : h[n]? = some mo) (k : Keep φ H φ (upd H a o)) (ho : OR K φ (upd H a o) a mo') :
    HR K φ (upd H a o) (h.set n mo') := by
  refine ⟨by simp [r.len], r.nd, fun m b u q1 q2 => ?_⟩
  by_cases hm : m = n
  · subst hm
    rw [e1] at q1; cases q1
    rw [List.getElem?_set_self (List.getElem?_eq_some_iff.mp e2).1] at q2
    cases q2
    exact ho
  · rw [List.getElem?_set_ne (Ne.symm hm)] at q2
    refine (r.at_ m b u q1 q2).keepH k (upd_ne fun z => hm ?_)
    subst z
    obtain ⟨h1, x1⟩ := List.getElem?_eq_some_iff.mp q1
    obtain ⟨h2, x2⟩ := List.getElem?_eq_some_iff.mp e1
    exact (List.getElem_inj r.nd).mp (x1.trans x2.symm)
theorem HR.put (r : HR K φ H h) {n : Nat} {a : Addr} {xs ys : List MV} {vs ws : List V} (e1 : φ[n]? = some a) (e2 : h[n]? = some (.lst xs)) (e : H a = some (.lst vs)) (hl : ys.length ≤ sizeLine) (t : IsVs K φ H ys ws) :
    HR K φ (upd H a (.lst ws)) (h.set n (.lst ys)) := r.putO e1 e2 (Keep.put (List.mem_of_getElem? e1) e) ⟨hl, ws, upd_same, t.keep (Keep.put (List.mem_of_getElem? e1) e)⟩
theorem ER.keep (r : ER K φ H σ env) (k : Keep φ H φ1 H1) : ER K φ1 H1 σ env :=
  ⟨r.len, fun i x e => let ⟨v, e1, t⟩ := r.at_ i x e; ⟨v, e1, t.keep k⟩⟩
theorem ER.set (r : ER K φ H σ env) {i : Nat} {x : MV} {v : V} (t : IsV K φ H x v) : ER K φ H (σ.set i (some v)) (env.set i (some x)) := by
  refine ⟨by simp [r.len], fun j y e => ?_⟩
  by_cases hj : i = j
  · subst hj
    have hi : i < env.length := by
      have := (List.getElem?_eq_some_iff.mp e).1
      simpa using this
    rw [List.getElem?_set_self hi] at e
    cases e
    exact ⟨v, by rw [List.getElem?_set_self (by rw [r.len]; exact hi)], t⟩
  · rw [List.getElem?_set_ne hj] at e
    obtain ⟨w, e1, t1⟩ := r.at_ j y e
    exact ⟨w, by rw [List.getElem?_set_ne hj]; exact e1, t1⟩
theorem ER.unset (r : ER K φ H σ env) (i : Nat) : ER K φ H (σ.set i none) (env.set i none) := by
  refine ⟨by simp [r.len], fun j y e => ?_⟩
  by_cases hj : i = j
  · subst hj
    have hi : i < env.length := by
      have := (List.getElem?_eq_some_iff.mp e).1
      simpa using this
    rw [List.getElem?_set_self hi] at e
    cases e
  · rw [List.getElem?_set_ne hj] at e
    obtain ⟨w, e1, t1⟩ := r.at_ j y e
    exact ⟨w, by rw [List.getElem?_set_ne hj]; exact e1, t1⟩
end

/-! ### what is computed -/
structure MX where
  cls : Nat
  arg : Option MV
inductive R (α : Type) where
  | ok (a : α) (h : MH) | exc (x : MX) (h : MH) | bad
def R.bind {α β : Type} (r : R α) (f : α → MH → R β) : R β := match r with
  | .ok a h => f a h
  | .exc x h => .exc x h
  | .bad => .bad
@[simp] theorem R.bind_ok {α β : Type} (a : α) (h : MH) (f : α → MH → R β) : (R.ok a h).bind f = f a h := rfl
@[simp] theorem R.bind_exc {α β : Type} (x : MX) (h : MH) (f : α → MH → R β) : (R.exc x h).bind f = .exc x h := rfl
@[simp] theorem R.bind_bad {α β : Type} (f : α → MH → R β) : (R.bad).bind f = .bad := rfl
abbrev ME := MEnv → MH → R MV
abbrev MT := MEnv → MH → R Bool
abbrev MA := MEnv → MH → R (List MV)
/-- what is wanted at an exception -/
abbrev XW := List Addr → Hp → MX → MH → Prop
abbrev WT := St → MEnv → XW
def W0 : WT := fun _ _ _ _ _ _ => False

def OkG {α β : Type} (K : KC) (isA : List Addr → Hp → α → β → Prop) (W : XW) (φ : List Addr) (H : Hp) (r : R α) (Q : β → Hp → Prop) : Prop := match r with
  | .ok a h' => ∀ φ' H' b, Keep φ H φ' H' → HR K φ' H' h' → isA φ' H' a b → Q b H'
  | .exc x h' => ∀ φ' H', Keep φ H φ' H' → HR K φ' H' h' → W φ' H' x h'
  | .bad => False
def tG {α β : Type} (K : KC) (isA : List Addr → Hp → α → β → Prop) (W : WT) (m : MEnv → MH → R α) : St → Hp → (β → Hp → Prop) → Prop := fun σ H Q =>
  ∃ φ env h, HR K φ H h ∧ ER K φ H σ env ∧ OkG K isA (W σ env) φ H (m env h) Q
def isB : List Addr → Hp → Bool → Bool → Prop := fun _ _ a b => a = b
abbrev tE (K : KC) (W : WT) (m : ME) : TE := tG K (IsV K) W m
abbrev tT (K : KC) (W : WT) (m : MT) : TT := tG K isB W m
abbrev tA (K : KC) (W : WT) (m : MA) : TA := tG K (IsVs K) W m

section
variable {K : KC} {W : WT} {φ φ1 : List Addr} {H H1 : Hp} {h : MH} {σ : St} {env : MEnv} {α β γ δ : Type}
theorem OkG.mono {isA : List Addr → Hp → α → β → Prop} {V : XW} {r : R α} {Q : β → Hp → Prop} (o : OkG K isA V φ H r Q) (k : Keep φ H φ1 H1) : OkG K isA V φ1 H1 r Q := by
  cases r with
  | ok a h' => exact fun φ' H' b k' r t => o φ' H' b (k.trans k') r t
  | exc x h' => exact fun φ' H' k' r => o φ' H' (k.trans k') r
  | bad => exact o
theorem OkG.imp {isA : List Addr → Hp → α → β → Prop} {V : XW} {r : R α} {Q Q' : β → Hp → Prop} (o : OkG K isA V φ H r Q) (q : ∀ b H', Q b H' → Q' b H') : OkG K isA V φ H r Q' := by
  cases r with
  | ok a h' => exact fun φ' H' b k' r t => q _ _ (o φ' H' b k' r t)
  | exc x h' => exact o
  | bad => exact o
theorem OkG.ok_here {isA : List Addr → Hp → α → β → Prop} {V : XW} {a : α} {b : β} {Q : β → Hp → Prop} (o : OkG K isA V φ H (.ok a h) Q) (r : HR K φ H h) (t : isA φ H a b) : Q b H := o φ H b Keep.refl r t
/-- first m, then what its value makes -/
theorem tG_step {isA : List Addr → Hp → α → β → Prop} {isC : List Addr → Hp → γ → δ → Prop} {m : MEnv → MH → R α} {k : α → MH → R γ} {P : β → Hp → Prop} {Q : δ → Hp → Prop} (hr : HR K φ H h) (er : ER K φ H σ env)
    (o : OkG K isC (W σ env) φ H ((m env h).bind k) Q)
    (n : ∀ φ1 H1 h1 a b, Keep φ H φ1 H1 → HR K φ1 H1 h1 → ER K φ1 H1 σ env → isA φ1 H1 a b → OkG K isC (W σ env) φ1 H1 (k a h1) Q → P b H1) : tG K isA W m σ H P := by
  refine ⟨φ, env, h, hr, er, ?_⟩
  cases e : m env h with
  | ok a h1 =>
    rw [e] at o
    exact fun φ1 H1 b kp r t => n φ1 H1 h1 a b kp r (er.keep kp) t (OkG.mono o kp)
  | exc x h1 => rw [e] at o; exact o
  | bad => rw [e] at o; exact o.elim
end

/-! ### weakening the judgements -/
section
variable {X : Cx}
theorem _root_.L2.PE.imp {e : Expr} {t t' : TE} (p : PE X e t) (q : ∀ σ H Q, t' σ H Q → t σ H Q) : PE X e t' := ⟨fun pins s σ H Q I h => p.run pins s σ H Q I (q σ H Q h)⟩
theorem _root_.L2.PT.imp {e : Expr} {t t' : TT} (p : PT X e t) (q : ∀ σ H Q, t' σ H Q → t σ H Q) : PT X e t' := ⟨fun pins s σ H Q I h => p.run pins s σ H Q I (q σ H Q h)⟩
theorem _root_.L2.PW.imp {e : Expr} {t t' : TT} (p : PW X e t) (q : ∀ σ H Q, t' σ H Q → t σ H Q) : PW X e t' := ⟨fun wh pins s σ H Q I h => p.run wh pins s σ H Q I (q σ H Q h)⟩
theorem _root_.L2.PA.imp {e : List Expr} {t t' : TA} (p : PA X e t) (q : ∀ σ H Q, t' σ H Q → t σ H Q) : PA X e t' := ⟨fun pos pins s σ H Q I h => p.run pos pins s σ H Q I (q σ H Q h)⟩
theorem _root_.L2.PS.imp {e : Stmt} {t t' : TS} (p : PS X e t) (q : ∀ D σ H, t' D σ H → t D σ H) : PS X e t' := ⟨fun pins s σ H D I h => p.run pins s σ H D I (q D σ H h)⟩
theorem _root_.L2.PSs.imp {e : List Stmt} {t t' : TS} (p : PSs X e t) (q : ∀ D σ H, t' D σ H → t D σ H) : PSs X e t' := ⟨fun pins s σ H D I h => p.run pins s σ H D I (q D σ H h)⟩
theorem _root_.L2.PI.imp {tg e : Expr} {t t' : TI} (p : PI X tg e t) (q : ∀ σ H R, t' σ H R → t σ H R) : PI X tg e t' := ⟨fun pins s σ H R I h => p.run pins s σ H R I (q σ H R h)⟩
end
end Mv

set_option maxHeartbeats 4000000
namespace Mv
open PySem PySem.Spec L2

/-- lists and texts stay below this -/
abbrev cap : Nat := 100000
theorem cap_line {n : Nat} (h : n ≤ cap) : n ≤ sizeLine := Nat.le_trans h (by rw [sizeLine_eq]; decide)
theorem cap_lt {n : Nat} (h : n ≤ cap) : n < sizeLine := Nat.lt_of_le_of_lt h (by rw [sizeLine_eq]; decide)

/-! ### names and constants -/
def mVar (i : Nat) : ME := fun env h => match env[i]? with
  | some (some v) => .ok v h
  | _ => .bad
def mC (v : MV) : ME := fun _ h => .ok v h
section
variable {X : Cx} {W : WT} {pos : Pos} {a b c : Expr} {ma mb mc : ME}
theorem se_var (i : Nat) {x : Str} (hN : X.N[i]? = some x := by rfl) (hv : Vis X.env.scope x := by first | exact Or.inl rfl | exact Or.inr (Or.inl rfl) | exact Or.inr (Or.inr rfl)) (hd : (x == ("__debug__" : Str)) = false := by decide)
    (hcd : (x == ("__classdict__" : Str)) = false := by decide) : PE X (.Name x pos) (tE (kc X) W (mVar i)) := (pe_var hN hv hd hcd).imp fun σ H Q => by
  rintro ⟨φ, env, h, hr, er, o⟩
  unfold mVar at o
  split at o
  · rename_i v e
    obtain ⟨u, e1, t⟩ := er.at_ i v e
    exact ⟨u, e1, o.ok_here hr t⟩
  · exact o.elim
theorem se_c {e : Expr} {v : MV} {u : V} (p : PE X e (tC u)) (t : ∀ φ H, IsV (kc X) φ H v u) : PE X e (tE (kc X) W (mC v)) := p.imp fun σ H Q => by
  rintro ⟨φ, env, h, hr, er, o⟩
  exact OkG.ok_here o hr (t φ H)
theorem se_int {i j} : PE X (.Constant (.int i) j pos) (tE (kc X) W (mC (.int i))) := se_c pe_int fun _ _ => .int i
theorem se_bl {b j} : PE X (.Constant (.bool b) j pos) (tE (kc X) W (mC (.bl b))) := se_c pe_bl fun _ _ => .bl b
theorem se_non {j} : PE X (.Constant .none j pos) (tE (kc X) W (mC .non)) := se_c pe_non fun _ _ => .non
theorem se_str {x j} : PE X (.Constant (.str x) j pos) (tE (kc X) W (mC (.str x))) := se_c pe_str fun _ _ => .str x
/-- a whole number of the module -/
theorem se_globI {x : Str} {i : Int} (hg : Gl X x) (hm : ∃ t, X.mg x = some (.int i t)) (hd : (x == ("__debug__" : Str)) = false := by decide) : PE X (.Name x pos) (tE (kc X) W (mC (.int i))) := by
  obtain ⟨t, hm⟩ := hm
  exact se_c (u := V.int i) (pe_glob hg hm ⟨t, rfl⟩ hd) fun _ _ => .int i
theorem se_globS {x : Str} {i : Str} (hg : Gl X x) (hm : ∃ t, X.mg x = some (.str i t)) (hd : (x == ("__debug__" : Str)) = false := by decide) : PE X (.Name x pos) (tE (kc X) W (mC (.str i))) := by
  obtain ⟨t, hm⟩ := hm
  exact se_c (u := V.str i) (pe_glob hg hm ⟨t, rfl⟩ hd) fun _ _ => .str i

/-! ### two operands -/
def mBin (f : MV → MV → MH → R MV) (ma mb : ME) : ME := fun env h => (ma env h).bind fun x h1 => (mb env h1).bind fun y h2 => f x y h2
theorem tOp_of {r : R2} {f : MV → MV → MH → R MV} {K : KC} (hs : ∀ (Z : XW) φ H h x y u v Q, HR K φ H h → IsV K φ H x u → IsV K φ H y v → OkG K (IsV K) Z φ H (f x y h) Q → r u v H Q) {σ : St} {H : Hp} {Q : VK} (o : tE K W (mBin f ma mb) σ H Q) : tOp r (tE K W ma) (tE K W mb) σ H Q := by
  obtain ⟨φ, env, h, hr, er, o⟩ := o
  refine tG_step hr er o fun φ1 H1 h1 x u k1 hr1 er1 t1 o1 => ?_
  refine tG_step hr1 er1 o1 fun φ2 H2 h2 y v k2 hr2 er2 t2 o2 => ?_
  exact hs _ φ2 H2 h2 x y u v Q hr2 (t1.keep k2) t2 o2
/-- r asks what f computes -/
def OpF (K : KC) (r : R2) (f : MV → MV → MH → R MV) : Prop := ∀ (Z : XW) φ H h x y u v Q, HR K φ H h → IsV K φ H x u → IsV K φ H y v → OkG K (IsV K) Z φ H (f x y h) Q → r u v H Q
theorem se_op {op : Operator} {r : R2} {f : MV → MV → MH → R MV} (ho : OpR X (binaryOp op) r) (hs : OpF (kc X) r f) (ha : PE X a (tE (kc X) W ma)) (hb : PE X b (tE (kc X) W mb)) : PE X (.BinOp a op b pos) (tE (kc X) W (mBin f ma mb)) :=
  (pe_op ho ha hb).imp fun _ _ _ o => tOp_of hs o
theorem se_cmp {op : CmpOp} {r : R2} {f : MV → MV → MH → R MV} (ho : OpR X (compareOp op) r) (hs : OpF (kc X) r f) (ha : PE X a (tE (kc X) W ma)) (hb : PE X b (tE (kc X) W mb)) (hm : behindInMarks op b = false := by first | exact nobehind _ (by decide) (by decide) | rfl) :
    PE X (.Compare a [op] [b] pos) (tE (kc X) W (mBin f ma mb)) := (pe_cmpR ho ha hb hm).imp fun _ _ _ o => tOp_of hs o
/-- a value as a test -/
def mAsB (m : ME) : MT := fun env h => (m env h).bind fun x h1 => match x with
  | .bl b => .ok b h1
  | _ => .bad
theorem tTest_of {t : TE} {K : KC} {m : ME} (ht : ∀ σ H Q, tE K W m σ H Q → t σ H Q) {σ : St} {H : Hp} {Q : Bool → Hp → Prop} (o : tT K W (mAsB m) σ H Q) : t σ H fun x H' => ∃ k, x = .bl k ∧ Q k H' := by
  obtain ⟨φ, env, h, hr, er, o⟩ := o
  refine ht _ _ _ (tG_step hr er o fun φ1 H1 h1 x u k1 hr1 er1 t1 o1 => ?_)
  cases t1 with
  | bl b => exact ⟨b, rfl, OkG.ok_here o1 hr1 rfl⟩
  | _ => exact o1.elim
theorem st_cmp {op : CmpOp} {r : R2} {f : MV → MV → MH → R MV} (ho : OpR X (compareOp op) r) (hs : OpF (kc X) r f) (ha : PE X a (tE (kc X) W ma)) (hb : PE X b (tE (kc X) W mb)) (hm : behindInMarks op b = false := by first | exact nobehind _ (by decide) (by decide) | rfl) :
    PT X (.Compare a [op] [b] pos) (tT (kc X) W (mAsB (mBin f ma mb))) := (pt_cmpR ho ha hb hm).imp fun _ _ _ o => tTest_of (fun _ _ _ q => tOp_of hs q) o
theorem st_val {e : Expr} {m : ME} (h : PE X e (tE (kc X) W m)) (he : ∀ whole, isTrue e X.env whole = (do let v ← whole; standAt e.pos; holding [v] (truthy v)) := by intro _; rfl) : PT X e (tT (kc X) W (mAsB m)) :=
  (pt_val h he).imp fun _ _ _ o => tTest_of (fun _ _ _ q => q) o
/-- a op b op' c -/
def mChain (f g : MV → MV → MH → R MV) (ma mb mc : ME) : ME := fun env h => (ma env h).bind fun x h1 => (mb env h1).bind fun y h2 => (f x y h2).bind fun z h3 => match z with
  | .bl true => (mc env h3).bind fun w h4 => g y w h4
  | .bl false => .ok (.bl false) h3
  | _ => .bad
/-- f's answer leaves the heap -/
def Quiet (f : MV → MV → MH → R MV) : Prop := ∀ x y h, f x y h = .bad ∨ ∃ b, f x y h = .ok (.bl b) h
theorem tChain_of {r r' : R2} {f g : MV → MV → MH → R MV} {K : KC} (hs : OpF K r f) (hs' : OpF K r' g) {σ : St} {H : Hp} {Q : VK} (o : tE K W (mChain f g ma mb mc) σ H Q) : tChain r r' (tE K W ma) (tE K W mb) (tE K W mc) σ H Q := by
  obtain ⟨φ, env, h, hr, er, o⟩ := o
  refine tG_step hr er o fun φ1 H1 h1 x u k1 hr1 er1 t1 o1 => ?_
  refine tG_step hr1 er1 o1 fun φ2 H2 h2 y v k2 hr2 er2 t2 o2 => ?_
  refine hs (W σ env) φ2 H2 h2 x y u v _ hr2 (t1.keep k2) t2 ?_
  cases e : f x y h2 with
  | ok z h3 =>
    rw [e] at o2
    intro φ3 H3 w k3 hr3 t3
    have o3 := OkG.mono o2 k3
    cases t3 with
    | bl b =>
      refine ⟨b, rfl, ?_⟩
      cases b with
      | true =>
        rw [if_pos rfl]
        refine tG_step hr3 (er2.keep k3) o3 fun φ4 H4 h4 y' v' k4 hr4 er4 t4 o4 => ?_
        exact hs' _ φ4 H4 h4 y y' v v' Q hr4 ((t2.keep k3).keep k4) t4 o4
      | false =>
        rw [if_neg Bool.false_ne_true]
        exact OkG.ok_here o3 hr3 (.bl false)
    | _ => exact o3.elim
  | exc z h3 => rw [e] at o2; exact o2
  | bad => rw [e] at o2; exact o2.elim
theorem se_chain {op op' : CmpOp} {r r' : R2} {f g : MV → MV → MH → R MV} (ho : OpR X (compareOp op) r) (hs : OpF (kc X) r f) (ho' : OpR X (compareOp op') r') (hs' : OpF (kc X) r' g) (ha : PE X a (tE (kc X) W ma)) (hb : PE X b (tE (kc X) W mb)) (hc : PE X c (tE (kc X) W mc))
    (hm : lastMarks [op, op'] [b, c] = false := by with_unfolding_all rfl) : PE X (.Compare a [op, op'] [b, c] pos) (tE (kc X) W (mChain f g ma mb mc)) := (pe_chain ho ho' ha hb hc hm).imp fun _ _ _ o => tChain_of hs hs' o
theorem st_chain {op op' : CmpOp} {r r' : R2} {f g : MV → MV → MH → R MV} (ho : OpR X (compareOp op) r) (hs : OpF (kc X) r f) (ho' : OpR X (compareOp op') r') (hs' : OpF (kc X) r' g) (ha : PE X a (tE (kc X) W ma)) (hb : PE X b (tE (kc X) W mb)) (hc : PE X c (tE (kc X) W mc))
    (hm : lastMarks [op, op'] [b, c] = false := by with_unfolding_all rfl) : PT X (.Compare a [op, op'] [b, c] pos) (tT (kc X) W (mAsB (mChain f g ma mb mc))) := (pt_chain ho ho' ha hb hc hm).imp fun _ _ _ o => tTest_of (fun _ _ _ q => tChain_of hs hs' q) o

/-! ### and, or, not, if -/
def mAndV (ma mb : ME) : ME := fun env h => (ma env h).bind fun x h1 => match x with
  | .bl true => mb env h1
  | .bl false => .ok (.bl false) h1
  | _ => .bad
def mOrV (ma mb : ME) : ME := fun env h => (ma env h).bind fun x h1 => match x with
  | .bl true => .ok (.bl true) h1
  | .bl false => mb env h1
  | _ => .bad
def mNotV (ma : ME) : ME := fun env h => (ma env h).bind fun x h1 => match x with
  | .bl b => .ok (.bl (!b)) h1
  | _ => .bad
variable {rest : List Expr} {ta tb : MT}
theorem se_one {op} (h : PE X a (tE (kc X) W ma)) : PE X (.BoolOp op [a] pos) (tE (kc X) W ma) := pe_one h
theorem se_and (ha : PE X a (tE (kc X) W ma)) (hb : PE X (.BoolOp .And (b :: rest) pos) (tE (kc X) W mb)) : PE X (.BoolOp .And (a :: b :: rest) pos) (tE (kc X) W (mAndV ma mb)) := (pe_and ha hb).imp fun σ H Q => by
  rintro ⟨φ, env, h, hr, er, o⟩
  refine tG_step hr er o fun φ1 H1 h1 x u k1 hr1 er1 t1 o1 => ?_
  cases t1 with
  | bl b =>
    refine ⟨b, rfl, ?_⟩
    cases b with
    | true => rw [if_pos rfl]; exact ⟨φ1, env, h1, hr1, er1, o1⟩
    | false => rw [if_neg Bool.false_ne_true]; exact OkG.ok_here o1 hr1 (.bl false)
  | _ => exact o1.elim
theorem se_or (ha : PE X a (tE (kc X) W ma)) (hb : PE X (.BoolOp .Or (b :: rest) pos) (tE (kc X) W mb)) : PE X (.BoolOp .Or (a :: b :: rest) pos) (tE (kc X) W (mOrV ma mb)) := (pe_or ha hb).imp fun σ H Q => by
  rintro ⟨φ, env, h, hr, er, o⟩
  refine tG_step hr er o fun φ1 H1 h1 x u k1 hr1 er1 t1 o1 => ?_
  cases t1 with
  | bl b =>
    refine ⟨b, rfl, ?_⟩
    cases b with
    | true => rw [if_pos rfl]; exact OkG.ok_here o1 hr1 (.bl true)
    | false => rw [if_neg Bool.false_ne_true]; exact ⟨φ1, env, h1, hr1, er1, o1⟩
  | _ => exact o1.elim
theorem se_not (ha : PE X a (tE (kc X) W ma)) : PE X (.UnaryOp .Not a pos) (tE (kc X) W (mNotV ma)) := (pe_not ha).imp fun σ H Q => by
  rintro ⟨φ, env, h, hr, er, o⟩
  refine tG_step hr er o fun φ1 H1 h1 x u k1 hr1 er1 t1 o1 => ?_
  cases t1 with
  | bl b => exact ⟨b, rfl, OkG.ok_here o1 hr1 (.bl _)⟩
  | _ => exact o1.elim
def mAndT (ta tb : MT) : MT := fun env h => (ta env h).bind fun c h1 => if c = true then tb env h1 else .ok false h1
def mOrT (ta tb : MT) : MT := fun env h => (ta env h).bind fun c h1 => if c = true then .ok true h1 else tb env h1
def mNotT (ta : MT) : MT := fun env h => (ta env h).bind fun c h1 => .ok (!c) h1
theorem sw_and1 (ha : PT X a (tT (kc X) W ta)) : PW X (.BoolOp .And [a] pos) (tT (kc X) W ta) := pw_and1 ha
theorem sw_or1 (ha : PT X a (tT (kc X) W ta)) : PW X (.BoolOp .Or [a] pos) (tT (kc X) W ta) := pw_or1 ha
theorem sw_and (ha : PT X a (tT (kc X) W ta)) (hb : PW X (.BoolOp .And (b :: rest) pos) (tT (kc X) W tb)) : PW X (.BoolOp .And (a :: b :: rest) pos) (tT (kc X) W (mAndT ta tb)) := (pw_and ha hb).imp fun σ H Q => by
  rintro ⟨φ, env, h, hr, er, o⟩
  refine tG_step hr er o fun φ1 H1 h1 x u k1 hr1 er1 t1 o1 => ?_
  cases t1
  cases x with
  | true => rw [if_pos rfl]; exact ⟨φ1, env, h1, hr1, er1, o1⟩
  | false => rw [if_neg Bool.false_ne_true]; exact OkG.ok_here o1 hr1 rfl
theorem sw_or (ha : PT X a (tT (kc X) W ta)) (hb : PW X (.BoolOp .Or (b :: rest) pos) (tT (kc X) W tb)) : PW X (.BoolOp .Or (a :: b :: rest) pos) (tT (kc X) W (mOrT ta tb)) := (pw_or ha hb).imp fun σ H Q => by
  rintro ⟨φ, env, h, hr, er, o⟩
  refine tG_step hr er o fun φ1 H1 h1 x u k1 hr1 er1 t1 o1 => ?_
  cases t1
  cases x with
  | true => rw [if_pos rfl]; exact OkG.ok_here o1 hr1 rfl
  | false => rw [if_neg Bool.false_ne_true]; exact ⟨φ1, env, h1, hr1, er1, o1⟩
theorem st_w {e : Expr} (h : PW X e (tT (kc X) W ta)) : PT X e (tT (kc X) W ta) := h.pt
theorem st_not (ha : PT X a (tT (kc X) W ta)) : PT X (.UnaryOp .Not a pos) (tT (kc X) W (mNotT ta)) := (pt_not ha).imp fun σ H Q => by
  rintro ⟨φ, env, h, hr, er, o⟩
  refine tG_step hr er o fun φ1 H1 h1 x u k1 hr1 er1 t1 o1 => ?_
  cases t1
  exact OkG.ok_here o1 hr1 rfl
def mIf (t : MT) (ma mb : ME) : ME := fun env h => (t env h).bind fun c h1 => if c = true then ma env h1 else mb env h1
theorem se_if (hc : PT X c (tT (kc X) W ta)) (ha : PE X a (tE (kc X) W ma)) (hb : PE X b (tE (kc X) W mb)) : PE X (.IfExp c a b pos) (tE (kc X) W (mIf ta ma mb)) := (pe_ifExp hc ha hb).imp fun σ H Q => by
  rintro ⟨φ, env, h, hr, er, o⟩
  refine tG_step hr er o fun φ1 H1 h1 x u k1 hr1 er1 t1 o1 => ?_
  cases t1
  cases x with
  | true => rw [if_pos rfl]; exact ⟨φ1, env, h1, hr1, er1, o1⟩
  | false => rw [if_neg Bool.false_ne_true]; exact ⟨φ1, env, h1, hr1, er1, o1⟩

/-! ### argument lists, displays -/
def mNil : MA := fun _ h => .ok [] h
def mCons (ma : ME) (r : MA) : MA := fun env h => (ma env h).bind fun x h1 => (r env h1).bind fun xs h2 => .ok (x :: xs) h2
/-- a list's items; a tuple's -/
def itemsOf (h : MH) : MV → Option (List MV)
  | .tup xs => some xs
  | .ref n => match h[n]? with
    | some (.lst xs) => some xs
    | some (.frz xs) => some xs
    | _ => none
  | _ => none
def mStar (ma : ME) (r : MA) : MA := fun env h => (ma env h).bind fun x h1 => match itemsOf h1 x with
  | some xs => (r env h1).bind fun ys h2 => .ok (xs ++ ys) h2
  | none => .bad
variable {es : List Expr} {mr : MA}
theorem sa_nil : PA X [] (tA (kc X) W mNil) := pa_nil.imp fun σ H Q => by
  rintro ⟨φ, env, h, hr, er, o⟩
  exact OkG.ok_here o hr .nil
theorem sa_cons (ha : PE X a (tE (kc X) W ma)) (hr : PA X es (tA (kc X) W mr)) (hs : starEach (a :: es) X.env = (false, eval a X.env) :: starEach es X.env := by rfl) : PA X (a :: es) (tA (kc X) W (mCons ma mr)) := (pa_cons ha hr hs).imp fun σ H Q => by
  rintro ⟨φ, env, h, hr, er, o⟩
  refine tG_step hr er o fun φ1 H1 h1 x u k1 hr1 er1 t1 o1 => ?_
  refine tG_step hr1 er1 o1 fun φ2 H2 h2 xs us k2 hr2 er2 t2 o2 => ?_
  exact OkG.ok_here o2 hr2 (.cons (t1.keep k2) t2)
def mTup (r : MA) : ME := fun env h => (r env h).bind fun xs h1 => if xs.length ≤ cap then .ok (.tup xs) h1 else .bad
def mLst (r : MA) : ME := fun env h => (r env h).bind fun xs h1 => if xs.length ≤ cap then .ok (.ref h1.length) (h1 ++ [.lst xs]) else .bad
/-- a new list -/
theorem lay_ok {K : KC} {Z : XW} {φ : List Addr} {H : Hp} {h : MH} {xs : List MV} {vs : List V} {p : Addr} {Q : VK} (hr : HR K φ H h) (t : IsVs K φ H xs vs) (hl : xs.length ≤ cap) (hp : H p = none) (o : OkG K (IsV K) Z φ H (.ok (.ref h.length) (h ++ [.lst xs])) Q) : Q (.ref p) (upd H p (.lst vs)) :=
  o (φ ++ [p]) _ (.ref p) (Keep.lay hp) (hr.lay hp (cap_line hl) t) (.ref (lay_at hr))
theorem tup_ok {K : KC} {Z : XW} {φ : List Addr} {H : Hp} {h : MH} {xs : List MV} {vs : List V} {p : Addr} {Q : VK} (hr : HR K φ H h) (t : IsVs K φ H xs vs) (hp : H p = none) (o : OkG K (IsV K) Z φ H (.ok (.tup xs) h) Q) : Q (.ref p) (upd H p (.tup vs)) :=
  o φ _ (.ref p) (Keep.new hp) (hr.new hp) (.tup (SqT.of upd_same) (t.keep (Keep.new hp)))
theorem se_tup {x1} (hr : PA X es (tA (kc X) W mr)) : PE X (.Tuple es x1 pos) (tE (kc X) W (mTup mr)) := (pe_tup hr).imp fun σ H Q => by
  rintro ⟨φ, env, h, hr, er, o⟩
  refine tG_step hr er o fun φ1 H1 h1 xs us k1 hr1 er1 t1 o1 => ?_
  split at o1
  · rename_i hl
    exact ⟨by rw [t1.length]; exact cap_line hl, fun p hp => tup_ok hr1 t1 hp o1⟩
  · exact o1.elim
theorem se_lst (hr : PA X es (tA (kc X) W mr)) : PE X (.List es pos) (tE (kc X) W (mLst mr)) := (pe_lst hr).imp fun σ H Q => by
  rintro ⟨φ, env, h, hr, er, o⟩
  refine tG_step hr er o fun φ1 H1 h1 xs us k1 hr1 er1 t1 o1 => ?_
  split at o1
  · rename_i hl
    exact ⟨by rw [t1.length]; exact cap_line hl, fun p hp => lay_ok hr1 t1 hl hp o1⟩
  · exact o1.elim
/-- what a list's or a tuple's items are in the heap -/
theorem seq_of {K : KC} {φ : List Addr} {H : Hp} {h : MH} {x : MV} {u : V} {xs : List MV} (hr : HR K φ H h) (t : IsV K φ H x u) (e : itemsOf h x = some xs) : ∃ a vs, u = .ref a ∧ (SqT K H a vs ∨ SqL K H a vs) ∧ IsVs K φ H xs vs := by
  cases t with
  | tup hq ts => cases e; exact ⟨_, _, rfl, .inl hq, ts⟩
  | @ref n a ea =>
    unfold itemsOf at e
    cases q : h[n]? with
    | none => simp only [q] at e; cases e
    | some ob =>
      have w := hr.at_ n a ob ea q
      cases ob with
      | lst ys => simp only [q] at e; cases e; obtain ⟨_, vs, e1, t1⟩ := w; exact ⟨a, vs, rfl, .inr (SqL.of e1), t1⟩
      | frz ys => simp only [q] at e; cases e; obtain ⟨_, ob, vs, e1, t1⟩ := w; exact ⟨a, vs, rfl, .inr (.inl (.inr ⟨ob, e1⟩)), t1⟩
      | _ => simp only [q] at e; cases e
  | _ => cases e

/-! ### calls -/
def mCall (F : List MV → MH → R MV) (r : MA) : ME := fun env h => (r env h).bind fun xs h1 => F xs h1
/-- r asks what f computes -/
def CallF (K : KC) (r : List V → Hp → VK → Prop) (f : List MV → MH → R MV) : Prop := ∀ (Z : XW) φ H h xs us Q, HR K φ H h → IsVs K φ H xs us → OkG K (IsV K) Z φ H (f xs h) Q → r us H Q
theorem tCB_of {r : List V → Hp → VK → Prop} {f : List MV → MH → R MV} {K : KC} (hs : CallF K r f) {σ : St} {H : Hp} {Q : VK} (o : tE K W (mCall f mr) σ H Q) : tCB r (tA K W mr) σ H Q := by
  obtain ⟨φ, env, h, hr, er, o⟩ := o
  refine tG_step hr er o fun φ1 H1 h1 xs us k1 hr1 er1 t1 o1 => ?_
  exact hs _ φ1 H1 h1 xs us Q hr1 t1 o1
theorem se_callB {id : String} {x : Str} {p : Pos} {r : List V → Hp → VK → Prop} {f : List MV → MH → R MV} (hc : CallR X (.builtin id) r) (hs : CallF (kc X) r f) (hg : Gl X x) (hm : X.mg x = none) (hv : bootBuiltins x = some (.builtin id)) (ha : PA X (a :: es) (tA (kc X) W mr)) (hn : x ≠ "__name__" := by decide) (hdb : (x == ("__debug__" : Str)) = false := by decide)
    (he : starEach (a :: es) X.env = (false, eval a X.env) :: starEach es X.env := by rfl) (hpl : (backTo pos (starEach es X.env)).any (·.1) = false := by rfl) : PE X (.Call (.Name x p) (a :: es) [] pos) (tE (kc X) W (mCall f mr)) :=
  (pe_callB hc hg hm hv ha hn hdb he hpl).imp fun _ _ _ o => tCB_of hs o
theorem se_callTy {T : String} {x : Str} {p : Pos} {r : List V → Hp → VK → Prop} {f : List MV → MH → R MV} (hc : CallR X (.type T) r) (hs : CallF (kc X) r f) (hg : Gl X x) (hm : X.mg x = none) (hv : bootBuiltins x = some (.type T)) (ha : PA X (a :: es) (tA (kc X) W mr)) (hn : x ≠ "__name__" := by decide) (hdb : (x == ("__debug__" : Str)) = false := by decide)
    (he : starEach (a :: es) X.env = (false, eval a X.env) :: starEach es X.env := by rfl) (hpl : (backTo pos (starEach es X.env)).any (·.1) = false := by rfl) : PE X (.Call (.Name x p) (a :: es) [] pos) (tE (kc X) W (mCall f mr)) :=
  (pe_callTy hc hg hm hv ha hn hdb he hpl).imp fun _ _ _ o => tCB_of hs o
/-- a def that computes F; nothing is raised -/
def spM (K : KC) (np : Nat) (F : List MV → MH → R MV) : Sp := fun vs H Q E => vs.length = np ∧ ∃ φ xs h, HR K φ H h ∧ IsVs K φ H xs vs ∧ OkG K (IsV K) (fun _ _ _ _ => False) φ H (F xs h) Q
def R.noX {α : Type} : R α → R α
  | .exc _ _ => .bad
  | r => r
@[simp] theorem R.noX_ok {α : Type} (a : α) (h : MH) : (R.ok a h).noX = .ok a h := rfl
def mDo (np : Nat) (F : List MV → MH → R MV) (r : MA) : ME := fun env h => (r env h).bind fun xs h1 => if xs.length = np then (F xs h1).noX else .bad
theorem noX_ok {α β : Type} {K : KC} {isA : List Addr → Hp → α → β → Prop} {V V' : XW} {φ : List Addr} {H : Hp} {r : R α} {Q : β → Hp → Prop} (o : OkG K isA V φ H r.noX Q) : OkG K isA V' φ H r Q := by
  cases r with
  | ok a h => exact o
  | exc x h => exact o.elim
  | bad => exact o
theorem tDo_of {K : KC} {np : Nat} {F : List MV → MH → R MV} {σ : St} {H : Hp} {Q : VK} {E : XK} (o : tE K W (mDo np F mr) σ H Q) : tA K W mr σ H fun vs H1 => spM K np F vs H1 Q E := by
  obtain ⟨φ, env, h, hr, er, o⟩ := o
  refine tG_step hr er o fun φ1 H1 h1 xs us k1 hr1 er1 t1 o1 => ?_
  split at o1
  · rename_i hl
    exact ⟨t1.length.trans hl, φ1, xs, h1, hr1, t1, noX_ok o1⟩
  · exact o1.elim
theorem se_call {k np : Nat} {f : Addr} {fd : FuncData} {ps : List Str} {x : Str} {p : Pos} {F : List MV → MH → R MV} (hF : FnOk X.prog X.w X.K X.mg X.base CX0 k f fd ps (spM (kc X) np F)) (hr : Room k X.A) (hg : Gl X x) (hm : X.mg x = some (.ref f)) (hk : PySem.W.keepIn X.K (.ref f) = true) (hb : Binds X.K fd ps [])
    (ha : PA X (a :: es) (tA (kc X) W mr)) (hd : (x == ("__debug__" : Str)) = false := by decide)
    (he : starEach (a :: es) X.env = (false, eval a X.env) :: starEach es X.env := by rfl) (hpl : (backTo pos (starEach es X.env)).any (·.1) = false := by rfl) : PE X (.Call (.Name x p) (a :: es) [] pos) (tE (kc X) W (mDo np F mr)) :=
  (pe_call hF hr hg hm hk hb (dvs := []) .nil pass0 ha hd he hpl).imp fun σ H Q o => by
    show tA (kc X) W mr σ H fun vs H1 => spM (kc X) np F (vs ++ []) H1 Q E0
    have q := tDo_of (E := E0) o
    simpa using q
end
end Mv

set_option maxHeartbeats 4000000
namespace Mv
open PySem PySem.Spec PyProof.Rows L2

/-! ### arithmetic -/
def fI (g : Int → Int → MV) (C : Int → Int → Bool) : MV → MV → MH → R MV := fun x y h => match x, y with
  | .int i, .int j => if C i j = true then .ok (g i j) h else .bad
  | _, _ => .bad
theorem opF_I {K : KC} {r : R2} {g : Int → Int → MV} {C : Int → Int → Bool} (v : Int → Int → V) (hv : ∀ i j φ H, IsV K φ H (g i j) (v i j)) (hr : ∀ i j H Q, C i j = true → Q (v i j) H → r (.int i) (.int j) H Q) : OpF K r (fI g C) := by
  intro Z φ H h x y u w Q hr' t1 t2 o
  cases t1 <;> cases t2 <;> first
    | exact o.elim
    | (unfold fI at o
       simp only at o
       split at o
       · rename_i hc
         exact hr _ _ _ _ hc (OkG.ok_here o hr' (hv _ _ _ _))
       · exact o.elim)
def yes2 : Int → Int → Bool := fun _ _ => true
section
variable {X : Cx}
/-- * of ints of together less than 130 million bits -/
def CMulB (i j : Int) : Bool := decide (i.natAbs.log2 + j.natAbs.log2 < 100000000)
theorem CMulB.ok {i j : Int} (h : CMulB i j = true) : IntMulOk i j := by
  have b : ∀ x : Int, Builtin.Int.intBits x ≤ x.natAbs.log2 + 1 := fun x => by
    unfold Builtin.Int.intBits
    split <;> omega
  have h1 := b i
  have h2 := b j
  have h3 : i.natAbs.log2 + j.natAbs.log2 < 100000000 := of_decide_eq_true h
  have e : bitsLine = 134217728 := by decide
  unfold IntMulOk
  intro z
  rw [Bool.and_eq_true] at z
  have z2 := z.2
  unfold Builtin.Int.intTooBig at z2
  have z3 := of_decide_eq_true z2
  rw [e] at z3
  omega
theorem op_mulB : OpR X (binaryOp .Mult) (rI (fun i j => CMulB i j = true) fun i j => .int (i * j)) := opI fun _ _ _ _ _ _ _ hc q => mul_int q (CMulB.ok hc)
def fSub := fI (fun i j => .int (i - j)) yes2
def fMul := fI (fun i j => .int (i * j)) CMulB
def CDivB (_ j : Int) : Bool := decide (0 < j ∧ j.natAbs.log2 < 9000)
def fDiv := fI (fun i j => .int (i / j)) CDivB
def fMod := fI (fun i j => .int (i % j)) fun _ j => decide (0 < j)
def fPow := fI (fun i j => .int (i ^ j.toNat)) fun i j => decide (0 ≤ i ∧ i ≤ 1000 ∧ 0 ≤ j ∧ j ≤ 1000)
def fLt := fI (fun i j => .bl (decide (i < j))) yes2
def fLe := fI (fun i j => .bl (decide (i ≤ j))) yes2
def fGt := fI (fun i j => .bl (decide (j < i))) yes2
def fGe := fI (fun i j => .bl (decide (j ≤ i))) yes2
theorem os_sub : OpF (kc X) (rI0 fun i j => .int (i - j)) fSub := opF_I (fun i j => .int (i - j)) (fun _ _ _ _ => .int _) fun i j H Q _ q => ⟨i, j, rfl, rfl, q⟩
theorem os_mul : OpF (kc X) (rI (fun i j => CMulB i j = true) fun i j => .int (i * j)) fMul := opF_I (fun i j => .int (i * j)) (fun _ _ _ _ => .int _) fun i j H Q c q => ⟨i, j, rfl, rfl, c, q⟩
theorem os_div : OpF (kc X) (rI CDivW fun i j => .int (i / j)) fDiv := opF_I (fun i j => .int (i / j)) (fun _ _ _ _ => .int _) fun i j H Q c q => ⟨i, j, rfl, rfl, by simpa [CDivB, CDivW] using c, q⟩
theorem os_mod : OpF (kc X) (rI (fun _ j => 0 < j) fun i j => .int (i % j)) fMod := opF_I (fun i j => .int (i % j)) (fun _ _ _ _ => .int _) fun i j H Q c q => ⟨i, j, rfl, rfl, by simpa [CDivB, CDivW] using c, q⟩
theorem os_lt : OpF (kc X) (rI0 fun i j => .bl (decide (i < j))) fLt := opF_I (fun i j => .bl (decide (i < j))) (fun _ _ _ _ => .bl _) fun i j H Q _ q => ⟨i, j, rfl, rfl, q⟩
theorem os_le : OpF (kc X) (rI0 fun i j => .bl (decide (i ≤ j))) fLe := opF_I (fun i j => .bl (decide (i ≤ j))) (fun _ _ _ _ => .bl _) fun i j H Q _ q => ⟨i, j, rfl, rfl, q⟩
theorem os_gt : OpF (kc X) (rI0 fun i j => .bl (decide (j < i))) fGt := opF_I (fun i j => .bl (decide (j < i))) (fun _ _ _ _ => .bl _) fun i j H Q _ q => ⟨i, j, rfl, rfl, q⟩
theorem os_ge : OpF (kc X) (rI0 fun i j => .bl (decide (j ≤ i))) fGe := opF_I (fun i j => .bl (decide (j ≤ i))) (fun _ _ _ _ => .bl _) fun i j H Q _ q => ⟨i, j, rfl, rfl, q⟩

/-- + of ints, texts, lists, tuples -/
def lstOf (h : MH) (n : Nat) : Option (List MV) := match h[n]? with
  | some (.lst xs) => some xs
  | _ => none
theorem lst_of {K : KC} {φ : List Addr} {H : Hp} {h : MH} {n : Nat} {a : Addr} {xs : List MV} (hr : HR K φ H h) (ea : φ[n]? = some a) (e : lstOf h n = some xs) : h[n]? = some (.lst xs) ∧ ∃ vs, H a = some (.lst vs) ∧ IsVs K φ H xs vs := by
  unfold lstOf at e
  cases q : h[n]? with
  | none => simp only [q] at e; cases e
  | some ob =>
    have w := hr.at_ n a ob ea q
    cases ob with
    | lst ys => simp only [q] at e; cases e; exact ⟨rfl, w.2⟩
    | _ => simp only [q] at e; cases e
def fAdd : MV → MV → MH → R MV := fun x y h => match x, y with
  | .int i, .int j => .ok (.int (i + j)) h
  | .str i, .str j => if i.length + j.length ≤ cap then .ok (.str (i ++ j)) h else .bad
  | .ref n, .ref m => match lstOf h n, lstOf h m with
    | some xs, some ys => if xs.length + ys.length ≤ cap then .ok (.ref h.length) (h ++ [.lst (xs ++ ys)]) else .bad
    | _, _ => .bad
  | .tup xs, .tup ys => if xs.length + ys.length ≤ cap then .ok (.tup (xs ++ ys)) h else .bad
  | _, _ => .bad
def rAddU (K : PySem.W.Frag) : R2 := fun x y H Q => (rI0 fun i j => .int (i + j)) x y H Q ∨ (∃ i j, x = .str i ∧ y = .str j ∧ i.length + j.length ≤ sizeLine ∧ Q (.str (i ++ j)) H) ∨ rCat x y H Q ∨ rCatA K x y H Q
theorem op_addU : OpR X (binaryOp .Add) (rAddU X.K) := op_add.or (op_add_str.or (op_cat.or op_catA))
theorem os_add : OpF (kc X) (rAddU X.K) fAdd := by
  intro Z φ H h x y u w Q hr t1 t2 o
  cases t1 with
  | int i =>
    cases t2 with
    | int j => exact .inl ⟨i, j, rfl, rfl, OkG.ok_here o hr (.int _)⟩
    | _ => exact o.elim
  | str i =>
    cases t2 with
    | str j =>
      simp only [fAdd] at o
      split at o
      · rename_i hl
        exact .inr (.inl ⟨i, j, rfl, rfl, cap_line hl, OkG.ok_here o hr (.str _)⟩)
      · exact o.elim
    | _ => exact o.elim
  | @ref n a ea =>
    cases t2 with
    | @ref m b eb =>
      simp only [fAdd] at o
      cases q1 : lstOf h n with
      | none => simp only [q1] at o; exact o.elim
      | some xs =>
        cases q2 : lstOf h m with
        | none => simp only [q1, q2] at o; exact o.elim
        | some ys =>
          simp only [q1, q2] at o
          split at o
          · rename_i hl
            obtain ⟨_, vs, e1, s1⟩ := lst_of hr ea q1
            obtain ⟨_, ws, e2, s2⟩ := lst_of hr eb q2
            exact .inr (.inr (.inl ⟨a, b, vs, ws, rfl, rfl, e1, e2, by rw [s1.length, s2.length]; exact cap_line hl, fun p hp => lay_ok hr (s1.append s2) (by simpa using hl) hp o⟩))
          · exact o.elim
    | _ => exact o.elim
  | @tup a vs xs ha s1 =>
    cases t2 with
    | @tup b ws ys hb s2 =>
      simp only [fAdd] at o
      split at o
      · rename_i hl
        refine .inr (.inr (.inr ⟨a, b, vs, ws, rfl, rfl, ha, hb, by rw [s1.length, s2.length]; exact cap_line hl, fun e => ?_, fun _ e => ?_, fun _ _ p hp => tup_ok hr (s1.append s2) hp o⟩))
        · subst e; cases s1; exact OkG.ok_here o hr (.tup hb s2)
        · subst e; cases s2
          simp only [List.append_nil] at o
          exact OkG.ok_here o hr (.tup ha s1)
      · exact o.elim
    | _ => exact o.elim
  | _ => cases t2 <;> exact o.elim

/-! ### a value as data: == -/
def allSome {α : Type} : List (Option α) → Option (List α)
  | [] => some []
  | none :: _ => none
  | some x :: r => match allSome r with
    | some ys => some (x :: ys)
    | none => none
def dataOf : Nat → MH → MV → Option PyData
  | 0, _, _ => none
  | n + 1, h, v => match v with
    | .non => some .none
    | .bl b => some (.bool b)
    | .int i => some (.int i)
    | .str x => if PyData.strOk x = true then some (.str x) else none
    | .tup xs => (allSome (xs.map (dataOf n h))).map .tuple
    | .ref k => match h[k]? with
      | some (.lst xs) => (allSome (xs.map (dataOf n h))).map .list
      | some (.frz xs) => (allSome (xs.map (dataOf n h))).map .list
      | _ => none
theorem data_ok {K : KC} {φ : List Addr} {H : Hp} {h : MH} (hr : HR K φ H h) : ∀ (n : Nat) (x : MV) (u : V) (d : PyData), IsV K φ H x u → dataOf n h x = some d → Dp K H u d ∧ d.canLay0 = true ∧ d.depth ≤ n := by
  intro n
  induction n with
  | zero => intro x u d t e; cases e
  | succ n ih =>
    have all : ∀ (xs : List MV) (vs : List V) (ds : List PyData), IsVs K φ H xs vs → allSome (xs.map (dataOf n h)) = some ds → DpAll K H vs ds ∧ PyData.canLayAll0 ds = true ∧ PyData.depthAll ds ≤ n := by
      intro xs
      induction xs with
      | nil =>
        intro vs ds t e
        cases t
        simp only [List.map_nil, allSome] at e
        cases e
        exact ⟨.nil, by simp [PyData.canLayAll0], by simp [PyData.depthAll]⟩
      | cons x xs ih2 =>
        intro vs ds t e
        cases t with
        | cons t1 t2 =>
          simp only [List.map_cons] at e
          cases e1 : dataOf n h x with
          | none => simp only [e1, allSome] at e; cases e
          | some d1 =>
            simp only [e1, allSome] at e
            cases e2 : allSome (xs.map (dataOf n h)) with
            | none => simp only [e2] at e; cases e
            | some dr =>
              simp only [e2] at e
              cases e
              obtain ⟨p1, p2, p3⟩ := ih _ _ _ t1 e1
              obtain ⟨q1, q2, q3⟩ := ih2 _ _ t2 e2
              refine ⟨.cons p1 q1, by simp [PyData.canLayAll0, p2, q2], ?_⟩
              simp only [PyData.depthAll]
              omega
    intro x u d t e
    cases t with
    | non => simp only [dataOf] at e; cases e; exact ⟨.non, by simp [PyData.canLay0], by simp [PyData.depth]⟩
    | bl b => simp only [dataOf] at e; cases e; exact ⟨.bl b, by simp [PyData.canLay0], by simp [PyData.depth]⟩
    | int i => simp only [dataOf] at e; cases e; exact ⟨.int i, by simp [PyData.canLay0], by simp [PyData.depth]⟩
    | str s =>
      simp only [dataOf] at e
      split at e
      · rename_i ho
        cases e; exact ⟨.str s, by simp [PyData.canLay0, ho], by simp [PyData.depth]⟩
      · cases e
    | @tup a vs xs hq ts =>
      simp only [dataOf] at e
      cases q : allSome (xs.map (dataOf n h)) with
      | none => rw [q] at e; cases e
      | some ds =>
        rw [q] at e
        cases e
        obtain ⟨p1, p2, p3⟩ := all xs vs ds ts q
        refine ⟨.tup hq p1, by simp [PyData.canLay0, p2], ?_⟩
        simp only [PyData.depth]; omega
    | @ref k a ea =>
      simp only [dataOf] at e
      cases q : h[k]? with
      | none => simp only [q] at e; cases e
      | some ob =>
        have w := hr.at_ k a ob ea q
        cases ob with
        | lst xs =>
          simp only [q] at e
          obtain ⟨_, vs, e1, ts⟩ := w
          cases q2 : allSome (xs.map (dataOf n h)) with
          | none => rw [q2] at e; cases e
          | some ds =>
            rw [q2] at e
            cases e
            obtain ⟨p1, p2, p3⟩ := all xs vs ds ts q2
            refine ⟨.lst (SqL.of e1) p1, by simp [PyData.canLay0, p2], ?_⟩
            simp only [PyData.depth]; omega
        | frz xs =>
          simp only [q] at e
          obtain ⟨_, o', vs, e1, ts⟩ := w
          cases q2 : allSome (xs.map (dataOf n h)) with
          | none => rw [q2] at e; cases e
          | some ds =>
            rw [q2] at e
            cases e
            obtain ⟨p1, p2, p3⟩ := all xs vs ds ts q2
            refine ⟨.lst (.inl (.inr ⟨o', e1⟩)) p1, by simp [PyData.canLay0, p2], ?_⟩
            simp only [PyData.depth]; omega
        | _ => simp only [q] at e; cases e
theorem shaped_ok {d : PyData} {n : Nat} (h1 : d.canLay0 = true) (h2 : d.depth ≤ n) (hn : n ≤ 64) : SeqAt.shaped d = true := by
  unfold SeqAt.shaped
  rw [h1, Bool.true_and]
  exact decide_eq_true (Nat.le_trans h2 hn)
def fEq : MV → MV → MH → R MV := fun x y h => match dataOf 12 h x, dataOf 12 h y with
  | some d, some e => .ok (.bl (PyData.eqv d e)) h
  | _, _ => .bad
def fNe : MV → MV → MH → R MV := fun x y h => match dataOf 12 h x, dataOf 12 h y with
  | some d, some e => .ok (.bl (!PyData.eqv d e)) h
  | _, _ => .bad
theorem os_eq : OpF (kc X) (rEqD X.K) fEq := by
  intro Z φ H h x y u w Q hr t1 t2 o
  unfold fEq at o
  cases q1 : dataOf 12 h x with
  | none => simp only [q1] at o; exact o.elim
  | some d =>
    cases q2 : dataOf 12 h y with
    | none => simp only [q1, q2] at o; exact o.elim
    | some e =>
      simp only [q1, q2] at o
      obtain ⟨a1, a2, a3⟩ := data_ok hr 12 x u d t1 q1
      obtain ⟨b1, b2, b3⟩ := data_ok hr 12 y w e t2 q2
      exact ⟨d, e, a1, b1, shaped_ok a2 a3 (by decide), shaped_ok b2 b3 (by decide), OkG.ok_here o hr (.bl _)⟩
theorem os_ne : OpF (kc X) (rNeD X.K) fNe := by
  intro Z φ H h x y u w Q hr t1 t2 o
  unfold fNe at o
  cases q1 : dataOf 12 h x with
  | none => simp only [q1] at o; exact o.elim
  | some d =>
    cases q2 : dataOf 12 h y with
    | none => simp only [q1, q2] at o; exact o.elim
    | some e =>
      simp only [q1, q2] at o
      obtain ⟨a1, a2, a3⟩ := data_ok hr 12 x u d t1 q1
      obtain ⟨b1, b2, b3⟩ := data_ok hr 12 y w e t2 q2
      exact ⟨d, e, a1, b1, shaped_ok a2 a3 (by decide), shaped_ok b2 b3 (by decide), OkG.ok_here o hr (.bl _)⟩
/-- is None, is not None -/
def isNon : MV → Bool
  | .non => true
  | _ => false
theorem isNon_ok {K : KC} {φ : List Addr} {H : Hp} {x : MV} {u : V} (t : IsV K φ H x u) : decide (u = .non) = isNon x := by
  cases t <;> simp [isNon]
def fIsN : MV → MV → MH → R MV := fun x y h => match y with
  | .non => .ok (.bl (isNon x)) h
  | _ => .bad
def fNotN : MV → MV → MH → R MV := fun x y h => match y with
  | .non => .ok (.bl (!isNon x)) h
  | _ => .bad
theorem os_isN : OpF (kc X) (fun x y H Q => y = .non ∧ Q (.bl (decide (x = .non))) H) fIsN := by
  intro Z φ H h x y u w Q hr t1 t2 o
  cases t2 with
  | non => exact ⟨rfl, by rw [isNon_ok t1]; exact OkG.ok_here o hr (.bl _)⟩
  | _ => exact o.elim
theorem os_notN : OpF (kc X) (fun x y H Q => y = .non ∧ Q (.bl (!decide (x = .non))) H) fNotN := by
  intro Z φ H h x y u w Q hr t1 t2 o
  cases t2 with
  | non => exact ⟨rfl, by rw [isNon_ok t1]; exact OkG.ok_here o hr (.bl _)⟩
  | _ => exact o.elim
/-- x in a list -/
def fIn : MV → MV → MH → R MV := fun x y h => match dataOf 12 h x, dataOf 12 h y with
  | some d, some (.list ds) => .ok (.bl (ds.any fun z => PyData.eqv z d)) h
  | _, _ => .bad
def fNotIn : MV → MV → MH → R MV := fun x y h => match dataOf 12 h x, dataOf 12 h y with
  | some d, some (.list ds) => .ok (.bl (!ds.any fun z => PyData.eqv z d)) h
  | _, _ => .bad
theorem os_in : OpF (kc X) (rInD X.K) fIn := by
  intro Z φ H h x y u w Q hr t1 t2 o
  unfold fIn at o
  cases q1 : dataOf 12 h x with
  | none => simp only [q1] at o; exact o.elim
  | some d =>
    cases q2 : dataOf 12 h y with
    | none => simp only [q1, q2] at o; exact o.elim
    | some e =>
      cases e with
      | list ds =>
        simp only [q1, q2] at o
        obtain ⟨a1, a2, a3⟩ := data_ok hr 12 x u d t1 q1
        obtain ⟨b1, b2, b3⟩ := data_ok hr 12 y w _ t2 q2
        exact ⟨d, ds, a1, b1, shaped_ok a2 a3 (by decide), shaped_ok b2 b3 (by decide), OkG.ok_here o hr (.bl _)⟩
      | _ => simp only [q1, q2] at o; exact o.elim
theorem os_notIn : OpF (kc X) (rNotInD X.K) fNotIn := by
  intro Z φ H h x y u w Q hr t1 t2 o
  unfold fNotIn at o
  cases q1 : dataOf 12 h x with
  | none => simp only [q1] at o; exact o.elim
  | some d =>
    cases q2 : dataOf 12 h y with
    | none => simp only [q1, q2] at o; exact o.elim
    | some e =>
      cases e with
      | list ds =>
        simp only [q1, q2] at o
        obtain ⟨a1, a2, a3⟩ := data_ok hr 12 x u d t1 q1
        obtain ⟨b1, b2, b3⟩ := data_ok hr 12 y w _ t2 q2
        exact ⟨d, ds, a1, b1, shaped_ok a2 a3 (by decide), shaped_ok b2 b3 (by decide), OkG.ok_here o hr (.bl _)⟩
      | _ => simp only [q1, q2] at o; exact o.elim
end
end Mv

set_option maxHeartbeats 4000000
namespace Mv
open PySem PySem.Spec PyProof.Rows L2

/-! ### items -/
theorem IsVs.atI {K : KC} {φ : List Addr} {H : Hp} {xs : List MV} {vs : List V} {i : Int} {x : MV} (t : IsVs K φ H xs vs) (e : atI xs i = some x) : ∃ v, atI vs i = some v ∧ IsV K φ H x v := by
  unfold L2.atI at e ⊢
  rw [t.length]
  cases q : ixN xs.length i with
  | none => rw [q] at e; cases e
  | some j =>
    rw [q] at e
    exact t.get e
def fIx : MV → MV → MH → R MV := fun x y h => match y with
  | .int i => match x with
    | .str z => if z.length ≤ cap then (match atI z.cps.toList i with
      | some c => .ok (.str ⟨#[c]⟩) h
      | none => .bad) else .bad
    | _ => match itemsOf h x with
      | some xs => (match atI xs i with
        | some v => .ok v h
        | none => .bad)
      | none => .bad
  | _ => .bad
section
variable {X : Cx} {W : WT} {pos : Pos} {a b c : Expr} {ma mb mc : ME}
theorem os_ix : OpF (kc X) (rIx X.K) fIx := by
  intro Z φ H h x y u w Q hr t1 t2 o
  cases t2 with
  | int i =>
    cases t1 with
    | str z =>
      simp only [fIx] at o
      split at o
      · rename_i hl
        cases q : atI z.cps.toList i with
        | none => simp only [q] at o; exact o.elim
        | some c =>
          simp only [q] at o
          exact .inr (.inr ⟨z, i, c, rfl, rfl, cap_line hl, q, OkG.ok_here o hr (.str _)⟩)
      · exact o.elim
    | @tup p vs xs hq ts =>
      simp only [fIx, itemsOf] at o
      cases q : atI xs i with
      | none => simp only [q] at o; exact o.elim
      | some v =>
        simp only [q] at o
        obtain ⟨v', e, t⟩ := ts.atI q
        exact .inr (.inl ⟨p, vs, i, v', rfl, rfl, hq, e, OkG.ok_here o hr t⟩)
    | @ref n p ea =>
      simp only [fIx] at o
      cases q0 : itemsOf h (.ref n) with
      | none => simp only [q0] at o; exact o.elim
      | some xs =>
        simp only [q0] at o
        cases q : atI xs i with
        | none => simp only [q] at o; exact o.elim
        | some v =>
          simp only [q] at o
          obtain ⟨p', vs, e1, hs, ts⟩ := seq_of hr (.ref ea) q0
          obtain ⟨v', e, t⟩ := ts.atI q
          rcases hs with hs | hs
          · exact .inr (.inl ⟨p', vs, i, v', e1, rfl, hs, e, OkG.ok_here o hr t⟩)
          · exact .inl ⟨p', vs, i, v', e1, rfl, hs, e, OkG.ok_here o hr t⟩
    | _ => simp only [fIx, itemsOf] at o; exact o.elim
  | _ => exact o.elim
theorem se_ix (ha : PE X a (tE (kc X) W ma)) (hb : PE X b (tE (kc X) W mb)) (hs : PlainIx b := by exact fun _ _ => rfl) : PE X (.Subscript a b pos) (tE (kc X) W (mBin fIx ma mb)) := (pe_ix ix_seq ha hb hs).imp fun _ _ _ o => tOp_of os_ix o

/-! ### slices -/
abbrev MP := MEnv → MH → R (Option Int)
def isO : List Addr → Hp → Option Int → Option Int → Prop := fun _ _ a b => a = b
abbrev tO (K : KC) (W : WT) (m : MP) : TO := tG K isO W m
def mNoP : MP := fun _ h => .ok none h
def mPart (m : ME) : MP := fun env h => (m env h).bind fun x h1 => match x with
  | .int i => .ok (some i) h1
  | _ => .bad
theorem _root_.L2.PO.imp {e : Option Expr} {t t' : TO} (p : PO X e t) (q : ∀ σ H Q, t' σ H Q → t σ H Q) : PO X e t' := ⟨fun pins s σ H Q I h => p.run pins s σ H Q I (q σ H Q h)⟩
theorem so_none : PO X none (tO (kc X) W mNoP) := po_none.imp fun σ H Q => by
  rintro ⟨φ, env, h, hr, er, o⟩
  exact OkG.ok_here o hr rfl
theorem so_some {e : Expr} (ha : PE X e (tE (kc X) W ma)) : PO X (some e) (tO (kc X) W (mPart ma)) := (po_some ha).imp fun σ H Q => by
  rintro ⟨φ, env, h, hr, er, o⟩
  refine tG_step hr er o fun φ1 H1 h1 x u k1 hr1 er1 t1 o1 => ?_
  cases t1 with
  | int i => exact ⟨i, rfl, OkG.ok_here o1 hr1 rfl⟩
  | _ => exact o1.elim
def cutM (xs : List MV) (lo hi : Option Int) : List MV := (xs.drop (HT.sIx xs.length 0 lo)).take (HT.sIx xs.length xs.length hi - HT.sIx xs.length 0 lo)
theorem IsVs.cut {K : KC} {φ : List Addr} {H : Hp} {xs : List MV} {vs : List V} (t : IsVs K φ H xs vs) (lo hi : Option Int) : IsVs K φ H (cutM xs lo hi) (cutV vs lo hi) := by
  unfold cutM cutV
  rw [t.length]
  exact (t.drop _).take _
theorem cutM_length (xs : List MV) (lo hi : Option Int) : (cutM xs lo hi).length ≤ xs.length := by
  unfold cutM
  rw [List.length_take, List.length_drop]
  omega
def fSl (x : MV) (lo hi : Option Int) (h : MH) : R MV := match x with
  | .str z => if z.length ≤ cap then .ok (.str (cutS z lo hi)) h else .bad
  | .tup xs => .ok (.tup (cutM xs lo hi)) h
  | x => match itemsOf h x with
    | some xs => if xs.length ≤ cap then .ok (.ref h.length) (h ++ [.lst (cutM xs lo hi)]) else .bad
    | none => .bad
def mSl (m : ME) (ml mh : MP) : ME := fun env h => (m env h).bind fun x h1 => (ml env h1).bind fun lo h2 => (mh env h2).bind fun hi h3 => fSl x lo hi h3
def rSlU (K : PySem.W.Frag) : V → Option Int → Option Int → Hp → VK → Prop := fun x lo hi H Q => rSlL K x lo hi H Q ∨ rSlA K x lo hi H Q ∨ rSlS x lo hi H Q
theorem sl_U : SlR X (rSlU X.K) := sl_list.or (sl_tupA.or sl_str)
theorem se_slice {lo hi : Option Expr} {p2 : Pos} {ml mh : MP} (ha : PE X a (tE (kc X) W ma)) (hl : PO X lo (tO (kc X) W ml)) (hh : PO X hi (tO (kc X) W mh)) : PE X (.Subscript a (.Slice lo hi none p2) pos) (tE (kc X) W (mSl ma ml mh)) := (pe_slice sl_U ha hl hh).imp fun σ H Q => by
  rintro ⟨φ, env, h, hr, er, o⟩
  refine tG_step hr er o fun φ1 H1 h1 x u k1 hr1 er1 t1 o1 => ?_
  refine tG_step hr1 er1 o1 fun φ2 H2 h2 l l' k2 hr2 er2 t2 o2 => ?_
  cases t2
  refine tG_step hr2 er2 o2 fun φ3 H3 h3 g g' k3 hr3 er3 t3 o3 => ?_
  cases t3
  have t := (t1.keep k2).keep k3
  cases t with
  | str z =>
    simp only [fSl] at o3
    split at o3
    · rename_i hz
      exact .inr (.inr ⟨z, rfl, cap_line hz, OkG.ok_here o3 hr3 (.str _)⟩)
    · exact o3.elim
  | @tup p vs xs hq ts =>
    simp only [fSl] at o3
    refine .inr (.inl ⟨p, vs, rfl, hq, fun e => ?_, fun _ q hp => tup_ok hr3 (ts.cut l g) hp o3⟩)
    have e2 : cutM xs l g = xs := by
      rw [ts.length] at e
      unfold cutM
      rw [e.1, e.2]
      simp
    rw [e2] at o3
    exact OkG.ok_here o3 hr3 (.tup hq ts)
  | @ref n p ea =>
    simp only [fSl] at o3
    cases q0 : itemsOf h3 (.ref n) with
    | none => simp only [q0] at o3; exact o3.elim
    | some xs =>
      simp only [q0] at o3
      split at o3
      · rename_i hz
        have he := q0
        unfold itemsOf at he
        cases q : h3[n]? with
        | none => simp only [q] at he; cases he
        | some ob =>
          have w := hr3.at_ n p ob ea q
          cases ob with
          | lst ys =>
            simp only [q] at he; cases he
            obtain ⟨_, vs, e1, ts⟩ := w
            exact .inl ⟨p, vs, rfl, SqL.of e1, fun r hp => lay_ok hr3 (ts.cut l g) (Nat.le_trans (cutM_length xs l g) hz) hp o3⟩
          | frz ys =>
            simp only [q] at he; cases he
            obtain ⟨_, o', vs, e1, ts⟩ := w
            exact .inl ⟨p, vs, rfl, .inl (.inr ⟨o', e1⟩), fun r hp => lay_ok hr3 (ts.cut l g) (Nat.le_trans (cutM_length xs l g) hz) hp o3⟩
          | _ => simp only [q] at he; cases he
      · exact o3.elim
  | _ => simp only [fSl, itemsOf] at o3; exact o3.elim

/-! ### built-in functions -/
def fLen : List MV → MH → R MV := fun xs h => match xs with
  | [.str z] => if z.length ≤ cap then .ok (.int z.length) h else .bad
  | [x] => match itemsOf h x with
    | some ys => .ok (.int ys.length) h
    | none => .bad
  | _ => .bad
def rLenU (K : PySem.W.Frag) : List V → Hp → VK → Prop := fun xs H Q => (∃ p ys, xs = [.ref p] ∧ (SqL K H p ys ∨ SqT K H p ys) ∧ Q (.int ys.length) H) ∨ (∃ z, xs = [.str z] ∧ z.length ≤ sizeLine ∧ Q (.int z.length) H)
theorem call_lenU : CallR X (.builtin "len") (rLenU X.K) := call_len_seq.or call_len_str
theorem one_of {K : KC} {φ : List Addr} {H : Hp} {x : MV} {us : List V} (t : IsVs K φ H [x] us) : ∃ u, us = [u] ∧ IsV K φ H x u := by
  cases t with
  | cons t1 t2 => cases t2; exact ⟨_, rfl, t1⟩
theorem two_of {K : KC} {φ : List Addr} {H : Hp} {x y : MV} {us : List V} (t : IsVs K φ H [x, y] us) : ∃ u v, us = [u, v] ∧ IsV K φ H x u ∧ IsV K φ H y v := by
  cases t with
  | cons t1 t2 =>
    obtain ⟨v, rfl, t3⟩ := one_of t2
    exact ⟨_, _, rfl, t1, t3⟩
theorem cs_len : CallF (kc X) (rLenU X.K) fLen := by
  intro Z φ H h xs us Q hr t o
  unfold fLen at o
  split at o
  · rename_i z
    obtain ⟨u, rfl, t1⟩ := one_of t
    cases t1
    split at o
    · rename_i hz
      exact .inr ⟨z, rfl, cap_line hz, OkG.ok_here o hr (.int _)⟩
    · exact o.elim
  · rename_i x _
    obtain ⟨u, rfl, t1⟩ := one_of t
    cases q : itemsOf h x with
    | none => simp only [q] at o; exact o.elim
    | some ys =>
      simp only [q] at o
      obtain ⟨p, vs, rfl, hs, ts⟩ := seq_of hr t1 q
      refine .inl ⟨p, vs, rfl, hs.symm, ?_⟩
      rw [ts.length]
      exact OkG.ok_here o hr (.int _)
  · exact o.elim
/-- whole numbers, bools of a list -/
def asInts : List MV → Option (List Int)
  | [] => some []
  | .int i :: r => match asInts r with
    | some is => some (i :: is)
    | none => none
  | _ :: _ => none
def asBools : List MV → Option (List Bool)
  | [] => some []
  | .bl i :: r => match asBools r with
    | some is => some (i :: is)
    | none => none
  | _ :: _ => none
theorem asInts_eq : ∀ {xs : List MV} {ns : List Int}, asInts xs = some ns → xs = ns.map MV.int
  | [], _, e => by simp only [asInts] at e; cases e; rfl
  | .int i :: r, _, e => by
    simp only [asInts] at e
    split at e
    · rename_i is q
      cases e
      rw [asInts_eq q]; rfl
    · cases e
  | .non :: _, _, e => by simp [asInts] at e
  | .bl _ :: _, _, e => by simp [asInts] at e
  | .str _ :: _, _, e => by simp [asInts] at e
  | .ref _ :: _, _, e => by simp [asInts] at e
  | .tup _ :: _, _, e => by simp [asInts] at e
theorem asBools_eq : ∀ {xs : List MV} {ns : List Bool}, asBools xs = some ns → xs = ns.map MV.bl
  | [], _, e => by simp only [asBools] at e; cases e; rfl
  | .bl i :: r, _, e => by
    simp only [asBools] at e
    split at e
    · rename_i is q
      cases e
      rw [asBools_eq q]; rfl
    · cases e
  | .non :: _, _, e => by simp [asBools] at e
  | .int _ :: _, _, e => by simp [asBools] at e
  | .str _ :: _, _, e => by simp [asBools] at e
  | .ref _ :: _, _, e => by simp [asBools] at e
  | .tup _ :: _, _, e => by simp [asBools] at e
@[simp] theorem asInts_map (ns : List Int) : asInts (ns.map MV.int) = some ns := by
  induction ns with
  | nil => rfl
  | cons i r ih => simp [asInts, ih]
@[simp] theorem asBools_map (ns : List Bool) : asBools (ns.map MV.bl) = some ns := by
  induction ns with
  | nil => rfl
  | cons i r ih => simp [asBools, ih]
theorem IsVs.ints {K : KC} {φ : List Addr} {H : Hp} : ∀ {ns : List Int} {vs : List V}, IsVs K φ H (ns.map MV.int) vs → vs = ns.map V.int
  | [], _, .nil => rfl
  | _ :: _, _, .cons (.int _) t => by rw [IsVs.ints t]; rfl
theorem IsVs.bools {K : KC} {φ : List Addr} {H : Hp} : ∀ {ns : List Bool} {vs : List V}, IsVs K φ H (ns.map MV.bl) vs → vs = ns.map V.bl
  | [], _, .nil => rfl
  | _ :: _, _, .cons (.bl _) t => by rw [IsVs.bools t]; rfl
/-- the items of a list (no tuple) -/
def listOf (h : MH) : MV → Option (List MV)
  | .ref n => itemsOf h (.ref n)
  | _ => none
theorem list_of {K : KC} {φ : List Addr} {H : Hp} {h : MH} {x : MV} {u : V} {xs : List MV} (hr : HR K φ H h) (t : IsV K φ H x u) (e : listOf h x = some xs) : ∃ a vs, u = .ref a ∧ SqL K H a vs ∧ IsVs K φ H xs vs := by
  cases t with
  | @ref n a ea =>
    simp only [listOf, itemsOf] at e
    cases q : h[n]? with
    | none => simp only [q] at e; cases e
    | some ob =>
      have w := hr.at_ n a ob ea q
      cases ob with
      | lst ys => simp only [q] at e; cases e; obtain ⟨_, vs, e1, t1⟩ := w; exact ⟨a, vs, rfl, SqL.of e1, t1⟩
      | frz ys => simp only [q] at e; cases e; obtain ⟨_, ob, vs, e1, t1⟩ := w; exact ⟨a, vs, rfl, .inl (.inr ⟨ob, e1⟩), t1⟩
      | _ => simp only [q] at e; cases e
  | _ => cases e
def maxL : Int → List Int → Int
  | m, [] => m
  | m, x :: r => maxL (if m < x then x else m) r
def minL : Int → List Int → Int
  | m, [] => m
  | m, x :: r => minL (if x < m then x else m) r
theorem maxL_spec : ∀ (r : List Int) (m : Int), (maxL m r = m ∨ maxL m r ∈ r) ∧ m ≤ maxL m r ∧ ∀ y ∈ r, y ≤ maxL m r
  | [], m => ⟨.inl rfl, Int.le_refl _, fun _ h => by cases h⟩
  | x :: r, m => by
    obtain ⟨h1, h2, h3⟩ := maxL_spec r (if m < x then x else m)
    unfold maxL
    refine ⟨?_, ?_, fun y hy => ?_⟩
    · rcases h1 with h1 | h1
      · rw [h1]
        split
        · exact .inr (List.mem_cons_self ..)
        · exact .inl rfl
      · exact .inr (List.mem_cons_of_mem _ h1)
    · refine Int.le_trans ?_ h2
      split <;> omega
    · rcases List.mem_cons.mp hy with e | e
      · subst e
        refine Int.le_trans ?_ h2
        split <;> omega
      · exact h3 y e
theorem minL_spec : ∀ (r : List Int) (m : Int), (minL m r = m ∨ minL m r ∈ r) ∧ minL m r ≤ m ∧ ∀ y ∈ r, minL m r ≤ y
  | [], m => ⟨.inl rfl, Int.le_refl _, fun _ h => by cases h⟩
  | x :: r, m => by
    obtain ⟨h1, h2, h3⟩ := minL_spec r (if x < m then x else m)
    unfold minL
    refine ⟨?_, ?_, fun y hy => ?_⟩
    · rcases h1 with h1 | h1
      · rw [h1]
        split
        · exact .inr (List.mem_cons_self ..)
        · exact .inl rfl
      · exact .inr (List.mem_cons_of_mem _ h1)
    · refine Int.le_trans h2 ?_
      split <;> omega
    · rcases List.mem_cons.mp hy with e | e
      · subst e
        refine Int.le_trans h2 ?_
        split <;> omega
      · exact h3 y e
def fMax : List MV → MH → R MV := fun xs h => match xs with
  | [.int i, .int j] => .ok (.int (if j > i then j else i)) h
  | [x] => match (listOf h x).bind asInts with
    | some (m :: r) => .ok (.int (maxL m r)) h
    | _ => .bad
  | _ => .bad
def fMin : List MV → MH → R MV := fun xs h => match xs with
  | [.int i, .int j] => .ok (.int (if j < i then j else i)) h
  | [x] => match (listOf h x).bind asInts with
    | some (m :: r) => .ok (.int (minL m r)) h
    | _ => .bad
  | _ => .bad
def rMaxU (K : PySem.W.Frag) : List V → Hp → VK → Prop := fun xs H Q => (∃ i j, xs = [.int i, .int j] ∧ Q (.int (if j > i then j else i)) H) ∨ rMax K xs H Q
def rMinU (K : PySem.W.Frag) : List V → Hp → VK → Prop := fun xs H Q => (∃ i j, xs = [.int i, .int j] ∧ Q (.int (if j < i then j else i)) H) ∨ rMin K xs H Q
theorem call_maxU (hc : X.calm = true) : CallR X (.builtin "max") (rMaxU X.K) := (call_max2 hc).or (cr_max hc)
theorem call_minU (hc : X.calm = true) : CallR X (.builtin "min") (rMinU X.K) := (call_min2 hc).or (cr_min hc)
theorem ints_of {K : KC} {φ : List Addr} {H : Hp} {h : MH} {x : MV} {u : V} {ns : List Int} (hr : HR K φ H h) (t : IsV K φ H x u) (e : (listOf h x).bind asInts = some ns) : ∃ a, u = .ref a ∧ SqL K H a (ns.map V.int) := by
  cases q : listOf h x with
  | none => rw [q] at e; cases e
  | some ys =>
    rw [q] at e
    have e2 := asInts_eq (show asInts ys = some ns from e)
    subst e2
    obtain ⟨a, vs, rfl, hs, ts⟩ := list_of hr t q
    exact ⟨a, rfl, by rw [← ts.ints]; exact hs⟩
theorem cs_max : CallF (kc X) (rMaxU X.K) fMax := by
  intro Z φ H h xs us Q hr t o
  unfold fMax at o
  split at o
  · rename_i i j
    obtain ⟨u, v, rfl, t1, t2⟩ := two_of t
    cases t1; cases t2
    exact .inl ⟨i, j, rfl, OkG.ok_here o hr (.int _)⟩
  · rename_i x
    obtain ⟨u, rfl, t1⟩ := one_of t
    split at o
    · rename_i m r q
      obtain ⟨a, rfl, hs⟩ := ints_of hr t1 q
      refine .inr ⟨a, m :: r, rfl, hs, by simp, fun k hk hm => ?_⟩
      obtain ⟨h1, h2, h3⟩ := maxL_spec r m
      have e : k = maxL m r := by
        refine Int.le_antisymm ?_ (hm _ ?_)
        · rcases List.mem_cons.mp hk with z | z
          · rw [z]; exact h2
          · exact h3 k z
        · rcases h1 with z | z
          · rw [z]; exact List.mem_cons_self ..
          · exact List.mem_cons_of_mem _ z
      rw [e]
      exact OkG.ok_here o hr (.int _)
    · exact o.elim
  · exact o.elim
theorem cs_min : CallF (kc X) (rMinU X.K) fMin := by
  intro Z φ H h xs us Q hr t o
  unfold fMin at o
  split at o
  · rename_i i j
    obtain ⟨u, v, rfl, t1, t2⟩ := two_of t
    cases t1; cases t2
    exact .inl ⟨i, j, rfl, OkG.ok_here o hr (.int _)⟩
  · rename_i x
    obtain ⟨u, rfl, t1⟩ := one_of t
    split at o
    · rename_i m r q
      obtain ⟨a, rfl, hs⟩ := ints_of hr t1 q
      refine .inr ⟨a, m :: r, rfl, hs, by simp, fun k hk hm => ?_⟩
      obtain ⟨h1, h2, h3⟩ := minL_spec r m
      have e : k = minL m r := by
        refine Int.le_antisymm (hm _ ?_) ?_
        · rcases h1 with z | z
          · rw [z]; exact List.mem_cons_self ..
          · exact List.mem_cons_of_mem _ z
        · rcases List.mem_cons.mp hk with z | z
          · rw [z]; exact h2
          · exact h3 k z
      rw [e]
      exact OkG.ok_here o hr (.int _)
    · exact o.elim
  · exact o.elim
def fSum : List MV → MH → R MV := fun xs h => match xs with
  | [x] => match (listOf h x).bind asInts with
    | some ns => .ok (.int ns.sum) h
    | _ => .bad
  | _ => .bad
theorem cs_sum : CallF (kc X) (rSum X.K) fSum := by
  intro Z φ H h xs us Q hr t o
  unfold fSum at o
  split at o
  · rename_i x
    obtain ⟨u, rfl, t1⟩ := one_of t
    split at o
    · rename_i ns q
      obtain ⟨a, rfl, hs⟩ := ints_of hr t1 q
      exact ⟨a, ns, rfl, hs, OkG.ok_here o hr (.int _)⟩
    · exact o.elim
  · exact o.elim
theorem bools_of {K : KC} {φ : List Addr} {H : Hp} {h : MH} {x : MV} {u : V} {ns : List Bool} (hr : HR K φ H h) (t : IsV K φ H x u) (e : (listOf h x).bind asBools = some ns) : ∃ a, u = .ref a ∧ SqL K H a (ns.map V.bl) := by
  cases q : listOf h x with
  | none => rw [q] at e; cases e
  | some ys =>
    rw [q] at e
    have e2 := asBools_eq (show asBools ys = some ns from e)
    subst e2
    obtain ⟨a, vs, rfl, hs, ts⟩ := list_of hr t q
    exact ⟨a, rfl, by rw [← ts.bools]; exact hs⟩
def fAny : List MV → MH → R MV := fun xs h => match xs with
  | [x] => match (listOf h x).bind asBools with
    | some ns => .ok (.bl (ns.any id)) h
    | _ => .bad
  | _ => .bad
def fAll : List MV → MH → R MV := fun xs h => match xs with
  | [x] => match (listOf h x).bind asBools with
    | some ns => .ok (.bl (ns.all id)) h
    | _ => .bad
  | _ => .bad
theorem cs_any : CallF (kc X) (rAny X.K) fAny := by
  intro Z φ H h xs us Q hr t o
  unfold fAny at o
  split at o
  · rename_i x
    obtain ⟨u, rfl, t1⟩ := one_of t
    split at o
    · rename_i ns q
      obtain ⟨a, rfl, hs⟩ := bools_of hr t1 q
      exact ⟨a, ns, rfl, hs, OkG.ok_here o hr (.bl _)⟩
    · exact o.elim
  · exact o.elim
theorem cs_all : CallF (kc X) (rAll X.K) fAll := by
  intro Z φ H h xs us Q hr t o
  unfold fAll at o
  split at o
  · rename_i x
    obtain ⟨u, rfl, t1⟩ := one_of t
    split at o
    · rename_i ns q
      obtain ⟨a, rfl, hs⟩ := bools_of hr t1 q
      exact ⟨a, ns, rfl, hs, OkG.ok_here o hr (.bl _)⟩
    · exact o.elim
  · exact o.elim
def fTuple : List MV → MH → R MV := fun xs h => match xs with
  | [.tup ys] => .ok (.tup ys) h
  | [x] => match listOf h x with
    | some ys => .ok (.tup ys) h
    | none => .bad
  | _ => .bad
theorem cs_tuple : CallF (kc X) (fun xs H Q => ∃ p ys, xs = [.ref p] ∧ ((SqL X.K H p ys ∧ ∀ l, H l = none → Q (.ref l) (upd H l (.tup ys))) ∨ (SqT X.K H p ys ∧ Q (.ref p) H))) fTuple := by
  intro Z φ H h xs us Q hr t o
  unfold fTuple at o
  split at o
  · rename_i ys
    obtain ⟨u, rfl, t1⟩ := one_of t
    cases t1 with
    | @tup p vs _ hq ts => exact ⟨p, vs, rfl, .inr ⟨hq, OkG.ok_here o hr (.tup hq ts)⟩⟩
  · rename_i x _
    obtain ⟨u, rfl, t1⟩ := one_of t
    split at o
    · rename_i ys q
      obtain ⟨a, vs, rfl, hs, ts⟩ := list_of hr t1 q
      exact ⟨a, vs, rfl, .inl ⟨hs, fun l hl => tup_ok hr ts hl o⟩⟩
    · exact o.elim
  · exact o.elim
def fList : List MV → MH → R MV := fun xs h => match xs with
  | [x] => match itemsOf h x with
    | some ys => if ys.length ≤ cap then .ok (.ref h.length) (h ++ [.lst ys]) else .bad
    | none => .bad
  | _ => .bad
theorem cs_list : CallF (kc X) (fun xs H Q => ∃ p ys, xs = [.ref p] ∧ (SqL X.K H p ys ∨ SqT X.K H p ys) ∧ ∀ l, H l = none → Q (.ref l) (upd H l (.lst ys))) fList := by
  intro Z φ H h xs us Q hr t o
  unfold fList at o
  split at o
  · rename_i x
    obtain ⟨u, rfl, t1⟩ := one_of t
    split at o
    · rename_i ys q
      split at o
      · rename_i hl
        obtain ⟨a, vs, rfl, hs, ts⟩ := seq_of hr t1 q
        exact ⟨a, vs, rfl, hs.symm, fun l hn => lay_ok hr ts hl hn o⟩
      · exact o.elim
    · exact o.elim
  · exact o.elim
def fInt : List MV → MH → R MV := fun xs h => match xs with
  | [.int i] => .ok (.int i) h
  | [.bl b] => .ok (.int (if b then 1 else 0)) h
  | _ => .bad
theorem cs_int : CallF (kc X) (fun xs H Q => (∃ i, xs = [.int i] ∧ Q (.int i) H) ∨ ∃ k, xs = [.bl k] ∧ Q (.int (if k then 1 else 0)) H) fInt := by
  intro Z φ H h xs us Q hr t o
  unfold fInt at o
  split at o
  · rename_i i
    obtain ⟨u, rfl, t1⟩ := one_of t
    cases t1
    exact .inl ⟨i, rfl, OkG.ok_here o hr (.int _)⟩
  · rename_i b
    obtain ⟨u, rfl, t1⟩ := one_of t
    cases t1
    exact .inr ⟨b, rfl, OkG.ok_here o hr (.int _)⟩
  · exact o.elim
def fAbs : List MV → MH → R MV := fun xs h => match xs with
  | [.int i] => .ok (.int (if i < 0 then -i else i)) h
  | _ => .bad
theorem cs_abs : CallF (kc X) (fun xs H Q => ∃ i, xs = [.int i] ∧ Q (.int (if i < 0 then -i else i)) H) fAbs := by
  intro Z φ H h xs us Q hr t o
  unfold fAbs at o
  split at o
  · rename_i i
    obtain ⟨u, rfl, t1⟩ := one_of t
    cases t1
    exact ⟨i, rfl, OkG.ok_here o hr (.int _)⟩
  · exact o.elim

/-! ### isinstance of a built-in type -/
inductive TK where | int | bool | str | tuple | list | dict
  deriving DecidableEq
def TK.name : TK → String
  | .int => "int" | .bool => "bool" | .str => "str" | .tuple => "tuple" | .list => "list" | .dict => "dict"
def isT (t : TK) (h : MH) : MV → Option Bool
  | .non => some false
  | .bl _ => some (match t with | .int => true | .bool => true | _ => false)
  | .int _ => some (match t with | .int => true | _ => false)
  | .str _ => some (match t with | .str => true | _ => false)
  | .tup _ => some (match t with | .tuple => true | _ => false)
  | .ref n => match h[n]? with
    | some (.lst _) => some (match t with | .list => true | _ => false)
    | some (.frz _) => some (match t with | .list => true | _ => false)
    | _ => none
theorem kit_all : ∀ t : TK, kitB "NoneType" t.name = some false ∧ kitB "bool" t.name = some (match t with | .int => true | .bool => true | _ => false) ∧ kitB "int" t.name = some (match t with | .int => true | _ => false) ∧
    kitB "str" t.name = some (match t with | .str => true | _ => false) ∧ kitB "tuple" t.name = some (match t with | .tuple => true | _ => false) ∧ kitB "list" t.name = some (match t with | .list => true | _ => false) := by
  intro t
  cases t <;> decide +kernel
theorem isT_ok {K : KC} {φ : List Addr} {H : Hp} {h : MH} {x : MV} {u : V} {t : TK} {b : Bool} (hr : HR K φ H h) (tx : IsV K φ H x u) (e : isT t h x = some b) : ∃ T, TyX K H u (.type T) ∧ kitB T t.name = some b := by
  obtain ⟨k1, k2, k3, k4, k5, k6⟩ := kit_all t
  cases tx with
  | non => simp only [isT] at e; exact ⟨"NoneType", .base .non, k1.trans e⟩
  | bl y => simp only [isT] at e; exact ⟨"bool", .base (.bl y), k2.trans e⟩
  | int y => simp only [isT] at e; exact ⟨"int", .base (.int y), k3.trans e⟩
  | str y => simp only [isT] at e; exact ⟨"str", .base (.str y), k4.trans e⟩
  | tup hq ts =>
    simp only [isT] at e
    refine ⟨"tuple", ?_, k5.trans e⟩
    rcases hq with (hq | ⟨o, hq⟩) | ⟨o, its, n, hl, hc, _⟩
    · exact .base (.tup hq)
    · exact .fTuple hq
    · exact .kTuple hl hc
  | @ref n a ea =>
    simp only [isT] at e
    cases q : h[n]? with
    | none => simp only [q] at e; cases e
    | some ob =>
      have w := hr.at_ n a ob ea q
      cases ob with
      | lst ys => simp only [q] at e; obtain ⟨_, vs, e1, _⟩ := w; exact ⟨"list", .base (.lst e1), k6.trans e⟩
      | frz ys => simp only [q] at e; obtain ⟨_, o', vs, e1, _⟩ := w; exact ⟨"list", .base (.frz e1), k6.trans e⟩
      | _ => simp only [q] at e; cases e
def mIsi (t : TK) (m : ME) : ME := fun env h => (m env h).bind fun x h1 => match isT t h1 x with
  | some b => .ok (.bl b) h1
  | none => .bad
theorem se_isi {p p2 : Pos} {T : Str} (t : TK) (hg : Gl X "isinstance") (hm : X.mg "isinstance" = none) (hg2 : Gl X T) (hm2 : X.mg T = none) (hv2 : bootBuiltins T = some (.type t.name)) (ha : PE X a (tE (kc X) W ma)) (hn2 : T ≠ "__name__" := by decide) (hd2 : (T == ("__debug__" : Str)) = false := by decide)
    (he : starEach [a, .Name T p2] X.env = (false, eval a X.env) :: starEach [.Name T p2] X.env := by rfl) (he2 : starEach [.Name T p2] X.env = (false, eval (.Name T p2) X.env) :: starEach [] X.env := by rfl) (hpl : (backTo pos (starEach [.Name T p2] X.env)).any (·.1) = false := by rfl) :
    PE X (.Call (.Name "isinstance" p) [a, .Name T p2] [] pos) (tE (kc X) W (mIsi t ma)) :=
  (pe_callB call_isi hg hm boot_isinstance (pa_cons ha (pa_cons (pe_bltn (v := .ty t.name) hg2 hm2 hv2 rfl hn2 hd2) pa_nil he2) he) (by decide) (by decide) he hpl).imp fun σ H Q => by
  rintro ⟨φ, env, h, hr, er, o⟩
  refine tG_step hr er o fun φ1 H1 h1 x u k1 hr1 er1 t1 o1 => ?_
  cases q : isT t h1 x with
  | none => simp only [q] at o1; exact o1.elim
  | some b =>
    simp only [q] at o1
    obtain ⟨T', ty, kb⟩ := isT_ok hr1 t1 q
    exact ⟨u, _, _, _, b, rfl, .ty t.name, ty, kit_ty kb, OkG.ok_here o1 hr1 (.bl b)⟩
end
end Mv

set_option maxHeartbeats 4000000
namespace Mv
open PySem PySem.Spec L2
open PyProof.Rows hiding St

/-! ### methods of lists -/
section
variable {X : Cx} {W : WT} {pos : Pos} {a b c : Expr} {ma mb mc : ME} {es : List Expr} {mr : MA}
/-- o.m(e, ..), o a list -/
def mLm (f : MV → List MV → MH → R MV) (mo : ME) (mr : MA) : ME := fun env h => (mo env h).bind fun x h1 => match listOf h1 x with
  | some _ => (mr env h1).bind fun xs h2 => f x xs h2
  | none => .bad
def MethF (K : KC) (r : V → List V → Hp → VK → Prop) (f : MV → List MV → MH → R MV) : Prop := ∀ (Z : XW) φ H h x xs u us Q, HR K φ H h → IsV K φ H x u → IsVs K φ H xs us → OkG K (IsV K) Z φ H (f x xs h) Q → r u us H Q
theorem tLm_of {r : V → List V → Hp → VK → Prop} {f : MV → List MV → MH → R MV} {K : KC} (hs : MethF K r f) {σ : St} {H : Hp} {Q : VK} (o : tE K W (mLm f ma mr) σ H Q) : tBM K "list" r (tE K W ma) (tA K W mr) σ H Q := by
  obtain ⟨φ, env, h, hr, er, o⟩ := o
  refine tG_step hr er o fun φ1 H1 h1 x u k1 hr1 er1 t1 o1 => ?_
  split at o1
  · rename_i xs0 q
    obtain ⟨p, vs, rfl, hl, ts⟩ := list_of hr1 t1 q
    refine ⟨.inl ⟨rfl, vs, hl⟩, tG_step hr1 er1 o1 fun φ2 H2 h2 xs us k2 hr2 er2 t2 o2 => ?_⟩
    exact hs _ φ2 H2 h2 x xs _ us Q hr2 (t1.keep k2) t2 o2
  · exact o1.elim
def fAppend : MV → List MV → MH → R MV := fun x xs h => match x, xs with
  | .ref n, [y] => match lstOf h n with
    | some ys => if ys.length < cap then .ok .non (h.set n (.lst (ys ++ [y]))) else .bad
    | none => .bad
  | _, _ => .bad
theorem ms_append : MethF (kc X) rAppend fAppend := by
  intro Z φ H h x xs u us Q hr t ts o
  cases t with
  | @ref n p ea =>
    unfold fAppend at o
    split at o
    · rename_i n' y e
      cases e
      obtain ⟨v, rfl, tv⟩ := one_of ts
      split at o
      · rename_i ys q
        split at o
        · rename_i hl
          obtain ⟨e1, vs, e2, t2⟩ := lst_of hr ea q
          refine ⟨p, vs, v, rfl, rfl, e2, by rw [t2.length]; exact cap_lt (Nat.le_of_lt hl), ?_⟩
          exact o φ _ .non (Keep.put (List.mem_of_getElem? ea) e2) (hr.put ea e1 e2 (by simp; exact cap_lt (Nat.le_of_lt hl)) (t2.append (.cons tv .nil))) .non
        · exact o.elim
      · exact o.elim
    · exact o.elim
  | _ => exact o.elim
theorem se_append {apos cpos : Pos} (ho : PE X a (tE (kc X) W ma)) (ha : PA X (b :: es) (tA (kc X) W mr))
    (hbase : attributeBase a "append" X.env (eval a X.env) = eval a X.env := by rfl)
    (hfew : ((backTo cpos (starEach (b :: es) X.env)).all (fun x => !x.1) && (backToKw cpos (keywordEach [] X.env)).all (fun x => x.1.isSome)
      && decide ((b :: es).length + ([] : List Keyword).length + (if ([] : List Keyword).isEmpty then 0 else 1) < 30)) = true := by rfl)
    (hline : (apos.endLine == cpos.line) = true := by rfl) (hs : starEach (b :: es) X.env = (false, eval b X.env) :: starEach es X.env := by rfl) (hplain : (backTo cpos (starEach es X.env)).any (·.1) = false := by rfl) :
    PE X (.Call (.Attribute a "append" apos) (b :: es) [] cpos) (tE (kc X) W (mLm fAppend ma mr)) :=
  (pe_bm PySem.F.plainAttrs_list PySem.F.slot_list_append PySem.F.type_list_append mt_append ho ha hbase hfew hline hs hplain).imp fun _ _ _ o => tLm_of ms_append o
end

/-! ### iterators -/
inductive Nx where
  | item (x : MV) | stop | bad
abbrev MIt := Nat → MH → Nx
structure WalksM (K : KC) (J : It) (it : MIt) (φ0 : List Addr) (H0 : Hp) : Prop where
  go : ∀ φ H h i x, Keep φ0 H0 φ H → HR K φ H h → it i h = .item x → J.go i H ∧ ∀ u H', J.yld i H u H' → Keep φ H φ H' ∧ HR K φ H' h ∧ IsV K φ H' x u
  stop : ∀ φ H h i, Keep φ0 H0 φ H → HR K φ H h → it i h = .stop → J.stop i H
abbrev MI := MEnv → MH → R MIt
def isI (K : KC) : List Addr → Hp → MIt → It → Prop := fun φ H it J => WalksM K J it φ H
abbrev tI (K : KC) (W : WT) (m : MI) : TI := tG K (isI K) W m
def nxOf : Option MV → Nx
  | some x => .item x
  | none => .stop
def itL (n : Nat) : MIt := fun i h => match itemsOf h (.ref n) with
  | some xs => nxOf xs[i]?
  | none => .bad
def itT (xs : List MV) : MIt := fun i _ => nxOf xs[i]?
def itR (lo c : Int) (n : Nat) : MIt := fun i _ => if i < n then .item (.int (lo + (i : Nat) * c)) else .stop
/-- (i, x) for x in a list, in a tuple -/
def itE (it : MIt) : MIt := fun i h => match it i h with
  | .item x => .item (.tup [.int (i : Nat), x])
  | r => r
def itZ (it jt : MIt) : MIt := fun i h => match it i h, jt i h with
  | .item x, .item y => .item (.tup [x, y])
  | .bad, _ => .bad
  | _, .bad => .bad
  | _, _ => .stop
theorem nx_item {xs : List MV} {i : Nat} {x : MV} (e : nxOf xs[i]? = .item x) : xs[i]? = some x := by
  cases q : xs[i]? with
  | none => rw [q] at e; cases e
  | some y => rw [q] at e; cases e; rfl
theorem nx_stop {xs : List MV} {i : Nat} (e : nxOf xs[i]? = .stop) : xs.length ≤ i := by
  cases q : xs[i]? with
  | none => exact List.getElem?_eq_none_iff.mp q
  | some y => rw [q] at e; cases e
section
variable {K : KC} {φ0 : List Addr} {H0 : Hp}
theorem items_list {φ : List Addr} {H : Hp} {h : MH} {n : Nat} {a : Addr} {xs : List MV} (hr : HR K φ H h) (ea : φ[n]? = some a) (e : itemsOf h (.ref n) = some xs) : ∃ vs, SqL K H a vs ∧ IsVs K φ H xs vs := by
  obtain ⟨a', vs, e1, hs, ts⟩ := list_of (x := .ref n) (u := .ref a) hr (.ref ea) e
  cases e1
  exact ⟨vs, hs, ts⟩
/-- one list at an address -/
theorem SqL.one {φ : List Addr} {H : Hp} {h : MH} {n : Nat} {a : Addr} {xs : List MV} {vs ws : List V} (hr : HR K φ H h) (ea : φ[n]? = some a) (e : itemsOf h (.ref n) = some xs) (hs : SqL K H a vs) (hw : SqL K H a ws) (ts : IsVs K φ H xs vs) : True := trivial
theorem walksL {n : Nat} {a : Addr} (ea : φ0[n]? = some a) : WalksM K (Itl K a) (itL n) φ0 H0 := by
  constructor
  · intro φ H h i x k hr e
    unfold itL at e
    split at e
    · rename_i xs q
      obtain ⟨vs, hs, ts⟩ := items_list hr (k.get ea) q
      obtain ⟨v, e1, t⟩ := ts.get (nx_item e)
      refine ⟨⟨vs, v, hs, e1⟩, fun u H' y => ?_⟩
      obtain ⟨rfl, y⟩ := y
      have e2 := y vs hs
      rw [e1] at e2
      cases e2
      exact ⟨Keep.refl, hr, t⟩
    · cases e
  · intro φ H h i k hr e
    unfold itL at e
    split at e
    · rename_i xs q
      obtain ⟨vs, hs, ts⟩ := items_list hr (k.get ea) q
      exact ⟨vs, hs, by rw [ts.length]; exact nx_stop e⟩
    · cases e
theorem walksT {xs : List MV} {vs : List V} {a : Addr} (ha : SqT K H0 a vs) (ts : IsVs K φ0 H0 xs vs) : WalksM K (Itt K a) (itT xs) φ0 H0 := by
  constructor
  · intro φ H h i x k hr e
    obtain ⟨v, e1, t⟩ := (ts.keep k).get (nx_item e)
    refine ⟨⟨vs, v, k.sqT ha, e1⟩, fun u H' y => ?_⟩
    obtain ⟨rfl, y⟩ := y
    have e2 := y vs (k.sqT ha)
    rw [e1] at e2
    cases e2
    exact ⟨Keep.refl, hr, t⟩
  · intro φ H h i k hr e
    exact ⟨vs, k.sqT ha, by rw [ts.length]; exact nx_stop e⟩
theorem walksR {lo : Int} {n : Nat} : WalksM K (Itr lo n) (itR lo 1 n) φ0 H0 := by
  constructor
  · intro φ H h i x k hr e
    unfold itR at e
    split at e
    · rename_i hi
      cases e
      refine ⟨hi, fun u H' y => ?_⟩
      obtain ⟨rfl, rfl⟩ := y
      refine ⟨Keep.refl, hr, ?_⟩
      rw [Int.mul_one]
      exact .int _
    · cases e
  · intro φ H h i k hr e
    unfold itR at e
    split at e
    · cases e
    · rename_i hi
      exact Nat.le_of_not_lt hi
theorem walksC {lo c : Int} {n : Nat} : WalksM K (Itc lo c n) (itR lo c n) φ0 H0 := by
  constructor
  · intro φ H h i x k hr e
    unfold itR at e
    split at e
    · rename_i hi
      cases e
      refine ⟨hi, fun u H' y => ?_⟩
      obtain ⟨rfl, rfl⟩ := y
      exact ⟨Keep.refl, hr, .int _⟩
    · cases e
  · intro φ H h i k hr e
    unfold itR at e
    split at e
    · cases e
    · rename_i hi
      exact Nat.le_of_not_lt hi
theorem walksE {n : Nat} {a : Addr} (ea : φ0[n]? = some a) : WalksM K (Ite K a) (itE (itL n)) φ0 H0 := by
  constructor
  · intro φ H h i x k hr e
    unfold itE at e
    cases q0 : itL n i h with
    | item y =>
      simp only [q0] at e
      cases e
      unfold itL at q0
      split at q0
      · rename_i xs q
        obtain ⟨vs, hs, ts⟩ := items_list hr (k.get ea) q
        obtain ⟨v, e1, t⟩ := ts.get (nx_item q0)
        refine ⟨⟨vs, v, hs, e1⟩, fun u H' z => ?_⟩
        obtain ⟨T, x', rfl, hT, rfl, z⟩ := z
        have e2 := z vs hs
        rw [e1] at e2
        cases e2
        exact ⟨Keep.new hT, hr.new hT, .tup (SqT.of upd_same) (.cons (.int _) (.cons (t.keep (Keep.new hT)) .nil))⟩
      · cases q0
    | stop => simp only [q0] at e; cases e
    | bad => simp only [q0] at e; cases e
  · intro φ H h i k hr e
    unfold itE at e
    cases q0 : itL n i h with
    | item y => simp only [q0] at e; cases e
    | stop =>
      unfold itL at q0
      split at q0
      · rename_i xs q
        obtain ⟨vs, hs, ts⟩ := items_list hr (k.get ea) q
        exact ⟨vs, hs, by rw [ts.length]; exact nx_stop q0⟩
      · cases q0
    | bad => simp only [q0] at e; cases e
theorem walksZ {n m : Nat} {a b : Addr} (ea : φ0[n]? = some a) (eb : φ0[m]? = some b) : WalksM K (Itz K a b) (itZ (itL n) (itL m)) φ0 H0 := by
  have ok : ∀ φ H h i, Keep φ0 H0 φ H → HR K φ H h → itZ (itL n) (itL m) i h ≠ .bad → ∃ xs ys vs ws, itL n i h = nxOf xs[i]? ∧ itL m i h = nxOf ys[i]? ∧ SqL K H a vs ∧ IsVs K φ H xs vs ∧ SqL K H b ws ∧ IsVs K φ H ys ws := by
    intro φ H h i k hr e
    cases q1 : itemsOf h (.ref n) with
    | none =>
      have z : itL n i h = .bad := by unfold itL; rw [q1]
      exact absurd (by unfold itZ; rw [z]) e
    | some xs =>
      have z1 : itL n i h = nxOf xs[i]? := by unfold itL; rw [q1]
      cases q2 : itemsOf h (.ref m) with
      | none =>
        have z : itL m i h = .bad := by unfold itL; rw [q2]
        exact absurd (by unfold itZ; rw [z]; cases itL n i h <;> rfl) e
      | some ys =>
        have z2 : itL m i h = nxOf ys[i]? := by unfold itL; rw [q2]
        obtain ⟨vs, hs, ts⟩ := items_list hr (k.get ea) q1
        obtain ⟨ws, hs2, ts2⟩ := items_list hr (k.get eb) q2
        exact ⟨xs, ys, vs, ws, z1, z2, hs, ts, hs2, ts2⟩
  constructor
  · intro φ H h i x k hr e
    obtain ⟨xs, ys, vs, ws, z1, z2, hs, ts, hs2, ts2⟩ := ok φ H h i k hr (by rw [e]; intro z; cases z)
    unfold itZ at e
    rw [z1, z2] at e
    cases g1 : xs[i]? with
    | none =>
      rw [g1] at e
      cases g2 : ys[i]? <;> (rw [g2] at e; cases e)
    | some x1 =>
      cases g2 : ys[i]? with
      | none => rw [g1, g2] at e; cases e
      | some y1 =>
        rw [g1, g2] at e
        cases e
        obtain ⟨v, e1, t⟩ := ts.get g1
        obtain ⟨w, e2, t2⟩ := ts2.get g2
        refine ⟨⟨vs, ws, v, w, hs, hs2, e1, e2⟩, fun u H' z => ?_⟩
        obtain ⟨T, x', y', rfl, hT, rfl, p1, p2⟩ := z
        have f1 := p1 vs hs
        have f2 := p2 ws hs2
        rw [e1] at f1; cases f1
        rw [e2] at f2; cases f2
        exact ⟨Keep.new hT, hr.new hT, .tup (SqT.of upd_same) (.cons (t.keep (Keep.new hT)) (.cons (t2.keep (Keep.new hT)) .nil))⟩
  · intro φ H h i k hr e
    obtain ⟨xs, ys, vs, ws, z1, z2, hs, ts, hs2, ts2⟩ := ok φ H h i k hr (by rw [e]; intro z; cases z)
    unfold itZ at e
    rw [z1, z2] at e
    refine ⟨vs, ws, hs, hs2, ?_⟩
    rw [ts.length, ts2.length]
    cases g1 : xs[i]? with
    | none => exact .inl (List.getElem?_eq_none_iff.mp g1)
    | some x1 =>
      cases g2 : ys[i]? with
      | none => exact .inr (List.getElem?_eq_none_iff.mp g2)
      | some y1 => rw [g1, g2] at e; cases e
end
section
variable {X : Cx} {W : WT} {pos : Pos} {a b c : Expr} {ma mb mc : ME} {es : List Expr} {mr : MA} {tg : Expr}
theorem _root_.L2.PI.or {e : Expr} {t t' : TI} (h : PI X tg e t) (h' : PI X tg e t') : PI X tg e (fun σ H R => t σ H R ∨ t' σ H R) := ⟨fun pins s σ H R I q => q.elim (fun q => h.run pins s σ H R I q) fun q => h'.run pins s σ H R I q⟩
def mItL (m : ME) : MI := fun env h => (m env h).bind fun x h1 => match x with
  | .ref n => .ok (itL n) h1
  | _ => .bad
def mItT (m : ME) : MI := fun env h => (m env h).bind fun x h1 => match x with
  | .tup xs => .ok (itT xs) h1
  | _ => .bad
/-- a list is walked (at the start it is one) -/
theorem si_list (ha : PE X a (tE (kc X) W ma)) : PI X tg a (tI (kc X) W (fun env h => (ma env h).bind fun x h1 => match listOf h1 x, x with
  | some _, .ref n => .ok (itL n) h1
  | _, _ => .bad)) := (pi_list ha).imp fun σ H R => by
  rintro ⟨φ, env, h, hr, er, o⟩
  refine tG_step hr er o fun φ1 H1 h1 x u k1 hr1 er1 t1 o1 => ?_
  cases t1 with
  | @ref n p ea =>
    cases q : listOf h1 (.ref n) with
    | none => simp only [q] at o1; exact o1.elim
    | some xs =>
      simp only [q] at o1
      obtain ⟨p', vs, e1, hs, ts⟩ := list_of (x := .ref n) (u := .ref p) hr1 (.ref ea) q
      cases e1
      exact ⟨p, rfl, ⟨vs, hs⟩, OkG.ok_here o1 hr1 (walksL ea)⟩
  | _ => simp only [listOf] at o1; exact o1.elim
theorem si_tup (ha : PE X a (tE (kc X) W ma)) : PI X tg a (tI (kc X) W (mItT ma)) := (pi_tup ha).imp fun σ H R => by
  rintro ⟨φ, env, h, hr, er, o⟩
  refine tG_step hr er o fun φ1 H1 h1 x u k1 hr1 er1 t1 o1 => ?_
  cases t1 with
  | @tup p vs xs hq ts => exact ⟨p, rfl, ⟨vs, hq⟩, OkG.ok_here o1 hr1 (walksT hq ts)⟩
  | _ => exact o1.elim
/-- a list or a tuple -/
def mItV (m : ME) : MI := fun env h => (m env h).bind fun x h1 => match x with
  | .tup xs => .ok (itT xs) h1
  | .ref n => match itemsOf h1 (.ref n) with
    | some _ => .ok (itL n) h1
    | none => .bad
  | _ => .bad
theorem si_seq (ha : PE X a (tE (kc X) W ma)) : PI X tg a (tI (kc X) W (mItV ma)) := by
  have q : PI X tg a (fun σ H R => tE (kc X) W ma σ H fun x H1 => ∃ p, x = .ref p ∧ (((∃ xs, SqL X.K H1 p xs) ∧ R (Itl X.K p) H1) ∨ ((∃ xs, SqT X.K H1 p xs) ∧ R (Itt X.K p) H1))) := by
    refine ⟨fun pins s σ H R I h => ?_⟩
    refine thn (ha.run pins s σ H _ I h) fun v s1 ⟨x, H1, I1, r1, p, e, q⟩ => ?_
    subst e
    cases r1
    rcases q with ⟨⟨xs, hq⟩, q⟩ | ⟨⟨xs, hq⟩, q⟩
    · obtain ⟨its, rv, pl, hz⟩ := I1.list hq
      refine wpAny_pyIter_list pl.isList ?_
      refine ⟨s1.heap.objs.size, [s1.heap.objs.size], _, _, H1, rfl, I1.kept (t' := s1.toks) fun b o e => Heap.get?_push_of_some _ e, turn_list p _, ⟨_, Heap.get?_push_size _ rfl, rfl, rfl⟩, fun b hb => ?_, q⟩
      have e : b = s1.heap.objs.size := by simpa using hb
      subst e
      exact I1.fpOk (Nat.le_refl _) (I1.hok.fresh (Nat.le_refl _))
    · obtain ⟨its, rv, pl, hz⟩ := I1.tuple hq
      refine wpAny_pyIter_tuple (show s1.heap.IsTuple p its.toArray from pl) ?_
      refine ⟨s1.heap.objs.size, [s1.heap.objs.size], _, _, H1, rfl, I1.kept (t' := s1.toks) fun b o e => Heap.get?_push_of_some _ e, turn_tuple p _, ⟨_, Heap.get?_push_size _ rfl, rfl, rfl⟩, fun b hb => ?_, q⟩
      have e : b = s1.heap.objs.size := by simpa using hb
      subst e
      exact I1.fpOk (Nat.le_refl _) (I1.hok.fresh (Nat.le_refl _))
  refine q.imp fun σ H R => ?_
  rintro ⟨φ, env, h, hr, er, o⟩
  refine tG_step hr er o fun φ1 H1 h1 x u k1 hr1 er1 t1 o1 => ?_
  cases t1 with
  | @ref n p ea =>
    cases q : itemsOf h1 (.ref n) with
    | none => simp only [q] at o1; exact o1.elim
    | some xs =>
      simp only [q] at o1
      obtain ⟨vs, hs, ts⟩ := items_list hr1 ea q
      exact ⟨p, rfl, .inl ⟨⟨vs, hs⟩, OkG.ok_here o1 hr1 (walksL ea)⟩⟩
  | @tup p vs xs hq ts => exact ⟨p, rfl, .inr ⟨⟨vs, hq⟩, OkG.ok_here o1 hr1 (walksT hq ts)⟩⟩
  | _ => exact o1.elim
/-- the bounds of a range -/
def inR (i : Int) : Bool := Nat.ble i.natAbs 1000000000
theorem inR_of {i : Int} (h : -1000000000 ≤ i ∧ i ≤ 1000000000) : inR i = true := Nat.ble_eq_true_of_le (by omega)
theorem of_inR {i : Int} (h : inR i = true) : -1000000000 ≤ i ∧ i ≤ 1000000000 := by
  have := Nat.le_of_ble_eq_true h
  omega
def rngN (i j c : Int) : Nat := if i < j then ((j - i - 1) / c + 1).toNat else 0
def mRng1 (r : MA) : MI := fun env h => (r env h).bind fun xs h1 => match xs with
  | [.int j] => if inR j = true then .ok (itR 0 1 j.toNat) h1 else .bad
  | _ => .bad
def mRng2 (r : MA) : MI := fun env h => (r env h).bind fun xs h1 => match xs with
  | [.int i, .int j] => if inR i = true ∧ inR j = true then .ok (itR i 1 (j - i).toNat) h1 else .bad
  | _ => .bad
def mRng3 (r : MA) : MI := fun env h => (r env h).bind fun xs h1 => match xs with
  | [.int i, .int j, .int c] => if inR i = true ∧ inR j = true ∧ 0 < c ∧ c < 1000000 then .ok (itR i c (rngN i j c)) h1 else .bad
  | _ => .bad
theorem inR_ok {i : Int} (h : inR i = true) : -(2 ^ 62) ≤ i ∧ i < 2 ^ 62 := by
  have := of_inR h
  omega
theorem rgC_ok {i j c : Int} (hi : inR i = true) (hj : inR j = true) (h0 : 0 < c) (h1 : c < 1000000) : RgC i j c (rngN i j c) := by
  have a := of_inR hi
  have b := of_inR hj
  have sz : Builtin.Range.rangeSize i j c = (rngN i j c : Nat) := by
    unfold Builtin.Range.rangeSize rngN
    rw [if_pos (show c > 0 from h0)]
    split
    · have : 0 ≤ (j - i - 1) / c := Int.ediv_nonneg (by omega) (by omega)
      omega
    · rfl
  refine ⟨by omega, by omega, ?_, sz⟩
  have hn : Builtin.Range.rangeSize i j c ≤ 2000000001 := by
    unfold Builtin.Range.rangeSize
    rw [if_pos (show c > 0 from h0)]
    split
    · have : (j - i - 1) / c ≤ j - i - 1 := Int.ediv_le_self _ (by omega)
      omega
    · omega
  have hn0 : 0 ≤ Builtin.Range.rangeSize i j c := by rw [sz]; omega
  unfold Builtin.Range.small
  simp only [Builtin.Range.rangeFitsLong, Bool.and_eq_true, Bool.or_eq_true, decide_eq_true_eq, beq_iff_eq]
  generalize Builtin.Range.rangeSize i j c = n at *
  rw [if_pos (show c > 0 from h0)]
  refine ⟨⟨⟨⟨by omega, by omega⟩, by omega⟩, by omega⟩, .inr ?_⟩
  rw [Bool.and_eq_true, decide_eq_true_eq, decide_eq_true_eq]
  omega
theorem three_of {K : KC} {φ : List Addr} {H : Hp} {x y z : MV} {us : List V} (t : IsVs K φ H [x, y, z] us) : ∃ u v w, us = [u, v, w] ∧ IsV K φ H x u ∧ IsV K φ H y v ∧ IsV K φ H z w := by
  cases t with
  | cons t1 t2 =>
    obtain ⟨v, w, rfl, t3, t4⟩ := two_of t2
    exact ⟨_, _, _, rfl, t1, t3, t4⟩
theorem si_range1 {p : Pos} (hg : Gl X "range") (hm : X.mg "range" = none) (ha : PA X [a] (tA (kc X) W mr))
    (hs : starEach [a] X.env = [(false, eval a X.env)] := by rfl) : PI X tg (.Call (.Name "range" p) [a] [] pos) (tI (kc X) W (mRng1 mr)) := by
  refine (pi_range1 hg hm ha hs).imp fun σ H R => ?_
  rintro ⟨φ, env, h, hr, er, o⟩
  refine tG_step hr er o fun φ1 H1 h1 xs us k1 hr1 er1 t1 o1 => ?_
  split at o1
  · rename_i j
    obtain ⟨u, rfl, t⟩ := one_of t1
    cases t
    split at o1
    · rename_i hj
      exact ⟨j, rfl, (inR_ok hj).1, (inR_ok hj).2, OkG.ok_here o1 hr1 walksR⟩
    · exact o1.elim
  · exact o1.elim
theorem si_range2 {p : Pos} (hg : Gl X "range") (hm : X.mg "range" = none) (ha : PA X [a, b] (tA (kc X) W mr))
    (hs : starEach [a, b] X.env = [(false, eval a X.env), (false, eval b X.env)] := by rfl) (hs2 : starEach [b] X.env = [(false, eval b X.env)] := by rfl) : PI X tg (.Call (.Name "range" p) [a, b] [] pos) (tI (kc X) W (mRng2 mr)) := by
  refine (pi_range2 hg hm ha hs hs2).imp fun σ H R => ?_
  rintro ⟨φ, env, h, hr, er, o⟩
  refine tG_step hr er o fun φ1 H1 h1 xs us k1 hr1 er1 t1 o1 => ?_
  split at o1
  · rename_i i j
    obtain ⟨u, v, rfl, t, t'⟩ := two_of t1
    cases t; cases t'
    split at o1
    · rename_i hj
      exact ⟨i, j, rfl, ⟨(inR_ok hj.1).1, (inR_ok hj.1).2, (inR_ok hj.2).1, (inR_ok hj.2).2⟩, OkG.ok_here o1 hr1 walksR⟩
    · exact o1.elim
  · exact o1.elim
theorem si_range3 {p : Pos} (hg : Gl X "range") (hm : X.mg "range" = none) (ha : PA X [a, b, c] (tA (kc X) W mr))
    (hs : starEach [a, b, c] X.env = (false, eval a X.env) :: starEach [b, c] X.env := by rfl) (hpl : (backTo pos (starEach [b, c] X.env)).any (·.1) = false := by rfl) : PI X tg (.Call (.Name "range" p) [a, b, c] [] pos) (tI (kc X) W (mRng3 mr)) := by
  refine (pi_range3 hg hm ha hs hpl).imp fun σ H R => ?_
  rintro ⟨φ, env, h, hr, er, o⟩
  refine tG_step hr er o fun φ1 H1 h1 xs us k1 hr1 er1 t1 o1 => ?_
  split at o1
  · rename_i i j k
    obtain ⟨u, v, w, rfl, t, t', t''⟩ := three_of t1
    cases t; cases t'; cases t''
    split at o1
    · rename_i hj
      exact ⟨i, j, k, _, rfl, rgC_ok hj.1 hj.2.1 hj.2.2.1 hj.2.2.2, OkG.ok_here o1 hr1 walksC⟩
    · exact o1.elim
  · exact o1.elim
/-- enumerate of a list, zip of two lists -/
def mEnum (r : MA) : MI := fun env h => (r env h).bind fun xs h1 => match xs with
  | [.ref n] => match itemsOf h1 (.ref n) with
    | some _ => .ok (itE (itL n)) h1
    | none => .bad
  | _ => .bad
theorem si_enum {p tpos : Pos} {elts : List Expr} {kk : Nat} (hg : Gl X "enumerate") (hm : X.mg "enumerate" = none) (ha : PA X [a] (tA (kc X) W mr)) (hs : starEach [a] X.env = [(false, eval a X.env)] := by rfl) :
    PI X (.Tuple elts kk tpos) (.Call (.Name "enumerate" p) [a] [] pos) (tI (kc X) W (mEnum mr)) := by
  refine (pi_enum hg hm ha hs).imp fun σ H R => ?_
  rintro ⟨φ, env, h, hr, er, o⟩
  refine tG_step hr er o fun φ1 H1 h1 xs us k1 hr1 er1 t1 o1 => ?_
  split at o1
  · rename_i n
    obtain ⟨u, rfl, t⟩ := one_of t1
    cases t with
    | @ref _ p ea =>
      split at o1
      · rename_i xs q
        obtain ⟨vs, hs, ts⟩ := items_list hr1 ea q
        exact ⟨p, vs, rfl, hs, OkG.ok_here o1 hr1 (walksE ea)⟩
      · exact o1.elim
  · exact o1.elim
def mZip (r : MA) : MI := fun env h => (r env h).bind fun xs h1 => match xs with
  | [.ref n, .ref m] => match itemsOf h1 (.ref n), itemsOf h1 (.ref m) with
    | some _, some _ => .ok (itZ (itL n) (itL m)) h1
    | _, _ => .bad
  | _ => .bad
theorem si_zip {p tpos : Pos} {elts : List Expr} {kk : Nat} (hg : Gl X "zip") (hm : X.mg "zip" = none) (ha : PA X [a, b] (tA (kc X) W mr))
    (hs : starEach [a, b] X.env = (false, eval a X.env) :: starEach [b] X.env := by rfl) (hpl : (backTo pos (starEach [b] X.env)).any (·.1) = false := by rfl) :
    PI X (.Tuple elts kk tpos) (.Call (.Name "zip" p) [a, b] [] pos) (tI (kc X) W (mZip mr)) := by
  refine (pi_zip hg hm ha hs hpl).imp fun σ H R => ?_
  rintro ⟨φ, env, h, hr, er, o⟩
  refine tG_step hr er o fun φ1 H1 h1 xs us k1 hr1 er1 t1 o1 => ?_
  split at o1
  · rename_i n m
    obtain ⟨u, v, rfl, t, t'⟩ := two_of t1
    cases t with
    | @ref _ p ea =>
      cases t' with
      | @ref _ p' eb =>
        split at o1
        · rename_i xs ys q q'
          obtain ⟨vs, hs, ts⟩ := items_list hr1 ea q
          obtain ⟨ws, hs', ts'⟩ := items_list hr1 eb q'
          exact ⟨p, p', vs, ws, rfl, hs, hs', OkG.ok_here o1 hr1 (walksZ ea eb)⟩
        · exact o1.elim
  · exact o1.elim
end

/-! ### targets -/
def setAll {α : Type} : List (Option α) → List Nat → List α → List (Option α)
  | σ, i :: is, v :: vs => setAll (σ.set i (some v)) is vs
  | σ, _, _ => σ
abbrev MG := MV → MEnv → Option MEnv
def gN (i : Nat) : MG := fun x env => some (env.set i (some x))
def gT (is : List Nat) : MG := fun x env => match x with
  | .tup xs => if xs.length = is.length then some (setAll env is xs) else none
  | _ => none
structure GOk (K : KC) (g : TG) (own : List Nat) (m : MG) : Prop where
  run : ∀ φ H σ env x u env' (Q : St → Hp → Prop), ER K φ H σ env → IsV K φ H x u → m x env = some env' → (∀ σ', ER K φ H σ' env' → wipe σ' own = wipe σ own → Q σ' H) → g u σ H Q
theorem wipe_set {σ : St} {i : Nat} {v : Option V} : ∀ {own : List Nat}, i ∈ own → wipe (σ.set i v) own = wipe σ own
  | [], h => by cases h
  | j :: r, h => by
    unfold wipe
    by_cases e : i ∈ r
    · rw [wipe_set e]
    · have e2 : j = i := by
        rcases List.mem_cons.mp h with z | z
        · exact z.symm
        · exact absurd z e
      subst e2
      have : ∀ (r : List Nat) (τ : St), wipe (τ.set j v) r = (if j ∈ r then wipe τ r else (wipe τ r).set j v) := by
        intro r
        induction r with
        | nil => intro τ; simp [wipe]
        | cons k r ih =>
          intro τ
          unfold wipe
          rw [ih]
          by_cases hk : j = k
          · subst hk
            by_cases hm : j ∈ r
            · simp [hm]
            · simp [hm]
          · by_cases hm : j ∈ r
            · simp [hm]
            · have : ¬ j ∈ k :: r := by simp [hk, hm]
              rw [if_neg hm, if_neg this, List.set_comm _ _ hk]
      rw [this r σ, if_neg e]
      simp
theorem gok_N {K : KC} {i : Nat} {own : List Nat} (hi : i ∈ own) : GOk K (gName i) own (gN i) := ⟨fun φ H σ env x u env' Q er t e k => by
  cases e
  exact k _ (er.set t) (wipe_set hi)⟩
@[reducible] def gNames : List Nat → TGs
  | [] => gNil
  | i :: r => gCons (gName i) (gNames r)
theorem gNames_ok {K : KC} {φ : List Addr} {H : Hp} {own : List Nat} : ∀ (is : List Nat) (xs : List MV) (us : List V) (σ : St) (env : MEnv) (Q : St → Hp → Prop), (∀ i ∈ is, i ∈ own) → ER K φ H σ env → IsVs K φ H xs us → xs.length = is.length → (∀ σ', ER K φ H σ' (setAll env is xs) → wipe σ' own = wipe σ own → Q σ' H) → gNames is us σ H Q
  | [], [], _, σ, env, Q, ho, er, .nil, hl, k => ⟨rfl, k σ er rfl⟩
  | i :: is, x :: xs, u :: us, σ, env, Q, ho, er, .cons t ts, hl, k => by
    refine ⟨u, us, rfl, ?_⟩
    show gNames is us (σ.set i (some u)) H Q
    exact gNames_ok is xs us _ _ Q (fun j hj => ho j (List.mem_cons_of_mem _ hj)) (er.set t) ts (by simpa using hl) fun σ' e w => k σ' e (w.trans (wipe_set (ho i (List.mem_cons_self ..))))
theorem gok_T {K : KC} {is : List Nat} {n : Nat} {own : List Nat} (hi : ∀ i ∈ is, i ∈ own) (hn : is.length = n) : GOk K (gTup K n (gNames is)) own (gT is) := ⟨fun φ H σ env x u env' Q er t e k => by
  cases t with
  | @tup a vs xs hq ts =>
    simp only [gT] at e
    split at e
    · rename_i hl
      cases e
      exact ⟨a, vs, rfl, hq, by rw [ts.length]; omega, gNames_ok is xs vs σ env Q hi er ts hl k⟩
    · cases e
  | _ => cases e⟩
end Mv

set_option maxHeartbeats 4000000
namespace Mv
open PySem PySem.Spec L2
open PyProof.Rows hiding St

theorem _root_.L2.PTs.imp {X : Cx} {e : List Expr} {t t' : TT} (p : PTs X e t) (q : ∀ σ H Q, t' σ H Q → t σ H Q) : PTs X e t' := ⟨fun pins s σ H Q I h => p.run pins s σ H Q I (q σ H Q h)⟩
/-! ### comprehensions -/
def mYes : MT := fun _ h => .ok true h
section
variable {X : Cx} {W : WT} {pos : Pos}
theorem sts_nil : PTs X [] (tT (kc X) W mYes) := pts_nil.imp fun σ H Q => by
  rintro ⟨φ, env, h, hr, er, o⟩
  exact OkG.ok_here o hr rfl
theorem sts_one {c : Expr} {m : MT} (h : PT X c (tT (kc X) W m)) : PTs X [c] (tT (kc X) W m) := pts_one h
def wipeM : MEnv → List Nat → MEnv
  | env, [] => env
  | env, v :: vs => (wipeM env vs).set v none
theorem ER.wipe {K : KC} {φ : List Addr} {H : Hp} {σ : St} {env : MEnv} (er : ER K φ H σ env) : ∀ vs : List Nat, ER K φ H (L2.wipe σ vs) (wipeM env vs)
  | [] => er
  | v :: vs => (ER.wipe er vs).unset v
def compGo (it : MIt) (tg : MG) (c : MT) (m : ME) (own : List Nat) : Nat → Nat → MEnv → MH → List MV → R MV
  | 0, _, _, _, _ => .bad
  | n + 1, i, env, h, acc => match it i h with
    | .stop => .ok (.ref h.length) (h ++ [.lst acc.reverse])
    | .bad => .bad
    | .item x => match tg x (wipeM env own) with
      | none => .bad
      | some env' => ((c env' h).noX).bind fun b h1 => if b = true then ((m env' h1).noX).bind fun y h2 => if acc.length < cap then compGo it tg c m own n (i + 1) env h2 (y :: acc) else .bad else compGo it tg c m own n (i + 1) env h1 acc
/-- no loop turns oftener -/
theorem fuel_ex : ∃ n : Nat, 1000000 ≤ n := ⟨_, Nat.le_refl _⟩
noncomputable def fuel : Nat := Classical.choose fuel_ex
theorem fuel_ge : 1000000 ≤ fuel := Classical.choose_spec fuel_ex
noncomputable def mLc (mi : MI) (tg : MG) (c : MT) (m : ME) (own : List Nat) : ME := fun env h => (mi env h).bind fun it h1 => compGo it tg c m own fuel 0 env h1 []
theorem tG_W0 {α β : Type} {K : KC} {isA : List Addr → Hp → α → β → Prop} {m : MEnv → MH → R α} {σ : St} {H : Hp} {Q : β → Hp → Prop} {φ : List Addr} {env : MEnv} {h : MH} {Z : XW} (hr : HR K φ H h) (er : ER K φ H σ env) (o : OkG K isA Z φ H (m env h).noX Q) : tG K isA W0 m σ H Q := ⟨φ, env, h, hr, er, noX_ok o⟩
theorem isVs_rev {K : KC} {φ : List Addr} {H : Hp} {acc : List MV} {y : MV} {vs : List V} {v : V} (ts : IsVs K φ H acc.reverse vs) (t : IsV K φ H y v) : IsVs K φ H (y :: acc).reverse (vs ++ [v]) := by
  rw [List.reverse_cons]
  exact ts.append (.cons t .nil)
mutual
theorem IsV.more {K : KC} {φ : List Addr} {H : Hp} (mo : List Addr) : ∀ {x : MV} {v : V}, IsV K φ H x v → IsV K (φ ++ mo) H x v
  | _, _, .non => .non
  | _, _, .bl b => .bl b
  | _, _, .int i => .int i
  | _, _, .str s => .str s
  | _, _, .ref e => .ref (by rw [List.getElem?_append_left (List.getElem?_eq_some_iff.mp e).1]; exact e)
  | _, _, .tup h t => .tup h (IsVs.more mo t)
theorem IsVs.more {K : KC} {φ : List Addr} {H : Hp} (mo : List Addr) : ∀ {xs : List MV} {vs : List V}, IsVs K φ H xs vs → IsVs K (φ ++ mo) H xs vs
  | _, _, .nil => .nil
  | _, _, .cons h t => .cons (IsV.more mo h) (IsVs.more mo t)
end
theorem OR.more {K : KC} {φ : List Addr} {H : Hp} {a : Addr} {o : MO} (mo : List Addr) (r : OR K φ H a o) : OR K (φ ++ mo) H a o := by
  cases o with
  | lst xs => obtain ⟨l, vs, q, t⟩ := r; exact ⟨l, vs, q, t.more mo⟩
  | frz xs => obtain ⟨l, o, vs, q, t⟩ := r; exact ⟨l, o, vs, q, t.more mo⟩
  | dct _ => obtain ⟨ws, q, l, ek, t⟩ := r; exact ⟨ws, q, l, ek, t.more mo⟩
  | fdc _ => obtain ⟨o, ws, q, l, ek, t⟩ := r; exact ⟨o, ws, q, l, ek, t.more mo⟩
  | ins _ _ => obtain ⟨gs, q, t⟩ := r; exact ⟨gs, q, t.more mo⟩
/-- a list that stands is taken into the small heap -/
theorem HR.adopt {K : KC} {φ : List Addr} {H : Hp} {h : MH} {D : Addr} {xs : List MV} {vs : List V} (r : HR K φ H h) (nD : D ∉ φ) (e : H D = some (.lst vs)) (hl : xs.length ≤ sizeLine) (ts : IsVs K φ H xs vs) : HR K (φ ++ [D]) H (h ++ [.lst xs]) := by
  refine ⟨by simp [r.len], ?_, fun n a u e1 e2 => ?_⟩
  · rw [List.nodup_append]
    refine ⟨r.nd, by simp, fun a ha b hb z => ?_⟩
    rw [List.mem_singleton.mp hb] at z
    exact nD (z ▸ ha)
  · by_cases hn : n < φ.length
    · rw [List.getElem?_append_left hn] at e1
      rw [List.getElem?_append_left (by rw [← r.len]; exact hn)] at e2
      exact (r.at_ n a u e1 e2).more _
    · have hn' : n = φ.length := by
        have := (List.getElem?_eq_some_iff.mp e1).1
        simp at this; omega
      subst hn'
      rw [List.getElem?_append_right (Nat.le_refl _)] at e1
      rw [List.getElem?_append_right (by rw [r.len]; exact Nat.le_refl _)] at e2
      simp at e1
      rw [r.len] at e2
      simp at e2
      subst e1 e2
      exact ⟨hl, vs, e, ts.more _⟩
theorem Keep.adopt {φ1 φ : List Addr} {H1 H : Hp} {D : Addr} (k : Keep φ1 H1 φ H) (hD : H1 D = none) : Keep φ1 H1 (φ ++ [D]) H := by
  obtain ⟨mo, e, f⟩ := k.ext
  refine ⟨⟨mo ++ [D], by rw [e, List.append_assoc], fun b hb => ?_⟩, k.dom, k.out, k.tup, k.frz⟩
  rcases List.mem_append.mp hb with hb | hb
  · exact f b hb
  · rw [List.mem_singleton.mp hb]; exact hD
/-- an untracked list is changed -/
theorem Keep.side {φ1 φ : List Addr} {H1 H : Hp} {D : Addr} {vs ws : List V} (k : Keep φ1 H1 φ H) (hD : H1 D = none) (e : H D = some (.lst vs)) : Keep φ1 H1 φ (upd H D (.lst ws)) := by
  have ne : ∀ b o, H1 b = some o → b ≠ D := fun b o e => ne_of_none e hD
  refine ⟨k.ext, fun b o q => ?_, fun b o q n => ?_, fun b xs q => ?_, fun b o u q => ?_⟩
  · obtain ⟨o', z⟩ := k.dom b o q
    exact ⟨o', by rw [upd_ne (ne b o q)]; exact z⟩
  · rw [upd_ne (ne b o q)]; exact k.out b o q n
  · rw [upd_ne (ne b _ q)]; exact k.tup b xs q
  · rw [upd_ne (ne b _ q)]; exact k.frz b o u q
/-- values, objects beside an untracked list that is changed -/
theorem sqT_side {K : KC} {H : Hp} {D : Addr} {vs ws : List V} (e : H D = some (.lst vs)) {b : Addr} {xs : List V} (h : SqT K H b xs) : SqT K (upd H D (.lst ws)) b xs := by
  rcases h with (h | ⟨o, h⟩) | h
  · exact .inl (.inl (by rw [upd_ne fun z => by rw [z, e] at h; cases h]; exact h))
  · exact .inl (.inr ⟨o, by rw [upd_ne fun z => by rw [z, e] at h; cases h]; exact h⟩)
  · exact .inr h
mutual
theorem IsV.side {K : KC} {φ : List Addr} {H : Hp} {D : Addr} {vs ws : List V} (e : H D = some (.lst vs)) : ∀ {x : MV} {v : V}, IsV K φ H x v → IsV K φ (upd H D (.lst ws)) x v
  | _, _, .non => .non
  | _, _, .bl b => .bl b
  | _, _, .int i => .int i
  | _, _, .str s => .str s
  | _, _, .ref q => .ref q
  | _, _, .tup h t => .tup (sqT_side e h) (IsVs.side e t)
theorem IsVs.side {K : KC} {φ : List Addr} {H : Hp} {D : Addr} {vs ws : List V} (e : H D = some (.lst vs)) : ∀ {xs : List MV} {us : List V}, IsVs K φ H xs us → IsVs K φ (upd H D (.lst ws)) xs us
  | _, _, .nil => .nil
  | _, _, .cons h t => .cons (IsV.side e h) (IsVs.side e t)
end
theorem HR.side {K : KC} {φ : List Addr} {H : Hp} {h : MH} {D : Addr} {vs ws : List V} (r : HR K φ H h) (nD : D ∉ φ) (e : H D = some (.lst vs)) : HR K φ (upd H D (.lst ws)) h :=
  ⟨r.len, r.nd, fun n a o e1 e2 => by
    have q := r.at_ n a o e1 e2
    have ne : a ≠ D := fun z => nD (z ▸ List.mem_of_getElem? e1)
    cases o with
    | lst xs => obtain ⟨l, us, z, t⟩ := q; exact ⟨l, us, by rw [upd_ne ne]; exact z, t.side e⟩
    | frz xs => obtain ⟨l, o, us, z, t⟩ := q; exact ⟨l, o, us, by rw [upd_ne ne]; exact z, t.side e⟩
    | dct _ => obtain ⟨ws, z, l, ek, t⟩ := q; exact ⟨ws, by rw [upd_ne ne]; exact z, l, ek, t.side e⟩
    | fdc _ => obtain ⟨o, ws, z, l, ek, t⟩ := q; exact ⟨o, ws, by rw [upd_ne ne]; exact z, l, ek, t.side e⟩
    | ins _ _ => obtain ⟨gs, z, t⟩ := q; exact ⟨gs, z.to (upd_ne ne), t.side e⟩⟩
theorem comp_ok {K : KC} {J : It} {it : MIt} {g : TG} {tg : MG} {c : MT} {m : ME} {own : List Nat} {φ1 : List Addr} {H1 : Hp} {h1 : MH} {σ : St} {env : MEnv} {Q : VK} {D : Addr} {Z : XW} (hw : WalksM K J it φ1 H1) (hg : GOk K g own tg) (hr : HR K φ1 H1 h1) (er : ER K φ1 H1 σ env) (hD : H1 D = none)
    (o : OkG K (IsV K) Z φ1 H1 (compGo it tg c m own fuel 0 env h1 []) Q) :
    ∃ U : Nat → Nat → Hp → Prop, (∃ n, U 0 n (upd H1 D (.lst []))) ∧ ∀ i n H, U i n H → (J.stop i H ∧ Q (.ref D) H) ∨ (J.go i H ∧ ∃ Nw : Hp → Prop, (∀ H', Nw H' → ∃ n', n' < n ∧ U (i + 1) n' H') ∧ ∀ x H', J.yld i H x H' → g x (wipe σ own) H' fun σ2 H2 => wipe σ2 own = wipe σ own ∧ tT K W0 c σ2 H2 fun b H3 =>
      if b = true then tE K W0 m σ2 H3 fun y H4 => ∃ acc, H4 D = some (.lst acc) ∧ acc.length < sizeLine ∧ Nw (upd H4 D (.lst (acc ++ [y]))) else Nw H3) := by
  -- what holds between two turns
  let U : Nat → Nat → Hp → Prop := fun i n H => ∃ φ h acc vs, D ∉ φ ∧ Keep φ1 H1 φ H ∧ HR K φ H h ∧ H D = some (.lst vs) ∧ IsVs K φ H acc.reverse vs ∧ acc.length ≤ cap ∧ OkG K (IsV K) Z φ1 H1 (compGo it tg c m own n i env h acc) Q
  refine ⟨U, ⟨fuel, φ1, h1, [], [], hr.fresh hD, Keep.new hD, hr.new hD, upd_same, .nil, Nat.zero_le _, o⟩, ?_⟩
  rintro i n H ⟨φ, h, acc, vs, nD, k, hr, eD, ts, hl, o⟩
  have hDd : ∀ {φ' : List Addr} {H' : Hp}, Keep φ H φ' H' → D ∉ φ' ∧ H' D = some (.lst vs) := fun {φ' H'} k' => by
    refine ⟨fun z => ?_, k'.out D _ eD nD⟩
    obtain ⟨mo, e, f⟩ := k'.ext
    rw [e] at z
    rcases List.mem_append.mp z with z | z
    · exact nD z
    · rw [f D z] at eD; cases eD
  cases n with
  | zero => exact o.elim
  | succ n =>
    unfold compGo at o
    cases e : it i h with
    | bad => simp only [e] at o; exact o.elim
    | stop =>
      simp only [e] at o
      refine .inl ⟨hw.stop φ H h i k hr e, ?_⟩
      exact o (φ ++ [D]) H (.ref D) (k.adopt hD) (hr.adopt nD eD (by simp; exact cap_line hl) ts) (.ref (lay_at hr))
    | item x =>
      simp only [e] at o
      obtain ⟨hgo, hy⟩ := hw.go φ H h i x k hr e
      refine .inr ⟨hgo, U (i + 1) n, fun H' u => ⟨n, Nat.lt_succ_self n, u⟩, fun u H' y => ?_⟩
      obtain ⟨k2, hr2, t2⟩ := hy u H' y
      have er2 : ER K φ H' σ env := er.keep (k.trans k2)
      cases et : tg x (wipeM env own) with
      | none => simp only [et] at o; exact o.elim
      | some env' =>
        simp only [et] at o
        refine hg.run φ H' _ _ x u env' _ (er2.wipe own) t2 et fun σ2 er3 hwp => ⟨?_, φ, env', h, hr2, er3, ?_⟩
        · rw [hwp]
          have : ∀ (l : List Nat) (τ : St), wipe (wipe τ l) l = wipe τ l := by
            intro l
            have key : ∀ (i : Nat) (l : List Nat) (τ : St), i ∈ l → (wipe τ l).set i none = wipe τ l := by
              intro i l
              induction l with
              | nil => intro τ h; cases h
              | cons j r ih =>
                intro τ h
                unfold wipe
                by_cases hj : i = j
                · subst hj; simp
                · rw [List.set_comm _ _ (Ne.symm hj)]
                  rw [ih τ ((List.mem_cons.mp h).resolve_left hj)]
            have key2 : ∀ (r l : List Nat) (τ : St), (∀ j ∈ r, j ∈ l) → wipe (wipe τ l) r = wipe τ l := by
              intro r
              induction r with
              | nil => intro l τ _; rfl
              | cons j r ih =>
                intro l τ h
                show (wipe (wipe τ l) r).set j none = _
                rw [ih l τ fun q hq => h q (List.mem_cons_of_mem _ hq)]
                exact key j l τ (h j (List.mem_cons_self ..))
            intro τ
            exact key2 l l τ fun _ h => h
          exact this own σ
        · cases ec : c env' h with
          | bad => rw [ec] at o; exact o.elim
          | exc z h3 => rw [ec] at o; exact o.elim
          | ok b h3 =>
            rw [ec] at o
            intro φ3 H3 b' k3 hr3 tb
            cases tb
            have k13 := (k.trans k2).trans k3
            cases b with
            | false =>
              rw [if_neg Bool.false_ne_true]
              obtain ⟨n3, e3⟩ := hDd (k2.trans k3)
              exact ⟨φ3, h3, acc, vs, n3, k13, hr3, e3, ts.keep (k2.trans k3), hl, o⟩
            | true =>
              rw [if_pos rfl]
              refine ⟨φ3, env', h3, hr3, er3.keep k3, ?_⟩
              have o2 : OkG K (IsV K) Z φ1 H1 (((m env' h3).noX).bind fun y h2 => if acc.length < cap then compGo it tg c m own n (i + 1) env h2 (y :: acc) else .bad) Q := o
              cases em : m env' h3 with
              | bad => rw [em] at o2; exact o2.elim
              | exc z h4 => rw [em] at o2; exact o2.elim
              | ok w h4 =>
                rw [em] at o2
                intro φ4 H4 y4 k4 hr4 t4
                have kk := (k2.trans k3).trans k4
                obtain ⟨n4, e4⟩ := hDd kk
                have o' : OkG K (IsV K) Z φ1 H1 (if acc.length < cap then compGo it tg c m own n (i + 1) env h4 (w :: acc) else .bad) Q := o2
                split at o'
                · rename_i hc
                  refine ⟨vs, e4, by rw [ts.length, List.length_reverse]; exact cap_lt hl, φ4, h4, w :: acc, _, n4, (k.trans kk).side hD e4, hr4.side n4 e4, upd_same, ?_, hc, o'⟩
                  exact (isVs_rev (ts.keep kk) t4).side e4
                · exact o'.elim
theorem tLc_of {g : TG} {tg : MG} {K : KC} {mi : MI} {c : MT} {m : ME} {own : List Nat} (hg : GOk K g own tg) {σ : St} {H : Hp} {Q : VK} (o : tE K W (mLc mi tg c m own) σ H Q) : tLc (tI K W mi) g (tT K W0 c) (tE K W0 m) own σ H Q := by
  obtain ⟨φ, env, h, hr, er, o⟩ := o
  refine tG_step hr er o fun φ1 H1 h1 it J k1 hr1 er1 hw o1 => ?_
  intro D hD
  exact comp_ok hw hg hr1 er1 hD o1
/-- [elt for target in iter if ..] -/
theorem se_lc {elt tg iter : Expr} {ifs : List Expr} {scope : Scope} {own : List (Str × Nat)} {g : TG} {mg : MG} {mi : MI} {c : MT} {m : ME} (hc : X.calm = true) (hN : X.N.Nodup) (hi : PI X tg iter (tI (kc X) W mi)) (ok : BlkOk X.N X.env.scope scope own)
    (hg : ∀ (s : Shared) (H : Hp) (C : Addr) (cl : List (Str × Addr)) (fp : List Addr), PG (X.blk s H scope (compEnvC scope cl C X.env) fp) tg g) (hgm : GOk (kc X) g (own.map (·.2)) mg) (ht : ∀ (s : Shared) (H : Hp) (C : Addr) (cl : List (Str × Addr)) (fp : List Addr), PTs (X.blk s H scope (compEnvC scope cl C X.env) fp) ifs (tT (kc X) W0 c))
    (he : ∀ (s : Shared) (H : Hp) (C : Addr) (cl : List (Str × Addr)) (fp : List Addr), PE (X.blk s H scope (compEnvC scope cl C X.env) fp) elt (tE (kc X) W0 m)) (hs : ∀ x, foldedSetIterable iter X.env x = pure x := by intro _; rfl) :
    PE X (.ListComp elt [⟨tg, iter, ifs, 0⟩] scope pos) (tE (kc X) W (mLc mi mg c m (own.map (·.2)))) := (pe_lc hc hN hi ok hg ht he hs).imp fun σ H Q o => tLc_of hgm o

/-! ### statements -/
inductive S where
  | nx (env : MEnv) (h : MH) | rt (v : MV) (h : MH) | bk (env : MEnv) (h : MH) | ct (env : MEnv) (h : MH) | exc (x : MX) (env : MEnv) (h : MH) | bad
abbrev MS := MEnv → MH → S
def R.andS {α : Type} (r : R α) (env : MEnv) (k : α → MH → S) : S := match r with
  | .ok a h => k a h
  | .exc x h => .exc x env h
  | .bad => .bad
@[simp] theorem R.andS_ok {α : Type} (a : α) (h : MH) (env : MEnv) (k : α → MH → S) : (R.ok a h).andS env k = k a h := rfl
@[simp] theorem R.andS_bad {α : Type} (env : MEnv) (k : α → MH → S) : (R.bad : R α).andS env k = .bad := rfl
def S.andS (r : S) (k : MS) : S := match r with
  | .nx env h => k env h
  | r => r
@[simp] theorem S.andS_nx (env : MEnv) (h : MH) (k : MS) : (S.nx env h).andS k = k env h := rfl
@[simp] theorem S.andS_rt (v : MV) (h : MH) (k : MS) : (S.rt v h).andS k = .rt v h := rfl
@[simp] theorem S.andS_bad (k : MS) : (S.bad).andS k = .bad := rfl
@[simp] theorem S.andS_bk (env : MEnv) (h : MH) (k : MS) : (S.bk env h).andS k = .bk env h := rfl
@[simp] theorem S.andS_ct (env : MEnv) (h : MH) (k : MS) : (S.ct env h).andS k = .ct env h := rfl
def OkS (K : KC) (W : WT) (φ : List Addr) (H : Hp) (r : S) (D : Ends) : Prop := match r with
  | .nx env' h' => ∀ φ' σ' H', Keep φ H φ' H' → HR K φ' H' h' → ER K φ' H' σ' env' → D.nx σ' H'
  | .rt v h' => ∀ φ' H' u, Keep φ H φ' H' → HR K φ' H' h' → IsV K φ' H' v u → D.rt u H'
  | .bk env' h' => ∀ φ' σ' H', Keep φ H φ' H' → HR K φ' H' h' → ER K φ' H' σ' env' → D.bk σ' H'
  | .ct env' h' => ∀ φ' σ' H', Keep φ H φ' H' → HR K φ' H' h' → ER K φ' H' σ' env' → D.ct σ' H'
  | .exc x env' h' => ∀ φ' σ' H', Keep φ H φ' H' → HR K φ' H' h' → ER K φ' H' σ' env' → W σ' env' φ' H' x h'
  | .bad => False
def tS (K : KC) (W : WT) (m : MS) : TS := fun D σ H => ∃ φ env h, HR K φ H h ∧ ER K φ H σ env ∧ OkS K W φ H (m env h) D
section
variable {K : KC} {φ φ1 : List Addr} {H H1 : Hp} {h : MH} {σ : St} {env : MEnv} {α β : Type}
theorem OkS.mono {r : S} {D : Ends} (o : OkS K W φ H r D) (k : Keep φ H φ1 H1) : OkS K W φ1 H1 r D := by
  cases r with
  | nx e h' => exact fun φ' σ' H' k' r t => o φ' σ' H' (k.trans k') r t
  | rt v h' => exact fun φ' H' u k' r t => o φ' H' u (k.trans k') r t
  | bk e h' => exact fun φ' σ' H' k' r t => o φ' σ' H' (k.trans k') r t
  | ct e h' => exact fun φ' σ' H' k' r t => o φ' σ' H' (k.trans k') r t
  | exc x e h' => exact fun φ' σ' H' k' r t => o φ' σ' H' (k.trans k') r t
  | bad => exact o
theorem OkS.nx_here {D : Ends} (o : OkS K W φ H (.nx env h) D) (hr : HR K φ H h) (er : ER K φ H σ env) : D.nx σ H := o φ σ H Keep.refl hr er
/-- an expression, then what its value makes -/
theorem tS_step {isA : List Addr → Hp → α → β → Prop} {m : MEnv → MH → R α} {k : α → MH → S} {P : β → Hp → Prop} {D : Ends} (hr : HR K φ H h) (er : ER K φ H σ env) (o : OkS K W φ H ((m env h).andS env k) D)
    (n : ∀ φ1 H1 h1 a b, Keep φ H φ1 H1 → HR K φ1 H1 h1 → ER K φ1 H1 σ env → isA φ1 H1 a b → OkS K W φ1 H1 (k a h1) D → P b H1) : tG K isA W m σ H P := by
  refine ⟨φ, env, h, hr, er, ?_⟩
  cases e : m env h with
  | ok a h1 =>
    rw [e] at o
    exact fun φ1 H1 b kp r t => n φ1 H1 h1 a b kp r (er.keep kp) t (OkS.mono o kp)
  | exc x h1 =>
    rw [e] at o
    exact fun φ1 H1 kp r => o φ1 σ H1 kp r (er.keep kp)
  | bad => rw [e] at o; exact o.elim
end
end
end Mv

set_option maxHeartbeats 4000000
namespace Mv
open PySem PySem.Spec L2
open PyProof.Rows hiding St

section
variable {X : Cx} {W : WT} {pos : Pos} {a b c e : Expr} {ma mb mc : ME} {es : List Expr} {mr : MA} {st : Stmt} {rest : List Stmt} {m1 m2 : MS}
def mNext : MS := fun env h => .nx env h
def mBad : MS := fun _ _ => .bad
def mSeq (m1 m2 : MS) : MS := fun env h => (m1 env h).andS m2
theorem ss_nil : PSs X [] (tS (kc X) W mNext) := pss_nil.imp fun D σ H => by
  rintro ⟨φ, env, h, hr, er, o⟩
  exact OkS.nx_here o hr er
theorem ss_never : PS X st (tS (kc X) W mBad) := ps_never.imp fun D σ H => by
  rintro ⟨φ, env, h, hr, er, o⟩
  exact o
theorem seq_ok {K : KC} {D : Ends} {σ : St} {H : Hp} (o : tS K W (mSeq m1 m2) D σ H) : tSeq (tS K W m1) (tS K W m2) D σ H := by
  obtain ⟨φ, env, h, hr, er, o⟩ := o
  refine ⟨φ, env, h, hr, er, ?_⟩
  unfold mSeq at o
  cases q : m1 env h with
  | nx env' h' =>
    rw [q] at o
    intro φ' σ' H' k hr' er'
    exact ⟨φ', env', h', hr', er', OkS.mono o k⟩
  | _ => rw [q] at o; exact o
theorem ss_cons (h1 : PS X st (tS (kc X) W m1)) (h2 : PSs X rest (tS (kc X) W m2)) : PSs X (st :: rest) (tS (kc X) W (mSeq m1 m2)) := (pss_cons h1 h2).imp fun _ _ _ o => seq_ok o
theorem ss_one (h1 : PS X st (tS (kc X) W m1)) : PSs X [st] (tS (kc X) W m1) := pss_one h1
theorem ss_doc {x j pos'} : PS X (.Expr (.Constant (.str x) j pos) pos') (tS (kc X) W mNext) := ps_doc.imp fun D σ H => by
  rintro ⟨φ, env, h, hr, er, o⟩
  exact OkS.nx_here o hr er
def mSet (i : Nat) (m : ME) : MS := fun env h => (m env h).andS env fun v h1 => .nx (env.set i (some v)) h1
theorem set_ok {K : KC} {i : Nat} {D : Ends} {σ : St} {H : Hp} {t : TE} (ht : ∀ σ H Q, tE K W ma σ H Q → t σ H Q) (o : tS K W (mSet i ma) D σ H) : tAsg t (gName i) D σ H := by
  obtain ⟨φ, env, h, hr, er, o⟩ := o
  refine ht _ _ _ (tS_step hr er o fun φ1 H1 h1 x u k1 hr1 er1 t1 o1 => ?_)
  exact OkS.nx_here o1 hr1 (er1.set t1)
theorem ss_set {i : Nat} {x : Str} {pos' : Pos} (hN : X.N.Nodup) (hi : X.N[i]? = some x) (hx : Loc X.env.scope x) (he : PE X e (tE (kc X) W ma)) (hs : swapsWith e (some (.Name x pos')) pos.line X.env = pure false := by rfl) (hf : X.fn x = true ∨ X.env.scope.names.lookup x = some .local := by first | exact .inl rfl | exact .inr rfl | assumption) :
    PS X (.Assign [.Name x pos'] e pos) (tS (kc X) W (mSet i ma)) := (ps_set hN hi hx he hs hf).imp fun _ _ _ o => set_ok (fun _ _ _ q => q) o
/-- name = [.. for ..] -/
theorem ss_setLc {i : Nat} {y : Str} {py spos : Pos} {elt tg iter : Expr} {ifs : List Expr} {scope : Scope} {own : List (Str × Nat)} {g : TG} {mg : MG} {mi : MI} {c : MT} {m : ME} (hc : X.calm = true) (hN : X.N.Nodup) (hy : X.N[i]? = some y) (hyl : X.env.scope.names.lookup y = some .local)
    (hsw : swapsWith (.ListComp elt [⟨tg, iter, ifs, 0⟩] scope pos) (some (.Name y py)) spos.line X.env = pure true) (hi : PI X tg iter (tI (kc X) W mi)) (ok : BlkOk X.N X.env.scope scope own)
    (hg : ∀ (s : Shared) (H : Hp) (C : Addr) (cl : List (Str × Addr)) (fp : List Addr), PG (X.blk s H scope (compEnvC scope cl C X.env) fp) tg g) (hgm : GOk (kc X) g (own.map (·.2)) mg) (ht : ∀ (s : Shared) (H : Hp) (C : Addr) (cl : List (Str × Addr)) (fp : List Addr), PTs (X.blk s H scope (compEnvC scope cl C X.env) fp) ifs (tT (kc X) W0 c))
    (he : ∀ (s : Shared) (H : Hp) (C : Addr) (cl : List (Str × Addr)) (fp : List Addr), PE (X.blk s H scope (compEnvC scope cl C X.env) fp) elt (tE (kc X) W0 m)) (hs : ∀ x, foldedSetIterable iter X.env x = pure x := by intro _; rfl) :
    PS X (.Assign [.Name y py] (.ListComp elt [⟨tg, iter, ifs, 0⟩] scope pos) spos) (tS (kc X) W (mSet i (mLc mi mg c m (own.map (·.2))))) :=
  (ps_setLc (wi := tI (kc X) W mi) (tt := tT (kc X) W0 c) (te := tE (kc X) W0 m) hc hN hy hyl hsw hi ok hg ht he hs).imp fun _ _ _ o => set_ok (fun _ _ _ q => tLc_of hgm q) o
/-- a, b = e -/
def mAsg (mg : MG) (m : ME) : MS := fun env h => (m env h).andS env fun v h1 => match mg v env with
  | some env' => .nx env' h1
  | none => .bad
theorem ss_asg {tg : Expr} {g : TG} {mg : MG} {own : List Nat} (he : PE X e (tE (kc X) W ma)) (hg : PG X tg g) (hgm : GOk (kc X) g own mg) (hs : swapsWithSole [tg] e pos.line X.env = pure false := by rfl) (hw : swappedStores [tg] e X.env = pure none := by rfl)
    (h1 : (assignEach [tg] X.env).map (·.2) = [assign tg X.env] := by rfl) : PS X (.Assign [tg] e pos) (tS (kc X) W (mAsg mg ma)) := (ps_asg he hg hs hw h1).imp fun D σ H => by
  rintro ⟨φ, env, h, hr, er, o⟩
  refine tS_step hr er o fun φ1 H1 h1 x u k1 hr1 er1 t1 o1 => ?_
  cases q : mg x env with
  | none => simp only [q] at o1; exact o1.elim
  | some env' =>
    simp only [q] at o1
    exact hgm.run φ1 H1 σ env x u env' _ er1 t1 q fun σ' er' _ => OkS.nx_here o1 hr1 er'
/-- a, b = (x, y) -/
def mPar (i j : Nat) (r : MA) : MS := fun env h => (r env h).andS env fun xs h1 => match xs with
  | [x, y] => .nx ((env.set i (some x)).set j (some y)) h1
  | _ => .bad
theorem ss_par {i j : Nat} {x y : Str} {px py pt : Pos} {kt k2 pt2} (hc : X.calm = true) (hN : X.N.Nodup) (hi : X.N[i]? = some x) (hj : X.N[j]? = some y) (hij : i ≠ j)
    (hx : X.env.scope.names.lookup x = some .local) (hy : X.env.scope.names.lookup y = some .local) (ha : PA X [a, b] (tA (kc X) W mr))
    (hw : swappedStores [.Tuple [.Name x px, .Name y py] kt pt] (.Tuple [a, b] k2 pt2) X.env = pure (some [x, y]))
    (hs : swapsWithSole [.Tuple [.Name x px, .Name y py] kt pt] (.Tuple [a, b] k2 pt2) pos.line X.env = pure false := by rfl) :
    PS X (.Assign [.Tuple [.Name x px, .Name y py] kt pt] (.Tuple [a, b] k2 pt2) pos) (tS (kc X) W (mPar i j mr)) := (ps_par hc hN hi hj hij hx hy ha hw hs).imp fun D σ H => by
  rintro ⟨φ, env, h, hr, er, o⟩
  refine tS_step hr er o fun φ1 H1 h1 xs us k1 hr1 er1 t1 o1 => ?_
  split at o1
  · rename_i x y
    obtain ⟨u, v, rfl, t, t'⟩ := two_of t1
    exact ⟨u, v, rfl, OkS.nx_here o1 hr1 ((er1.set t).set t')⟩
  · exact o1.elim
/-- xs[i] = v -/
def mStore (m mo mi : ME) : MS := fun env h => (m env h).andS env fun v h1 => (mo env h1).andS env fun o h2 => (mi env h2).andS env fun i h3 => match o, i with
  | .ref n, .int k => match lstOf h3 n with
    | some xs => match ixN xs.length k with
      | some j => .nx env (h3.set n (.lst (xs.set j v)))
      | none => .bad
    | none => .bad
  | _, _ => .bad
theorem ss_store {o i : Expr} {tpos : Pos} (he : PE X e (tE (kc X) W ma)) (ho : PE X o (tE (kc X) W mb)) (hi : PE X i (tE (kc X) W mc))
    (ha : ∀ v, assign (.Subscript o i tpos) X.env v = (do
      let ov ← holding [v] (eval o X.env)
      let iv ← holding [v, ov] (eval i X.env)
      standAt tpos
      holding [v, ov, iv] (setItem ov iv v)
      release [v, ov, iv] []) := by intro _; rfl) (hs : swapsWithSole [.Subscript o i tpos] e pos.line X.env = pure false := by rfl) (hw : swappedStores [.Subscript o i tpos] e X.env = pure none := by rfl)
    (h1 : (assignEach [.Subscript o i tpos] X.env).map (·.2) = [assign (.Subscript o i tpos) X.env] := by rfl) : PS X (.Assign [.Subscript o i tpos] e pos) (tS (kc X) W (mStore ma mb mc)) := (ps_asg he (pg_sub ho hi set_list ha) hs hw h1).imp fun D σ H => by
  rintro ⟨φ, env, h, hr, er, o⟩
  refine tS_step hr er o fun φ1 H1 h1 x u k1 hr1 er1 t1 o1 => ?_
  refine tS_step hr1 er1 o1 fun φ2 H2 h2 y v k2 hr2 er2 t2 o2 => ?_
  refine tS_step hr2 er2 o2 fun φ3 H3 h3 z w k3 hr3 er3 t3 o3 => ?_
  split at o3
  · rename_i n k
    have t2' := t2.keep k3
    cases t2' with
    | @ref _ p ea =>
      cases t3
      split at o3
      · rename_i xs q
        split at o3
        · rename_i j q2
          obtain ⟨e1, vs, e2, ts⟩ := lst_of hr3 ea q
          have hz : xs.length ≤ sizeLine := by
            have := hr3.at_ n p _ ea e1
            exact this.1
          refine ⟨p, vs, k, j, rfl, rfl, e2, by rw [ts.length]; exact q2, ?_⟩
          exact o3 φ3 σ _ (Keep.put (List.mem_of_getElem? ea) e2) (hr3.put ea e1 e2 (by simpa using hz) (IsVs.set ((t1.keep k2).keep k3) j ts)) (er3.keep (Keep.put (List.mem_of_getElem? ea) e2))
        · exact o3.elim
      · exact o3.elim
  · exact o3.elim
def mDrop (m : ME) : MS := fun env h => (m env h).andS env fun _ h1 => .nx env h1
theorem ss_expr (he : PE X e (tE (kc X) W ma)) (hs : swapsWith e none pos.line X.env = pure false := by rfl) : PS X (.Expr e pos) (tS (kc X) W (mDrop ma)) := (ps_expr he hs).imp fun D σ H => by
  rintro ⟨φ, env, h, hr, er, o⟩
  exact tS_step hr er o fun φ1 H1 h1 x u k1 hr1 er1 t1 o1 => OkS.nx_here o1 hr1 er1
def mRet (m : ME) : MS := fun env h => (m env h).andS env fun v h1 => .rt v h1
theorem ss_ret (he : PE X e (tE (kc X) W ma)) : PS X (.Return (some e) pos) (tS (kc X) W (mRet ma)) := (ps_ret he).imp fun D σ H => by
  rintro ⟨φ, env, h, hr, er, o⟩
  exact tS_step hr er o fun φ1 H1 h1 x u k1 hr1 er1 t1 o1 => o1 φ1 H1 u Keep.refl hr1 t1
def mRetN : MS := fun env h => .rt .non h
theorem ss_retN : PS X (.Return none pos) (tS (kc X) W mRetN) := ps_retN.imp fun D σ H => by
  rintro ⟨φ, env, h, hr, er, o⟩
  exact o φ H .non Keep.refl hr .non
def mIfS (t : MT) (m1 m2 : MS) : MS := fun env h => (t env h).andS env fun b h1 => if b = true then m1 env h1 else m2 env h1
theorem ss_if {c : Expr} {s1 s2 : List Stmt} {t : MT} (hc : PT X c (tT (kc X) W t)) (ha : PSs X s1 (tS (kc X) W m1)) (hb : PSs X s2 (tS (kc X) W m2)) : PS X (.If c s1 s2 pos) (tS (kc X) W (mIfS t m1 m2)) := (ps_if hc ha hb).imp fun D σ H => by
  rintro ⟨φ, env, h, hr, er, o⟩
  refine tS_step hr er o fun φ1 H1 h1 x u k1 hr1 er1 t1 o1 => ?_
  cases t1
  cases x with
  | true => rw [if_pos rfl]; exact ⟨φ1, env, h1, hr1, er1, o1⟩
  | false => rw [if_neg Bool.false_ne_true]; exact ⟨φ1, env, h1, hr1, er1, o1⟩
def mBreak : MS := fun env h => .bk env h
def mCont : MS := fun env h => .ct env h
theorem ss_break : PS X (.Break pos) (tS (kc X) W mBreak) := ps_break.imp fun D σ H => by
  rintro ⟨φ, env, h, hr, er, o⟩
  exact o φ σ H Keep.refl hr er
theorem ss_cont : PS X (.Continue pos) (tS (kc X) W mCont) := ps_continue.imp fun D σ H => by
  rintro ⟨φ, env, h, hr, er, o⟩
  exact o φ σ H Keep.refl hr er
theorem ss_pass : PS X (.Pass pos) (tS (kc X) W mNext) := ps_pass.imp fun D σ H => by
  rintro ⟨φ, env, h, hr, er, o⟩
  exact o φ σ H Keep.refl hr er

/-! ### loops -/
/-- what a turn's body leaves: on with k, out, or away -/
def S.turn (r : S) (k : MS) : S := match r with
  | .nx e h => k e h
  | .ct e h => k e h
  | .bk e h => .nx e h
  | r => r
def forGo (it : MIt) (tg : MG) (body : MS) : Nat → Nat → MS
  | 0, _, _, _ => .bad
  | n + 1, i, env, h => match it i h with
    | .stop => .nx env h
    | .bad => .bad
    | .item x => match tg x env with
      | none => .bad
      | some env' => (body env' h).turn (forGo it tg body n (i + 1))
noncomputable def mFor (mi : MI) (tg : MG) (body : MS) : MS := fun env h => (mi env h).andS env fun it h1 => forGo it tg body fuel 0 env h1
theorem turn_ok {K : KC} {φ : List Addr} {H : Hp} {r : S} {k : MS} {D : Ends} {N : St → Hp → Prop} (o : OkS K W φ H (r.turn k) D) (hn : ∀ φ' σ' H' env' h', Keep φ H φ' H' → HR K φ' H' h' → ER K φ' H' σ' env' → OkS K W φ' H' (k env' h') D → N σ' H') :
    OkS K W φ H r { D with nx := N, ct := N, bk := D.nx } := by
  cases r with
  | nx e h' => exact fun φ' σ' H' k' r t => hn φ' σ' H' e h' k' r t (OkS.mono o k')
  | ct e h' => exact fun φ' σ' H' k' r t => hn φ' σ' H' e h' k' r t (OkS.mono o k')
  | bk e h' => exact o
  | rt v h' => exact o
  | exc x e h' => exact o
  | bad => exact o
theorem ss_for {tg iter : Expr} {body : List Stmt} {g : TG} {mg : MG} {own : List Nat} {mi : MI} {mbd : MS} (hp : PassesOwn (model X.prog X.w) X.A X.env X.xe) (hc : X.calm = true) (hi : PI X tg iter (tI (kc X) W mi)) (hg : PG X tg g) (hgm : GOk (kc X) g own mg) (hb : PSs X body (tS (kc X) W mbd)) (hs : ∀ x, foldedSetIterable iter X.env x = pure x := by intro _; rfl) :
    PS X (.For tg iter body [] pos) (tS (kc X) W (mFor mi mg mbd)) := (ps_for hp hc hi hg hb hs).imp fun D σ H => by
  rintro ⟨φ, env, h, hr, er, o⟩
  refine tS_step hr er o fun φ1 H1 h1 it J k1 hr1 er1 hw o1 => ?_
  refine ⟨fun i n σ H => ∃ φ env h, Keep φ1 H1 φ H ∧ HR (kc X) φ H h ∧ ER (kc X) φ H σ env ∧ OkS (kc X) W φ H (forGo it mg mbd n i env h) D, ⟨fuel, φ1, env, h1, Keep.refl, hr1, er1, o1⟩, ?_⟩
  rintro i n σ H ⟨φ, env, h, k, hr, er, o⟩
  cases n with
  | zero => exact o.elim
  | succ n =>
    unfold forGo at o
    cases e : it i h with
    | bad => simp only [e] at o; exact o.elim
    | stop =>
      simp only [e] at o
      exact .inl ⟨hw.stop φ H h i k hr e, OkS.nx_here o hr er⟩
    | item x =>
      simp only [e] at o
      obtain ⟨hgo, hy⟩ := hw.go φ H h i x k hr e
      refine .inr ⟨hgo, fun σ H => ∃ φ env h, Keep φ1 H1 φ H ∧ HR (kc X) φ H h ∧ ER (kc X) φ H σ env ∧ OkS (kc X) W φ H (forGo it mg mbd n (i + 1) env h) D, fun σ' H' q => ⟨n, Nat.lt_succ_self n, q⟩, fun u H' y => ?_⟩
      obtain ⟨k2, hr2, t2⟩ := hy u H' y
      cases et : mg x env with
      | none => simp only [et] at o; exact o.elim
      | some env' =>
        simp only [et] at o
        refine hgm.run φ H' σ env x u env' _ (er.keep k2) t2 et fun σ2 er3 _ => ⟨φ, env', h, hr2, er3, ?_⟩
        exact turn_ok (OkS.mono o k2) fun φ' σ' H'' e' h' k' hr' er' o' => ⟨φ', e', h', (k.trans k2).trans k', hr', er', o'⟩
def whileGo (t : MT) (body : MS) : Nat → MS
  | 0, _, _ => .bad
  | n + 1, env, h => (t env h).andS env fun b h1 => if b = true then (body env h1).turn (whileGo t body n) else .nx env h1
noncomputable def mWhile (t : MT) (body : MS) : MS := whileGo t body fuel
theorem ss_while {c : Expr} {body : List Stmt} {t : MT} {mbd : MS} (hp : PassesOwn (model X.prog X.w) X.A X.env X.xe) (hc : PT X c (tT (kc X) W t)) (hb : PSs X body (tS (kc X) W mbd)) : PS X (.While c body [] pos) (tS (kc X) W (mWhile t mbd)) := (ps_while hp hc hb).imp fun D σ H => by
  rintro ⟨φ, env, h, hr, er, o⟩
  refine ⟨fun n σ H => ∃ φ env h, HR (kc X) φ H h ∧ ER (kc X) φ H σ env ∧ OkS (kc X) W φ H (whileGo t mbd n env h) D, ⟨fuel, φ, env, h, hr, er, o⟩, ?_⟩
  rintro n σ H ⟨φ, env, h, hr, er, o⟩
  cases n with
  | zero => exact o.elim
  | succ n =>
    unfold whileGo at o
    refine tS_step hr er o fun φ1 H1 h1 x u k1 hr1 er1 t1 o1 => ?_
    cases t1
    cases x with
    | false => rw [if_neg Bool.false_ne_true]; exact OkS.nx_here o1 hr1 er1
    | true =>
      rw [if_pos rfl]
      refine ⟨fun σ H => ∃ φ env h, HR (kc X) φ H h ∧ ER (kc X) φ H σ env ∧ OkS (kc X) W φ H (whileGo t mbd n env h) D, fun σ' H' q => ⟨n, Nat.lt_succ_self n, q⟩, φ1, env, h1, hr1, er1, ?_⟩
      exact turn_ok o1 fun φ' σ' H'' e' h' k' hr' er' o' => ⟨φ', e', h', hr', er', o'⟩
end

/-! ### defs -/
def mDef (np N : Nat) (body : MS) : List MV → MH → R MV := fun xs h => if xs.length = np then match body (xs.map some ++ List.replicate (N - np) none) h with
    | .nx _ h' => .ok .non h'
    | .rt v h' => .ok v h'
    | .exc x _ h' => .exc x h'
    | _ => .bad
  else .bad
theorem ER.start {K : KC} {φ : List Addr} {H : Hp} {N : List Str} {np : Nat} {xs : List MV} {vs : List V} (ts : IsVs K φ H xs vs) (hl : vs.length = np) : ER K φ H (L2.start N vs) (xs.map some ++ List.replicate (N.length - np) none) := by
  have e := ts.length
  refine ⟨by unfold L2.start; simp; omega, fun i x q => ?_⟩
  unfold L2.start
  by_cases hi : i < xs.length
  · rw [List.getElem?_append_left (by simpa using hi)] at q
    rw [List.getElem?_append_left (by simp; omega)]
    rw [List.getElem?_map] at q ⊢
    cases g : xs[i]? with
    | none => rw [g] at q; cases q
    | some y =>
      rw [g] at q
      cases q
      obtain ⟨v, e1, t⟩ := ts.get g
      exact ⟨v, by rw [e1]; rfl, t⟩
  · rw [List.getElem?_append_right (by simp; omega)] at q
    rw [List.getElem?_replicate] at q
    split at q <;> cases q
section
variable {P : Program} {w : World} {K : PySem.W.Frag} {mg : Str → Option Value} {base : Heap}
theorem def_ok {x qual : Str} {st : Stmt} {f : Addr} {fd : FuncData} {N ps : List Str} {k : Nat} {body : MS} (F : Fun K x qual st f fd) (S : FnScope N ps (defScope st))
    (hbody : ∀ (cdv : Value) (A : Around) (outer : List Env) (s : Shared) (H : Hp) (E : XK), Room k (A.deeper (envOfC qual (defScope st) s.heap.objs.size f cdv)) →
      PSs (cxOf CX0 P w K mg base N qual (defScope st) f cdv A outer s H E).nox (defBody st) (tS ⟨K, mg⟩ W0 body)) : FnOk P w K mg base CX0 (k + 1) f fd ps (spM ⟨K, mg⟩ ps.length (mDef ps.length N.length body)) := by
  refine F.ok S (fun vs H Q E h => h.1) fun cdv A outer s H vs Q E hr h => ⟨_, hbody cdv A outer s H E hr, ?_⟩
  obtain ⟨hl, φ, xs, h0, hr0, ts, o⟩ := h
  refine ⟨φ, _, h0, hr0, ER.start (N := N) ts hl, ?_⟩
  unfold mDef at o
  rw [if_pos (by rw [← ts.length]; exact hl)] at o
  cases q : body (xs.map some ++ List.replicate (N.length - ps.length) none) h0 with
  | nx e h' =>
    rw [q] at o
    exact fun φ' σ' H' k' hr' _ => o φ' H' .non k' hr' .non
  | rt v h' => rw [q] at o; exact fun φ' H' u k' hr' t => o φ' H' u k' hr' t
  | exc x e h' => rw [q] at o; exact fun φ' σ' H' k' hr' _ => o φ' H' k' hr'
  | bk e h' => rw [q] at o; exact o.elim
  | ct e h' => rw [q] at o; exact o.elim
  | bad => rw [q] at o; exact o.elim
/-- F may stand for G: what G's answer is fit for, F's is -/
def Sim (h : MH) (r r' : R MV) : Prop := ∀ (K : KC) (Z : XW) (φ : List Addr) (H : Hp) (Q : VK), HR K φ H h → OkG K (IsV K) Z φ H r' Q → OkG K (IsV K) Z φ H r Q
theorem Sim.refl {h : MH} {r : R MV} : Sim h r r := fun _ _ _ _ _ _ o => o
theorem Sim.bad {h : MH} {r : R MV} : Sim h r .bad := fun _ _ _ _ _ _ o => o.elim
theorem def_as {f : Addr} {fd : FuncData} {ps : List Str} {k np : Nat} {F G : List MV → MH → R MV} (hF : FnOk P w K mg base CX0 k f fd ps (spM ⟨K, mg⟩ np F)) (hs : ∀ xs h, xs.length = np → Sim h (F xs h) (G xs h)) : FnOk P w K mg base CX0 k f fd ps (spM ⟨K, mg⟩ np G) :=
  hF.imp fun vs H Q E => by
    rintro ⟨hl, φ, xs, h, hr, ts, o⟩
    exact ⟨hl, φ, xs, h, hr, ts, hs xs h (by rw [← ts.length]; exact hl) _ _ φ H Q hr o⟩
end
end Mv

set_option maxHeartbeats 4000000
namespace Mv
open PySem PySem.Spec L2
open PyProof.Rows hiding St

/-! ### what lies below a heap's length -/
mutual
def MV.und (n : Nat) : MV → Prop
  | .ref k => k < n
  | .tup xs => MV.unds n xs
  | _ => True
def MV.unds (n : Nat) : List MV → Prop
  | [] => True
  | x :: xs => MV.und n x ∧ MV.unds n xs
end
theorem unds_iff {n : Nat} : ∀ {xs : List MV}, MV.unds n xs ↔ ∀ x ∈ xs, MV.und n x
  | [] => by simp [MV.unds]
  | x :: xs => by simp [MV.unds, unds_iff (xs := xs)]
mutual
theorem IsV.und {K : KC} {φ : List Addr} {H : Hp} : ∀ {x : MV} {v : V}, IsV K φ H x v → MV.und φ.length x
  | _, _, .non => by simp [MV.und]
  | _, _, .bl b => by simp [MV.und]
  | _, _, .int i => by simp [MV.und]
  | _, _, .str s => by simp [MV.und]
  | _, _, .ref e => by simp only [MV.und]; exact (List.getElem?_eq_some_iff.mp e).1
  | _, _, .tup h t => by simp only [MV.und]; exact IsVs.unds t
theorem IsVs.unds {K : KC} {φ : List Addr} {H : Hp} : ∀ {xs : List MV} {vs : List V}, IsVs K φ H xs vs → MV.unds φ.length xs
  | _, _, .nil => by simp [MV.unds]
  | _, _, .cons h t => by simp only [MV.unds]; exact ⟨IsV.und h, IsVs.unds t⟩
end
mutual
theorem IsV.less {K : KC} {φ : List Addr} {H : Hp} {n : Nat} : ∀ {x : MV} {v : V}, IsV K φ H x v → MV.und n x → IsV K (φ.take n) H x v
  | _, _, .non, _ => .non
  | _, _, .bl b, _ => .bl b
  | _, _, .int i, _ => .int i
  | _, _, .str s, _ => .str s
  | _, _, .ref e, h => .ref (by rw [List.getElem?_take_of_lt (by simpa [MV.und] using h)]; exact e)
  | _, _, .tup q t, h => .tup q (IsVs.less t (by simpa [MV.und] using h))
theorem IsVs.less {K : KC} {φ : List Addr} {H : Hp} {n : Nat} : ∀ {xs : List MV} {vs : List V}, IsVs K φ H xs vs → MV.unds n xs → IsVs K (φ.take n) H xs vs
  | _, _, .nil, _ => .nil
  | _, _, .cons q t, h => by
    simp only [MV.unds] at h
    exact .cons (IsV.less q h.1) (IsVs.less t h.2)
end
def MO.und (n : Nat) : MO → Prop
  | .lst xs => MV.unds n xs
  | .frz xs => MV.unds n xs
  | .dct kvs => MV.unds n (kvs.map (·.2))
  | .fdc kvs => MV.unds n (kvs.map (·.2))
  | .ins _ fs => MV.unds n fs
theorem OR.less {K : KC} {φ : List Addr} {H : Hp} {n : Nat} {a : Addr} {o : MO} (r : OR K φ H a o) (h : MO.und n o) : OR K (φ.take n) H a o := by
  cases o with
  | lst xs => obtain ⟨l, vs, e, t⟩ := r; exact ⟨l, vs, e, t.less h⟩
  | frz xs => obtain ⟨l, ob, vs, e, t⟩ := r; exact ⟨l, ob, vs, e, t.less h⟩
  | dct _ => obtain ⟨ws, q, l, ek, t⟩ := r; exact ⟨ws, q, l, ek, t.less h⟩
  | fdc _ => obtain ⟨o, ws, q, l, ek, t⟩ := r; exact ⟨o, ws, q, l, ek, t.less h⟩
  | ins _ _ => obtain ⟨gs, q, t⟩ := r; exact ⟨gs, q, t.less h⟩
theorem OR.und {K : KC} {φ : List Addr} {H : Hp} {a : Addr} {o : MO} (r : OR K φ H a o) : MO.und φ.length o := by
  cases o with
  | lst xs => obtain ⟨l, vs, e, t⟩ := r; exact t.unds
  | frz xs => obtain ⟨l, ob, vs, e, t⟩ := r; exact t.unds
  | dct _ => obtain ⟨ws, q, l, ek, t⟩ := r; exact t.unds
  | fdc _ => obtain ⟨o, ws, q, l, ek, t⟩ := r; exact t.unds
  | ins _ _ => obtain ⟨gs, q, t⟩ := r; exact t.unds
def Below (n : Nat) (h : MH) : Prop := ∀ o ∈ h, MO.und n o
theorem HR.below {K : KC} {φ : List Addr} {H : Hp} {h : MH} (r : HR K φ H h) : Below h.length h := fun o ho => by
  obtain ⟨n, e⟩ := List.mem_iff_getElem?.mp ho
  obtain ⟨a, ea⟩ := r.addr e
  rw [← r.len]
  exact (r.at_ n a o ea e).und
/-- the end of a small heap is forgotten -/
theorem HR.forget {K : KC} {φ : List Addr} {H : Hp} {h g : MH} (r : HR K φ H (h ++ g)) (b : Below h.length h) : HR K (φ.take h.length) H h := by
  have hl := r.len
  rw [List.length_append] at hl
  refine ⟨by rw [List.length_take]; omega, r.nd.sublist (List.take_sublist _ _), fun n a o e1 e2 => ?_⟩
  have hn := (List.getElem?_eq_some_iff.mp e2).1
  rw [List.getElem?_take_of_lt hn] at e1
  exact (r.at_ n a o e1 (by rw [List.getElem?_append_left hn]; exact e2)).less (b o (List.mem_of_getElem? e2))
theorem Keep.forget {φ φ' : List Addr} {H H' : Hp} {n : Nat} (k : Keep φ H φ' H') (h : φ.length ≤ n) : Keep φ H (φ'.take n) H' := by
  obtain ⟨mo, rfl, f⟩ := k.ext
  refine ⟨⟨mo.take (n - φ.length), ?_, fun b hb => f b (List.mem_of_mem_take hb)⟩, k.dom, k.out, k.tup, k.frz⟩
  rw [List.take_append, List.take_of_length_le h]
/-- what a call leaves behind is forgotten: its answer holds no new object -/
theorem sim_drop {h h2 g : MH} {v : MV} (hl : h2.length = h.length) (hb : Below h.length h → Below h.length h2) (bv : MV.und h.length v) : Sim h (.ok v (h2 ++ g)) (.ok v h2) := by
  intro K Z φ H Q hr o φ' H' u k hr' t
  have b2 := hb hr.below
  refine o (φ'.take h2.length) H' u (k.forget (by rw [hr.len, hl]; exact Nat.le_refl _)) (hr'.forget (by rw [hl]; exact b2)) (t.less (by rw [hl]; exact bv))
theorem sim_drop0 {h g : MH} {v : MV} (bv : MV.und h.length v) : Sim h (.ok v (h ++ g)) (.ok v h) := sim_drop rfl id bv
/-- the answer is one new list -/
theorem sim_list {h h2 g : MH} {n : Nat} {xs : List MV} (hl : h2.length = h.length) (hb : Below h.length h → Below h.length h2) (e : (h2 ++ g)[n]? = some (.lst xs)) (hn : h.length ≤ n) (bx : MV.unds h.length xs) : Sim h (.ok (.ref n) (h2 ++ g)) (.ok (.ref h.length) (h2 ++ [.lst xs])) := by
  intro K Z φ H Q hr o φ' H' u k hr' t
  have b2 := hb hr.below
  cases t with
  | @ref _ p ep =>
    have hw := hr'.at_ n p _ ep e
    obtain ⟨l, vs, e1, ts⟩ := hw
    have hlen := hr'.len
    rw [List.length_append] at hlen
    have k0 : Keep φ H (φ'.take h2.length) H' := k.forget (by rw [hr.len, hl]; exact Nat.le_refl _)
    have r0 := hr'.forget (h := h2) (by rw [hl]; exact b2)
    have npt : p ∉ φ'.take h2.length := by
      intro z
      obtain ⟨m, em⟩ := List.mem_iff_getElem?.mp z
      have hm : m < h2.length := by
        have := (List.getElem?_eq_some_iff.mp em).1
        rw [List.length_take] at this
        omega
      rw [List.getElem?_take_of_lt hm] at em
      obtain ⟨g1, x1⟩ := List.getElem?_eq_some_iff.mp em
      obtain ⟨g2, x2⟩ := List.getElem?_eq_some_iff.mp ep
      have := (List.getElem_inj hr'.nd).mp (x1.trans x2.symm)
      omega
    have hp : H p = none := by
      obtain ⟨mo, e3, f⟩ := k.ext
      refine f p ?_
      have : φ'[n]? = some p := ep
      rw [e3, List.getElem?_append_right (by rw [hr.len]; exact hn)] at this
      exact List.mem_of_getElem? this
    refine o (φ'.take h2.length ++ [p]) H' (.ref p) (k0.adopt hp) (r0.adopt npt e1 l (ts.less (by rw [hl]; exact bx))) (.ref ?_)
    rw [← hl]
    exact lay_at r0
theorem sim_list0 {h g : MH} {n : Nat} {xs : List MV} (e : (h ++ g)[n]? = some (.lst xs)) (hn : h.length ≤ n) (bx : MV.unds h.length xs) : Sim h (.ok (.ref n) (h ++ g)) (.ok (.ref h.length) (h ++ [.lst xs])) := sim_list rfl id e hn bx
@[simp] theorem und_int (n : Nat) (i : Int) : MV.und n (.int i) := by simp [MV.und]
@[simp] theorem und_bl (n : Nat) (i : Bool) : MV.und n (.bl i) := by simp [MV.und]
@[simp] theorem und_non (n : Nat) : MV.und n .non := by simp [MV.und]
@[simp] theorem und_str (n : Nat) (i : Str) : MV.und n (.str i) := by simp [MV.und]
theorem unds_of {n : Nat} {xs : List MV} (h : ∀ x ∈ xs, MV.und n x) : MV.unds n xs := unds_iff.mpr h
theorem und_tup {n : Nat} {xs : List MV} (h : ∀ x ∈ xs, MV.und n x) : MV.und n (.tup xs) := by simp only [MV.und]; exact unds_of h

/-! ### a def as it stands -/
structure Def (P : Program) (w : World) (K : PySem.W.Frag) (mg : Str → Option Value) (base : Heap) (k : Nat) (x : Str) (np : Nat) (G : List MV → MH → R MV) : Prop where
  ex : ∃ f fd ps, FnOk P w K mg base CX0 k f fd ps (spM ⟨K, mg⟩ np G) ∧ mg x = some (.ref f) ∧ PySem.W.keepIn K (.ref f) = true ∧ Binds K fd ps []
section
variable {P : Program} {w : World} {K : PySem.W.Frag} {mg : Str → Option Value} {base : Heap} {k np : Nat} {x : Str} {F G : List MV → MH → R MV}
theorem Def.as (d : Def P w K mg base k x np F) (hs : ∀ xs h, xs.length = np → Sim h (F xs h) (G xs h)) : Def P w K mg base k x np G := by
  obtain ⟨f, fd, ps, h1, h2, h3, h4⟩ := d.ex
  exact ⟨f, fd, ps, def_as h1 hs, h2, h3, h4⟩
end
section
variable {X : Cx} {W : WT} {pos : Pos} {a : Expr} {es : List Expr} {mr : MA} {ma : ME}
theorem se_do {k j np : Nat} {x : Str} {p : Pos} {F : List MV → MH → R MV} (D : Def X.prog X.w X.K X.mg X.base k x np F) (hr : Room j X.A) (hg : Gl X x) (ha : PA X (a :: es) (tA (kc X) W mr)) (hj : k ≤ j := by decide) (hd : (x == ("__debug__" : Str)) = false := by decide)
    (he : starEach (a :: es) X.env = (false, eval a X.env) :: starEach es X.env := by rfl) (hpl : (backTo pos (starEach es X.env)).any (·.1) = false := by rfl) : PE X (.Call (.Name x p) (a :: es) [] pos) (tE (kc X) W (mDo np F mr)) := by
  obtain ⟨f, fd, ps, h1, h2, h3, h4⟩ := D.ex
  exact se_call h1 (hr.mono hj) hg h2 h3 h4 ha hd he hpl
theorem hu65 {k : Nat} {A : Around} (r : Room k A) : A.units + 65 < cLine := by have := r.un; omega
def fNeg : MV → MH → R MV := fun x h => match x with
  | .int i => .ok (.int (-i)) h
  | _ => .bad
def mNeg (m : ME) : ME := fun env h => (m env h).bind fNeg
theorem se_neg (ha : PE X a (tE (kc X) W ma)) : PE X (.UnaryOp .USub a pos) (tE (kc X) W (mNeg ma)) := (pe_un un_neg ha).imp fun σ H Q => by
  rintro ⟨φ, env, h, hr, er, o⟩
  refine tG_step hr er o fun φ1 H1 h1 x u k1 hr1 er1 t1 o1 => ?_
  cases t1 with
  | int i => exact ⟨i, rfl, OkG.ok_here o1 hr1 (.int _)⟩
  | _ => exact o1.elim
end
end Mv

set_option maxHeartbeats 4000000
namespace PySem
open Sem (wp)
open AutoSeq1 (wpAny_loadPart')
/-- enumerate(v), one argument, of anything that begins -/
theorem mv_enumerate_new1 {v : Value} {o : Obj} {H : Heap → Prop} (B : Begins v o H) :
    Meets (Builtin.«enumerate.__new__» ⟨[.type "enumerate", v], []⟩) (fun _ R s => H s.heap ∧
      R (.ok (.ret (.ref (s.heap.push o).objs.size))) { s with heap := (s.heap.push o).push { cls := .type "enumerate", data := .fields #[.none, .bool false, .ref s.heap.objs.size, rawInt 0, .none, .none] } }) :=
  .of_wp fun prog w A R s h => by
    obtain ⟨hp, g, d, tk, os⟩ := s; obtain ⟨h1, h⟩ := h
    have hsub := sub_enumerate
    have q1 : ∀ {A' : Around} {E : Value → Shared → Prop} {Q : Value → Shared → Prop}, Q (.ref hp.objs.size) ⟨hp.push o, g, d, tk, os⟩ → wpAny (model prog w) A' (pyIter v) Q E ⟨hp, g, d, tk, os⟩ :=
      fun q => B.iter prog w _ _ ⟨hp, g, d, tk, os⟩ _ h1 q
    wp_walk using q1
    refine wpAny_stack_any fun st => wpAny_pure ?_
    split
    · rename_i c _ _ _ _ _
      cases (c == Value.type "enumerate")
      · wp_walk using q1
        exact ⟨_, rfl, h⟩
      · wp_walk using q1
        exact ⟨_, rfl, h⟩
    · wp_walk using q1
      exact ⟨_, rfl, h⟩
theorem mv_call_enumerate {prog : Program} {w : World} {A : Around} {E : Value → Shared → Prop} {s : Shared} {v : Value} {o : Obj} {H : Heap → Prop} {Q : Value → Shared → Prop} (B : Begins v o H) (h1 : H s.heap)
    (h : ∀ h', IsEnum h' (s.heap.objs.size + 1) s.heap.objs.size 0 .none → h'.get? s.heap.objs.size = some o → h'.objs.size = s.heap.objs.size + 2 →
      (∀ b o, s.heap.get? b = some o → h'.get? b = some o) → Q (.ref (s.heap.objs.size + 1)) { s with heap := h' }) :
    wpAny (model prog w) A (call (.type "enumerate") [v]) Q E s := by
  refine callType_new F.called_enumerate (by decide) (F.typeCall_enumerate_1 _) (F.newCall_enumerate_1 _) (fun obj => F.args_object_init_2 obj _) F.entry_enumerate_new
    (mv_enumerate_new1 B) ⟨h1, ?_⟩
  have hz : (s.heap.push o).objs.size = s.heap.objs.size + 1 := Heap.size_push ..
  show _ ∧ _
  rw [hz]
  have he : IsEnum ((s.heap.push o).push { cls := .type "enumerate", data := .fields #[.none, .bool false, .ref s.heap.objs.size, rawInt 0, .none, .none] }) (s.heap.objs.size + 1) s.heap.objs.size 0 .none := by
    have := Heap.get?_push_size (s.heap.push o) (o := { cls := .type "enumerate", data := .fields #[.none, .bool false, .ref s.heap.objs.size, rawInt 0, .none, .none] }) rfl
    rw [hz] at this; exact this
  refine ⟨⟨_, he, rfl⟩, h _ he (Heap.get?_push_of_some _ (Heap.get?_push_size _ B.free)) (by rw [Heap.size_push, hz]) fun b o x => Heap.get?_push_of_some _ (Heap.get?_push_of_some _ x)⟩
end PySem
namespace Mv
open PySem PySem.Spec L2
open PyProof.Rows hiding St

/-! ### enumerate of a tuple -/
def IteT (K : PySem.W.Frag) (a : Addr) : It :=
  ⟨fun i H => ∃ (xs : List V) (x : V), SqT K H a xs ∧ xs[i]? = some x, fun i H v H' => ∃ T x, v = .ref T ∧ H T = none ∧ H' = upd H T (.tup [.int (i : Nat), x]) ∧ ∀ xs, SqT K H a xs → xs[i]? = some x, fun i H => ∃ xs : List V, SqT K H a xs ∧ xs.length ≤ i⟩
theorem turn_enumT {P : Program} {w : World} {K : PySem.W.Frag} {elts : List Expr} {kk : Nat} {tpos : Pos} (a e it : Addr) :
    Turn P w K (.Tuple elts kk tpos) (IteT K a) [e, it] e (fun i h => (∃ old, IsEnum h e it ((i : Nat) : Int) old) ∧ h.IsTupleIter it a i ∧ e ≠ it) where
  mem := by simp
  obj := fun i h st b hb => by
    obtain ⟨⟨old, he⟩, ⟨o, ho, hc, hd⟩, _⟩ := st
    have e' : b = e ∨ b = it := by simpa using hb
    rcases e' with z | z
    · rw [z]; exact ⟨_, he, fun v q => nomatch q⟩
    · rw [z]; exact ⟨o, ho, fun v q => by rw [hd] at q; cases q⟩
  keep := fun i h h' st k => let ⟨⟨old, he⟩, hi, hne⟩ := st; ⟨⟨old, k e (by simp) _ he⟩, hi.at fun o q => k it (by simp) o q, hne⟩
  item := by
    intro X hP hw hK hc i pins s σ H E I hf st hg
    subst hP hw hK
    obtain ⟨⟨old, he⟩, hit, hne⟩ := st
    obtain ⟨xs, x, hq, hx⟩ := hg
    obtain ⟨its, rv, p, hz⟩ := I.tuple hq
    obtain ⟨u, hu, ru⟩ := rv.get hx
    have hel : e < s.heap.objs.size := Heap.lt_size he
    have hil : it < s.heap.objs.size := by obtain ⟨_, q, _⟩ := hit; exact Heap.lt_size q
    have hta : s.heap.IsTuple a its.toArray := p
    have nea : a ≠ it := fun z => by
      obtain ⟨o1, h1, h2, _⟩ := hit
      obtain ⟨o2, h3, h4, _⟩ := hta
      rw [z, h1] at h3; cases h3
      rw [h2] at h4
      injection h4 with h5
      exact absurd h5 (by decide)
    have nae : a ≠ e := fun z => by
      obtain ⟨o2, h3, h4, _⟩ := hta
      rw [z, he] at h3; cases h3
      injection h4 with h5
      exact absurd h5 (by decide)
    have hlt : i < its.toArray.size := by
      have := (List.getElem?_eq_some_iff.mp hu).1
      simpa using this
    refine wpAny_pyNext_enum_itemD (Draws.tuple (A := X.A.in1) (I.ok.hd hc) it a nea its.toArray) he ⟨hit, hta⟩ hlt hne (by simp [hne, Ne.symm nae]) fun x' h' tk hP ho hst' hT hsz hk => ?_
    have ex : x' = u := by
      have : its.toArray[i]? = some u := by simpa using hu
      rw [this] at hP; cases hP; rfl
    subst ex
    refine ⟨_, rfl, wpAny_letOwnedTupleGo_enum (s := { s with heap := h', toks := tk + 1 }) ho fun h'' he' sb => ?_⟩
    have hT2 : h''.get? s.heap.objs.size = some { cls := .type "tuple", data := .seq #[.int i tk, x'] } := (sb.2 _ (Nat.ne_of_gt hel)).trans hT
    have new : ObjOk X.prog X.w (upd H s.heap.objs.size (.tup [.int (i : Nat), x])) h'' s.heap.objs.size (.tup [.int (i : Nat), x]) :=
      ⟨by show 2 ≤ sizeLine; decide, [.int i tk, x'], .cons ⟨_, rfl⟩ (.cons ru .nil), ⟨_, hT2, rfl, _, rfl⟩⟩
    have I1 : Inv X pins σ (upd H s.heap.objs.size (.tup [.int (i : Nat), x])) { s with heap := h'', toks := tk + 1 } :=
      I.turnedNew (ch := [e, it]) (fun b ob hb q => (sb.2 b (fun z => hb (by simp [z]))).trans (hk b ob (fun z => hb (by simp [z])) (fun z => hb (by simp [z])) q)) hf (Nat.le_refl _) new
    refine ⟨.ref s.heap.objs.size, _, I1, rfl, ⟨_, x, rfl, I.hok.fresh (Nat.le_refl _), rfl, fun ys hy => by rw [I.tuple_inj hy hq]; exact hx⟩, ⟨⟨x', ?_⟩, hst'.1.at fun o q => (sb.2 it (Ne.symm hne)).trans q, hne⟩, fun b hb => ?_⟩
    · have e1 : ((i + 1 : Nat) : Int) = (i : Int) + 1 := by omega
      rw [e1]; exact he'
    · have hb' : b < s.heap.objs.size := by
        have e' : b = e ∨ b = it := by simpa using hb
        rcases e' with z | z
        · rw [z]; exact hel
        · rw [z]; exact hil
      rw [upd_ne (Nat.ne_of_lt hb')]
      exact (hf b hb).1
  done := by
    intro X hP hw hK hc i pins s σ H E I hf st hg
    subst hP hw hK
    obtain ⟨⟨old, he⟩, hit, hne⟩ := st
    obtain ⟨xs, hq, hx⟩ := hg
    obtain ⟨its, rv, p, hz⟩ := I.tuple hq
    obtain ⟨f0, f1, f2, f3, f4, f5⟩ := hf it (by simp)
    have hl := rv.length
    have hta : s.heap.IsTuple a its.toArray := p
    have hD : wpAny (model X.prog X.w) X.A (pyNext (.ref e)) (fun r s1 => r = none ∧ Inv X pins σ H s1) E s := by
      unfold pyNext
      have hT : s.TypeIs (.ref e) "enumerate" := ⟨_, he, rfl⟩
      refine wpAny_bind (wpAny_attempt (wpAny_callSpecial?_slot (name := Str.ofString "__next__") hT F.slot_enumerate_next
        (wpAny_call_entry F.slot_enumerate_next hT F.entry_enumerate_next ?_ (F.args_enumerate_next_1 _))))
      show wpAny _ _ (field (.ref e) 2 >>= _) _ _ _
      refine wpAny_bind (wpAny_field he rfl (x := .ref it) rfl ?_)
      refine wpAny_bind (wpAny_nextOf_tuple_end (A := X.A.in1) (I.ok.hd hc) hit hta (by simp; omega) fun h' x he' hx' => ?_)
      obtain ⟨o, ho, hc'⟩ := hx'
      refine wpAny_bind (wpAny_isInstance (T := "StopIteration") (b := true) ⟨o, ho, hc'⟩ isSubtype_stop ?_)
      exact wpAny_pure ⟨rfl, I.turned (t' := s.toks) (fun b o hb q => he' b o hb q) f0 f1 f3 f4 f5⟩
    exact hD
  self := fun A i s Q E st h => let ⟨⟨_, he⟩, _⟩ := st; wpAny_pyIter_enum he h
theorem walksET {K : KC} {φ0 : List Addr} {H0 : Hp} {xs : List MV} {vs : List V} {a : Addr} (ha : SqT K H0 a vs) (ts : IsVs K φ0 H0 xs vs) : WalksM K (IteT K a) (itE (itT xs)) φ0 H0 := by
  constructor
  · intro φ H h i x k hr e
    unfold itE at e
    cases q0 : itT xs i h with
    | item y =>
      simp only [q0] at e
      cases e
      obtain ⟨v, e1, t⟩ := (ts.keep k).get (nx_item q0)
      refine ⟨⟨vs, v, k.sqT ha, e1⟩, fun u H' z => ?_⟩
      obtain ⟨T, x', rfl, hT, rfl, z⟩ := z
      have e2 := z vs (k.sqT ha)
      rw [e1] at e2
      cases e2
      exact ⟨Keep.new hT, hr.new hT, .tup (SqT.of upd_same) (.cons (.int _) (.cons (t.keep (Keep.new hT)) .nil))⟩
    | stop => simp only [q0] at e; cases e
    | bad => simp only [q0] at e; cases e
  · intro φ H h i k hr e
    unfold itE at e
    cases q0 : itT xs i h with
    | item y => simp only [q0] at e; cases e
    | stop => exact ⟨vs, k.sqT ha, by rw [ts.length]; exact nx_stop q0⟩
    | bad => simp only [q0] at e; cases e
section
variable {X : Cx} {W : WT} {pos : Pos} {a b c : Expr} {ma mb mc : ME} {es : List Expr} {mr : MA} {tg : Expr}
/-- enumerate of a list or a tuple -/
def mEnumV (r : MA) : MI := fun env h => (r env h).bind fun xs h1 => match xs with
  | [.tup xs] => .ok (itE (itT xs)) h1
  | [.ref n] => match itemsOf h1 (.ref n) with
    | some _ => .ok (itE (itL n)) h1
    | none => .bad
  | _ => .bad
theorem si_enumV {p tpos : Pos} {elts : List Expr} {kk : Nat} (hg : Gl X "enumerate") (hm : X.mg "enumerate" = none) (ha : PA X [a] (tA (kc X) W mr)) (hs : starEach [a] X.env = [(false, eval a X.env)] := by rfl) :
    PI X (.Tuple elts kk tpos) (.Call (.Name "enumerate" p) [a] [] pos) (tI (kc X) W (mEnumV mr)) := by
  have q : PI X (.Tuple elts kk tpos) (.Call (.Name "enumerate" p) [a] [] pos) (fun σ H R => tA (kc X) W mr σ H fun vs H1 => ∃ q, vs = [.ref q] ∧ (((∃ xs, SqL X.K H1 q xs) ∧ R (Ite X.K q) H1) ∨ ((∃ xs, SqT X.K H1 q xs) ∧ R (IteT X.K q) H1))) := by
    refine ⟨fun pins s σ H R I h => ?_⟩
    refine Call_ (ld_blt I hg hm boot_enumerate (PyProof.Rows.callWith_type1 (thn (ha.run pos pins s σ H _ I h) fun us s1 ⟨vs, H1, I1, r1, q1⟩ => ?_) hs rfl))
    obtain ⟨a, ex, q⟩ := q1
    subst ex
    cases r1 with
    | cons r rr =>
      cases rr
      cases r
      have fin : ∀ b, b = s1.heap.objs.size + 1 ∨ b = s1.heap.objs.size → s1.heap.objs.size ≤ b := fun b e' => by
        rcases e' with z | z
        · rw [z]; exact Nat.le_add_right _ _
        · rw [z]; exact Nat.le_refl _
      rcases q with ⟨⟨xs, hq⟩, q⟩ | ⟨⟨xs, hq⟩, q⟩
      · obtain ⟨its, rv, p', hz⟩ := I1.list hq
        refine call_enumerate_list p'.isList fun h' he hit hsz hk => wpAny_pyIter_enum he ?_
        have I2 : Inv X pins σ H1 { s1 with heap := h' } := I1.kept (t' := s1.toks) hk
        refine ⟨s1.heap.objs.size + 1, [s1.heap.objs.size + 1, s1.heap.objs.size], _, _, H1, rfl, I2, turn_enum a (s1.heap.objs.size + 1) s1.heap.objs.size, ⟨⟨.none, he⟩, hit, Nat.succ_ne_self _⟩, fun b hb => ?_, q⟩
        have hle := fin b (by simpa using hb)
        exact I1.fpOk hle (I1.hok.fresh hle)
      · obtain ⟨its, rv, p', hz⟩ := I1.tuple hq
        have hta : s1.heap.IsTuple a its.toArray := p'
        refine mv_call_enumerate (begins_tuple a its.toArray) hta fun h' he hit hsz hk => wpAny_pyIter_enum he ?_
        have I2 : Inv X pins σ H1 { s1 with heap := h' } := I1.kept (t' := s1.toks) hk
        refine ⟨s1.heap.objs.size + 1, [s1.heap.objs.size + 1, s1.heap.objs.size], _, _, H1, rfl, I2, turn_enumT a (s1.heap.objs.size + 1) s1.heap.objs.size, ⟨⟨.none, he⟩, ⟨_, hit, rfl, rfl⟩, Nat.succ_ne_self _⟩, fun b hb => ?_, q⟩
        have hle := fin b (by simpa using hb)
        exact I1.fpOk hle (I1.hok.fresh hle)
  refine q.imp fun σ H R => ?_
  rintro ⟨φ, env, h, hr, er, o⟩
  refine tG_step hr er o fun φ1 H1 h1 xs us k1 hr1 er1 t1 o1 => ?_
  split at o1
  · rename_i xs
    obtain ⟨u, rfl, t⟩ := one_of t1
    cases t with
    | @tup p vs _ hq ts => exact ⟨p, rfl, .inr ⟨⟨vs, hq⟩, OkG.ok_here o1 hr1 (walksET hq ts)⟩⟩
  · rename_i n
    obtain ⟨u, rfl, t⟩ := one_of t1
    cases t with
    | @ref _ p ea =>
      split at o1
      · rename_i xs q
        obtain ⟨vs, hs, ts⟩ := items_list hr1 ea q
        exact ⟨p, rfl, .inl ⟨⟨vs, hs⟩, OkG.ok_here o1 hr1 (walksE ea)⟩⟩
      · exact o1.elim
  · exact o1.elim
theorem os_pow : OpF (kc X) (rI CPow fun i j => .int (i ^ j.toNat)) fPow := opF_I (fun i j => .int (i ^ j.toNat)) (fun _ _ _ _ => .int _) fun i j H Q c q => by
  have c := of_decide_eq_true c
  exact ⟨i, j, rfl, rfl, ⟨by omega, by omega, by omega⟩, q⟩

/-! ### more methods of lists -/
/-- the first place of d -/
def findAt (d : PyData) : Nat → List PyData → Option Nat
  | _, [] => none
  | i, z :: r => if PyData.eqv z d = true then some i else findAt d (i + 1) r
theorem findAt_spec {d : PyData} : ∀ (ds : List PyData) (i j : Nat), findAt d i ds = some j → i ≤ j ∧ (∃ z, ds[j - i]? = some z ∧ PyData.eqv z d = true) ∧ ∀ m z, m < j - i → ds[m]? = some z → PyData.eqv z d = false
  | [], i, j, e => by cases e
  | z :: r, i, j, e => by
    unfold findAt at e
    split at e
    · rename_i hz
      cases e
      refine ⟨Nat.le_refl _, ⟨z, by simp, hz⟩, fun m _ hm => ?_⟩
      omega
    · rename_i hz
      obtain ⟨h1, ⟨y, h2, h3⟩, h4⟩ := findAt_spec r (i + 1) j e
      refine ⟨by omega, ⟨y, ?_, h3⟩, fun m y' hm hy => ?_⟩
      · have : j - i = (j - (i + 1)) + 1 := by omega
        rw [this]; simpa using h2
      · cases m with
        | zero => simp at hy; subst hy; exact Bool.eq_false_iff.mpr hz
        | succ m => exact h4 m y' (by omega) (by simpa using hy)
def fIndex : MV → List MV → MH → R MV := fun x xs h => match xs with
  | [y] => match dataOf 12 h x, dataOf 12 h y with
    | some (.list ds), some d => match findAt d 0 ds with
      | some j => .ok (.int (j : Nat)) h
      | none => .bad
    | _, _ => .bad
  | _ => .bad
theorem ms_index : MethF (kc X) (rIndexD X.K) fIndex := by
  intro Z φ H h x xs u us Q hr t ts o
  unfold fIndex at o
  split at o
  · rename_i y
    obtain ⟨v, rfl, tv⟩ := one_of ts
    split at o
    · rename_i ds d q1 q2
      split at o
      · rename_i j q3
        obtain ⟨a1, a2, a3⟩ := data_ok hr 12 x u _ t q1
        obtain ⟨b1, b2, b3⟩ := data_ok hr 12 y v _ tv q2
        obtain ⟨h1, ⟨z, h2, h3⟩, h4⟩ := findAt_spec ds 0 j q3
        cases a1 with
        | @lst a vs _ hs ha =>
          exact ⟨a, v, d, ds, j, z, rfl, rfl, .lst hs ha, b1, shaped_ok a2 a3 (by decide), shaped_ok b2 b3 (by decide), by simpa using h2, h3, fun m z' hm hz => h4 m z' (by omega) hz, OkG.ok_here o hr (.int _)⟩
      · exact o.elim
    · exact o.elim
  · exact o.elim
theorem se_index {apos cpos : Pos} {k : Nat} (hu : Room k X.A) (ho : PE X a (tE (kc X) W ma)) (ha : PA X (b :: es) (tA (kc X) W mr))
    (hbase : attributeBase a "index" X.env (eval a X.env) = eval a X.env := by rfl)
    (hfew : ((backTo cpos (starEach (b :: es) X.env)).all (fun x => !x.1) && (backToKw cpos (keywordEach [] X.env)).all (fun x => x.1.isSome)
      && decide ((b :: es).length + ([] : List Keyword).length + (if ([] : List Keyword).isEmpty then 0 else 1) < 30)) = true := by rfl)
    (hline : (apos.endLine == cpos.line) = true := by rfl) (hs : starEach (b :: es) X.env = (false, eval b X.env) :: starEach es X.env := by rfl) (hplain : (backTo cpos (starEach es X.env)).any (·.1) = false := by rfl) :
    PE X (.Call (.Attribute a "index" apos) (b :: es) [] cpos) (tE (kc X) W (mLm fIndex ma mr)) :=
  (pe_bm PySem.F.plainAttrs_list PySem.F.slot_list_index PySem.F.type_list_index (mt_indexD (hu65 hu)) ho ha hbase hfew hline hs hplain).imp fun _ _ _ o => tLm_of ms_index o
end
end Mv

set_option maxHeartbeats 4000000
namespace Mv
open PySem PySem.Spec L2

/-! ### a spec by what its arguments encode -/
open Classical in
noncomputable def specOf {α : Type} (enc : α → List MV) (dom : α → Prop) (out : α → MH → R MV) : List MV → MH → R MV := fun xs h =>
  if q : ∃ a, enc a = xs ∧ dom a then out q.choose h else .bad
theorem specOf_eq {α : Type} {enc : α → List MV} {dom : α → Prop} {out : α → MH → R MV} (inj : ∀ a b, enc a = enc b → a = b) {a : α} (d : dom a) (h : MH) : specOf enc dom out (enc a) h = out a h := by
  unfold specOf
  have q : ∃ b, enc b = enc a ∧ dom b := ⟨a, rfl, d⟩
  rw [dif_pos q, inj _ _ q.choose_spec.1]
theorem specOf_sim {α : Type} {enc : α → List MV} {dom : α → Prop} {out : α → MH → R MV} {F : List MV → MH → R MV} (hs : ∀ a h, dom a → Sim h (F (enc a) h) (out a h)) (xs : List MV) (h : MH) : Sim h (F xs h) (specOf enc dom out xs h) := by
  unfold specOf
  split
  · rename_i q
    have := hs q.choose h q.choose_spec.2
    rw [q.choose_spec.1] at this
    exact this
  · exact Sim.bad

/-! ### loops by an invariant -/
theorem for_ind {it : MIt} {tg : MG} {body : MS} {xs : List MV} {P : S → Prop} (I : Nat → MEnv → MH → Prop)
    (hit : ∀ i env h, I i env h → it i h = nxOf xs[i]?) (stop : ∀ env h, I xs.length env h → P (.nx env h))
    (step : ∀ i x env h, xs[i]? = some x → I i env h → ∃ env', tg x env = some env' ∧ (match body env' h with
      | .nx e h' => I (i + 1) e h'
      | .ct e h' => I (i + 1) e h'
      | .bk e h' => P (.nx e h')
      | r => P r)) :
    ∀ (n i : Nat) (env : MEnv) (h : MH), I i env h → i ≤ xs.length → xs.length < n + i → P (forGo it tg body n i env h) := by
  intro n
  induction n with
  | zero => intro i env h hi hl hn; omega
  | succ n ih =>
    intro i env h hi hl hn
    unfold forGo
    rw [hit i env h hi]
    by_cases hlt : i < xs.length
    · rw [List.getElem?_eq_getElem hlt]
      obtain ⟨env', e1, s⟩ := step i xs[i] env h (List.getElem?_eq_getElem hlt) hi
      simp only [nxOf, e1]
      cases q : body env' h with
      | nx e h' => rw [q] at s; exact ih (i + 1) e h' s hlt (by omega)
      | ct e h' => rw [q] at s; exact ih (i + 1) e h' s hlt (by omega)
      | bk e h' => rw [q] at s; exact s
      | rt v h' => rw [q] at s; exact s
      | exc x e h' => rw [q] at s; exact s
      | bad => rw [q] at s; exact s
    · have : i = xs.length := by omega
      subst this
      rw [List.getElem?_eq_none (Nat.le_refl _)]
      exact stop env h hi
theorem while_ind {t : MT} {body : MS} {P : S → Prop} (I : MEnv → MH → Prop) (m : MEnv → MH → Nat)
    (step : ∀ env h, I env h → ∃ b h1, t env h = .ok b h1 ∧ (b = false → P (.nx env h1)) ∧ (b = true → match body env h1 with
      | .nx e h' => I e h' ∧ m e h' < m env h
      | .ct e h' => I e h' ∧ m e h' < m env h
      | .bk e h' => P (.nx e h')
      | r => P r)) :
    ∀ (n : Nat) (env : MEnv) (h : MH), I env h → m env h < n → P (whileGo t body n env h) := by
  intro n
  induction n with
  | zero => intro env h hi hn; omega
  | succ n ih =>
    intro env h hi hn
    unfold whileGo
    obtain ⟨b, h1, e, sf, st⟩ := step env h hi
    rw [e]
    simp only [R.andS_ok]
    cases b with
    | false => exact sf rfl
    | true =>
      have s := st rfl
      simp only [if_true]
      cases q : body env h1 with
      | nx e h' => rw [q] at s; exact ih e h' s.1 (by omega)
      | ct e h' => rw [q] at s; exact ih e h' s.1 (by omega)
      | bk e h' => rw [q] at s; exact s
      | rt v h' => rw [q] at s; exact s
      | exc x e h' => rw [q] at s; exact s
      | bad => rw [q] at s; exact s
/-- a comprehension over the items enc x, x in l, whose test and element leave the heap -/
theorem comp_pure {α : Type} {it : MIt} {tg : MG} {c : MT} {m : ME} {own : List Nat} {env : MEnv} {h : MH} (l : List α) (enc : α → MV) (cb : α → Bool) (f : α → MV) (hit : ∀ i, it i h = nxOf (l.map enc)[i]?) (hl : l.length ≤ cap)
    (step : ∀ x ∈ l, ∃ env', tg (enc x) (wipeM env own) = some env' ∧ c env' h = .ok (cb x) h ∧ (cb x = true → m env' h = .ok (f x) h)) :
    compGo it tg c m own fuel 0 env h [] = .ok (.ref h.length) (h ++ [.lst ((l.filter cb).map f)]) := by
  have key : ∀ (n i : Nat) (acc : List MV), i ≤ l.length → l.length < n + i → acc.length ≤ i → acc.reverse = ((l.take i).filter cb).map f → compGo it tg c m own n i env h acc = .ok (.ref h.length) (h ++ [.lst ((l.filter cb).map f)]) := by
    intro n
    induction n with
    | zero => intro i acc h1 h2; omega
    | succ n ih =>
      intro i acc hi hn ha he
      unfold compGo
      rw [hit i, List.getElem?_map]
      by_cases hlt : i < l.length
      · rw [List.getElem?_eq_getElem hlt]
        obtain ⟨env', e1, e2, e3⟩ := step l[i] (List.getElem_mem hlt)
        have tk : l.take (i + 1) = l.take i ++ [l[i]] := by simp
        simp only [Option.map_some, nxOf, e1, e2, R.noX_ok, R.bind_ok]
        cases q : cb l[i] with
        | false =>
          simp only [Bool.false_eq_true, if_false]
          refine ih (i + 1) acc hlt (by omega) (by omega) ?_
          rw [tk, List.filter_append, List.map_append, he]
          simp [q]
        | true =>
          simp only [if_true, e3 q, R.noX_ok, R.bind_ok]
          rw [if_pos (by omega)]
          refine ih (i + 1) _ hlt (by omega) (by simp; omega) ?_
          rw [tk, List.filter_append, List.map_append, List.reverse_cons, he]
          simp [q]
      · have : i = l.length := by omega
        subst this
        rw [List.getElem?_eq_none (Nat.le_refl _)]
        simp only [Option.map_none, nxOf]
        rw [he, List.take_length]
  exact key fuel 0 [] (Nat.zero_le _) (by have := fuel_ge; unfold cap at hl; omega) (Nat.le_refl _) (by simp)
/-- .. whose test and element lay things aside -/
theorem comp_more {α : Type} {it : MIt} {tg : MG} {c : MT} {m : ME} {own : List Nat} {env : MEnv} {h : MH} (l : List α) (enc : α → MV) (cb : α → Bool) (f : α → MV) (hit : ∀ i g, it i (h ++ g) = nxOf (l.map enc)[i]?) (hl : l.length ≤ cap)
    (step : ∀ x ∈ l, ∀ g, ∃ env', tg (enc x) (wipeM env own) = some env' ∧ ∃ g2, c env' (h ++ g) = .ok (cb x) (h ++ g2) ∧ (cb x = true → ∃ g3, m env' (h ++ g2) = .ok (f x) (h ++ g3))) :
    ∃ g, compGo it tg c m own fuel 0 env h [] = .ok (.ref (h ++ g).length) (h ++ g ++ [.lst ((l.filter cb).map f)]) := by
  have key : ∀ (n i : Nat) (acc : List MV) (g : MH), i ≤ l.length → l.length < n + i → acc.length ≤ i → acc.reverse = ((l.take i).filter cb).map f → ∃ g', compGo it tg c m own n i env (h ++ g) acc = .ok (.ref (h ++ g').length) (h ++ g' ++ [.lst ((l.filter cb).map f)]) := by
    intro n
    induction n with
    | zero => intro i acc g h1 h2; omega
    | succ n ih =>
      intro i acc g hi hn ha he
      unfold compGo
      rw [hit i g, List.getElem?_map]
      by_cases hlt : i < l.length
      · rw [List.getElem?_eq_getElem hlt]
        obtain ⟨env', e1, g2, e2, e3⟩ := step l[i] (List.getElem_mem hlt) g
        have tk : l.take (i + 1) = l.take i ++ [l[i]] := by simp
        simp only [Option.map_some, nxOf, e1, e2, R.noX_ok, R.bind_ok]
        cases q : cb l[i] with
        | false =>
          simp only [Bool.false_eq_true, if_false]
          refine ih (i + 1) acc g2 hlt (by omega) (by omega) ?_
          rw [tk, List.filter_append, List.map_append, he]
          simp [q]
        | true =>
          obtain ⟨g3, e4⟩ := e3 q
          simp only [if_true, e4, R.noX_ok, R.bind_ok]
          rw [if_pos (by omega)]
          refine ih (i + 1) _ g3 hlt (by omega) (by simp; omega) ?_
          rw [tk, List.filter_append, List.map_append, List.reverse_cons, he]
          simp [q]
      · have : i = l.length := by omega
        subst this
        rw [List.getElem?_eq_none (Nat.le_refl _)]
        simp only [Option.map_none, nxOf]
        rw [he, List.take_length]
        exact ⟨g, rfl⟩
  have := key fuel 0 [] [] (Nat.zero_le _) (by have := fuel_ge; unfold cap at hl; omega) (Nat.le_refl _) (by simp)
  simpa using this

/-! ### iterators as lists -/
def ivs (ns : List Int) : List MV := ns.map MV.int
/-- lo, lo + c, .. (n of them) -/
def prog (lo c : Int) (n : Nat) : List Int := (List.range n).map fun (i : Nat) => lo + (i : Int) * c
theorem itR_nx (lo c : Int) (n : Nat) (i : Nat) (h : MH) : itR lo c n i h = nxOf (ivs (prog lo c n))[i]? := by
  unfold itR ivs prog
  by_cases hi : i < n
  · simp [hi, nxOf]
  · simp [hi, nxOf]
theorem itT_nx (xs : List MV) (i : Nat) (h : MH) : itT xs i h = nxOf xs[i]? := rfl
theorem itL_nx {n : Nat} {h : MH} {xs : List MV} (e : h[n]? = some (.lst xs)) (i : Nat) : itL n i h = nxOf xs[i]? := by
  unfold itL itemsOf
  simp [e]
theorem itLf_nx {n : Nat} {h : MH} {xs : List MV} (e : h[n]? = some (.frz xs)) (i : Nat) : itL n i h = nxOf xs[i]? := by
  unfold itL itemsOf
  simp [e]
def enumL (xs : List MV) : List MV := xs.zipIdx.map fun p => .tup [.int (p.2 : Nat), p.1]
theorem itE_nx {it : MIt} {h : MH} {xs : List MV} (e : ∀ i, it i h = nxOf xs[i]?) (i : Nat) : itE it i h = nxOf (enumL xs)[i]? := by
  unfold itE enumL
  rw [e i]
  by_cases hi : i < xs.length
  · simp [hi, nxOf]
  · simp [hi, nxOf]
theorem zip_nx : ∀ (xs ys : List MV) (i : Nat), (xs.zip ys)[i]? = (match xs[i]?, ys[i]? with | some a, some b => some (a, b) | _, _ => none)
  | [], ys, i => by simp
  | x :: xs, [], i => by
    simp only [List.zip_nil_right, List.getElem?_nil]
    cases (x :: xs)[i]? <;> rfl
  | x :: xs, y :: ys, 0 => rfl
  | x :: xs, y :: ys, i + 1 => by simpa using zip_nx xs ys i
theorem itZ_nx {it jt : MIt} {h : MH} {xs ys : List MV} (e : ∀ i, it i h = nxOf xs[i]?) (e' : ∀ i, jt i h = nxOf ys[i]?) (i : Nat) : itZ it jt i h = nxOf ((xs.zip ys).map fun p => MV.tup [p.1, p.2])[i]? := by
  unfold itZ
  rw [e i, e' i, List.getElem?_map, zip_nx]
  cases xs[i]? <;> cases ys[i]? <;> rfl
@[simp] theorem prog_length (lo c : Int) (n : Nat) : (prog lo c n).length = n := by simp [prog]
@[simp] theorem ints_length (ns : List Int) : (ivs ns).length = ns.length := by simp [ivs]
theorem mem_prog {lo c : Int} {n : Nat} {x : Int} : x ∈ prog lo c n ↔ ∃ i : Nat, i < n ∧ x = lo + (i : Int) * c := by
  unfold prog
  simp only [List.mem_map, List.mem_range]
  constructor
  · rintro ⟨i, h, rfl⟩; exact ⟨i, h, rfl⟩
  · rintro ⟨i, h, rfl⟩; exact ⟨i, h, rfl⟩
@[simp] theorem mem_ints {ns : List Int} {x : MV} : x ∈ ivs ns ↔ ∃ i ∈ ns, x = .int i := by
  unfold ivs
  simp only [List.mem_map]
  constructor
  · rintro ⟨i, h, rfl⟩; exact ⟨i, h, rfl⟩
  · rintro ⟨i, h, rfl⟩; exact ⟨i, h, rfl⟩
theorem filter_ints (ns : List Int) (p : MV → Bool) (f : MV → MV) (q : Int → Bool) (g : Int → MV) (hp : ∀ i, p (.int i) = q i) (hf : ∀ i, f (.int i) = g i) : ((ivs ns).filter p).map f = (ns.filter q).map g := by
  unfold ivs
  rw [List.filter_map, List.map_map]
  have e1 : p ∘ MV.int = q := funext hp
  have e2 : f ∘ MV.int = g := funext hf
  rw [e1, e2]
theorem unds_ints {n : Nat} (ns : List Int) : MV.unds n (ivs ns) := unds_of fun x hx => by
  obtain ⟨i, _, rfl⟩ := mem_ints.mp hx
  simp
/-! ### data of whole numbers -/
theorem data_int (n : Nat) (h : MH) (i : Int) : dataOf (n + 1) h (.int i) = some (.int i) := rfl
theorem allSome_map {α β : Type} {f : α → Option β} {g : α → β} : ∀ {l : List α}, (∀ x ∈ l, f x = some (g x)) → allSome (l.map f) = some (l.map g)
  | [], _ => rfl
  | x :: r, e => by
    simp only [List.map_cons, e x (List.mem_cons_self ..), allSome, allSome_map (l := r) fun y hy => e y (List.mem_cons_of_mem _ hy)]
theorem data_ints (n : Nat) (h : MH) (ns : List Int) : dataOf (n + 2) h (.tup (ivs ns)) = some (.tuple (ns.map PyData.int)) := by
  have e : allSome ((ivs ns).map (dataOf (n + 1) h)) = some (ns.map PyData.int) := by
    unfold ivs
    rw [List.map_map]
    exact allSome_map (fun i _ => rfl)
  show (allSome ((ivs ns).map (dataOf (n + 1) h))).map PyData.tuple = _
  rw [e]
  rfl
theorem eqvAll_ints : ∀ (a b : List Int), PyData.eqvAll (a.map PyData.int) (b.map PyData.int) = decide (a = b)
  | [], [] => by simp [PyData.eqvAll]
  | [], _ :: _ => by simp [PyData.eqvAll]
  | _ :: _, [] => by simp [PyData.eqvAll]
  | x :: a, y :: b => by
    simp only [List.map_cons, PyData.eqvAll, eqvAll_ints a b, PyData.eqv]
    by_cases h : x = y
    · subst h; simp
    · simp [h]
theorem eqv_tints (a b : List Int) : PyData.eqv (.tuple (a.map PyData.int)) (.tuple (b.map PyData.int)) = decide (a = b) := by
  simp only [PyData.eqv, eqvAll_ints]
theorem eqvAll_by {α : Type} {f : α → PyData} (hf : ∀ a b, PyData.eqv (f a) (f b) = true ↔ a = b) : ∀ (x y : List α), PyData.eqvAll (x.map f) (y.map f) = true ↔ x = y
  | [], [] => by simp [PyData.eqvAll]
  | [], _ :: _ => by simp [PyData.eqvAll]
  | _ :: _, [] => by simp [PyData.eqvAll]
  | a :: x, b :: y => by
    simp only [List.map_cons, PyData.eqvAll, Bool.and_eq_true, hf, eqvAll_by hf x y, List.cons.injEq]

theorem filter_yes {α : Type} (l : List α) : l.filter (fun _ => true) = l := by simp
/-! ### values by simp -/
theorem R.bind_def {α β : Type} (a : α) (h : MH) (f : α → MH → R β) : (R.ok a h).bind f = f a h := rfl
theorem items_tup (h : MH) (xs : List MV) : itemsOf h (.tup xs) = some xs := rfl
theorem items_new (h : MH) (xs : List MV) : itemsOf (h ++ [.lst xs]) (.ref h.length) = some xs := by
  unfold itemsOf
  simp
theorem list_new (h : MH) (xs : List MV) : listOf (h ++ [.lst xs]) (.ref h.length) = some xs := items_new h xs
theorem list_tup (h : MH) (xs : List MV) : listOf h (.tup xs) = none := rfl
theorem list_ref (h : MH) (n : Nat) : listOf h (.ref n) = itemsOf h (.ref n) := rfl
theorem lstOf_new (h : MH) (xs : List MV) : lstOf (h ++ [.lst xs]) h.length = some xs := by
  unfold lstOf
  simp
theorem items_at {h : MH} {n : Nat} {xs : List MV} (e : h[n]? = some (.lst xs)) : itemsOf h (.ref n) = some xs := by
  unfold itemsOf
  simp only [e]
theorem items_atf {h : MH} {n : Nat} {xs : List MV} (e : h[n]? = some (.frz xs)) : itemsOf h (.ref n) = some xs := by
  unfold itemsOf
  simp only [e]
theorem lstOf_at {h : MH} {n : Nat} {xs : List MV} (e : h[n]? = some (.lst xs)) : lstOf h n = some xs := by
  unfold lstOf
  simp only [e]
theorem beq_dec (i j : Int) : (i == j) = decide (i = j) := by
  by_cases e : i = j <;> simp [e]
theorem fEq_int (i j : Int) (h : MH) : fEq (.int i) (.int j) h = .ok (.bl (decide (i = j))) h := by
  show R.ok (MV.bl (i == j)) h = _
  rw [beq_dec]
theorem fNe_int (i j : Int) (h : MH) : fNe (.int i) (.int j) h = .ok (.bl (!decide (i = j))) h := by
  show R.ok (MV.bl (!(i == j))) h = _
  rw [beq_dec]
theorem fLen_tup (xs : List MV) (h : MH) : fLen [.tup xs] h = .ok (.int xs.length) h := rfl
theorem fLen_items {x : MV} {xs : List MV} {h : MH} (e : itemsOf h x = some xs) : fLen [x] h = .ok (.int xs.length) h := by
  unfold fLen
  cases x with
  | str z => cases e
  | _ => simp only [e]
/-- bools and their operators as values -/
theorem andV_ok (p q : Bool) (h : MH) : (match (MV.bl p) with | .bl true => (R.ok (.bl q) h : R MV) | .bl false => .ok (.bl false) h | _ => .bad) = .ok (.bl (p && q)) h := by cases p <;> rfl
theorem any_map {α : Type} (l : List α) (f : α → Bool) : asBools (l.map fun x => MV.bl (f x)) = some (l.map f) := by
  have : (l.map fun x => MV.bl (f x)) = (l.map f).map MV.bl := by simp
  rw [this, asBools_map]
theorem ints_map {α : Type} (l : List α) (f : α → Int) : asInts (l.map fun x => MV.int (f x)) = some (l.map f) := by
  have : (l.map fun x => MV.int (f x)) = (l.map f).map MV.int := by simp
  rw [this, asInts_map]
theorem fAny_at {h : MH} {n : Nat} {xs : List MV} {bs : List Bool} (e : itemsOf h (.ref n) = some xs) (e2 : asBools xs = some bs) : fAny [.ref n] h = .ok (.bl (bs.any id)) h := by
  unfold fAny listOf
  simp only [e, Option.bind_some, e2]
theorem fAll_at {h : MH} {n : Nat} {xs : List MV} {bs : List Bool} (e : itemsOf h (.ref n) = some xs) (e2 : asBools xs = some bs) : fAll [.ref n] h = .ok (.bl (bs.all id)) h := by
  unfold fAll listOf
  simp only [e, Option.bind_some, e2]
theorem fMax_at {h : MH} {n : Nat} {xs : List MV} {m : Int} {r : List Int} (e : itemsOf h (.ref n) = some xs) (e2 : asInts xs = some (m :: r)) : fMax [.ref n] h = .ok (.int (maxL m r)) h := by
  unfold fMax listOf
  simp only [e, Option.bind_some, e2]
theorem fTuple_at {h : MH} {n : Nat} {xs : List MV} (e : itemsOf h (.ref n) = some xs) : fTuple [.ref n] h = .ok (.tup xs) h := by
  unfold fTuple listOf
  simp only [e]
theorem fMax2 (i j : Int) (h : MH) : fMax [.int i, .int j] h = .ok (.int (if j > i then j else i)) h := rfl
theorem fMin2 (i j : Int) (h : MH) : fMin [.int i, .int j] h = .ok (.int (if j < i then j else i)) h := rfl
def maxOf : List Int → Int
  | [] => 0
  | m :: r => maxL m r
theorem maxOf_spec {l : List Int} (h : l ≠ []) : maxOf l ∈ l ∧ ∀ y ∈ l, y ≤ maxOf l := by
  cases l with
  | nil => exact absurd rfl h
  | cons m r =>
    obtain ⟨h1, h2, h3⟩ := maxL_spec r m
    refine ⟨?_, fun y hy => ?_⟩
    · rcases h1 with e | e
      · show maxL m r ∈ m :: r
        rw [e]; exact List.mem_cons_self ..
      · exact List.mem_cons_of_mem _ e
    · rcases List.mem_cons.mp hy with e | e
      · rw [e]; exact h2
      · exact h3 y e
theorem maxOf_eq {l : List Int} {m : Int} (h1 : m ∈ l) (h2 : ∀ y ∈ l, y ≤ m) : maxOf l = m := by
  have hne : l ≠ [] := fun e => by rw [e] at h1; cases h1
  obtain ⟨a, b⟩ := maxOf_spec hne
  exact Int.le_antisymm (h2 _ a) (b _ h1)
theorem fMax_ns {h : MH} {n : Nat} {xs : List MV} {ns : List Int} (e : itemsOf h (.ref n) = some xs) (e2 : asInts xs = some ns) (e3 : ns ≠ []) : fMax [.ref n] h = .ok (.int (maxOf ns)) h := by
  cases ns with
  | nil => exact absurd rfl e3
  | cons m r => exact fMax_at e e2
theorem fLen_new (h : MH) (xs : List MV) : fLen [.ref h.length] (h ++ [.lst xs]) = .ok (.int xs.length) (h ++ [.lst xs]) := fLen_items (items_new h xs)
theorem look_app {h g : MH} {n : Nat} {o : MO} (e : h[n]? = some o) : (h ++ g)[n]? = some o := by
  rw [List.getElem?_append_left (List.getElem?_eq_some_iff.mp e).1]
  exact e
theorem look_new (h : MH) (o : MO) : (h ++ [o])[h.length]? = some o := by simp
theorem fSl_drop {h : MH} {n k : Nat} {xs : List MV} (e : itemsOf h (.ref n) = some xs) (hk : k ≤ xs.length) (hl : xs.length ≤ cap) : fSl (.ref n) (some (k : Int)) none h = .ok (.ref h.length) (h ++ [.lst (xs.drop k)]) := by
  unfold fSl
  simp only [e]
  rw [if_pos hl]
  unfold cutM
  rw [HT.sIx_nat, HT.sIx_none, Nat.min_eq_left hk, ← List.length_drop, List.take_length]
theorem fSl_take {h : MH} {n k : Nat} {xs : List MV} (e : itemsOf h (.ref n) = some xs) (hk : k ≤ xs.length) (hl : xs.length ≤ cap) : fSl (.ref n) none (some (k : Int)) h = .ok (.ref h.length) (h ++ [.lst (xs.take k)]) := by
  unfold fSl
  simp only [e]
  rw [if_pos hl]
  unfold cutM
  rw [HT.sIx_nat, HT.sIx_none, Nat.min_eq_left hk, List.drop_zero, Nat.sub_zero]
theorem fAdd_refs {h : MH} {n m : Nat} {xs ys : List MV} (e : h[n]? = some (.lst xs)) (e' : h[m]? = some (.lst ys)) (hl : xs.length + ys.length ≤ cap) : fAdd (.ref n) (.ref m) h = .ok (.ref h.length) (h ++ [.lst (xs ++ ys)]) := by
  unfold fAdd
  simp only [lstOf_at e, lstOf_at e']
  rw [if_pos hl]
end Mv

set_option maxHeartbeats 4000000
/-! Mv10: instances: fields, methods, properties, made, isinstance, their own ==. -/
namespace Mv
open PySem PySem.Spec L2
open PyProof.Rows hiding St

theorem lookup_at {α : Type} {f : Str} {v : α} : ∀ {gs : List (Str × α)} {i : Nat}, (gs.map (·.1)).Nodup → gs[i]? = some (f, v) → gs.lookup f = some v
  | [], i, _, e => by simp at e
  | (g, x) :: r, 0, _, e => by
    simp only [List.getElem?_cons_zero, Option.some.injEq, Prod.mk.injEq] at e
    obtain ⟨rfl, rfl⟩ := e
    simp [List.lookup_cons]
  | (g, x) :: r, i + 1, n, e => by
    simp only [List.map_cons, List.nodup_cons] at n
    have e' : r[i]? = some (f, v) := by simpa using e
    have ne : ¬ f = g := fun z => n.1 (z ▸ List.mem_map.mpr ⟨_, List.mem_of_getElem? e', rfl⟩)
    rw [List.lookup_cons]
    have : (f == g) = false := by simpa using ne
    rw [this]
    exact lookup_at n.2 e'
theorem lookup_no {α : Type} {f : Str} : ∀ {gs : List (Str × α)}, f ∉ gs.map (·.1) → gs.lookup f = none
  | [], _ => rfl
  | (g, x) :: r, n => by
    simp only [List.map_cons, List.mem_cons, not_or] at n
    rw [List.lookup_cons]
    have : (f == g) = false := by simpa using n.1
    rw [this]
    exact lookup_no n.2
theorem putF_at {f : Str} {y : V} : ∀ {gs : List (Str × V)} {i : Nat}, (gs.map (·.1)).Nodup → (gs.map (·.1))[i]? = some f → putF f y gs = gs.set i (f, y)
  | [], i, _, e => by simp at e
  | (g, x) :: r, 0, _, e => by
    simp at e
    subst e
    simp [putF]
  | (g, x) :: r, i + 1, n, e => by
    simp only [List.map_cons, List.nodup_cons] at n
    have e' : (r.map (·.1))[i]? = some f := by simpa using e
    have ne : ¬ g = f := fun z => n.1 (z ▸ List.mem_of_getElem? e')
    simp only [putF, if_neg ne, List.set_cons_succ, putF_at n.2 e']
theorem putF_new {f : Str} {y : V} : ∀ {gs : List (Str × V)}, f ∉ gs.map (·.1) → putF f y gs = gs ++ [(f, y)]
  | [], _ => rfl
  | (g, x) :: r, n => by
    simp only [List.map_cons, List.mem_cons, not_or] at n
    have ne : ¬ g = f := fun z => n.1 z.symm
    simp only [putF, if_neg ne, putF_new n.2, List.cons_append]

/-- the classes cs have a field f at these places, and no attribute of the class is named so -/
def FldF (K : KC) (f : Str) (cs : List (Nat × Nat)) : Prop := ∀ p ∈ cs, ∃ nm fl, tab[p.1]? = some (nm, fl) ∧ fl[p.2]? = some f ∧ fl.Nodup ∧ fl.length < 1000 ∧ ∀ C, K.mg nm = some (.ref C) → NoAttr K.K C f
def insOf (h : MH) : MV → Option (Nat × List MV)
  | .ref n => match h[n]? with
    | some (.ins c vs) => some (c, vs)
    | _ => none
  | _ => none
theorem ins_of {K : KC} {φ : List Addr} {H : Hp} {h : MH} {x : MV} {u : V} {c : Nat} {vs : List MV} (hr : HR K φ H h) (t : IsV K φ H x u) (e : insOf h x = some (c, vs)) :
    ∃ n a gs, x = .ref n ∧ u = .ref a ∧ φ[n]? = some a ∧ h[n]? = some (.ins c vs) ∧ InsR K H a c vs.length gs ∧ IsVs K φ H vs (gs.map (·.2)) := by
  cases t with
  | @ref n a ea =>
    unfold insOf at e
    cases q : h[n]? with
    | none => simp only [q] at e; cases e
    | some ob =>
      have w := hr.at_ n a ob ea q
      cases ob with
      | ins c' vs' =>
        simp only [q, Option.some.injEq, Prod.mk.injEq] at e
        obtain ⟨rfl, rfl⟩ := e
        obtain ⟨gs, w1, w2⟩ := w
        exact ⟨n, a, gs, rfl, rfl, ea, q, w1, w2⟩
      | _ => simp only [q] at e; cases e
  | _ => cases e
def mFld (cs : List (Nat × Nat)) (m : ME) : ME := fun env h => (m env h).bind fun x h1 => match insOf h1 x with
  | some (c, vs) => (match cs.lookup c with
    | some i => (match vs[i]? with
      | some v => .ok v h1
      | none => .bad)
    | none => .bad)
  | none => .bad
theorem look_mem {α : Type} {c : Nat} {i : α} : ∀ {cs : List (Nat × α)}, cs.lookup c = some i → (c, i) ∈ cs
  | [], e => by cases e
  | (d, j) :: r, e => by
    rw [List.lookup_cons] at e
    by_cases q : c = d
    · subst q
      simp at e
      subst e
      exact List.mem_cons_self ..
    · have : (c == d) = false := by simpa using q
      rw [this] at e
      exact List.mem_cons_of_mem _ (look_mem e)
theorem fld_ok {K : KC} {H : Hp} {a : Addr} {c i n : Nat} {gs : List (Str × V)} {f : Str} {cs : List (Nat × Nat)} (ff : FldF K f cs) (r : InsR K H a c n gs) (hm : (c, i) ∈ cs) {v : V} (hv : (gs.map (·.2))[i]? = some v) :
    ∃ C dx, H a = some (.ins C dx gs) ∧ Cls K.K C ∧ NoAttr K.K C f ∧ gs.lookup f = some v := by
  obtain ⟨C, dx, nm, fl, q1, q2, q3, q, q4, q5⟩ := r
  obtain ⟨nm', fl', p1, p2, p3, _, p4⟩ := ff _ hm
  rw [q1] at p1
  cases p1
  refine ⟨C, dx, q, q3, p4 C q2, ?_⟩
  have hn : (gs.map (·.1)).Nodup := by rw [q4]; exact p3.sublist (List.take_sublist _ _)
  rw [List.getElem?_map] at hv
  cases e : gs[i]? with
  | none => rw [e] at hv; cases hv
  | some g =>
    rw [e] at hv
    cases hv
    obtain ⟨g1, g2⟩ := g
    have hi : i < gs.length := (List.getElem?_eq_some_iff.mp e).1
    have e1 : (gs.map (·.1))[i]? = some g1 := by rw [List.getElem?_map, e]; rfl
    have hl : gs.length = (fl.take n).length := by rw [← q4, List.length_map]
    rw [q4, List.getElem?_take_of_lt (by rw [hl, List.length_take] at hi; omega)] at e1
    have e2 := e1.symm.trans p2
    cases e2
    exact lookup_at hn e
section
variable {X : Cx} {W : WT} {pos : Pos} {a b c : Expr} {ma mb mc : ME} {es : List Expr} {mr : MA}
theorem se_fld {f : Str} {cs : List (Nat × Nat)} (ff : FldF (kc X) f cs) (ha : PE X a (tE (kc X) W ma)) (hb : attributeBase a f X.env (eval a X.env) = eval a X.env := by rfl) : PE X (.Attribute a f pos) (tE (kc X) W (mFld cs ma)) := (pe_fld ha hb).imp fun σ H Q => by
  rintro ⟨φ, env, h, hr, er, o⟩
  refine tG_step hr er o fun φ1 H1 h1 x u k1 hr1 er1 t1 o1 => ?_
  cases e1 : insOf h1 x with
  | none => simp only [e1] at o1; exact o1.elim
  | some p =>
    obtain ⟨c, vs⟩ := p
    simp only [e1] at o1
    cases e2 : cs.lookup c with
    | none => simp only [e2] at o1; exact o1.elim
    | some i =>
      simp only [e2] at o1
      cases e3 : vs[i]? with
      | none => simp only [e3] at o1; exact o1.elim
      | some v =>
        simp only [e3] at o1
        obtain ⟨n, p, gs, rfl, rfl, ea, _, ir, ts⟩ := ins_of hr1 t1 e1
        obtain ⟨w, hw, tw⟩ := ts.get e3
        obtain ⟨C, dx, q1, q2, q3, q4⟩ := fld_ok ff ir (look_mem e2) hw
        exact ⟨p, C, dx, gs, w, rfl, q1, q2, q3, q4, OkG.ok_here o1 hr1 tw⟩
/-- o.f = e -/
def mStF (cs : List (Nat × Nat)) (mo mv : ME) : MS := fun env h => (mv env h).andS env fun y h1 => (mo env h1).andS env fun x h2 => match insOf h2 x, x with
  | some (c, vs), .ref n => (match cs.lookup c with
    | some i => if i < vs.length then .nx env (h2.set n (.ins c (vs.set i y))) else if i = vs.length then .nx env (h2.set n (.ins c (vs ++ [y]))) else .bad
    | none => .bad)
  | _, _ => .bad
theorem ss_fld {f : Str} {pos' : Pos} {cs : List (Nat × Nat)} (ff : FldF (kc X) f cs) (ha : PE X a (tE (kc X) W ma)) (hv : PE X b (tE (kc X) W mb)) (hs : swapsWith b (some (.Attribute a f pos')) pos.line X.env = pure false := by rfl) :
    PS X (.Assign [.Attribute a f pos'] b pos) (tS (kc X) W (mStF cs ma mb)) := (ps_fld ha hv hs).imp fun D σ H => by
  rintro ⟨φ, env, h, hr, er, o⟩
  refine tS_step hr er o fun φ1 H1 h1 y v k1 hr1 er1 t1 o1 => ?_
  refine tS_step hr1 er1 o1 fun φ2 H2 h2 x u k2 hr2 er2 t2 o2 => ?_
  cases e1 : insOf h2 x with
  | none => simp only [e1] at o2; exact o2.elim
  | some p =>
    obtain ⟨c, vs⟩ := p
    obtain ⟨n, p, gs, rfl, rfl, ea, eh, ir, ts⟩ := ins_of hr2 t2 e1
    simp only [e1] at o2
    cases e2 : cs.lookup c with
    | none => simp only [e2] at o2; exact o2.elim
    | some i =>
      simp only [e2] at o2
      have t1' := t1.keep k2
      obtain ⟨C, dx, nm, fl, q1, q2, q3, q, q4, q5⟩ := ir
      obtain ⟨nm', fl', p1, p2, p3, p5, p4⟩ := ff _ (look_mem e2)
      rw [q1] at p1
      cases p1
      have hnd : (gs.map (·.1)).Nodup := by rw [q4]; exact p3.sublist (List.take_sublist _ _)
      have hl : gs.length = vs.length := by
        have := congrArg List.length q4
        simp only [List.length_map, List.length_take] at this
        omega
      have kp : ∀ w, Keep φ2 H2 φ2 (upd H2 p (.ins C dx w)) := fun w => Keep.putO (List.mem_of_getElem? ea) q (fun _ z => by cases z) (fun _ _ z => by cases z)
      refine ⟨p, C, dx, gs, rfl, q, q3, p4 C q2, by omega, ?_⟩
      split at o2
      · rename_i hi
        have g1 : (gs.map (·.1))[i]? = some f := by
          rw [q4, List.getElem?_take_of_lt hi]; exact p2
        rw [putF_at hnd g1]
        refine OkS.nx_here (OkS.mono o2 (kp _)) (hr2.putO ea eh (kp _) ?_) (er2.keep (kp _))
        refine ⟨gs.set i (f, v), ⟨C, dx, nm, fl, q1, q2, q3, upd_same, ?_, by simpa using q5⟩, ?_⟩
        · rw [List.map_set, List.length_set, ← q4]
          apply List.ext_getElem?
          intro j
          by_cases hj : i = j
          · subst hj
            rw [List.getElem?_set_self (by simpa [hl] using hi), g1]
          · rw [List.getElem?_set_ne hj]
        · rw [List.map_set]
          exact (IsVs.set t1' i ts).keep (kp _)
      · split at o2
        · rename_i hi hi2
          have hlt : vs.length < fl.length := by
            have := (List.getElem?_eq_some_iff.mp p2).1
            omega
          have g1 : f ∉ gs.map (·.1) := fun z => by
            rw [q4] at z
            obtain ⟨j, hj⟩ := List.mem_iff_getElem?.mp z
            have hj2 : j < vs.length := by
              have := (List.getElem?_eq_some_iff.mp hj).1
              simp at this; omega
            rw [List.getElem?_take_of_lt hj2] at hj
            obtain ⟨a1, a2⟩ := List.getElem?_eq_some_iff.mp hj
            obtain ⟨b1, b2⟩ := List.getElem?_eq_some_iff.mp p2
            have := (List.getElem_inj p3).mp (a2.trans b2.symm)
            omega
          rw [putF_new g1]
          refine OkS.nx_here (OkS.mono o2 (kp _)) (hr2.putO ea eh (kp _) ?_) (er2.keep (kp _))
          refine ⟨gs ++ [(f, v)], ⟨C, dx, nm, fl, q1, q2, q3, upd_same, ?_, by simp; omega⟩, ?_⟩
          · rw [List.map_append, q4, List.length_append]
            simp only [List.map_cons, List.map_nil, List.length_cons, List.length_nil, Nat.zero_add]
            rw [List.take_succ, ← hi2, p2]
            rfl
          · rw [List.map_append]
            exact (IsVs.append ts (.cons t1' .nil)).keep (kp _)
        · exact o2.elim
end

/-! ### methods, properties, new instances -/
/-- the class number c has a method m that computes G -/
structure MDef (P : Program) (w : World) (K : PySem.W.Frag) (mg : Str → Option Value) (base : Heap) (k : Nat) (c : Nat) (m : Str) (np : Nat) (G : List MV → MH → R MV) : Prop where
  ex : ∃ nm fl C f fd ps, tab[c]? = some (nm, fl) ∧ mg nm = some (.ref C) ∧ Cls K C ∧ Meth K C m f ∧ FnOk P w K mg base CX0 k f fd ps (spM ⟨K, mg⟩ np G) ∧ Binds K fd ps [] ∧ m ∉ fl
theorem MDef.as {P : Program} {w : World} {K : PySem.W.Frag} {mg : Str → Option Value} {base : Heap} {k c np : Nat} {m : Str} {F G : List MV → MH → R MV} (d : MDef P w K mg base k c m np F) (hs : ∀ xs h, xs.length = np → Sim h (F xs h) (G xs h)) : MDef P w K mg base k c m np G := by
  obtain ⟨nm, fl, C, f, fd, ps, h1, h2, h3, h4, h5, h6, h7⟩ := d.ex
  exact ⟨nm, fl, C, f, fd, ps, h1, h2, h3, h4, def_as h5 hs, h6, h7⟩
/-- .. a property -/
structure PDef (P : Program) (w : World) (K : PySem.W.Frag) (mg : Str → Option Value) (base : Heap) (k : Nat) (c : Nat) (m : Str) (G : List MV → MH → R MV) : Prop where
  ex : ∃ nm fl C p f fd ps, tab[c]? = some (nm, fl) ∧ mg nm = some (.ref C) ∧ Cls K C ∧ PropOf K C m p f ∧ FnOk P w K mg base CX0 k f fd ps (spM ⟨K, mg⟩ 1 G) ∧ Binds K fd ps []
theorem PDef.as {P : Program} {w : World} {K : PySem.W.Frag} {mg : Str → Option Value} {base : Heap} {k c : Nat} {m : Str} {F G : List MV → MH → R MV} (d : PDef P w K mg base k c m F) (hs : ∀ xs h, xs.length = 1 → Sim h (F xs h) (G xs h)) : PDef P w K mg base k c m G := by
  obtain ⟨nm, fl, C, p, f, fd, ps, h1, h2, h3, h4, h5, h6⟩ := d.ex
  exact ⟨nm, fl, C, p, f, fd, ps, h1, h2, h3, h4, def_as h5 hs, h6⟩
/-- .. is made by G (of self and np - 1 arguments; the last nk of them by keywords ks) -/
structure KDef (P : Program) (w : World) (K : PySem.W.Frag) (mg : Str → Option Value) (base : Heap) (k : Nat) (c : Nat) (np : Nat) (ks : List Str) (G : List MV → MH → R MV) : Prop where
  ex : ∃ nm fl C f fd ps, tab[c]? = some (nm, fl) ∧ mg nm = some (.ref C) ∧ Cls K C ∧ Mk K C f ∧ FnOk P w K mg base CX0 k f fd ps (spM ⟨K, mg⟩ (np + ks.length) G) ∧ (ks = [] → Binds K fd ps []) ∧ KBn K fd ps np ks (fun us ws => us ++ ws) (fun us ws => us ++ ws)
theorem KDef.as {P : Program} {w : World} {K : PySem.W.Frag} {mg : Str → Option Value} {base : Heap} {k c np : Nat} {ks : List Str} {F G : List MV → MH → R MV} (d : KDef P w K mg base k c np ks F) (hs : ∀ xs h, xs.length = np + ks.length → Sim h (F xs h) (G xs h)) : KDef P w K mg base k c np ks G := by
  obtain ⟨nm, fl, C, f, fd, ps, h1, h2, h3, h4, h5, h6, h7⟩ := d.ex
  exact ⟨nm, fl, C, f, fd, ps, h1, h2, h3, h4, def_as h5 hs, h6, h7⟩
/-- an instance's class has no alternative: c's name leads to C alone -/
theorem InsR.cls {K : KC} {H : Hp} {a C : Addr} {c n : Nat} {gs : List (Str × V)} {nm : Str} {fl : List Str} (r : InsR K H a c n gs) (e : tab[c]? = some (nm, fl)) (m : K.mg nm = some (.ref C)) : ∃ dx, H a = some (.ins C dx gs) ∧ gs.map (·.1) = fl.take n := by
  obtain ⟨C', dx, nm', fl', q1, q2, q3, q, q4, q5⟩ := r
  rw [e] at q1
  cases q1
  rw [m] at q2
  cases q2
  exact ⟨dx, q, q4⟩
section
variable {X : Cx} {W : WT} {pos : Pos} {a b c : Expr} {ma mb mc : ME} {es : List Expr} {mr : MA}
def mMeth (ms : List (Nat × (List MV → MH → R MV))) (np : Nat) (mo : ME) (r : MA) : ME := fun env h => (mo env h).bind fun x h1 => match insOf h1 x with
  | some (c, _) => (match ms.lookup c with
    | some G => (r env h1).bind fun xs h2 => if xs.length + 1 = np then (G (x :: xs) h2).noX else .bad
    | none => .bad)
  | none => .bad
theorem meth_step {K : KC} {np c : Nat} {C : Addr} {m : Str} {nm : Str} {fl : List Str} {G : List MV → MH → R MV} {E : XK} (q1 : tab[c]? = some (nm, fl)) (q2 : K.mg nm = some (.ref C)) (q7 : m ∉ fl) {σ : St} {H : Hp} {Q : VK} {ta : TA}
    (hta : ∀ σ H Q, tA K W mr σ H Q → ta σ H Q) (o : tE K W (mMeth [(c, G)] np ma mr) σ H Q) : tMeth C m (spM K np G) [] E (tE K W ma) ta σ H Q := by
  obtain ⟨φ, env, h, hr, er, o⟩ := o
  refine tG_step hr er o fun φ1 H1 h1 x u k1 hr1 er1 t1 o1 => ?_
  cases e1 : insOf h1 x with
  | none => simp only [e1] at o1; exact o1.elim
  | some p =>
    obtain ⟨c', vs⟩ := p
    simp only [e1] at o1
    by_cases hc : c' = c
    · subst hc
      have hl : List.lookup c' [(c', G)] = some G := by simp [List.lookup_cons]
      simp only [hl] at o1
      obtain ⟨n, p, gs, rfl, rfl, ea, eh, ir, ts⟩ := ins_of hr1 t1 e1
      obtain ⟨dx, i1, i2⟩ := ir.cls q1 q2
      refine ⟨p, dx, gs, rfl, i1, lookup_no (by rw [i2]; exact fun z => q7 (List.take_subset _ _ z)), hta _ _ _ ?_⟩
      refine tG_step hr1 er1 o1 fun φ2 H2 h2 xs us k2 hr2 er2 t2 o2 => ?_
      split at o2
      · rename_i hl
        refine ⟨by simp [t2.length, hl], φ2, _, h2, hr2, .cons (t1.keep k2) (by simpa using t2), noX_ok o2⟩
      · exact o2.elim
    · have hl : List.lookup c' [(c, G)] = none := by
        rw [List.lookup_cons]
        have : (c' == c) = false := by simpa using hc
        rw [this]; rfl
      simp only [hl] at o1
      exact o1.elim
theorem _root_.L2.PE.alt {e : Expr} {t t' : TE} (h : PE X e t) (h' : PE X e t') : PE X e (fun σ H Q => t σ H Q ∨ t' σ H Q) := ⟨fun pins s σ H Q I q => q.elim (fun q => h.run pins s σ H Q I q) fun q => h'.run pins s σ H Q I q⟩
theorem se_meth1 {k j np c : Nat} {m : Str} {G : List MV → MH → R MV} {apos : Pos} {pl : Sem Bool} (D : MDef X.prog X.w X.K X.mg X.base k c m np G) (hr : Room j X.A) (ho : PE X a (tE (kc X) W ma)) (ha : PA X (b :: es) (tA (kc X) W mr)) (hj : k ≤ j := by decide)
    (hst : starEach (b :: es) X.env = (false, eval b X.env) :: starEach es X.env := by rfl) (hpl : (backTo pos (starEach es X.env)).any (·.1) = false := by rfl)
    (ht : eval (.Call (.Attribute a m apos) (b :: es) [] pos) X.env = (do
      let ov ← eval a X.env
      standAt apos.atName
      let (f, first) ← holding [ov] (getMethod ov m pl)
      callWith pos f first (backTo pos (starEach (b :: es) X.env)) (backToKw pos (keywordEach [] X.env))) := by rfl) : PE X (.Call (.Attribute a m apos) (b :: es) [] pos) (tE (kc X) W (mMeth [(c, G)] np ma mr)) := by
  obtain ⟨nm, fl, C, f, fd, ps, q1, q2, q3, q4, q5, q6, q7⟩ := D.ex
  exact (pe_meth (E := E0) ho q3 q4 q5 (hr.mono hj) q6 .nil pass0 ha hst hpl ht).imp fun σ H Q o => meth_step q1 q2 q7 (fun _ _ _ z => z) o
theorem se_meth01 {k j np c : Nat} {m : Str} {G : List MV → MH → R MV} {apos : Pos} {pl : Sem Bool} (D : MDef X.prog X.w X.K X.mg X.base k c m np G) (hr : Room j X.A) (ho : PE X a (tE (kc X) W ma)) (hj : k ≤ j := by decide)
    (ht : eval (.Call (.Attribute a m apos) [] [] pos) X.env = (do
      let ov ← eval a X.env
      standAt apos.atName
      let (f, first) ← holding [ov] (getMethod ov m pl)
      callWith pos f first (backTo pos (starEach [] X.env)) (backToKw pos (keywordEach [] X.env))) := by rfl) : PE X (.Call (.Attribute a m apos) [] [] pos) (tE (kc X) W (mMeth [(c, G)] np ma mNil)) := by
  obtain ⟨nm, fl, C, f, fd, ps, q1, q2, q3, q4, q5, q6, q7⟩ := D.ex
  exact (pe_meth0 (E := E0) ho q3 q4 q5 (hr.mono hj) q6 .nil pass0 ht).imp fun σ H Q o => meth_step (K := kc X) q1 q2 q7 (fun σ H Q z => by
    obtain ⟨φ, env, h, hr, er, o⟩ := z
    exact OkG.ok_here o hr .nil) o
/-- one more class -/
theorem se_methc {e : Expr} {np c : Nat} {G : List MV → MH → R MV} {ms : List (Nat × (List MV → MH → R MV))} (h1 : PE X e (tE (kc X) W (mMeth [(c, G)] np ma mr))) (h2 : PE X e (tE (kc X) W (mMeth ms np ma mr))) : PE X e (tE (kc X) W (mMeth ((c, G) :: ms) np ma mr)) := (h1.alt h2).imp fun σ H Q => by
  rintro ⟨φ, env, h, hr, er, o⟩
  by_cases hc : ∃ x h1 vs, ma env h = .ok x h1 ∧ insOf h1 x = some (c, vs)
  · obtain ⟨x, h1, vs, e1, e2⟩ := hc
    refine .inl ⟨φ, env, h, hr, er, ?_⟩
    unfold mMeth at o ⊢
    rw [e1] at o ⊢
    simp only [R.bind_ok, e2] at o ⊢
    simpa [List.lookup_cons] using o
  · refine .inr ⟨φ, env, h, hr, er, ?_⟩
    unfold mMeth at o ⊢
    cases e1 : ma env h with
    | bad => rw [e1] at o; exact o.elim
    | exc x h1 => rw [e1] at o; exact o
    | ok x h1 =>
      rw [e1] at o
      simp only [R.bind_ok] at o ⊢
      cases e2 : insOf h1 x with
      | none => simp only [e2] at o; exact o.elim
      | some p =>
        obtain ⟨c', vs⟩ := p
        simp only [e2] at o ⊢
        have ne : (c' == c) = false := by
          simp only [beq_eq_false_iff_ne]
          intro z
          exact hc ⟨x, h1, vs, e1, by rw [e2, z]⟩
        rw [List.lookup_cons, ne] at o
        exact o
/-- o.f, a property -/
theorem se_prop {k j c : Nat} {m : Str} {G : List MV → MH → R MV} (D : PDef X.prog X.w X.K X.mg X.base k c m G) (hr : Room j X.A) (ho : PE X a (tE (kc X) W ma)) (hj : k + 1 ≤ j := by decide) (hx : Passes CX0 X.nox E0) (hb : attributeBase a m X.env (eval a X.env) = eval a X.env := by rfl) : PE X (.Attribute a m pos) (tE (kc X) W (mMeth [(c, G)] 1 ma mNil)) := by
  obtain ⟨nm, fl, C, p, f, fd, ps, q1, q2, q3, q4, q5, q6⟩ := D.ex
  refine (pe_prop (E := E0) ho q3 q4 q5 (hr.mono hj) q6 .nil hx hb).imp fun σ H Q => ?_
  rintro ⟨φ, env, h, hr, er, o⟩
  refine tG_step hr er o fun φ1 H1 h1 x u k1 hr1 er1 t1 o1 => ?_
  cases e1 : insOf h1 x with
  | none => simp only [e1] at o1; exact o1.elim
  | some p =>
    obtain ⟨c', vs⟩ := p
    simp only [e1] at o1
    by_cases hc : c' = c
    · subst hc
      have hl : List.lookup c' [(c', G)] = some G := by simp [List.lookup_cons]
      simp only [hl] at o1
      obtain ⟨n, p, gs, rfl, rfl, ea, eh, ir, ts⟩ := ins_of hr1 t1 e1
      obtain ⟨dx, i1, i2⟩ := ir.cls q1 q2
      refine ⟨p, dx, gs, rfl, i1, ?_⟩
      have o2 : OkG (kc X) (IsV (kc X)) (W σ env) φ1 H1 (if ([] : List MV).length + 1 = 1 then (G [.ref n] h1).noX else .bad) Q := o1
      rw [if_pos (show ([] : List MV).length + 1 = 1 from rfl)] at o2
      exact ⟨rfl, φ1, [.ref n], h1, hr1, .cons t1 .nil, noX_ok o2⟩
    · have hl : List.lookup c' [(c, G)] = none := by
        rw [List.lookup_cons]
        have : (c' == c) = false := by simpa using hc
        rw [this]; rfl
      simp only [hl] at o1
      exact o1.elim
/-- C(..) -/
def newIns (c : Nat) (F : List MV → MH → R MV) (xs : List MV) (h : MH) : R MV := match F (.ref h.length :: xs) (h ++ [.ins c []]) with
  | .ok .non h2 => .ok (.ref h.length) h2
  | _ => .bad
def mMake (c np : Nat) (F : List MV → MH → R MV) (r : MA) : ME := fun env h => (r env h).bind fun xs h1 => if xs.length + 1 = np then newIns c F xs h1 else .bad
theorem new_ok {K : KC} {c np : Nat} {F : List MV → MH → R MV} {C : Addr} {nm : Str} {fl : List Str} {φ : List Addr} {H : Hp} {h : MH} {xs : List MV} {us : List V} {Z : XW} {Q : VK} {E : XK} (q1 : tab[c]? = some (nm, fl)) (q2 : K.mg nm = some (.ref C)) (q3 : Cls K.K C)
    (hr : HR K φ H h) (ts : IsVs K φ H xs us) (hl : xs.length + 1 = np) (o : OkG K (IsV K) Z φ H (newIns c F xs h) Q) (x dx : Addr) (hx : H x = none) (hdx : H dx = none) (ne : dx ≠ x) :
    spM K np F (.ref x :: us) (upd (upd H dx (.own x)) x (.ins C dx [])) (fun v H2 => v = .non ∧ Q (.ref x) H2) E := by
  have hx' : upd H dx (.own x) x = none := by rw [upd_ne (Ne.symm ne)]; exact hx
  have k0 : Keep φ H φ (upd H dx (.own x)) := Keep.new hdx
  have k1 : Keep φ H (φ ++ [x]) (upd (upd H dx (.own x)) x (.ins C dx [])) := k0.trans (Keep.lay hx')
  have hr1 : HR K (φ ++ [x]) (upd (upd H dx (.own x)) x (.ins C dx [])) (h ++ [.ins c []]) := (hr.new hdx).layO hx' ⟨[], ⟨C, dx, nm, fl, q1, q2, q3, upd_same, rfl, Nat.zero_le _⟩, .nil⟩
  refine ⟨by simp [ts.length, hl], φ ++ [x], .ref h.length :: xs, h ++ [.ins c []], hr1, .cons (.ref (lay_at hr)) (ts.keep k1), ?_⟩
  unfold newIns at o
  cases e : F (.ref h.length :: xs) (h ++ [.ins c []]) with
  | ok v h2 =>
    rw [e] at o
    cases v with
    | non =>
      intro φ2 H2 u k2 hr2 t2
      cases t2
      exact ⟨rfl, o φ2 H2 (.ref x) (k1.trans k2) hr2 (.ref (k2.get (lay_at hr)))⟩
    | _ => exact o.elim
  | exc x h2 => rw [e] at o; exact o.elim
  | bad => rw [e] at o; exact o.elim
theorem se_make {k j c np : Nat} {x : Str} {fl : List Str} {p : Pos} {G : List MV → MH → R MV} (D : KDef X.prog X.w X.K X.mg X.base k c np [] G) (hr : Room j X.A) (hg : Gl X x) (ha : PA X (b :: es) (tA (kc X) W mr)) (hn : tab[c]? = some (x, fl) := by rfl) (hj : k + 1 ≤ j := by decide) (hdb : (x == ("__debug__" : Str)) = false := by decide)
    (he : starEach (b :: es) X.env = (false, eval b X.env) :: starEach es X.env := by rfl) (hpl : (backTo pos (starEach es X.env)).any (·.1) = false := by rfl) : PE X (.Call (.Name x p) (b :: es) [] pos) (tE (kc X) W (mMake c np G mr)) := by
  obtain ⟨nm, fl', C, f, fd, ps, q1, q2, q3, q4, q5, q6, q7⟩ := D.ex
  rw [hn] at q1
  cases q1
  refine (pe_make (E := E0) q4 q5 (hr.mono hj) hg q2 (q6 rfl) .nil pass0 ha hdb he hpl).imp fun σ H Q => ?_
  rintro ⟨φ, env, h, hr, er, o⟩
  refine tG_step hr er o fun φ1 H1 h1 xs us k1 hr1 er1 t1 o1 => ?_
  split at o1
  · rename_i hl
    intro y dx hy hdx ne
    have := new_ok (K := kc X) (E := E0) hn q2 q3 hr1 t1 hl o1 y dx hy hdx ne
    simpa using this
  · exact o1.elim
/-- C(.., k = v, ..) -/
theorem _root_.L2.PK.imp {e : List Keyword} {t t' : TA} (p : PK X e t) (q : ∀ σ H Q, t' σ H Q → t σ H Q) : PK X e t' := ⟨fun pos pins s σ H Q I h => p.run pos pins s σ H Q I (q σ H Q h)⟩
theorem sk_nil : PK X [] (tA (kc X) W mNil) := pk_nil.imp fun σ H Q => by
  rintro ⟨φ, env, h, hr, er, o⟩
  exact OkG.ok_here o hr .nil
theorem sk_cons {nm : Option Str} {kpos : Pos} {kws : List Keyword} (ha : PE X a (tE (kc X) W ma)) (hr : PK X kws (tA (kc X) W mr)) : PK X (⟨nm, a, kpos⟩ :: kws) (tA (kc X) W (mCons ma mr)) := (pk_cons ha hr).imp fun σ H Q => by
  rintro ⟨φ, env, h, hr, er, o⟩
  refine tG_step hr er o fun φ1 H1 h1 x u k1 hr1 er1 t1 o1 => ?_
  refine tG_step hr1 er1 o1 fun φ2 H2 h2 xs us k2 hr2 er2 t2 o2 => ?_
  exact OkG.ok_here o2 hr2 (.cons (t1.keep k2) t2)
def mMakeK (c n m : Nat) (F : List MV → MH → R MV) (r rk : MA) : ME := fun env h => (r env h).bind fun xs h1 => (rk env h1).bind fun ys h2 => if xs.length = n ∧ ys.length = m then newIns c F (xs ++ ys) h2 else .bad
theorem se_makeK {k j c n m : Nat} {x : Str} {fl : List Str} {p : Pos} {G : List MV → MH → R MV} {kws : List Keyword} {mk : MA} {ks : List Str} (D : KDef X.prog X.w X.K X.mg X.base k c (n + 1) ks G) (hr : Room j X.A) (hg : Gl X x) (ha : PA X (b :: es) (tA (kc X) W mr)) (hkw : PK X kws (tA (kc X) W mk))
    (hn : tab[c]? = some (x, fl) := by rfl) (hj : k + 1 ≤ j := by decide) (hlm : ks.length = m := by rfl)
    (hall : (backToKw pos (keywordEach kws X.env)).all (·.1.isSome) = true := by rfl) (hks : (backToKw pos (keywordEach kws X.env)).filterMap (·.1) = ks := by rfl) (hdb : (x == ("__debug__" : Str)) = false := by decide)
    (he : starEach (b :: es) X.env = (false, eval b X.env) :: starEach es X.env := by rfl) (hpl : ((backTo pos (starEach (b :: es) X.env)).any (·.1) || (backToKw pos (keywordEach kws X.env)).any (·.1.isNone)) = false := by rfl) :
    PE X (.Call (.Name x p) (b :: es) kws pos) (tE (kc X) W (mMakeK c n m G mr mk)) := by
  subst hlm
  obtain ⟨nm, fl', C, f, fd, ps, q1, q2, q3, q4, q5, q6, q7⟩ := D.ex
  rw [hn] at q1
  cases q1
  refine (pe_makeK (E := E0) q4 q5 (hr.mono hj) hg q2 q7 pass0 ha hkw hall hks hdb he hpl).imp fun σ H Q => ?_
  rintro ⟨φ, env, h, hr, er, o⟩
  refine tG_step hr er o fun φ1 H1 h1 xs us k1 hr1 er1 t1 o1 => ?_
  refine tG_step hr1 er1 o1 fun φ2 H2 h2 ys ws k2 hr2 er2 t2 o2 => ?_
  split at o2
  · rename_i hl
    refine ⟨by rw [t1.length]; exact hl.1, by rw [t2.length]; exact hl.2, fun y dx hy hdx ne => ?_⟩
    exact new_ok (K := kc X) (E := E0) hn q2 q3 hr2 (IsVs.append (t1.keep k2) t2) (by rw [List.length_append]; omega) o2 y dx hy hdx ne
  · exact o2.elim

/-! ### isinstance of own classes -/
structure IsiF (K : KC) (C' : Str) (cs : List (Nat × Bool)) : Prop where
  ex : ∃ c0, K.mg C' = some (.ref c0) ∧ ∀ p ∈ cs, ∃ nm fl C, tab[p.1]? = some (nm, fl) ∧ K.mg nm = some (.ref C) ∧ PySem.W.findIn K.K (.ref C) "__class__" = some (some (.builtin "object.__class__")) ∧ PySem.W.mroIn K.K C (.type "object") = some true ∧ PySem.W.kitOne K.K (.ref C) (.ref c0) = some p.2
  hn : PySem.W.specialIn K.K (.builtin "object.__class__") "__get__" = some (some (.builtin "getset_descriptor.__get__"))
  htk : PySem.W.takesIn K.K (.builtin "object.__class__") = some true
def mIsC (cs : List (Nat × Bool)) (m : ME) : ME := fun env h => (m env h).bind fun x h1 => match insOf h1 x with
  | some (c, _) => (match cs.lookup c with
    | some b => .ok (.bl b) h1
    | none => .bad)
  | none => .bad
theorem se_isC {p p2 : Pos} {T : Str} {cs : List (Nat × Bool)} (F : IsiF (kc X) T cs) (hg : Gl X "isinstance") (hm : X.mg "isinstance" = none) (hg2 : Gl X T) (ha : PE X a (tE (kc X) W ma)) (hd2 : (T == ("__debug__" : Str)) = false := by decide)
    (he : starEach [a, .Name T p2] X.env = (false, eval a X.env) :: starEach [.Name T p2] X.env := by rfl) (he2 : starEach [.Name T p2] X.env = (false, eval (.Name T p2) X.env) :: starEach [] X.env := by rfl) (hpl : (backTo pos (starEach [.Name T p2] X.env)).any (·.1) = false := by rfl) :
    PE X (.Call (.Name "isinstance" p) [a, .Name T p2] [] pos) (tE (kc X) W (mIsC cs ma)) := by
  obtain ⟨c0, f1, f2⟩ := F.ex
  refine (pe_callB call_isi hg hm boot_isinstance (pa_cons ha (pa_cons (pe_glob (v := .ref c0) hg2 f1 rfl hd2) pa_nil he2) he) (by decide) (by decide) he hpl).imp fun σ H Q => ?_
  rintro ⟨φ, env, h, hr, er, o⟩
  refine tG_step hr er o fun φ1 H1 h1 x u k1 hr1 er1 t1 o1 => ?_
  cases e1 : insOf h1 x with
  | none => simp only [e1] at o1; exact o1.elim
  | some q =>
    obtain ⟨c, vs⟩ := q
    simp only [e1] at o1
    cases e2 : cs.lookup c with
    | none => simp only [e2] at o1; exact o1.elim
    | some b =>
      simp only [e2] at o1
      obtain ⟨n, p, gs, rfl, rfl, ea, _, ir, ts⟩ := ins_of hr1 t1 e1
      obtain ⟨nm, fl, C, g1, g2, g3, g4, g5⟩ := f2 _ (look_mem e2)
      obtain ⟨dx, i1, i2⟩ := ir.cls g1 g2
      have hc : Cls X.K C := by
        obtain ⟨C', dx', nm', fl', q1, q2, q3, q, _⟩ := ir
        rw [i1] at q
        cases q
        exact q3
      exact ⟨.ref p, .ref c0, .ref C, .ref c0, b, rfl, .own c0, .base (.ins i1 hc g3 F.hn F.htk g4), g5, OkG.ok_here o1 hr1 (.bl b)⟩
end
end Mv

set_option maxHeartbeats 4000000
/-! Mv11: == of instances by their own __eq__. -/
namespace Mv
open PySem PySem.Spec L2
open PyProof.Rows hiding St

/-- x == y, x of the class number c with G as its own ==, y of one of the classes ds -/
def mEqI (gs : List (Nat × (List MV → MH → R MV))) (ds : List Nat) (ma mb : ME) : ME := fun env h => (ma env h).bind fun x h1 => (mb env h1).bind fun y h2 => match insOf h2 x, insOf h2 y with
  | some (c, _), some (d, _) => (match gs.lookup c with
    | some G => if d ∈ ds then (G [x, y] h2).noX else .bad
    | none => .bad)
  | _, _ => .bad
/-- y's class is no subclass of c's -/
def NotSub (K : KC) (c : Nat) (ds : List Nat) : Prop := ∀ d ∈ ds, ∃ nm fl C nm' fl' C', tab[c]? = some (nm, fl) ∧ K.mg nm = some (.ref C) ∧ tab[d]? = some (nm', fl') ∧ K.mg nm' = some (.ref C') ∧ PySem.W.notFirst K.K C (.ref C') = true
def rEqI (K : KC) (np : Nat) (C : Addr) (sp : Sp) : R2 := fun x y H Q => ∃ a b C' dx dy fs gs, x = .ref a ∧ y = .ref b ∧ H a = some (.ins C dx fs) ∧ H b = some (.ins C' dy gs) ∧ PySem.W.notFirst K.K C (.ref C') = true ∧ sp [x, y] H (fun v H' => (∃ r, v = .bl r) ∧ Q v H') E0
section
variable {X : Cx} {W : WT} {pos : Pos} {a b c : Expr} {ma mb mc : ME}
theorem op_eqI {n np : Nat} {C f : Addr} {fd : FuncData} {ps : List Str} {sp : Sp} (F : FnOk X.prog X.w X.K X.mg X.base CX0 n f fd ps sp) (M : Meth X.K C "__eq__" f) (hb : L2.Binds X.K fd ps []) (hr : Room n X.A) : OpR X (compareOp .Eq) (rEqI (kc X) np C sp) := by
  intro pins s σ H x y v u Q I rx ry hq
  obtain ⟨p, q, C', dx, dy, fs, gs, rfl, rfl, hp, hq, hn, hs⟩ := hq
  cases rx
  cases ry
  show wpAny (model X.prog X.w) X.A (richCompare .Eq (.ref p) (.ref q)) (EP X pins σ Q) X.xe s
  obtain ⟨mA, J, _⟩ := ins_get I.hok hp
  obtain ⟨mB, J', _⟩ := ins_get I.hok hq
  obtain ⟨od, J, _⟩ := J.look
  obtain ⟨od', J', _⟩ := J'.look
  obtain ⟨m, hF⟩ := I.fr
  refine PySem.W.cmp_K (op := .Eq) (tb := .ref C') hr.units0 hF I.ok.mod.kin J J'.type hn M.at_ M.fn ?_
  have hl := F.len _ _ _ _ hs
  have r2 : Vals [V.ref p, V.ref q] [Value.ref p, Value.ref q] := .cons rfl (.cons rfl .nil)
  refine wpAny_call (codeAny_mono (F.run X.A X.stack s H ⟨[.ref p, .ref q], []⟩ [.ref p, .ref q] [.ref p, .ref q] _ E0 hr I.env0 (by
    have := hb s [.ref p, .ref q] I.kIn (by simpa using hl)
    simpa using this) r2 hs) fun r s' hq => ?_)
  cases r with
  | error e => exact pass0 pins σ H s e s' I hq
  | ok fl =>
    cases fl with
    | ret w =>
      obtain ⟨z, H', I', rz, ⟨r, ez⟩, ex⟩ := I.after hq
      subst ez
      cases rz
      exact ⟨.bl r, H', I', rfl, ex⟩
    | next => exact False.elim hq
    | brk => exact False.elim hq
    | cont => exact False.elim hq
/-- what an own == gives is a bool -/
def boolR : R MV → R MV
  | .ok (.bl b) h => .ok (.bl b) h
  | _ => .bad
def mEqB (gs : List (Nat × (List MV → MH → R MV))) (ds : List Nat) (ma mb : ME) : ME := fun env h => (ma env h).bind fun x h1 => (mb env h1).bind fun y h2 => match insOf h2 x, insOf h2 y with
  | some (c, _), some (d, _) => (match gs.lookup c with
    | some G => if d ∈ ds then boolR (G [x, y] h2) else .bad
    | none => .bad)
  | _, _ => .bad
theorem se_eqI {k j c : Nat} {G : List MV → MH → R MV} {ds : List Nat} (D : MDef X.prog X.w X.K X.mg X.base k c "__eq__" 2 G) (N : NotSub (kc X) c ds) (hr : Room j X.A) (ha : PE X a (tE (kc X) W ma)) (hb : PE X b (tE (kc X) W mb)) (hj : k ≤ j := by decide)
    (hm : behindInMarks .Eq b = false := by first | exact nobehind _ (by decide) (by decide) | rfl) : PE X (.Compare a [.Eq] [b] pos) (tE (kc X) W (mEqB [(c, G)] ds ma mb)) := by
  obtain ⟨nm, fl, C, f, fd, ps, q1, q2, q3, q4, q5, q6, q7⟩ := D.ex
  refine (pe_cmpR (op_eqI (np := 2) q5 q4 q6 (hr.mono hj)) ha hb hm).imp fun σ H Q => ?_
  rintro ⟨φ, env, h, hr, er, o⟩
  refine tG_step hr er o fun φ1 H1 h1 x u k1 hr1 er1 t1 o1 => ?_
  refine tG_step hr1 er1 o1 fun φ2 H2 h2 y v k2 hr2 er2 t2 o2 => ?_
  cases e1 : insOf h2 x with
  | none => simp only [e1] at o2; exact o2.elim
  | some p =>
    cases e2 : insOf h2 y with
    | none => simp only [e1, e2] at o2; exact o2.elim
    | some p' =>
      obtain ⟨c', vs⟩ := p
      obtain ⟨d, ws⟩ := p'
      simp only [e1, e2] at o2
      by_cases hc : c' = c
      · subst hc
        have hl : List.lookup c' [(c', G)] = some G := by simp [List.lookup_cons]
        simp only [hl] at o2
        split at o2
        · rename_i hd
          obtain ⟨n, p, gs, rfl, rfl, ea, eh, ir, ts⟩ := ins_of hr2 (t1.keep k2) e1
          obtain ⟨n', p', gs', rfl, rfl, ea', eh', ir', ts'⟩ := ins_of hr2 t2 e2
          obtain ⟨nm1, fl1, C1, nm2, fl2, C2, g1, g2, g3, g4, g5⟩ := N d hd
          obtain ⟨dx, i1, i2⟩ := ir.cls q1 q2
          obtain ⟨dx1, i3, _⟩ := ir.cls g1 g2
          obtain ⟨dy, i4, _⟩ := ir'.cls g3 g4
          rw [i1] at i3
          cases i3
          refine ⟨p, p', C2, dx, dy, gs, gs', rfl, rfl, i1, i4, g5, rfl, φ2, [.ref n, .ref n'], h2, hr2, .cons (.ref ea) (.cons (.ref ea') .nil), ?_⟩
          cases e3 : G [.ref n, .ref n'] h2 with
          | ok v h3 =>
            rw [e3] at o2
            cases v with
            | bl r =>
              intro φ3 H3 w k3 hr3 t3
              cases t3
              exact ⟨⟨r, rfl⟩, o2 φ3 H3 (.bl r) k3 hr3 (.bl r)⟩
            | _ => exact o2.elim
          | exc x h3 => rw [e3] at o2; exact o2.elim
          | bad => rw [e3] at o2; exact o2.elim
        · exact o2.elim
      · have hl : List.lookup c' [(c, G)] = none := by
          rw [List.lookup_cons]
          have : (c' == c) = false := by simpa using hc
          rw [this]; rfl
        simp only [hl] at o2
        exact o2.elim
theorem se_eqc {e : Expr} {c : Nat} {G : List MV → MH → R MV} {gs : List (Nat × (List MV → MH → R MV))} {ds : List Nat} (h1 : PE X e (tE (kc X) W (mEqB [(c, G)] ds ma mb))) (h2 : PE X e (tE (kc X) W (mEqB gs ds ma mb))) : PE X e (tE (kc X) W (mEqB ((c, G) :: gs) ds ma mb)) := (h1.alt h2).imp fun σ H Q => by
  rintro ⟨φ, env, h, hr, er, o⟩
  by_cases hc : ∃ x h1 y h2 vs, ma env h = .ok x h1 ∧ mb env h1 = .ok y h2 ∧ insOf h2 x = some (c, vs)
  · obtain ⟨x, h1, y, h2, vs, e1, e2, e3⟩ := hc
    refine .inl ⟨φ, env, h, hr, er, ?_⟩
    unfold mEqB at o ⊢
    simp only [e1, e2, e3, R.bind_ok] at o ⊢
    cases e4 : insOf h2 y with
    | none => simp only [e4] at o; exact o.elim
    | some p => simpa [e4, List.lookup_cons] using o
  · refine .inr ⟨φ, env, h, hr, er, ?_⟩
    unfold mEqB at o ⊢
    cases e1 : ma env h with
    | bad => rw [e1] at o; exact o.elim
    | exc x h1 => rw [e1] at o; exact o
    | ok x h1 =>
      rw [e1] at o
      simp only [R.bind_ok] at o ⊢
      cases e2 : mb env h1 with
      | bad => rw [e2] at o; exact o.elim
      | exc x h1 => rw [e2] at o; exact o
      | ok y h2 =>
        rw [e2] at o
        simp only [R.bind_ok] at o ⊢
        cases e3 : insOf h2 x with
        | none => simp only [e3] at o; exact o.elim
        | some p =>
          obtain ⟨c', vs⟩ := p
          cases e4 : insOf h2 y with
          | none => simp only [e3, e4] at o; exact o.elim
          | some p' =>
            simp only [e3, e4] at o ⊢
            have ne : (c' == c) = false := by
              simp only [beq_eq_false_iff_ne]
              intro z
              exact hc ⟨x, h1, y, h2, vs, e1, e2, by rw [e3, z]⟩
            rw [List.lookup_cons, ne] at o
            exact o
/-- as a test -/
theorem st_of {e : Expr} {m : ME} (h : PE X e (tE (kc X) W m)) (he : ∀ whole, isTrue e X.env whole = (do let v ← whole; standAt e.pos; holding [v] (truthy v)) := by intro _; rfl) : PT X e (tT (kc X) W (mAsB m)) := st_val h he
end
end Mv

set_option maxHeartbeats 4000000
/-! Mv12: t[::-1] -/
namespace Mv
open PySem PySem.Spec L2 HT
open PyProof.Rows hiding St
section
variable {prog : Program} {w : World} {A : Around} {E : Value → Shared → Prop} {s : Shared}
theorem rv_adjust (n : Nat) : Builtin.Slice.sliceAdjust none none (-1) (n : Int) = ((n : Int) - 1, -1) := by
  unfold Builtin.Slice.sliceAdjust
  simp
theorem rv_places (n : Nat) : Builtin.Slice.slicePlaces ((n : Int) - 1) (-1) (-1) = n := by
  unfold Builtin.Slice.slicePlaces
  simp
  try (split <;> omega)
theorem rv_applied {sl : Addr} {vl vu vs : Value} {n : Nat} {Q : Int × Int × Nat → Shared → Prop} (hs : s.heap.IsSliceOf sl vl vu vs) (pl : IsPart vl none) (pu : IsPart vu none) (ps : IsPart vs (some (-1)))
    (h : Q ((n : Int) - 1, -1, n) s) : wpAny (model prog w) A (Builtin.Slice.sliceApplied (.ref sl) (pure (n : Int))) Q E s := by
  obtain ⟨os, hos, hcs, hds⟩ := id hs
  unfold Builtin.Slice.sliceApplied Builtin.Slice.sliceFields
  refine wpAny_bind (wpAny_bind (wpAny_field hos hds (x := vl) rfl (wpAny_bind (wpAny_field hos hds (x := vu) rfl (wpAny_bind (wpAny_field hos hds (x := vs) rfl (wpAny_pure ?_)))))))
  refine wpAny_bind (slicePart_ ps ?_)
  show wpAny _ _ (if ((-1 : Int) == 0) = true then _ else _) _ _ s
  rw [if_neg (by decide)]
  refine wpAny_bind (slicePart_ pl (wpAny_bind (slicePart_ pu (wpAny_bind (wpAny_pure ?_)))))
  show wpAny _ _ (match Builtin.Slice.sliceAdjust none none (-1) (n : Int) with | (lo, hi) => pure (lo, (-1 : Int), Builtin.Slice.slicePlaces lo hi (-1))) _ _ s
  rw [rv_adjust n]
  show wpAny _ _ (pure ((n : Int) - 1, (-1 : Int), Builtin.Slice.slicePlaces ((n : Int) - 1) (-1) (-1))) _ _ s
  rw [rv_places]
  exact wpAny_pure h
theorem rv_pick (xs : Array Value) : ((List.range xs.size).filterMap fun (m : Nat) => xs[(((xs.size : Int) - 1) + (m : Int) * (-1)).toNat]?).toArray = xs.toList.reverse.toArray := by
  congr 1
  have h2 : (List.range xs.size).filterMap (fun (m : Nat) => xs[(((xs.size : Int) - 1) + (m : Int) * (-1)).toNat]?) = ((List.range xs.size).map fun k => xs.size - 1 - k).filterMap (xs[·]?) := by
    rw [List.filterMap_map]
    have q : ∀ l : List Nat, (∀ m ∈ l, m < xs.size) → l.filterMap (fun (m : Nat) => xs[(((xs.size : Int) - 1) + (m : Int) * (-1)).toNat]?) = l.filterMap ((fun x => xs[x]?) ∘ fun k => xs.size - 1 - k) := by
      intro l
      induction l with
      | nil => intro _; rfl
      | cons m l ih =>
        intro hl
        have h1 := hl m (List.mem_cons_self ..)
        have h3 : (((xs.size : Int) - 1) + (m : Int) * (-1)).toNat = xs.size - 1 - m := by omega
        rw [List.filterMap_cons, List.filterMap_cons, ih fun z hz => hl z (List.mem_cons_of_mem _ hz)]
        simp only [Function.comp, h3]
    exact q _ fun m hm => List.mem_range.mp hm
  rw [h2, PySem.W.krv_range, List.filterMap_reverse, PySem.W.krv_all]
theorem getItem_tuple_rev {t sl : Addr} {items : Array Value} {vl vu vs : Value} {Q : Value → Shared → Prop} (ht : IsTup s.heap t items) (hs : s.heap.IsSliceOf sl vl vu vs) (pl : IsPart vl none) (pu : IsPart vu none) (ps : IsPart vs (some (-1)))
    (h : Q (.ref s.heap.objs.size) { s with heap := s.heap.push { cls := .type "tuple", data := .seq items.toList.reverse.toArray } })
    (hsz : items.size ≤ sizeLine) : wpAny (model prog w) A (getItem (.ref t) (.ref sl)) Q E s := by
  have htake : sizeOk (.seq items.toList.reverse.toArray) := by
    show items.toList.reverse.toArray.size ≤ sizeLine
    simpa using hsz
  obtain ⟨os, hos, hcs, hds⟩ := id hs
  have hTs : s.TypeIs (.ref sl) "slice" := ⟨os, hos, hcs⟩
  unfold getItem
  try with_reducible refine wpAny_holding ?_
  first | refine wpAny_bind (wpAny_pure ?_) | skip
  refine wpAny_bind (wpAny_sequenceKey ht.typeIs (by decide) ?_)
  refine wpAny_bind (wpAny_callSpecial?_slot (name := Str.ofString "__getitem__") ht.typeIs PyProof.Rows.slot_tuple_getitem
    (wpAny_call_entry PyProof.Rows.slot_tuple_getitem ht.typeIs entry_tuple_getitem ?_ (args_tuple_getitem _ _)))
  show wpAny _ _ (Builtin.Tuple.tupleItemsOf (.ref t) >>= _) _ _ s
  refine wpAny_bind (tupleItemsOf_ ht ?_)
  refine wpAny_bind (wpAny_typeOf hTs ?_)
  rw [if_pos (by decide)]
  refine wpAny_bind (rv_applied hs pl pu ps ?_)
  have hno : ¬ ((((items.size : Int) - 1) == 0 && (-1 : Int) == 1 && items.size == items.size) = true) := by
    intro q
    rw [Bool.and_eq_true, Bool.and_eq_true] at q
    exact absurd q.1.2 (by decide)
  show wpAny _ _ (if (((items.size : Int) - 1) == 0 && (-1 : Int) == 1 && items.size == items.size) = true then _ else _) _ _ s
  rw [if_neg hno, rv_pick]
  first
    | exact wpAny_bind (m := Builtin.Tuple.tupleExact _) (wpAny_newObj_type (wpAny_pure ⟨_, rfl, wpAny_pure h⟩) htake)
    | exact wpAny_bind (m := Builtin.Tuple.tupleExact _) (wpAny_newObj_type (wpAny_bind (wpAny_pure (wpAny_pure ⟨_, rfl, wpAny_pure h⟩))) htake)
    | exact wpAny_bind (wpAny_bind (m := Builtin.Tuple.tupleExact _) (wpAny_newObj_type (wpAny_pure (wpAny_pure ⟨_, rfl, wpAny_pure h⟩)) htake))
    | exact wpAny_bind (wpAny_bind (m := Builtin.Tuple.tupleExact _) (wpAny_newObj_type (wpAny_pure ⟨_, rfl, wpAny_pure h⟩) htake))
end
def tRevT (K : PySem.W.Frag) (te : TE) : TE := fun σ H Q => te σ H fun x H1 => ∃ a xs, x = .ref a ∧ SqT K H1 a xs ∧ ∀ p, H1 p = none → Q (.ref p) (upd H1 p (.tup xs.reverse))
section
variable {X : Cx} {W : WT} {e : Expr} {ma : ME}
theorem pe_revT {te : TE} {k : Nat} {p1 p2 p3 pos : Pos} (he : PE X e te) : PE X (.Subscript e (.Slice none none (some (.UnaryOp .USub (.Constant (.int 1) k p1) p2)) p3) pos) (tRevT X.K te) := by
  refine ⟨fun pins s σ H Q I h => ?_⟩
  refine Subscript_ (thn (he.run pins s σ H _ I h) fun v s1 ⟨x, H1, I1, r1, q1⟩ => ?_)
  obtain ⟨a, xs, ex, hx, q⟩ := q1
  subst ex
  cases r1
  have hst : PO X (some (.UnaryOp .USub (.Constant (.int 1) k p1) p2)) (tPart (tUn (rU fun i => .int (-i)) (tC (.int 1)))) := po_some (pe_un un_neg pe_int)
  refine wpAny_Slice (thn (po_none.run pins s1 σ H1 (fun o H2 => o = none ∧ H2 = H1) I1 ⟨rfl, rfl⟩) fun vl s2 ⟨l, H2, I2, pl, el, e2⟩ => ?_)
  subst el e2
  refine thn (po_none.run pins s2 σ H2 (fun o H3 => o = none ∧ H3 = H2) I2 ⟨rfl, rfl⟩) fun vu s3 ⟨u, H3, I3, pu, eu, e3⟩ => ?_
  subst eu e3
  refine thn (hst.run pins s3 σ H3 (fun o H4 => o = some (-1) ∧ H4 = H3) I3 ⟨1, rfl, -1, rfl, rfl, rfl⟩) fun vs s4 ⟨o, H4, I4, ps, eo, e4⟩ => ?_
  subst eo e4
  have I5 : Inv X pins σ H4 { s4 with heap := s4.heap.push { cls := .type "slice", data := .fields #[vl, vu, vs] } } := I4.kept (t' := s4.toks) fun b ob q => Heap.get?_push_of_some _ q
  obtain ⟨its, r, ht, hz⟩ := I5.tuple hx
  have hlen := r.length
  show wpAny (model X.prog X.w) X.A (subscriptTail e (.Slice none none (some (.UnaryOp .USub (.Constant (.int 1) k p1) p2)) p3) (.ref a) (.ref s4.heap.objs.size)) (EP X pins σ Q) X.xe { s4 with heap := s4.heap.push { cls := .type "slice", data := .fields #[vl, vu, vs] } }
  refine tail_any (ops := [.ref a, .ref s4.heap.objs.size]) ht.typeIs (PyProof.Rows.slot_tuple_getitem.lookup) ?_ (by with_unfolding_all rfl)
  refine getItem_tuple_rev ht (Heap.IsSliceOf.new _ vl vu vs) pl pu ps ?_ (by rw [List.size_toArray]; omega)
  refine ⟨.ref _, _, I5.laid (t' := s4.toks) (o := .tup xs.reverse) (fun b ob q => Heap.get?_push_of_some _ q) (Nat.le_refl _) ?_, rfl, q _ (I5.hok.fresh (Nat.le_refl _))⟩
  exact ⟨by rw [List.length_reverse]; exact hz, _, r.reverse, IsTup.new _ _⟩
def mRev (m : ME) : ME := fun env h => (m env h).bind fun x h1 => match x with
  | .tup xs => .ok (.tup xs.reverse) h1
  | x => match listOf h1 x with
    | some xs => if xs.length ≤ cap then .ok (.ref h1.length) (h1 ++ [.lst xs.reverse]) else .bad
    | none => .bad
theorem IsVs.reverse {K : KC} {φ : List Addr} {H : Hp} : ∀ {xs : List MV} {vs : List V}, IsVs K φ H xs vs → IsVs K φ H xs.reverse vs.reverse
  | _, _, .nil => .nil
  | _, _, .cons a t => by
    rw [List.reverse_cons, List.reverse_cons]
    exact IsVs.append (IsVs.reverse t) (.cons a .nil)
theorem se_rev {k : Nat} {p1 p2 p3 pos : Pos} (he : PE X e (tE (kc X) W ma)) : PE X (.Subscript e (.Slice none none (some (.UnaryOp .USub (.Constant (.int 1) k p1) p2)) p3) pos) (tE (kc X) W (mRev ma)) := ((pe_revT he).alt (pe_revL he)).imp fun σ H Q => by
  rintro ⟨φ, env, h, hr, er, o⟩
  unfold mRev at o
  cases e0 : ma env h with
  | bad => rw [e0] at o; exact o.elim
  | exc x h0 =>
    refine .inl ⟨φ, env, h, hr, er, ?_⟩
    rw [e0] at o ⊢
    exact o
  | ok x h0 =>
    rw [e0] at o
    simp only [R.bind_ok] at o
    cases x with
    | tup xs =>
      refine .inl ⟨φ, env, h, hr, er, ?_⟩
      rw [e0]
      intro φ1 H1 u k1 hr1 t1
      cases t1 with
      | @tup a vs xs ha ts =>
        exact ⟨a, vs, rfl, ha, fun p hp => tup_ok hr1 (IsVs.reverse ts) hp (OkG.mono o k1)⟩
    | ref n =>
      refine .inr ⟨φ, env, h, hr, er, ?_⟩
      rw [e0]
      intro φ1 H1 u k1 hr1 t1
      cases e1 : listOf h0 (.ref n) with
      | none => simp only [e1] at o; exact o.elim
      | some xs =>
        simp only [e1] at o
        split at o
        · rename_i hl
          obtain ⟨a, vs, rfl, ha, ts⟩ := list_of hr1 t1 e1
          exact ⟨a, vs, rfl, ha, fun p hp => lay_ok hr1 (IsVs.reverse ts) (by simpa using hl) hp (OkG.mono o k1)⟩
        · exact o.elim
    | _ => exact o.elim
/-- is True, is not True of a bool -/
def fIsB : MV → MV → MH → R MV := fun x y h => match x, y with
  | .bl a, .bl b => .ok (.bl (decide (a = b))) h
  | _, _ => .bad
def fNotB : MV → MV → MH → R MV := fun x y h => match x, y with
  | .bl a, .bl b => .ok (.bl (!decide (a = b))) h
  | _, _ => .bad
theorem os_isB : OpF (kc X) rIsB fIsB := by
  intro Z φ H h x y u w Q hr t1 t2 o
  cases t1 with
  | bl a =>
    cases t2 with
    | bl b => exact ⟨a, b, rfl, rfl, OkG.ok_here o hr (.bl _)⟩
    | _ => exact o.elim
  | _ => exact o.elim
theorem os_notB : OpF (kc X) rNotB fNotB := by
  intro Z φ H h x y u w Q hr t1 t2 o
  cases t1 with
  | bl a =>
    cases t2 with
    | bl b => exact ⟨a, b, rfl, rfl, OkG.ok_here o hr (.bl _)⟩
    | _ => exact o.elim
  | _ => exact o.elim
end
end Mv

set_option maxHeartbeats 4000000
/-! Mv13: what a call leaves behind is forgotten, its answer's own objects moved to the front; specs over the heap. -/
namespace Mv
open PySem PySem.Spec L2

mutual
def MV.ren (ρ : Nat → Nat) : MV → MV
  | .ref n => .ref (ρ n)
  | .tup xs => .tup (MV.rens ρ xs)
  | .non => .non
  | .bl b => .bl b
  | .int i => .int i
  | .str x => .str x
def MV.rens (ρ : Nat → Nat) : List MV → List MV
  | [] => []
  | x :: r => MV.ren ρ x :: MV.rens ρ r
end
def MO.ren (ρ : Nat → Nat) : MO → MO
  | .lst xs => .lst (MV.rens ρ xs)
  | .frz xs => .frz (MV.rens ρ xs)
  | .dct kvs => .dct (kvs.map fun p => (p.1, MV.ren ρ p.2))
  | .fdc kvs => .fdc (kvs.map fun p => (p.1, MV.ren ρ p.2))
  | .ins c vs => .ins c (MV.rens ρ vs)
theorem rens_map (ρ : Nat → Nat) : ∀ xs : List MV, MV.rens ρ xs = xs.map (MV.ren ρ)
  | [] => by simp [MV.rens]
  | x :: r => by simp [MV.rens, rens_map ρ r]
mutual
theorem ren_id {ρ : Nat → Nat} {n : Nat} (h : ∀ i, i < n → ρ i = i) : ∀ (x : MV), MV.und n x → MV.ren ρ x = x
  | .non, _ => by simp [MV.ren]
  | .bl _, _ => by simp [MV.ren]
  | .int _, _ => by simp [MV.ren]
  | .str _, _ => by simp [MV.ren]
  | .ref i, b => by
    simp only [MV.und] at b
    simp [MV.ren, h i b]
  | .tup xs, b => by
    simp only [MV.und] at b
    simp only [MV.ren, rens_id h xs b]
theorem rens_id {ρ : Nat → Nat} {n : Nat} (h : ∀ i, i < n → ρ i = i) : ∀ (xs : List MV), MV.unds n xs → MV.rens ρ xs = xs
  | [], _ => by simp [MV.rens]
  | x :: r, b => by
    simp only [MV.unds] at b
    simp only [MV.rens, ren_id h x b.1, rens_id h r b.2]
end
mutual
theorem IsV.ren {K : KC} {φ φ' : List Addr} {H : Hp} {ρ : Nat → Nat} {n : Nat} (hρ : ∀ i, i < n → ∀ a, φ'[ρ i]? = some a → φ[i]? = some a) : ∀ {x : MV} {u : V}, MV.und n x → IsV K φ' H (MV.ren ρ x) u → IsV K φ H x u
  | .non, _, _, h => by
    simp only [MV.ren] at h
    cases h; exact .non
  | .bl b, _, _, h => by
    simp only [MV.ren] at h
    cases h; exact .bl b
  | .int i, _, _, h => by
    simp only [MV.ren] at h
    cases h; exact .int i
  | .str s, _, _, h => by
    simp only [MV.ren] at h
    cases h; exact .str s
  | .ref i, _, b, h => by
    simp only [MV.ren] at h
    simp only [MV.und] at b
    cases h with
    | ref e => exact .ref (hρ i b _ e)
  | .tup xs, _, b, h => by
    simp only [MV.ren] at h
    simp only [MV.und] at b
    cases h with
    | tup q ts => exact .tup q (IsVs.ren hρ b ts)
theorem IsVs.ren {K : KC} {φ φ' : List Addr} {H : Hp} {ρ : Nat → Nat} {n : Nat} (hρ : ∀ i, i < n → ∀ a, φ'[ρ i]? = some a → φ[i]? = some a) : ∀ {xs : List MV} {us : List V}, MV.unds n xs → IsVs K φ' H (MV.rens ρ xs) us → IsVs K φ H xs us
  | [], _, _, h => by
    simp only [MV.rens] at h
    cases h; exact .nil
  | x :: r, _, b, h => by
    simp only [MV.rens] at h
    simp only [MV.unds] at b
    cases h with
    | cons t ts => exact .cons (IsV.ren hρ b.1 t) (IsVs.ren hρ b.2 ts)
end
theorem OR.ren {K : KC} {φ φ' : List Addr} {H : Hp} {ρ : Nat → Nat} {n : Nat} (hρ : ∀ i, i < n → ∀ a, φ'[ρ i]? = some a → φ[i]? = some a) {o : MO} {a : Addr} (b : MO.und n o) (r : OR K φ' H a (MO.ren ρ o)) : OR K φ H a o := by
  cases o with
  | lst xs => obtain ⟨l, vs, q, t⟩ := r; exact ⟨by simpa [rens_map] using l, vs, q, t.ren hρ b⟩
  | frz xs => obtain ⟨l, o, vs, q, t⟩ := r; exact ⟨by simpa [rens_map] using l, o, vs, q, t.ren hρ b⟩
  | dct kvs =>
    obtain ⟨ws, q, l, ek, t⟩ := r
    refine ⟨ws, q, by simpa using l, by rw [ek, List.map_map]; rfl, IsVs.ren hρ b ?_⟩
    rw [List.map_map] at t
    rw [rens_map, List.map_map]
    exact t
  | fdc kvs =>
    obtain ⟨o, ws, q, l, ek, t⟩ := r
    refine ⟨o, ws, q, by simpa using l, by rw [ek, List.map_map]; rfl, IsVs.ren hρ b ?_⟩
    rw [List.map_map] at t
    rw [rens_map, List.map_map]
    exact t
  | ins c vs =>
    obtain ⟨gs, q, t⟩ := r
    refine ⟨gs, ?_, t.ren hρ b⟩
    have : (MV.rens ρ vs).length = vs.length := by simp [rens_map]
    rwa [this] at q
/-- where the new heap's objects stood -/
def back (n : Nat) (f : List Nat) : Nat → Nat := fun i => if i < n then i else f.getD (i - n) 0
theorem back_lt {n : Nat} {f : List Nat} {i : Nat} (h : i < n) : back n f i = i := if_pos h
/-- the answer's own objects (at f in the old heap) are moved to the front of what is new; all else that is new is forgotten; h2: the old heap, changed in place -/
theorem sim_ren {h h2 g g' : MH} {v' : MV} (f : List Nat) (h2l : h2.length = h.length) (hb : Below h.length h → Below h.length h2) (hf : f.length = g'.length) (nd : f.Nodup) (hn : ∀ m ∈ f, h.length ≤ m)
    (ho : ∀ (j m : Nat) (o : MO), f[j]? = some m → g'[j]? = some o → (h2 ++ g)[m]? = some (o.ren (back h.length f)) ∧ MO.und (h.length + g'.length) o) (bv : MV.und (h.length + g'.length) v') :
    Sim h (.ok (v'.ren (back h.length f)) (h2 ++ g)) (.ok v' (h2 ++ g')) := by
  intro K Z φ H Q hr o φ' H' u k hr' t
  have b2 := hb hr.below
  have hlen := hr'.len
  rw [List.length_append] at hlen
  have hφ : ∀ m ∈ f, ∃ a, φ'[m]? = some a := fun m hm => by
    obtain ⟨j, ej⟩ := List.mem_iff_getElem?.mp hm
    have hj : j < g'.length := by rw [← hf]; exact (List.getElem?_eq_some_iff.mp ej).1
    exact hr'.addr (ho j m _ ej (List.getElem?_eq_getElem hj)).1
  let pick : Nat → Addr := fun m => φ'.getD m 0
  have hpick : ∀ m ∈ f, φ'[m]? = some (pick m) := fun m hm => by
    obtain ⟨a, ea⟩ := hφ m hm
    have : pick m = a := by show φ'.getD m 0 = a; rw [List.getD_eq_getElem?_getD, ea]; rfl
    rw [this]; exact ea
  have k0 : Keep φ H (φ'.take h2.length) H' := k.forget (by rw [hr.len, h2l]; exact Nat.le_refl _)
  have r0 := hr'.forget (h := h2) (by rw [h2l]; exact b2)
  have hl0 : (φ'.take h2.length).length = h2.length := r0.len
  have inj : ∀ {i j : Nat} {a : Addr}, φ'[i]? = some a → φ'[j]? = some a → i = j := fun e1 e2 => by
    obtain ⟨_, x1⟩ := List.getElem?_eq_some_iff.mp e1
    obtain ⟨_, x2⟩ := List.getElem?_eq_some_iff.mp e2
    exact (List.getElem_inj hr'.nd).mp (x1.trans x2.symm)
  -- the new addresses
  have hmem : ∀ a, a ∈ f.map pick → ∃ m ∈ f, φ'[m]? = some a := fun a ha => by
    obtain ⟨m, hm, e⟩ := List.mem_map.mp ha
    exact ⟨m, hm, by rw [← e]; exact hpick m hm⟩
  have hnew : ∀ a ∈ f.map pick, H a = none := fun a ha => by
    obtain ⟨m, hm, e⟩ := hmem a ha
    obtain ⟨mo, e3, fr⟩ := k.ext
    rw [e3, List.getElem?_append_right (by rw [hr.len]; exact hn m hm)] at e
    exact fr a (List.mem_of_getElem? e)
  have hgetF : ∀ (j : Nat) (a : Addr), (φ'.take h2.length ++ f.map pick)[h2.length + j]? = some a → ∃ m, f[j]? = some m ∧ φ'[m]? = some a := fun j a e => by
    rw [List.getElem?_append_right (by omega), hl0, Nat.add_sub_cancel_left, List.getElem?_map] at e
    cases q : f[j]? with
    | none => rw [q] at e; cases e
    | some m =>
      rw [q] at e
      cases e
      exact ⟨m, rfl, hpick m (List.mem_of_getElem? q)⟩
  have hρ : ∀ i, i < h.length + g'.length → ∀ a, φ'[back h.length f i]? = some a → (φ'.take h2.length ++ f.map pick)[i]? = some a := fun i hi a e => by
    by_cases hlt : i < h.length
    · rw [back_lt hlt] at e
      rw [List.getElem?_append_left (by omega), List.getElem?_take_of_lt (by omega)]
      exact e
    · rw [List.getElem?_append_right (by omega), hl0, List.getElem?_map, h2l]
      have hj : i - h.length < f.length := by omega
      have e2 : f[i - h.length]? = some (back h.length f i) := by
        unfold back
        rw [if_neg hlt, List.getD_eq_getElem?_getD, List.getElem?_eq_getElem hj]
        rfl
      rw [e2]
      have := hpick _ (List.mem_of_getElem? e2)
      rw [this] at e
      exact e
  refine o (φ'.take h2.length ++ f.map pick) H' u ?_ ?_ (IsV.ren hρ bv t)
  · obtain ⟨mo, e3, fr⟩ := k0.ext
    refine ⟨⟨mo ++ f.map pick, by rw [e3, List.append_assoc], fun b hb => ?_⟩, k0.dom, k0.out, k0.tup, k0.frz⟩
    rcases List.mem_append.mp hb with hb | hb
    · exact fr b hb
    · exact hnew b hb
  · refine ⟨by rw [List.length_append, List.length_append, hl0, List.length_map, hf], ?_, fun n a ob e1 e2 => ?_⟩
    · rw [List.nodup_append]
      refine ⟨r0.nd, ?_, fun a ha b hb' z => ?_⟩
      · refine List.pairwise_map.mpr (List.Pairwise.imp_of_mem (fun {x y} hx hy hxy e => hxy ?_) nd)
        have ex := hpick x hx
        have ey := hpick y hy
        rw [show pick x = pick y from e] at ex
        exact inj ex ey
      · obtain ⟨m, hm, e⟩ := hmem b hb'
        obtain ⟨i, ei⟩ := List.mem_iff_getElem?.mp ha
        have hi : i < h2.length := by
          have := (List.getElem?_eq_some_iff.mp ei).1
          omega
        rw [List.getElem?_take_of_lt hi, z] at ei
        have := inj ei e
        have := hn m hm
        omega
    · by_cases hlt : n < h2.length
      · rw [List.getElem?_append_left hlt] at e2
        rw [List.getElem?_append_left (by omega)] at e1
        exact (r0.at_ n a ob e1 e2).more _
      · rw [List.getElem?_append_right (by omega)] at e2
        have e1' : (φ'.take h2.length ++ f.map pick)[h2.length + (n - h2.length)]? = some a := by
          rw [show h2.length + (n - h2.length) = n by omega]; exact e1
        obtain ⟨m, q1, q2⟩ := hgetF _ _ e1'
        obtain ⟨q3, q4⟩ := ho _ _ _ q1 e2
        exact OR.ren hρ q4 (hr'.at_ m a _ q2 q3)

/-! ### specs over the heap -/
open Classical in
noncomputable def specH {α : Type} (enc : α → List MV) (dom : α → MH → Prop) (out : α → MH → R MV) : List MV → MH → R MV := fun xs h =>
  if q : ∃ a, enc a = xs ∧ dom a h then out q.choose h else .bad
theorem specH_eq {α : Type} {enc : α → List MV} {dom : α → MH → Prop} {out : α → MH → R MV} {h : MH} (inj : ∀ a b, enc a = enc b → dom a h → dom b h → out a h = out b h) {a : α} (d : dom a h) : specH enc dom out (enc a) h = out a h := by
  unfold specH
  have q : ∃ b, enc b = enc a ∧ dom b h := ⟨a, rfl, d⟩
  rw [dif_pos q, inj _ _ q.choose_spec.1 q.choose_spec.2 d]
theorem specH_sim {α : Type} {enc : α → List MV} {dom : α → MH → Prop} {out : α → MH → R MV} {F : List MV → MH → R MV} (hs : ∀ a h, dom a h → Sim h (F (enc a) h) (out a h)) (xs : List MV) (h : MH) : Sim h (F xs h) (specH enc dom out xs h) := by
  unfold specH
  split
  · rename_i q
    have := hs q.choose h q.choose_spec.2
    rw [q.choose_spec.1] at this
    exact this
  · exact Sim.bad
end Mv

set_option maxHeartbeats 4000000
/-! Mv14: *e in a display, list(range(..)) -/
namespace Mv
open PySem PySem.Spec L2
open PyProof.Rows hiding St
section
variable {X : Cx} {W : WT} {pos : Pos} {a b c : Expr} {ma mb mc : ME} {es : List Expr} {mr : MA}
theorem sa_star {p : Pos} (ha : PE X a (tE (kc X) W ma)) (hr : PA X es (tA (kc X) W mr)) (hs : starEach (.Starred a p :: es) X.env = (true, eval a X.env) :: starEach es X.env := by rfl) : PA X (.Starred a p :: es) (tA (kc X) W (mStar ma mr)) := (StX.pa_star ha hr hs).imp fun σ H Q => by
  rintro ⟨φ, env, h, hr, er, o⟩
  refine tG_step hr er o fun φ1 H1 h1 x u k1 hr1 er1 t1 o1 => ?_
  cases e1 : itemsOf h1 x with
  | none => simp only [e1] at o1; exact o1.elim
  | some xs =>
    simp only [e1] at o1
    obtain ⟨p, vs, rfl, hp, ts⟩ := seq_of hr1 t1 e1
    refine ⟨p, vs, rfl, hp, ?_⟩
    refine tG_step hr1 er1 o1 fun φ2 H2 h2 ys us k2 hr2 er2 t2 o2 => ?_
    exact OkG.ok_here o2 hr2 (IsVs.append (ts.keep k2) t2)
def lrg (i j : Int) (h : MH) : R MV := if inR i = true ∧ inR j = true ∧ (j - i).toNat ≤ cap then .ok (.ref h.length) (h ++ [.lst (ivs (prog i 1 (j - i).toNat))]) else .bad
def mLRg2 (ma mb : ME) : ME := fun env h => (ma env h).bind fun x h1 => (mb env h1).bind fun y h2 => match x, y with
  | .int i, .int j => lrg i j h2
  | _, _ => .bad
def mLRg1 (mb : ME) : ME := fun env h => (mb env h).bind fun y h2 => match y with
  | .int j => lrg 0 j h2
  | _ => .bad
theorem isVs_rg {K : KC} {φ : List Addr} {H : Hp} (i j : Int) : IsVs K φ H (ivs (prog i 1 (j - i).toNat)) (rgV i j) := by
  have e : ivs (prog i 1 (j - i).toNat) = (List.range (j - i).toNat).map fun (k : Nat) => MV.int (i + (k : Int)) := by
    unfold ivs prog
    rw [List.map_map]
    apply List.map_congr_left
    intro k _
    show MV.int (i + (k : Int) * 1) = _
    rw [Int.mul_one]
  rw [e]
  unfold rgV
  generalize List.range (j - i).toNat = l
  induction l with
  | nil => exact .nil
  | cons k l ih => exact .cons (.int _) ih
theorem lrg_ok {K : KC} {Z : XW} {φ : List Addr} {H : Hp} {h : MH} {i j : Int} {Q : VK} (hr : HR K φ H h) (o : OkG K (IsV K) Z φ H (lrg i j h) Q) : RgOk i j ∧ ∀ q, H q = none → Q (.ref q) (upd H q (.lst (rgV i j))) := by
  unfold lrg at o
  split at o
  · rename_i hc
    obtain ⟨c1, c2, c3⟩ := hc
    have b1 := inR_ok c1
    have b2 := inR_ok c2
    refine ⟨⟨b1.1, b1.2, b2.1, b2.2, Nat.le_trans c3 (by decide)⟩, fun p hp => lay_ok hr (isVs_rg i j) (by rw [ints_length, prog_length]; exact c3) hp o⟩
  · exact o.elim
theorem se_lrg2 {p p2 pos2 : Pos} (hc : X.calm = true) (hg : Gl X "list") (hm : X.mg "list" = none) (hg2 : Gl X "range") (hm2 : X.mg "range" = none) (ha : PE X a (tE (kc X) W ma)) (hb : PE X b (tE (kc X) W mb))
    (na2 : starEach [a, b] X.env = (false, eval a X.env) :: starEach [b] X.env := by rfl) (nb : starEach [b] X.env = (false, eval b X.env) :: starEach [] X.env := by rfl) (hp : (backTo pos2 (starEach [b] X.env)).any (·.1) = false := by rfl)
    (na : starEach [.Call (.Name "range" p2) [a, b] [] pos2] X.env = (false, eval (.Call (.Name "range" p2) [a, b] [] pos2) X.env) :: starEach [] X.env := by rfl) :
    PE X (.Call (.Name "list" p) [.Call (.Name "range" p2) [a, b] [] pos2] [] pos) (tE (kc X) W (mLRg2 ma mb)) := (pe_listRg hc hg hm (prg_2 hg2 hm2 ha hb na2 nb hp) na).imp fun σ H Q => by
  rintro ⟨φ, env, h, hr, er, o⟩
  refine tG_step hr er o fun φ1 H1 h1 x u k1 hr1 er1 t1 o1 => ?_
  refine tG_step hr1 er1 o1 fun φ2 H2 h2 y v k2 hr2 er2 t2 o2 => ?_
  cases t1 with
  | int i =>
    cases t2 with
    | int j => exact ⟨i, j, rfl, rfl, lrg_ok hr2 o2⟩
    | _ => exact o2.elim
  | _ => exact o2.elim
theorem se_lrg1 {p p2 pos2 : Pos} (hc : X.calm = true) (hg : Gl X "list") (hm : X.mg "list" = none) (hg2 : Gl X "range") (hm2 : X.mg "range" = none) (hb : PE X b (tE (kc X) W mb))
    (nb : starEach [b] X.env = (false, eval b X.env) :: starEach [] X.env := by rfl)
    (na : starEach [.Call (.Name "range" p2) [b] [] pos2] X.env = (false, eval (.Call (.Name "range" p2) [b] [] pos2) X.env) :: starEach [] X.env := by rfl) :
    PE X (.Call (.Name "list" p) [.Call (.Name "range" p2) [b] [] pos2] [] pos) (tE (kc X) W (mLRg1 mb)) := (pe_listRg hc hg hm (prg_1 hg2 hm2 hb nb) na).imp fun σ H Q => by
  rintro ⟨φ, env, h, hr, er, o⟩
  refine tG_step hr er o fun φ2 H2 h2 y v k2 hr2 er2 t2 o2 => ?_
  cases t2 with
  | int j => exact ⟨j, rfl, lrg_ok hr2 o2⟩
  | _ => exact o2.elim
end
end Mv

set_option maxHeartbeats 4000000
namespace Mv
noncomputable section
open PySem PySem.Spec L2
/-- is_integer(value, low, high); slots ['value', 'low', 'high'] -/
def m_is_integer : MS :=
  mRet (mAndV (mIsi .int (mVar 0)) (mAndV (mNotV (mIsi .bool (mVar 0))) (mChain fLe fLe (mVar 1) (mVar 0) (mVar 2))))
def F_is_integer : List MV → MH → R MV := mDef 3 3 (m_is_integer)
/-- is_share(value); slots ['value'] -/
def m_is_share (G_is_integer : List MV → MH → R MV) : MS :=
  mSeq (mIfS (mOrT (mNotT (mAsB (mIsi .tuple (mVar 0)))) (mAsB (mBin fNe (mCall fLen (mCons (mVar 0) (mNil))) (mC (.int 2))))) (mRet (mC (.bl false))) (mNext))
    (mRet (mAndV (mDo 3 G_is_integer (mCons (mBin fIx (mVar 0) (mC (.int 0))) (mCons (mC (.int 0)) (mCons (mC (.int 4)) (mNil))))) (mDo 3 G_is_integer (mCons (mBin fIx (mVar 0) (mC (.int 1))) (mCons (mC (.int 1)) (mCons (mC (.int 4)) (mNil)))))))
def F_is_share (G_is_integer : List MV → MH → R MV) : List MV → MH → R MV := mDef 1 1 (m_is_share G_is_integer)
/-- Promise.__init__(self, reach, base, share, copies); slots ['self', 'reach', 'base', 'share', 'copies'] -/
def m_Promise_init (G_is_integer : List MV → MH → R MV) (G_is_share : List MV → MH → R MV) : MS :=
  mSeq (mIfS (mNotT (mAsB (mDo 3 G_is_integer (mCons (mVar 1) (mCons (mC (.int 0)) (mCons (mC (.int 6)) (mNil))))))) (mBad) (mNext))
    (mSeq (mIfS (mNotT (mAsB (mDo 3 G_is_integer (mCons (mVar 2) (mCons (mC (.int 0)) (mCons (mC (.int 3)) (mNil))))))) (mBad) (mNext))
    (mSeq (mIfS (mOrT (mNotT (mAsB (mDo 1 G_is_share (mCons (mVar 3) (mNil))))) (mAsB (mBin fGt (mBin fAdd (mBin fAdd (mVar 1) (mVar 2)) (mBin fDiv (mBin fMul (mVar 1) (mBin fIx (mVar 3) (mC (.int 0)))) (mBin fIx (mVar 3) (mC (.int 1))))) (mC (.int 9))))) (mBad) (mNext))
    (mSeq (mIfS (mNotT (mAsB (mDo 3 G_is_integer (mCons (mVar 4) (mCons (mC (.int 1)) (mCons (mC (.int 2)) (mNil))))))) (mBad) (mNext))
    (mSeq (mStF [(0, 0)] (mVar 0) (mVar 1))
    (mSeq (mStF [(0, 1)] (mVar 0) (mVar 2))
    (mSeq (mStF [(0, 2)] (mVar 0) (mVar 3))
    (mStF [(0, 3)] (mVar 0) (mVar 4))))))))
def F_Promise_init (G_is_integer : List MV → MH → R MV) (G_is_share : List MV → MH → R MV) : List MV → MH → R MV := mDef 5 5 (m_Promise_init G_is_integer G_is_share)
/-- Promise.reach(self); slots ['self'] -/
def m_Promise_reach : MS :=
  mRet (mFld [(0, 0)] (mVar 0))
def F_Promise_reach : List MV → MH → R MV := mDef 1 1 (m_Promise_reach)
/-- Promise.base(self); slots ['self'] -/
def m_Promise_base : MS :=
  mRet (mFld [(0, 1)] (mVar 0))
def F_Promise_base : List MV → MH → R MV := mDef 1 1 (m_Promise_base)
/-- Promise.share(self); slots ['self'] -/
def m_Promise_share : MS :=
  mRet (mFld [(0, 2)] (mVar 0))
def F_Promise_share : List MV → MH → R MV := mDef 1 1 (m_Promise_share)
/-- Promise.copies(self); slots ['self'] -/
def m_Promise_copies : MS :=
  mRet (mFld [(0, 3)] (mVar 0))
def F_Promise_copies : List MV → MH → R MV := mDef 1 1 (m_Promise_copies)
/-- Promise.all_parts(self); slots ['self'] -/
def m_Promise_all_parts : MS :=
  mRet (mLst (mCons (mFld [(0, 0)] (mVar 0)) (mCons (mFld [(0, 1)] (mVar 0)) (mCons (mFld [(0, 2)] (mVar 0)) (mCons (mFld [(0, 3)] (mVar 0)) (mNil))))))
def F_Promise_all_parts : List MV → MH → R MV := mDef 1 1 (m_Promise_all_parts)
/-- Promise.__eq__(self, other); slots ['self', 'other'] -/
def m_Promise_eq (G_Promise_all_parts : List MV → MH → R MV) : MS :=
  mRet (mAndV (mIsC [(0, true)] (mVar 1)) (mBin fEq (mMeth [(0, G_Promise_all_parts)] 1 (mVar 0) (mNil)) (mMeth [(0, G_Promise_all_parts)] 1 (mVar 1) (mNil))))
def F_Promise_eq (G_Promise_all_parts : List MV → MH → R MV) : List MV → MH → R MV := mDef 2 2 (m_Promise_eq G_Promise_all_parts)
/-- _wall(k); slots ['k'] -/
def m__wall : MS :=
  mWhile (mAsB (mC (.bl true))) (mNext)
def F__wall : List MV → MH → R MV := mDef 1 1 (m__wall)
/-- Promise.slack(self, age); slots ['self', 'age'] -/
def m_Promise_slack (G__wall : List MV → MH → R MV) : MS :=
  mDrop (mDo 1 G__wall (mCons (mC (.int 0)) (mNil)))
def F_Promise_slack (G__wall : List MV → MH → R MV) : List MV → MH → R MV := mDef 2 2 (m_Promise_slack G__wall)
/-- slack_at(promise, age); slots ['promise', 'age'] -/
def m_slack_at : MS :=
  mRet (mBin fAdd (mFld [(0, 1)] (mVar 0)) (mBin fDiv (mBin fMul (mVar 1) (mBin fIx (mFld [(0, 2)] (mVar 0)) (mC (.int 0)))) (mBin fIx (mFld [(0, 2)] (mVar 0)) (mC (.int 1)))))
def F_slack_at : List MV → MH → R MV := mDef 2 2 (m_slack_at)
/-- horizon_of(promise); slots ['promise'] -/
def m_horizon_of (G_slack_at : List MV → MH → R MV) : MS :=
  mRet (mBin fAdd (mFld [(0, 0)] (mVar 0)) (mDo 2 G_slack_at (mCons (mVar 0) (mCons (mFld [(0, 0)] (mVar 0)) (mNil)))))
def F_horizon_of (G_slack_at : List MV → MH → R MV) : List MV → MH → R MV := mDef 1 1 (m_horizon_of G_slack_at)
/-- Promise.horizon(self); slots ['self'] -/
def m_Promise_horizon (G_horizon_of : List MV → MH → R MV) : MS :=
  mRet (mDo 1 G_horizon_of (mCons (mVar 0) (mNil)))
def F_Promise_horizon (G_horizon_of : List MV → MH → R MV) : List MV → MH → R MV := mDef 1 1 (m_Promise_horizon G_horizon_of)
/-- Keeps.__init__(self, states); slots ['self', 'states'] -/
def m_Keeps_init : MS :=
  mStF [(6, 0)] (mVar 0) (mCall fList (mCons (mVar 1) (mNil)))
def F_Keeps_init : List MV → MH → R MV := mDef 2 2 (m_Keeps_init)
/-- Keeps.__eq__(self, other); slots ['self', 'other'] -/
def m_Keeps_eq : MS :=
  mRet (mAndV (mIsC [(6, true), (7, false)] (mVar 1)) (mBin fEq (mFld [(6, 0)] (mVar 0)) (mFld [(6, 0)] (mVar 1))))
def F_Keeps_eq : List MV → MH → R MV := mDef 2 2 (m_Keeps_eq)
/-- Keeps.shows(self, promise, rule); slots ['self', 'promise', 'rule'] -/
def m_Keeps_shows (G__wall : List MV → MH → R MV) : MS :=
  mDrop (mDo 1 G__wall (mCons (mC (.int 1)) (mNil)))
def F_Keeps_shows (G__wall : List MV → MH → R MV) : List MV → MH → R MV := mDef 3 3 (m_Keeps_shows G__wall)
/-- Misses.__init__(self, time, age); slots ['self', 'time', 'age'] -/
def m_Misses_init : MS :=
  mSeq (mStF [(7, 0)] (mVar 0) (mVar 1))
    (mStF [(7, 1)] (mVar 0) (mVar 2))
def F_Misses_init : List MV → MH → R MV := mDef 3 3 (m_Misses_init)
/-- Misses.__eq__(self, other); slots ['self', 'other'] -/
def m_Misses_eq : MS :=
  mRet (mAndV (mIsC [(6, false), (7, true)] (mVar 1)) (mAndV (mBin fEq (mFld [(7, 0)] (mVar 0)) (mFld [(7, 0)] (mVar 1))) (mBin fEq (mFld [(7, 1)] (mVar 0)) (mFld [(7, 1)] (mVar 1)))))
def F_Misses_eq : List MV → MH → R MV := mDef 2 2 (m_Misses_eq)
/-- Misses.shows(self, promise, rule); slots ['self', 'promise', 'rule'] -/
def m_Misses_shows (G__wall : List MV → MH → R MV) : MS :=
  mDrop (mDo 1 G__wall (mCons (mC (.int 2)) (mNil)))
def F_Misses_shows (G__wall : List MV → MH → R MV) : List MV → MH → R MV := mDef 3 3 (m_Misses_shows G__wall)
/-- check_promise(promise); slots ['promise'] -/
def m_check_promise : MS :=
  mIfS (mNotT (mAsB (mIsC [(0, true)] (mVar 0)))) (mBad) (mNext)
def F_check_promise : List MV → MH → R MV := mDef 1 1 (m_check_promise)
/-- is_pair(value); slots ['value'] -/
def m_is_pair (G_is_integer : List MV → MH → R MV) : MS :=
  mSeq (mIfS (mOrT (mNotT (mAsB (mIsi .tuple (mVar 0)))) (mAsB (mBin fNe (mCall fLen (mCons (mVar 0) (mNil))) (mC (.int 2))))) (mRet (mC (.bl false))) (mNext))
    (mRet (mAndV (mDo 3 G_is_integer (mCons (mBin fIx (mVar 0) (mC (.int 0))) (mCons (mC (.int 1)) (mCons (mC (.int 6)) (mNil))))) (mDo 3 G_is_integer (mCons (mBin fIx (mVar 0) (mC (.int 1))) (mCons (mC (.int 0)) (mCons (mC (.int 12)) (mNil)))))))
def F_is_pair (G_is_integer : List MV → MH → R MV) : List MV → MH → R MV := mDef 1 1 (m_is_pair G_is_integer)
/-- check_rule(rule); slots ['rule', 'index', 'pair'] -/
def m_check_rule (G_is_pair : List MV → MH → R MV) : MS :=
  mSeq (mIfS (mOrT (mNotT (mAsB (mIsi .tuple (mVar 0)))) (mNotT (mAsB (mChain fLe fLe (mC (.int 1)) (mCall fLen (mCons (mVar 0) (mNil))) (mC (.int 3)))))) (mBad) (mNext))
    (mFor (mEnumV (mCons (mVar 0) (mNil))) (gT [1, 2]) (mIfS (mNotT (mAsB (mDo 1 G_is_pair (mCons (mVar 2) (mNil))))) (mBad) (mNext)))
def F_check_rule (G_is_pair : List MV → MH → R MV) : List MV → MH → R MV := mDef 1 3 (m_check_rule G_is_pair)
/-- is_held(rule, taken, time); slots ['rule', 'taken', 'time', 'every', 'until'] -/
def m_is_held : MS :=
  mRet (mCall fAny (mCons (mLc (mItV (mVar 0)) (gT [3, 4]) (mYes) (mAndV (mBin fEq (mBin fMod (mVar 1) (mVar 3)) (mC (.int 0))) (mChain fLe fLe (mC (.int 0)) (mBin fSub (mVar 2) (mVar 1)) (mVar 4))) [3, 4]) (mNil)))
def F_is_held : List MV → MH → R MV := mDef 3 5 (m_is_held)
/-- settled_of(rule); slots ['rule', 'every', 'until'] -/
def m_settled_of : MS :=
  mRet (mCall fMax (mCons (mLc (mItV (mVar 0)) (gT [1, 2]) (mYes) (mVar 2) [1, 2]) (mNil)))
def F_settled_of : List MV → MH → R MV := mDef 1 3 (m_settled_of)
/-- held_at(rule, time); slots ['rule', 'time', 'age'] -/
def m_held_at (G_settled_of : List MV → MH → R MV) (G_is_held : List MV → MH → R MV) : MS :=
  mRet (mCall fTuple (mCons (mLc (mRng1 (mCons (mBin fAdd (mCall fMin (mCons (mVar 1) (mCons (mDo 1 G_settled_of (mCons (mVar 0) (mNil))) (mNil)))) (mC (.int 1))) (mNil))) (gN 2) (mAsB (mDo 3 G_is_held (mCons (mVar 0) (mCons (mBin fSub (mVar 1) (mVar 2)) (mCons (mVar 1) (mNil)))))) (mVar 2) [2]) (mNil)))
def F_held_at (G_settled_of : List MV → MH → R MV) (G_is_held : List MV → MH → R MV) : List MV → MH → R MV := mDef 2 3 (m_held_at G_settled_of G_is_held)
/-- common(one, other); slots ['one', 'other', 'number'] -/
def m_common : MS :=
  mRet (mBin fIx (mLc (mRng3 (mCons (mVar 0) (mCons (mBin fAdd (mBin fMul (mVar 0) (mVar 1)) (mC (.int 1))) (mCons (mVar 0) (mNil))))) (gN 2) (mAsB (mBin fEq (mBin fMod (mVar 2) (mVar 1)) (mC (.int 0)))) (mVar 2) [2]) (mC (.int 0)))
def F_common : List MV → MH → R MV := mDef 2 3 (m_common)
/-- turn_of(rule); slots ['rule', 'found', 'every', 'until'] -/
def m_turn_of (G_common : List MV → MH → R MV) : MS :=
  mSeq (mSet 1 (mC (.int 1)))
    (mSeq (mFor (mItV (mVar 0)) (gT [2, 3]) (mSet 1 (mDo 2 G_common (mCons (mVar 1) (mCons (mVar 2) (mNil))))))
    (mRet (mVar 1)))
def F_turn_of (G_common : List MV → MH → R MV) : List MV → MH → R MV := mDef 1 4 (m_turn_of G_common)
/-- round_of(rule); slots ['rule', 'more'] -/
def m_round_of (G_turn_of : List MV → MH → R MV) (G_settled_of : List MV → MH → R MV) (G_held_at : List MV → MH → R MV) : MS :=
  mRet (mLc (mRng1 (mCons (mDo 1 G_turn_of (mCons (mVar 0) (mNil))) (mNil))) (gN 1) (mYes) (mDo 2 G_held_at (mCons (mVar 0) (mCons (mBin fAdd (mDo 1 G_settled_of (mCons (mVar 0) (mNil))) (mVar 1)) (mNil)))) [1])
def F_round_of (G_turn_of : List MV → MH → R MV) (G_settled_of : List MV → MH → R MV) (G_held_at : List MV → MH → R MV) : List MV → MH → R MV := mDef 1 2 (m_round_of G_turn_of G_settled_of G_held_at)
/-- period_of(rule); slots ['rule', 'rows', 'able', 'number'] -/
def m_period_of (G_round_of : List MV → MH → R MV) : MS :=
  mSeq (mSet 1 (mDo 1 G_round_of (mCons (mVar 0) (mNil))))
    (mSeq (mSet 2 (mLc (mRng2 (mCons (mC (.int 1)) (mCons (mBin fAdd (mCall fLen (mCons (mVar 1) (mNil))) (mC (.int 1))) (mNil)))) (gN 3) (mAsB (mBin fEq (mBin fMod (mCall fLen (mCons (mVar 1) (mNil))) (mVar 3)) (mC (.int 0)))) (mVar 3) [3]))
    (mRet (mBin fIx (mLc (mItV (mVar 2)) (gN 3) (mAsB (mBin fEq (mBin fAdd (mSl (mVar 1) (mPart (mVar 3)) (mNoP)) (mSl (mVar 1) (mNoP) (mPart (mVar 3)))) (mVar 1))) (mVar 3) [3]) (mC (.int 0)))))
def F_period_of (G_round_of : List MV → MH → R MV) : List MV → MH → R MV := mDef 1 4 (m_period_of G_round_of)
/-- holds_for(promise, state, age); slots ['promise', 'state', 'age', 'able', 'one'] -/
def m_holds_for (G_slack_at : List MV → MH → R MV) : MS :=
  mSeq (mSet 3 (mLc (mItV (mVar 1)) (gN 4) (mAsB (mChain fLe fLe (mVar 2) (mVar 4) (mBin fAdd (mVar 2) (mDo 2 G_slack_at (mCons (mVar 0) (mCons (mVar 2) (mNil))))))) (mVar 4) [4]))
    (mRet (mBin fGe (mCall fLen (mCons (mVar 3) (mNil))) (mFld [(0, 3)] (mVar 0))))
def F_holds_for (G_slack_at : List MV → MH → R MV) : List MV → MH → R MV := mDef 3 5 (m_holds_for G_slack_at)
/-- is_good(promise, state); slots ['promise', 'state', 'age'] -/
def m_is_good (G_holds_for : List MV → MH → R MV) : MS :=
  mRet (mCall fAll (mCons (mLc (mRng1 (mCons (mBin fAdd (mFld [(0, 0)] (mVar 0)) (mC (.int 1))) (mNil))) (gN 2) (mYes) (mDo 3 G_holds_for (mCons (mVar 0) (mCons (mVar 1) (mCons (mVar 2) (mNil))))) [2]) (mNil)))
def F_is_good (G_holds_for : List MV → MH → R MV) : List MV → MH → R MV := mDef 2 3 (m_is_good G_holds_for)
/-- young(promise, ages); slots ['promise', 'ages', 'age'] -/
def m_young (G_horizon_of : List MV → MH → R MV) : MS :=
  mRet (mCall fTuple (mCons (mLc (mItV (mVar 1)) (gN 2) (mAsB (mBin fLe (mVar 2) (mDo 1 G_horizon_of (mCons (mVar 0) (mNil))))) (mVar 2) [2]) (mNil)))
def F_young (G_horizon_of : List MV → MH → R MV) : List MV → MH → R MV := mDef 2 3 (m_young G_horizon_of)
/-- state_at(promise, rule, time); slots ['promise', 'rule', 'time'] -/
def m_state_at (G_held_at : List MV → MH → R MV) (G_young : List MV → MH → R MV) : MS :=
  mRet (mDo 2 G_young (mCons (mVar 0) (mCons (mDo 2 G_held_at (mCons (mVar 1) (mCons (mVar 2) (mNil)))) (mNil))))
def F_state_at (G_held_at : List MV → MH → R MV) (G_young : List MV → MH → R MV) : List MV → MH → R MV := mDef 3 3 (m_state_at G_held_at G_young)
/-- times_of(rule); slots ['rule', 'more'] -/
def m_times_of (G_period_of : List MV → MH → R MV) (G_settled_of : List MV → MH → R MV) : MS :=
  mRet (mLc (mRng1 (mCons (mDo 1 G_period_of (mCons (mVar 0) (mNil))) (mNil))) (gN 1) (mYes) (mBin fAdd (mDo 1 G_settled_of (mCons (mVar 0) (mNil))) (mVar 1)) [1])
def F_times_of (G_period_of : List MV → MH → R MV) (G_settled_of : List MV → MH → R MV) : List MV → MH → R MV := mDef 1 2 (m_times_of G_period_of G_settled_of)
/-- first_broken(promise, state); slots ['promise', 'state', 'found', 'age'] -/
def m_first_broken (G_holds_for : List MV → MH → R MV) : MS :=
  mSeq (mSet 2 (mLc (mRng1 (mCons (mBin fAdd (mFld [(0, 0)] (mVar 0)) (mC (.int 1))) (mNil))) (gN 3) (mNotT (mAsB (mDo 3 G_holds_for (mCons (mVar 0) (mCons (mVar 1) (mCons (mVar 3) (mNil))))))) (mVar 3) [3]))
    (mRet (mIf (mAsB (mBin fNe (mVar 2) (mLst (mNil)))) (mBin fIx (mVar 2) (mC (.int 0))) (mC .non)))
def F_first_broken (G_holds_for : List MV → MH → R MV) : List MV → MH → R MV := mDef 2 4 (m_first_broken G_holds_for)
/-- judge_of(promise, rule); slots ['promise', 'rule', 'rows', 'time', 'state'] -/
def m_judge_of (G_times_of : List MV → MH → R MV) (G_state_at : List MV → MH → R MV) (G_is_good : List MV → MH → R MV) (G_Misses_init : List MV → MH → R MV) (G_first_broken : List MV → MH → R MV) (G_Keeps_init : List MV → MH → R MV) : MS :=
  mSeq (mSet 2 (mLc (mItV (mDo 1 G_times_of (mCons (mVar 1) (mNil)))) (gN 3) (mYes) (mTup (mCons (mVar 3) (mCons (mDo 3 G_state_at (mCons (mVar 0) (mCons (mVar 1) (mCons (mVar 3) (mNil))))) (mNil)))) [3]))
    (mSeq (mFor (mItV (mVar 2)) (gT [3, 4]) (mIfS (mNotT (mAsB (mDo 2 G_is_good (mCons (mVar 0) (mCons (mVar 4) (mNil)))))) (mRet (mMake 7 3 G_Misses_init (mCons (mVar 3) (mCons (mDo 2 G_first_broken (mCons (mVar 0) (mCons (mVar 4) (mNil)))) (mNil))))) (mNext)))
    (mRet (mMake 6 2 G_Keeps_init (mCons (mLc (mItV (mVar 2)) (gT [3, 4]) (mYes) (mVar 4) [3, 4]) (mNil)))))
def F_judge_of (G_times_of : List MV → MH → R MV) (G_state_at : List MV → MH → R MV) (G_is_good : List MV → MH → R MV) (G_Misses_init : List MV → MH → R MV) (G_first_broken : List MV → MH → R MV) (G_Keeps_init : List MV → MH → R MV) : List MV → MH → R MV := mDef 2 5 (m_judge_of G_times_of G_state_at G_is_good G_Misses_init G_first_broken G_Keeps_init)
/-- judge(promise, rule); slots ['promise', 'rule'] -/
def m_judge (G_check_promise : List MV → MH → R MV) (G_check_rule : List MV → MH → R MV) (G_judge_of : List MV → MH → R MV) : MS :=
  mSeq (mDrop (mDo 1 G_check_promise (mCons (mVar 0) (mNil))))
    (mSeq (mDrop (mDo 1 G_check_rule (mCons (mVar 1) (mNil))))
    (mRet (mDo 2 G_judge_of (mCons (mVar 0) (mCons (mVar 1) (mNil))))))
def F_judge (G_check_promise : List MV → MH → R MV) (G_check_rule : List MV → MH → R MV) (G_judge_of : List MV → MH → R MV) : List MV → MH → R MV := mDef 2 2 (m_judge G_check_promise G_check_rule G_judge_of)
/-- check_kept(promise, rule); slots ['promise', 'rule'] -/
def m_check_kept (G_judge : List MV → MH → R MV) : MS :=
  mIfS (mNotT (mAsB (mIsC [(6, true), (7, false)] (mDo 2 G_judge (mCons (mVar 0) (mCons (mVar 1) (mNil))))))) (mBad) (mNext)
def F_check_kept (G_judge : List MV → MH → R MV) : List MV → MH → R MV := mDef 2 2 (m_check_kept G_judge)
/-- check_pause(promise, rule, begin, ticks); slots ['promise', 'rule', 'begin', 'ticks'] -/
def m_check_pause (G_check_kept : List MV → MH → R MV) (G_is_integer : List MV → MH → R MV) : MS :=
  mSeq (mDrop (mDo 2 G_check_kept (mCons (mVar 0) (mCons (mVar 1) (mNil)))))
    (mIfS (mOrT (mNotT (mAsB (mDo 3 G_is_integer (mCons (mVar 2) (mCons (mC (.int 0)) (mCons (mC (.int 1000)) (mNil))))))) (mNotT (mAsB (mDo 3 G_is_integer (mCons (mVar 3) (mCons (mC (.int 0)) (mCons (mC (.int 12)) (mNil)))))))) (mBad) (mNext))
def F_check_pause (G_check_kept : List MV → MH → R MV) (G_is_integer : List MV → MH → R MV) : List MV → MH → R MV := mDef 4 4 (m_check_pause G_check_kept G_is_integer)
/-- check_loss(promise, rule, taken, lost); slots ['promise', 'rule', 'taken', 'lost'] -/
def m_check_loss (G_check_kept : List MV → MH → R MV) (G_is_integer : List MV → MH → R MV) (G_is_held : List MV → MH → R MV) : MS :=
  mSeq (mDrop (mDo 2 G_check_kept (mCons (mVar 0) (mCons (mVar 1) (mNil)))))
    (mIfS (mOrT (mNotT (mAsB (mDo 3 G_is_integer (mCons (mVar 2) (mCons (mC (.int 0)) (mCons (mC (.int 1000)) (mNil))))))) (mOrT (mNotT (mAsB (mDo 3 G_is_integer (mCons (mVar 3) (mCons (mC (.int 0)) (mCons (mC (.int 1000)) (mNil))))))) (mNotT (mAsB (mDo 3 G_is_held (mCons (mVar 1) (mCons (mVar 2) (mCons (mVar 3) (mNil))))))))) (mBad) (mNext))
def F_check_loss (G_check_kept : List MV → MH → R MV) (G_is_integer : List MV → MH → R MV) (G_is_held : List MV → MH → R MV) : List MV → MH → R MV := mDef 4 4 (m_check_loss G_check_kept G_is_integer G_is_held)
/-- broken_without(promise, rule, first, gone); slots ['promise', 'rule', 'first', 'gone', 'found', 'time', 'ages', 'age'] -/
def m_broken_without (G_settled_of : List MV → MH → R MV) (G_held_at : List MV → MH → R MV) (G_young : List MV → MH → R MV) (G_is_good : List MV → MH → R MV) : MS :=
  mSeq (mSet 4 (mLst (mNil)))
    (mSeq (mFor (mRng2 (mCons (mCall fMax (mCons (mVar 2) (mCons (mDo 1 G_settled_of (mCons (mVar 1) (mNil))) (mNil)))) (mCons (mBin fAdd (mBin fAdd (mCall fMax (mCons (mLst (mCons (mVar 2) (mStar (mVar 3) (mNil)))) (mNil))) (mDo 1 G_settled_of (mCons (mVar 1) (mNil)))) (mC (.int 1))) (mNil)))) (gN 5) (mSeq (mSet 6 (mLc (mItV (mDo 2 G_held_at (mCons (mVar 1) (mCons (mVar 5) (mNil))))) (gN 7) (mAsB (mBin fNotIn (mBin fSub (mVar 5) (mVar 7)) (mVar 3))) (mVar 7) [7]))
    (mIfS (mNotT (mAsB (mDo 2 G_is_good (mCons (mVar 0) (mCons (mDo 2 G_young (mCons (mVar 0) (mCons (mVar 6) (mNil)))) (mNil)))))) (mDrop (mLm fAppend (mVar 4) (mCons (mVar 5) (mNil)))) (mNext))))
    (mRet (mVar 4)))
def F_broken_without (G_settled_of : List MV → MH → R MV) (G_held_at : List MV → MH → R MV) (G_young : List MV → MH → R MV) (G_is_good : List MV → MH → R MV) : List MV → MH → R MV := mDef 4 8 (m_broken_without G_settled_of G_held_at G_young G_is_good)
/-- healed_from(rule, first, times); slots ['rule', 'first', 'times', 'time'] -/
def m_healed_from (G_settled_of : List MV → MH → R MV) : MS :=
  mRet (mCall fMax (mCons (mLst (mCons (mVar 1) (mCons (mDo 1 G_settled_of (mCons (mVar 0) (mNil))) (mStar (mLc (mItV (mVar 2)) (gN 3) (mYes) (mBin fAdd (mVar 3) (mC (.int 1))) [3]) (mNil))))) (mNil)))
def F_healed_from (G_settled_of : List MV → MH → R MV) : List MV → MH → R MV := mDef 3 4 (m_healed_from G_settled_of)
/-- pause_times(begin, ticks); slots ['begin', 'ticks'] -/
def m_pause_times : MS :=
  mRet (mLRg2 (mVar 0) (mBin fAdd (mVar 0) (mVar 1)))
def F_pause_times : List MV → MH → R MV := mDef 2 2 (m_pause_times)
/-- broken_by_pause(promise, rule, begin, ticks); slots ['promise', 'rule', 'begin', 'ticks'] -/
def m_broken_by_pause (G_check_pause : List MV → MH → R MV) (G_pause_times : List MV → MH → R MV) (G_broken_without : List MV → MH → R MV) : MS :=
  mSeq (mDrop (mDo 4 G_check_pause (mCons (mVar 0) (mCons (mVar 1) (mCons (mVar 2) (mCons (mVar 3) (mNil)))))))
    (mRet (mDo 4 G_broken_without (mCons (mVar 0) (mCons (mVar 1) (mCons (mVar 2) (mCons (mDo 2 G_pause_times (mCons (mVar 2) (mCons (mVar 3) (mNil)))) (mNil)))))))
def F_broken_by_pause (G_check_pause : List MV → MH → R MV) (G_pause_times : List MV → MH → R MV) (G_broken_without : List MV → MH → R MV) : List MV → MH → R MV := mDef 4 4 (m_broken_by_pause G_check_pause G_pause_times G_broken_without)
/-- healed_after_pause(promise, rule, begin, ticks); slots ['promise', 'rule', 'begin', 'ticks'] -/
def m_healed_after_pause (G_broken_by_pause : List MV → MH → R MV) (G_healed_from : List MV → MH → R MV) : MS :=
  mRet (mDo 3 G_healed_from (mCons (mVar 1) (mCons (mVar 2) (mCons (mDo 4 G_broken_by_pause (mCons (mVar 0) (mCons (mVar 1) (mCons (mVar 2) (mCons (mVar 3) (mNil)))))) (mNil)))))
def F_healed_after_pause (G_broken_by_pause : List MV → MH → R MV) (G_healed_from : List MV → MH → R MV) : List MV → MH → R MV := mDef 4 4 (m_healed_after_pause G_broken_by_pause G_healed_from)
/-- broken_by_loss(promise, rule, taken, lost); slots ['promise', 'rule', 'taken', 'lost'] -/
def m_broken_by_loss (G_check_loss : List MV → MH → R MV) (G_broken_without : List MV → MH → R MV) : MS :=
  mSeq (mDrop (mDo 4 G_check_loss (mCons (mVar 0) (mCons (mVar 1) (mCons (mVar 2) (mCons (mVar 3) (mNil)))))))
    (mRet (mDo 4 G_broken_without (mCons (mVar 0) (mCons (mVar 1) (mCons (mVar 3) (mCons (mLst (mCons (mVar 2) (mNil))) (mNil)))))))
def F_broken_by_loss (G_check_loss : List MV → MH → R MV) (G_broken_without : List MV → MH → R MV) : List MV → MH → R MV := mDef 4 4 (m_broken_by_loss G_check_loss G_broken_without)
/-- healed_after_loss(promise, rule, taken, lost); slots ['promise', 'rule', 'taken', 'lost'] -/
def m_healed_after_loss (G_broken_by_loss : List MV → MH → R MV) (G_healed_from : List MV → MH → R MV) : MS :=
  mRet (mDo 3 G_healed_from (mCons (mVar 1) (mCons (mVar 3) (mCons (mDo 4 G_broken_by_loss (mCons (mVar 0) (mCons (mVar 1) (mCons (mVar 2) (mCons (mVar 3) (mNil)))))) (mNil)))))
def F_healed_after_loss (G_broken_by_loss : List MV → MH → R MV) (G_healed_from : List MV → MH → R MV) : List MV → MH → R MV := mDef 4 4 (m_healed_after_loss G_broken_by_loss G_healed_from)
/-- worst_loss(promise, rule); slots ['promise', 'rule', 'found', 'time', 'age', 'most', 'many', 'row'] -/
def m_worst_loss (G_check_kept : List MV → MH → R MV) (G_settled_of : List MV → MH → R MV) (G_period_of : List MV → MH → R MV) (G_held_at : List MV → MH → R MV) (G_broken_without : List MV → MH → R MV) : MS :=
  mSeq (mDrop (mDo 2 G_check_kept (mCons (mVar 0) (mCons (mVar 1) (mNil)))))
    (mSeq (mSet 2 (mLst (mNil)))
    (mSeq (mFor (mRng2 (mCons (mDo 1 G_settled_of (mCons (mVar 1) (mNil))) (mCons (mBin fAdd (mDo 1 G_settled_of (mCons (mVar 1) (mNil))) (mDo 1 G_period_of (mCons (mVar 1) (mNil)))) (mNil)))) (gN 3) (mFor (mItV (mDo 2 G_held_at (mCons (mVar 1) (mCons (mVar 3) (mNil))))) (gN 4) (mDrop (mLm fAppend (mVar 2) (mCons (mTup (mCons (mVar 3) (mCons (mVar 4) (mCons (mCall fLen (mCons (mDo 4 G_broken_without (mCons (mVar 0) (mCons (mVar 1) (mCons (mVar 3) (mCons (mLst (mCons (mBin fSub (mVar 3) (mVar 4)) (mNil))) (mNil)))))) (mNil))) (mNil))))) (mNil))))))
    (mSeq (mSet 5 (mCall fMax (mCons (mLc (mItV (mVar 2)) (gT [3, 4, 6]) (mYes) (mVar 6) [3, 4, 6]) (mNil))))
    (mRet (mBin fIx (mLc (mItV (mVar 2)) (gN 7) (mAsB (mBin fEq (mBin fIx (mVar 7) (mC (.int 2))) (mVar 5))) (mVar 7) [7]) (mC (.int 0)))))))
def F_worst_loss (G_check_kept : List MV → MH → R MV) (G_settled_of : List MV → MH → R MV) (G_period_of : List MV → MH → R MV) (G_held_at : List MV → MH → R MV) (G_broken_without : List MV → MH → R MV) : List MV → MH → R MV := mDef 2 8 (m_worst_loss G_check_kept G_settled_of G_period_of G_held_at G_broken_without)
/-- _law_cell_at(_law_script, _law_k); slots ['_law_script', '_law_k'] -/
def m_l_cell_at : MS :=
  mSeq (mIfS (mAsB (mBin fLt (mVar 1) (mCall fLen (mCons (mVar 0) (mNil))))) (mRet (mBin fIx (mVar 0) (mVar 1))) (mNext))
    (mRet (mC (.int 0)))
def F_l_cell_at : List MV → MH → R MV := mDef 2 2 (m_l_cell_at)
/-- _law_draw(_law_cell, _law_k, _law_bound); slots ['_law_cell', '_law_k', '_law_bound', '_law_primes'] -/
def m_l_draw : MS :=
  mSeq (mSet 3 (mTup (mCons (mC (.int 1000003)) (mCons (mC (.int 1000033)) (mCons (mC (.int 1000037)) (mCons (mC (.int 1000039)) (mCons (mC (.int 1000081)) (mCons (mC (.int 1000099)) (mCons (mC (.int 1000117)) (mCons (mC (.int 1000121)) (mCons (mC (.int 1000133)) (mCons (mC (.int 1000151)) (mCons (mC (.int 1000159)) (mCons (mC (.int 1000171)) (mCons (mC (.int 1000183)) (mCons (mC (.int 1000187)) (mCons (mC (.int 1000193)) (mCons (mC (.int 1000199)) (mNil)))))))))))))))))))
    (mRet (mBin fMod (mBin fMod (mCall fInt (mCons (mBin fAdd (mBin fMul (mVar 0) (mC (.int 48271))) (mBin fMul (mVar 1) (mC (.int 69621)))) (mNil))) (mBin fIx (mVar 3) (mBin fMod (mCall fInt (mCons (mVar 1) (mNil))) (mC (.int 16))))) (mVar 2)))
def F_l_draw : List MV → MH → R MV := mDef 3 4 (m_l_draw)
/-- _law_number(_law_cell, _law_k, _law_bound); slots ['_law_cell', '_law_k', '_law_bound', '_law_power', '_law_times', '_law_remains', '_law_small'] -/
def m_l_number (G_l_draw : List MV → MH → R MV) : MS :=
  mSeq (mSet 3 (mC (.int 1)))
    (mSeq (mFor (mRng1 (mCons (mBin fMod (mCall fInt (mCons (mVar 1) (mNil))) (mC (.int 24))) (mNil))) (gN 4) (mSet 3 (mBin fMul (mVar 3) (mC (.int 1009)))))
    (mSeq (mSet 5 (mBin fDiv (mBin fSub (mVar 0) (mBin fPow (mC (.int 10)) (mC (.int 18)))) (mVar 3)))
    (mSeq (mIfS (mAsB (mBin fGt (mVar 5) (mC (.int 0)))) (mRet (mBin fMod (mBin fMod (mCall fInt (mCons (mVar 5) (mNil))) (mC (.int 1009))) (mVar 2))) (mNext))
    (mSeq (mSet 6 (mBin fMod (mCall fInt (mCons (mVar 0) (mNil))) (mC (.int 1000003))))
    (mRet (mBin fMod (mDo 3 G_l_draw (mCons (mBin fMul (mBin fAdd (mVar 6) (mBin fMul (mC (.int 977)) (mVar 1))) (mBin fAdd (mBin fAdd (mVar 6) (mBin fMul (mC (.int 31)) (mVar 1))) (mC (.int 5)))) (mCons (mBin fAdd (mBin fMod (mCall fInt (mCons (mVar 1) (mNil))) (mC (.int 9))) (mC (.int 1))) (mCons (mC (.int 999983)) (mNil))))) (mVar 2)))))))
def F_l_number (G_l_draw : List MV → MH → R MV) : List MV → MH → R MV := mDef 3 7 (m_l_number G_l_draw)
/-- _law_next(_law_draw_here, _law_bound); slots ['_law_draw_here', '_law_bound', '_law_at', '_law_cell'] -/
def m_l_next (G_l_cell_at : List MV → MH → R MV) (G_l_number : List MV → MH → R MV) : MS :=
  mSeq (mStore (mBin fAdd (mBin fIx (mVar 0) (mC (.int 2))) (mC (.int 1))) (mVar 0) (mC (.int 2)))
    (mSeq (mSet 2 (mBin fDiv (mBin fIx (mVar 0) (mC (.int 2))) (mC (.int 12))))
    (mSeq (mSet 3 (mBin fAdd (mDo 2 G_l_cell_at (mCons (mBin fIx (mVar 0) (mC (.int 0))) (mCons (mBin fAdd (mBin fIx (mVar 0) (mC (.int 1))) (mVar 2)) (mNil)))) (mBin fMul (mC (.int 31)) (mVar 2))))
    (mRet (mDo 3 G_l_number (mCons (mVar 3) (mCons (mBin fAdd (mBin fMod (mCall fInt (mCons (mBin fIx (mVar 0) (mC (.int 2))) (mNil))) (mC (.int 12))) (mC (.int 1))) (mCons (mVar 1) (mNil))))))))
def F_l_next (G_l_cell_at : List MV → MH → R MV) (G_l_number : List MV → MH → R MV) : List MV → MH → R MV := mDef 2 4 (m_l_next G_l_cell_at G_l_number)
/-- _law_pick(_law_draw_here, _law_things); slots ['_law_draw_here', '_law_things'] -/
def m_l_pick (G_l_next : List MV → MH → R MV) : MS :=
  mRet (mBin fIx (mVar 1) (mDo 2 G_l_next (mCons (mVar 0) (mCons (mCall fLen (mCons (mVar 1) (mNil))) (mNil)))))
def F_l_pick (G_l_next : List MV → MH → R MV) : List MV → MH → R MV := mDef 2 2 (m_l_pick G_l_next)
/-- _law_rule(_law_draw_here, _law_most); slots ['_law_draw_here', '_law_most', '_law_found', '_law_turn'] -/
def m_l_rule (G_l_next : List MV → MH → R MV) : MS :=
  mSeq (mSet 2 (mLst (mNil)))
    (mSeq (mFor (mRng1 (mCons (mBin fAdd (mC (.int 1)) (mDo 2 G_l_next (mCons (mVar 0) (mCons (mC (.int 3)) (mNil))))) (mNil))) (gN 3) (mDrop (mLm fAppend (mVar 2) (mCons (mTup (mCons (mBin fAdd (mC (.int 1)) (mDo 2 G_l_next (mCons (mVar 0) (mCons (mC (.int 6)) (mNil))))) (mCons (mDo 2 G_l_next (mCons (mVar 0) (mCons (mBin fAdd (mVar 1) (mC (.int 1))) (mNil)))) (mNil)))) (mNil)))))
    (mSeq (mIfS (mAsB (mBin fEq (mDo 2 G_l_next (mCons (mVar 0) (mCons (mC (.int 2)) (mNil)))) (mC (.int 0)))) (mStore (mTup (mCons (mC (.int 1)) (mCons (mDo 2 G_l_next (mCons (mVar 0) (mCons (mBin fAdd (mC (.int 1)) (mBin fDiv (mVar 1) (mC (.int 2)))) (mNil)))) (mNil)))) (mVar 2) (mC (.int 0))) (mNext))
    (mRet (mCall fTuple (mCons (mVar 2) (mNil))))))
def F_l_rule (G_l_next : List MV → MH → R MV) : List MV → MH → R MV := mDef 2 4 (m_l_rule G_l_next)
/-- _law_held(_law_rule_here, _law_time); slots ['_law_rule_here', '_law_time', '_law_found', '_law_age', '_law_able', '_law_every', '_law_until'] -/
def m_l_held : MS :=
  mSeq (mSet 2 (mLst (mNil)))
    (mSeq (mFor (mRng1 (mCons (mBin fAdd (mCall fMin (mCons (mVar 1) (mCons (mC (.int 12)) (mNil)))) (mC (.int 1))) (mNil))) (gN 3) (mSeq (mSet 4 (mLc (mItV (mVar 0)) (gT [5, 6]) (mAsB (mBin fEq (mBin fMod (mCall fInt (mCons (mBin fSub (mVar 1) (mVar 3)) (mNil))) (mVar 5)) (mC (.int 0)))) (mVar 6) [5, 6]))
    (mIfS (mAsB (mCall fAny (mCons (mLc (mItV (mVar 4)) (gN 6) (mYes) (mBin fLe (mVar 3) (mVar 6)) [6]) (mNil)))) (mDrop (mLm fAppend (mVar 2) (mCons (mVar 3) (mNil)))) (mNext))))
    (mRet (mCall fTuple (mCons (mVar 2) (mNil)))))
def F_l_held : List MV → MH → R MV := mDef 2 7 (m_l_held)
/-- _law_settled(_law_rule_here); slots ['_law_rule_here', '_law_every', '_law_until'] -/
def m_l_settled : MS :=
  mRet (mCall fMax (mCons (mLc (mItV (mVar 0)) (gT [1, 2]) (mYes) (mVar 2) [1, 2]) (mNil)))
def F_l_settled : List MV → MH → R MV := mDef 1 3 (m_l_settled)
/-- _law_rows(_law_rule_here, _law_many); slots ['_law_rule_here', '_law_many', '_law_first', '_law_more'] -/
def m_l_rows (G_l_settled : List MV → MH → R MV) (G_l_held : List MV → MH → R MV) : MS :=
  mSeq (mSet 2 (mDo 1 G_l_settled (mCons (mVar 0) (mNil))))
    (mRet (mLc (mRng1 (mCons (mVar 1) (mNil))) (gN 3) (mYes) (mDo 2 G_l_held (mCons (mVar 0) (mCons (mBin fAdd (mVar 2) (mVar 3)) (mNil)))) [3]))
def F_l_rows (G_l_settled : List MV → MH → R MV) (G_l_held : List MV → MH → R MV) : List MV → MH → R MV := mDef 2 4 (m_l_rows G_l_settled G_l_held)
/-- _law_period(_law_rule_here); slots ['_law_rule_here', '_law_rows_here', '_law_number_here', '_law_at'] -/
def m_l_period (G_l_rows : List MV → MH → R MV) : MS :=
  mSeq (mSet 1 (mDo 2 G_l_rows (mCons (mVar 0) (mCons (mC (.int 60)) (mNil)))))
    (mSeq (mSet 2 (mC (.int 1)))
    (mSeq (mWhile (mAndT (mAsB (mBin fLt (mVar 2) (mC (.int 60)))) (mAsB (mBin fNe (mLc (mRng1 (mCons (mC (.int 60)) (mNil))) (gN 3) (mYes) (mBin fIx (mVar 1) (mBin fMod (mCall fInt (mCons (mBin fAdd (mVar 3) (mVar 2)) (mNil))) (mC (.int 60)))) [3]) (mVar 1)))) (mSet 2 (mBin fAdd (mVar 2) (mC (.int 1)))))
    (mRet (mVar 2))))
def F_l_period (G_l_rows : List MV → MH → R MV) : List MV → MH → R MV := mDef 1 4 (m_l_period G_l_rows)
/-- _law_promise(_law_draw_here); slots ['_law_draw_here', '_law_far', '_law_low', '_law_part', '_law_whole'] -/
def m_l_promise (G_l_next : List MV → MH → R MV) (G_Promise_init : List MV → MH → R MV) : MS :=
  mSeq (mPar 1 2 (mCons (mDo 2 G_l_next (mCons (mVar 0) (mCons (mC (.int 6)) (mNil)))) (mCons (mDo 2 G_l_next (mCons (mVar 0) (mCons (mC (.int 4)) (mNil)))) (mNil))))
    (mSeq (mPar 3 4 (mCons (mDo 2 G_l_next (mCons (mVar 0) (mCons (mC (.int 5)) (mNil)))) (mCons (mBin fAdd (mC (.int 1)) (mDo 2 G_l_next (mCons (mVar 0) (mCons (mC (.int 4)) (mNil))))) (mNil))))
    (mSeq (mIfS (mAsB (mBin fGt (mBin fAdd (mBin fAdd (mVar 1) (mVar 2)) (mBin fDiv (mBin fMul (mVar 1) (mVar 3)) (mVar 4))) (mC (.int 9)))) (mAsg (gT [3, 4]) (mTup (mCons (mC (.int 0)) (mCons (mC (.int 1)) (mNil))))) (mNext))
    (mRet (mMakeK 0 2 2 G_Promise_init (mCons (mVar 1) (mCons (mVar 2) (mNil))) (mCons (mTup (mCons (mVar 3) (mCons (mVar 4) (mNil)))) (mCons (mBin fAdd (mC (.int 1)) (mBin fDiv (mDo 2 G_l_next (mCons (mVar 0) (mCons (mC (.int 5)) (mNil)))) (mC (.int 4)))) (mNil)))))))
def F_l_promise (G_l_next : List MV → MH → R MV) (G_Promise_init : List MV → MH → R MV) : List MV → MH → R MV := mDef 1 5 (m_l_promise G_l_next G_Promise_init)
/-- _law_broken(_law_promise_here, _law_ages); slots ['_law_promise_here', '_law_ages', '_law_part', '_law_whole', '_law_found', '_law_age', '_law_last', '_law_one'] -/
def m_l_broken (G_Promise_share : List MV → MH → R MV) (G_Promise_reach : List MV → MH → R MV) (G_Promise_base : List MV → MH → R MV) (G_Promise_copies : List MV → MH → R MV) : MS :=
  mSeq (mAsg (gT [2, 3]) (mMeth [(0, G_Promise_share)] 1 (mVar 0) mNil))
    (mSeq (mSet 4 (mLst (mNil)))
    (mSeq (mFor (mRng1 (mCons (mBin fAdd (mMeth [(0, G_Promise_reach)] 1 (mVar 0) mNil) (mC (.int 1))) (mNil))) (gN 5) (mSeq (mSet 6 (mBin fAdd (mBin fAdd (mVar 5) (mMeth [(0, G_Promise_base)] 1 (mVar 0) mNil)) (mBin fDiv (mBin fMul (mVar 5) (mVar 2)) (mVar 3))))
    (mIfS (mAsB (mBin fLt (mCall fLen (mCons (mLc (mItV (mVar 1)) (gN 7) (mAsB (mChain fLe fLe (mVar 5) (mVar 7) (mVar 6))) (mVar 7) [7]) (mNil))) (mMeth [(0, G_Promise_copies)] 1 (mVar 0) mNil))) (mDrop (mLm fAppend (mVar 4) (mCons (mVar 5) (mNil)))) (mNext))))
    (mRet (mVar 4))))
def F_l_broken (G_Promise_share : List MV → MH → R MV) (G_Promise_reach : List MV → MH → R MV) (G_Promise_base : List MV → MH → R MV) (G_Promise_copies : List MV → MH → R MV) : List MV → MH → R MV := mDef 2 8 (m_l_broken G_Promise_share G_Promise_reach G_Promise_base G_Promise_copies)
/-- _law_young(_law_promise_here, _law_ages); slots ['_law_promise_here', '_law_ages', '_law_part', '_law_whole', '_law_last', '_law_age'] -/
def m_l_young (G_Promise_share : List MV → MH → R MV) (G_Promise_reach : List MV → MH → R MV) (G_Promise_base : List MV → MH → R MV) : MS :=
  mSeq (mAsg (gT [2, 3]) (mMeth [(0, G_Promise_share)] 1 (mVar 0) mNil))
    (mSeq (mSet 4 (mBin fAdd (mBin fAdd (mMeth [(0, G_Promise_reach)] 1 (mVar 0) mNil) (mMeth [(0, G_Promise_base)] 1 (mVar 0) mNil)) (mBin fDiv (mBin fMul (mMeth [(0, G_Promise_reach)] 1 (mVar 0) mNil) (mVar 2)) (mVar 3))))
    (mRet (mCall fTuple (mCons (mLc (mItV (mVar 1)) (gN 5) (mAsB (mBin fLe (mVar 5) (mVar 4))) (mVar 5) [5]) (mNil)))))
def F_l_young (G_Promise_share : List MV → MH → R MV) (G_Promise_reach : List MV → MH → R MV) (G_Promise_base : List MV → MH → R MV) : List MV → MH → R MV := mDef 2 6 (m_l_young G_Promise_share G_Promise_reach G_Promise_base)
/-- _law_missed(_law_promise_here, _law_rule_here); slots ['_law_promise_here', '_law_rule_here', '_law_first', '_law_more', '_law_ages', '_law_broken_ages'] -/
def m_l_missed (G_l_settled : List MV → MH → R MV) (G_l_period : List MV → MH → R MV) (G_l_rows : List MV → MH → R MV) (G_l_young : List MV → MH → R MV) (G_l_broken : List MV → MH → R MV) : MS :=
  mSeq (mSet 2 (mDo 1 G_l_settled (mCons (mVar 1) (mNil))))
    (mSeq (mFor (mEnumV (mCons (mDo 2 G_l_rows (mCons (mVar 1) (mCons (mDo 1 G_l_period (mCons (mVar 1) (mNil))) (mNil)))) (mNil))) (gT [3, 4]) (mSeq (mSet 5 (mDo 2 G_l_broken (mCons (mVar 0) (mCons (mDo 2 G_l_young (mCons (mVar 0) (mCons (mVar 4) (mNil)))) (mNil)))))
    (mIfS (mAsB (mBin fNe (mVar 5) (mLst (mNil)))) (mRet (mTup (mCons (mBin fAdd (mVar 2) (mVar 3)) (mCons (mBin fIx (mVar 5) (mC (.int 0))) (mNil))))) (mNext))))
    (mRet (mC .non)))
def F_l_missed (G_l_settled : List MV → MH → R MV) (G_l_period : List MV → MH → R MV) (G_l_rows : List MV → MH → R MV) (G_l_young : List MV → MH → R MV) (G_l_broken : List MV → MH → R MV) : List MV → MH → R MV := mDef 2 6 (m_l_missed G_l_settled G_l_period G_l_rows G_l_young G_l_broken)
/-- _law_keeping(_law_draw_here, _law_promise_here, _law_most); slots ['_law_draw_here', '_law_promise_here', '_law_most', '_law_rule_here', '_law_turn'] -/
def m_l_keeping (G_l_rule : List MV → MH → R MV) (G_l_missed : List MV → MH → R MV) (G_l_next : List MV → MH → R MV) : MS :=
  mSeq (mSet 3 (mDo 2 G_l_rule (mCons (mVar 0) (mCons (mVar 2) (mNil)))))
    (mSeq (mFor (mRng1 (mCons (mC (.int 6)) (mNil))) (gN 4) (mSeq (mIfS (mAsB (mBin fIsN (mDo 2 G_l_missed (mCons (mVar 1) (mCons (mVar 3) (mNil)))) (mC .non))) (mRet (mVar 3)) (mNext))
    (mSet 3 (mBin fAdd (mTup (mCons (mTup (mCons (mC (.int 1)) (mCons (mBin fAdd (mC (.int 4)) (mDo 2 G_l_next (mCons (mVar 0) (mCons (mBin fSub (mVar 2) (mC (.int 3))) (mNil))))) (mNil)))) (mNil))) (mSl (mDo 2 G_l_rule (mCons (mVar 0) (mCons (mVar 2) (mNil)))) (mNoP) (mPart (mC (.int 2))))))))
    (mRet (mTup (mCons (mTup (mCons (mC (.int 1)) (mCons (mVar 2) (mNil)))) (mNil)))))
def F_l_keeping (G_l_rule : List MV → MH → R MV) (G_l_missed : List MV → MH → R MV) (G_l_next : List MV → MH → R MV) : List MV → MH → R MV := mDef 3 5 (m_l_keeping G_l_rule G_l_missed G_l_next)
/-- _law_hurt(_law_promise_here, _law_rule_here, _law_first, _law_gone); slots ['_law_promise_here', '_law_rule_here', '_law_first', '_law_gone', '_law_found', '_law_time', '_law_ages', '_law_age'] -/
def m_l_hurt (G_l_settled : List MV → MH → R MV) (G_l_held : List MV → MH → R MV) (G_l_young : List MV → MH → R MV) (G_l_broken : List MV → MH → R MV) : MS :=
  mSeq (mSet 4 (mLst (mNil)))
    (mSeq (mFor (mRng2 (mCons (mCall fMax (mCons (mVar 2) (mCons (mDo 1 G_l_settled (mCons (mVar 1) (mNil))) (mNil)))) (mCons (mBin fAdd (mCall fMax (mCons (mBin fAdd (mLst (mCons (mVar 2) (mNil))) (mVar 3)) (mNil))) (mC (.int 30))) (mNil)))) (gN 5) (mSeq (mSet 6 (mLc (mItV (mDo 2 G_l_held (mCons (mVar 1) (mCons (mVar 5) (mNil))))) (gN 7) (mAsB (mBin fNotIn (mBin fSub (mVar 5) (mVar 7)) (mVar 3))) (mVar 7) [7]))
    (mIfS (mAsB (mBin fNe (mDo 2 G_l_broken (mCons (mVar 0) (mCons (mDo 2 G_l_young (mCons (mVar 0) (mCons (mVar 6) (mNil)))) (mNil)))) (mLst (mNil)))) (mDrop (mLm fAppend (mVar 4) (mCons (mVar 5) (mNil)))) (mNext))))
    (mRet (mVar 4)))
def F_l_hurt (G_l_settled : List MV → MH → R MV) (G_l_held : List MV → MH → R MV) (G_l_young : List MV → MH → R MV) (G_l_broken : List MV → MH → R MV) : List MV → MH → R MV := mDef 4 8 (m_l_hurt G_l_settled G_l_held G_l_young G_l_broken)
/-- _law_healed(_law_rule_here, _law_first, _law_times); slots ['_law_rule_here', '_law_first', '_law_times', '_law_time'] -/
def m_l_healed (G_l_settled : List MV → MH → R MV) : MS :=
  mRet (mCall fMax (mCons (mBin fAdd (mLst (mCons (mVar 1) (mCons (mDo 1 G_l_settled (mCons (mVar 0) (mNil))) (mNil)))) (mLc (mItV (mVar 2)) (gN 3) (mYes) (mBin fAdd (mVar 3) (mC (.int 1))) [3])) (mNil)))
def F_l_healed (G_l_settled : List MV → MH → R MV) : List MV → MH → R MV := mDef 3 4 (m_l_healed G_l_settled)
/-- _law_pause_right(_law_draw_here, _law_promise_here, _law_rule_here); slots ['_law_draw_here', '_law_promise_here', '_law_rule_here', '_law_begin', '_law_ticks', '_law_due'] -/
def m_l_pause_right (G_l_next : List MV → MH → R MV) (G_l_hurt : List MV → MH → R MV) (G_broken_by_pause : List MV → MH → R MV) (G_healed_after_pause : List MV → MH → R MV) (G_l_healed : List MV → MH → R MV) : MS :=
  mSeq (mPar 3 4 (mCons (mDo 2 G_l_next (mCons (mVar 0) (mCons (mC (.int 20)) (mNil)))) (mCons (mDo 2 G_l_next (mCons (mVar 0) (mCons (mC (.int 9)) (mNil)))) (mNil))))
    (mSeq (mSet 5 (mDo 4 G_l_hurt (mCons (mVar 1) (mCons (mVar 2) (mCons (mVar 3) (mCons (mLRg2 (mVar 3) (mBin fAdd (mVar 3) (mVar 4))) (mNil)))))))
    (mSeq (mIfS (mAsB (mBin fNe (mDo 4 G_broken_by_pause (mCons (mVar 1) (mCons (mVar 2) (mCons (mVar 3) (mCons (mVar 4) (mNil)))))) (mVar 5))) (mRet (mC (.bl false))) (mNext))
    (mRet (mBin fEq (mDo 4 G_healed_after_pause (mCons (mVar 1) (mCons (mVar 2) (mCons (mVar 3) (mCons (mVar 4) (mNil)))))) (mDo 3 G_l_healed (mCons (mVar 2) (mCons (mVar 3) (mCons (mVar 5) (mNil)))))))))
def F_l_pause_right (G_l_next : List MV → MH → R MV) (G_l_hurt : List MV → MH → R MV) (G_broken_by_pause : List MV → MH → R MV) (G_healed_after_pause : List MV → MH → R MV) (G_l_healed : List MV → MH → R MV) : List MV → MH → R MV := mDef 3 6 (m_l_pause_right G_l_next G_l_hurt G_broken_by_pause G_healed_after_pause G_l_healed)
/-- _law_loss_right(_law_draw_here, _law_promise_here, _law_rule_here); slots ['_law_draw_here', '_law_promise_here', '_law_rule_here', '_law_lost', '_law_ages', '_law_taken', '_law_due'] -/
def m_l_loss_right (G_l_next : List MV → MH → R MV) (G_l_held : List MV → MH → R MV) (G_l_pick : List MV → MH → R MV) (G_l_hurt : List MV → MH → R MV) (G_broken_by_loss : List MV → MH → R MV) (G_healed_after_loss : List MV → MH → R MV) (G_l_healed : List MV → MH → R MV) : MS :=
  mSeq (mSet 3 (mDo 2 G_l_next (mCons (mVar 0) (mCons (mC (.int 24)) (mNil)))))
    (mSeq (mSet 4 (mDo 2 G_l_held (mCons (mVar 2) (mCons (mVar 3) (mNil)))))
    (mSeq (mIfS (mAsB (mBin fEq (mVar 4) (mTup (mNil)))) (mRet (mC (.bl true))) (mNext))
    (mSeq (mSet 5 (mBin fSub (mVar 3) (mDo 2 G_l_pick (mCons (mVar 0) (mCons (mVar 4) (mNil))))))
    (mSeq (mSet 6 (mDo 4 G_l_hurt (mCons (mVar 1) (mCons (mVar 2) (mCons (mVar 3) (mCons (mLst (mCons (mVar 5) (mNil))) (mNil)))))))
    (mSeq (mIfS (mAsB (mBin fNe (mDo 4 G_broken_by_loss (mCons (mVar 1) (mCons (mVar 2) (mCons (mVar 5) (mCons (mVar 3) (mNil)))))) (mVar 6))) (mRet (mC (.bl false))) (mNext))
    (mRet (mBin fEq (mDo 4 G_healed_after_loss (mCons (mVar 1) (mCons (mVar 2) (mCons (mVar 5) (mCons (mVar 3) (mNil)))))) (mDo 3 G_l_healed (mCons (mVar 2) (mCons (mVar 3) (mCons (mVar 6) (mNil))))))))))))
def F_l_loss_right (G_l_next : List MV → MH → R MV) (G_l_held : List MV → MH → R MV) (G_l_pick : List MV → MH → R MV) (G_l_hurt : List MV → MH → R MV) (G_broken_by_loss : List MV → MH → R MV) (G_healed_after_loss : List MV → MH → R MV) (G_l_healed : List MV → MH → R MV) : List MV → MH → R MV := mDef 3 7 (m_l_loss_right G_l_next G_l_held G_l_pick G_l_hurt G_broken_by_loss G_healed_after_loss G_l_healed)
/-- _law_worst_right(_law_promise_here, _law_rule_here); slots ['_law_promise_here', '_law_rule_here', '_law_best', '_law_first', '_law_more', '_law_ages', '_law_age', '_law_many'] -/
def m_l_worst_right (G_l_settled : List MV → MH → R MV) (G_l_period : List MV → MH → R MV) (G_l_rows : List MV → MH → R MV) (G_l_hurt : List MV → MH → R MV) (G_worst_loss : List MV → MH → R MV) : MS :=
  mSeq (mPar 2 3 (mCons (mC .non) (mCons (mDo 1 G_l_settled (mCons (mVar 1) (mNil))) (mNil))))
    (mSeq (mFor (mEnumV (mCons (mDo 2 G_l_rows (mCons (mVar 1) (mCons (mDo 1 G_l_period (mCons (mVar 1) (mNil))) (mNil)))) (mNil))) (gT [4, 5]) (mFor (mItV (mVar 5)) (gN 6) (mSeq (mSet 7 (mCall fLen (mCons (mDo 4 G_l_hurt (mCons (mVar 0) (mCons (mVar 1) (mCons (mBin fAdd (mVar 3) (mVar 4)) (mCons (mLst (mCons (mBin fSub (mBin fAdd (mVar 3) (mVar 4)) (mVar 6)) (mNil))) (mNil)))))) (mNil))))
    (mIfS (mOrT (mAsB (mBin fIsN (mVar 2) (mC .non))) (mAsB (mBin fGt (mVar 7) (mBin fIx (mVar 2) (mC (.int 2)))))) (mSet 2 (mTup (mCons (mBin fAdd (mVar 3) (mVar 4)) (mCons (mVar 6) (mCons (mVar 7) (mNil)))))) (mNext)))))
    (mRet (mBin fEq (mDo 2 G_worst_loss (mCons (mVar 0) (mCons (mVar 1) (mNil)))) (mVar 2))))
def F_l_worst_right (G_l_settled : List MV → MH → R MV) (G_l_period : List MV → MH → R MV) (G_l_rows : List MV → MH → R MV) (G_l_hurt : List MV → MH → R MV) (G_worst_loss : List MV → MH → R MV) : List MV → MH → R MV := mDef 2 8 (m_l_worst_right G_l_settled G_l_period G_l_rows G_l_hurt G_worst_loss)
/-- law(_law_script); slots ['_law_script', '_law_by', '_law_draw_here', '_law_promise_here', '_law_rule_here', '_law_turn'] -/
def m_law (G_l_promise : List MV → MH → R MV) (G_l_keeping : List MV → MH → R MV) (G_l_missed : List MV → MH → R MV) (G_l_pause_right : List MV → MH → R MV) (G_l_loss_right : List MV → MH → R MV) (G_l_period : List MV → MH → R MV) (G_l_worst_right : List MV → MH → R MV) : MS :=
  mSeq (mFor (mRng3 (mCons (mC (.int 0)) (mCons (mCall fMax (mCons (mC (.int 1)) (mCons (mCall fMin (mCons (mC (.int 8)) (mCons (mCall fLen (mCons (mVar 0) (mNil))) (mNil)))) (mNil)))) (mCons (mC (.int 4)) (mNil))))) (gN 1) (mSeq (mSet 2 (mLst (mCons (mVar 0) (mCons (mVar 1) (mCons (mC (.int 0)) (mNil))))))
    (mSeq (mSet 3 (mDo 1 G_l_promise (mCons (mVar 2) (mNil))))
    (mSeq (mSet 4 (mDo 3 G_l_keeping (mCons (mVar 2) (mCons (mVar 3) (mCons (mC (.int 10)) (mNil))))))
    (mSeq (mIfS (mAsB (mBin fNotN (mDo 2 G_l_missed (mCons (mVar 3) (mCons (mVar 4) (mNil)))) (mC .non))) (mCont) (mNext))
    (mSeq (mFor (mRng1 (mCons (mC (.int 2)) (mNil))) (gN 5) (mSeq (mIfS (mNotT (mAsB (mDo 3 G_l_pause_right (mCons (mVar 2) (mCons (mVar 3) (mCons (mVar 4) (mNil))))))) (mRet (mC (.bl false))) (mNext))
    (mIfS (mNotT (mAsB (mDo 3 G_l_loss_right (mCons (mVar 2) (mCons (mVar 3) (mCons (mVar 4) (mNil))))))) (mRet (mC (.bl false))) (mNext))))
    (mIfS (mAndT (mAsB (mBin fLt (mDo 1 G_l_period (mCons (mVar 4) (mNil))) (mC (.int 7)))) (mNotT (mAsB (mDo 2 G_l_worst_right (mCons (mVar 3) (mCons (mVar 4) (mNil))))))) (mRet (mC (.bl false))) (mNext))))))))
    (mRet (mC (.bl true)))
def F_law (G_l_promise : List MV → MH → R MV) (G_l_keeping : List MV → MH → R MV) (G_l_missed : List MV → MH → R MV) (G_l_pause_right : List MV → MH → R MV) (G_l_loss_right : List MV → MH → R MV) (G_l_period : List MV → MH → R MV) (G_l_worst_right : List MV → MH → R MV) : List MV → MH → R MV := mDef 1 6 (m_law G_l_promise G_l_keeping G_l_missed G_l_pause_right G_l_loss_right G_l_period G_l_worst_right)
end
end Mv

set_option maxHeartbeats 4000000
namespace Mv
open PySem PySem.Spec L2

/-! ### rules -/
abbrev Rule := List (Int × Int)
def pv2 (p : Int × Int) : MV := .tup [.int p.1, .int p.2]
def rv (r : Rule) : MV := .tup (r.map pv2)
structure Valid (r : Rule) : Prop where
  l1 : 1 ≤ r.length
  l3 : r.length ≤ 3
  ok : ∀ p ∈ r, 1 ≤ p.1 ∧ p.1 ≤ 6 ∧ 0 ≤ p.2 ∧ p.2 ≤ 12
theorem pv2_inj {p q : Int × Int} (h : pv2 p = pv2 q) : p = q := by
  simp only [pv2, MV.tup.injEq, List.cons.injEq, MV.int.injEq, and_true] at h
  exact Prod.ext h.1 h.2
theorem map_inj {α β : Type} {f : α → β} (hf : ∀ a b, f a = f b → a = b) : ∀ {x y : List α}, x.map f = y.map f → x = y
  | [], [], _ => rfl
  | [], _ :: _, h => by cases h
  | _ :: _, [], h => by cases h
  | a :: x, b :: y, h => by
    simp only [List.map_cons, List.cons.injEq] at h
    rw [hf _ _ h.1, map_inj hf h.2]
theorem rv_inj {r q : Rule} (h : rv r = rv q) : r = q := by
  simp only [rv, MV.tup.injEq] at h
  exact map_inj (fun _ _ => pv2_inj) h
theorem und_pv2 (n : Nat) (p : Int × Int) : MV.und n (pv2 p) := by simp [pv2, MV.und, MV.unds]
theorem und_rv (n : Nat) (r : Rule) : MV.und n (rv r) := und_tup fun x hx => by
  obtain ⟨p, _, rfl⟩ := List.mem_map.mp hx
  exact und_pv2 n p
theorem und_tints (n : Nat) (l : List Int) : MV.und n (.tup (ivs l)) := by
  simp only [MV.und]
  exact unds_ints l

/-! ### is_integer, is_pair, check_rule, check_time -/
theorem F_is_integer_eq (v lo hi : Int) (h : MH) : F_is_integer [.int v, .int lo, .int hi] h = .ok (.bl (decide (lo ≤ v ∧ v ≤ hi))) h := by
  unfold F_is_integer m_is_integer
  simp only [Mv.mDef, Mv.mSeq, Mv.mSet, Mv.mRet, Mv.mRetN, Mv.mIfS, Mv.mVar, Mv.mC, Mv.mBin, Mv.mChain, Mv.mCall, Mv.mDo, Mv.mCons, Mv.mNil, Mv.mAndV, Mv.mOrV, Mv.mNotV, Mv.mAsB, Mv.mAndT, Mv.mOrT, Mv.mNotT, Mv.mIf, Mv.mTup, Mv.mLst, Mv.mNext, Mv.mBad, Mv.mDrop, Mv.mPar, Mv.mAsg, Mv.mStore, Mv.mNeg, Mv.fNeg, Mv.mYes, Mv.mNoP, Mv.mPart, Mv.mSl, Mv.fI, Mv.fAdd, Mv.fSub, Mv.fMul, Mv.fMod, Mv.fDiv, Mv.fPow, Mv.fLt, Mv.fLe, Mv.fGt, Mv.fGe, Mv.yes2, Mv.fIsN, Mv.fNotN, Mv.isNon, Mv.fIx, Mv.items_tup, Mv.items_new, Mv.list_new, Mv.lstOf_new, Mv.fEq_int, Mv.fNe_int, Mv.fLen_tup, Mv.fMax2, Mv.fMin2, Mv.fInt, Mv.fAbs, Mv.mIsi, Mv.isT, Mv.gN, Mv.gT, Mv.setAll, Mv.wipeM, Mv.R.bind_ok, Mv.R.bind_bad, Mv.R.noX_ok, Mv.R.andS_ok, Mv.R.andS_bad, Mv.S.andS_nx, Mv.S.andS_rt, Mv.S.andS_bad, Mv.S.andS_bk, Mv.S.andS_ct, List.map_cons, List.map_nil, List.cons_append, List.nil_append, List.append_nil, List.replicate_succ, List.replicate_zero, List.length_cons, List.length_nil, List.set_cons_zero, List.set_cons_succ, List.getElem?_cons_zero, List.getElem?_cons_succ, List.getElem?_nil, Nat.reduceAdd, Nat.reduceSub, Nat.reduceEqDiff, Nat.reduceLeDiff, Nat.zero_add, if_true, if_false, Bool.not_true, Bool.not_false, Bool.false_eq_true, decide_true, decide_false, ite_true, ite_false, Option.some.injEq, reduceIte]
  by_cases h1 : lo ≤ v
  · by_cases h2 : v ≤ hi
    · simp [h1, h2]
    · simp [h1, h2]
  · simp [h1]
/-! ### is_held, settled_of, held_at -/
def isHeld (r : Rule) (a b : Int) : Bool := r.any fun p => decide (a % p.1 = 0) && (decide (0 ≤ b - a) && decide (b - a ≤ p.2))
theorem F_is_held_eq (r : Rule) (a b : Int) (h : MH) (hp : ∀ p ∈ r, 0 < p.1) (hl : r.length ≤ cap) : ∃ g, F_is_held [rv r, .int a, .int b] h = .ok (.bl (isHeld r a b)) (h ++ g) := by
  unfold F_is_held m_is_held
  simp only [Mv.mDef, Mv.mSeq, Mv.mSet, Mv.mRet, Mv.mRetN, Mv.mIfS, Mv.mVar, Mv.mC, Mv.mBin, Mv.mChain, Mv.mCall, Mv.mDo, Mv.mCons, Mv.mNil, Mv.mAndV, Mv.mOrV, Mv.mNotV, Mv.mAsB, Mv.mAndT, Mv.mOrT, Mv.mNotT, Mv.mIf, Mv.mTup, Mv.mLst, Mv.mNext, Mv.mBad, Mv.mDrop, Mv.mPar, Mv.mAsg, Mv.mStore, Mv.mNeg, Mv.fNeg, Mv.mYes, Mv.mNoP, Mv.mPart, Mv.mSl, Mv.fI, Mv.fAdd, Mv.fSub, Mv.fMul, Mv.fMod, Mv.fDiv, Mv.fPow, Mv.fLt, Mv.fLe, Mv.fGt, Mv.fGe, Mv.yes2, Mv.fIsN, Mv.fNotN, Mv.isNon, Mv.fIx, Mv.items_tup, Mv.items_new, Mv.list_new, Mv.lstOf_new, Mv.fEq_int, Mv.fNe_int, Mv.fLen_tup, Mv.fMax2, Mv.fMin2, Mv.fInt, Mv.fAbs, Mv.mIsi, Mv.isT, Mv.gN, Mv.gT, Mv.setAll, Mv.wipeM, Mv.R.bind_ok, Mv.R.bind_bad, Mv.R.noX_ok, Mv.R.andS_ok, Mv.R.andS_bad, Mv.S.andS_nx, Mv.S.andS_rt, Mv.S.andS_bad, Mv.S.andS_bk, Mv.S.andS_ct, List.map_cons, List.map_nil, List.cons_append, List.nil_append, List.append_nil, List.replicate_succ, List.replicate_zero, List.length_cons, List.length_nil, List.set_cons_zero, List.set_cons_succ, List.getElem?_cons_zero, List.getElem?_cons_succ, List.getElem?_nil, Nat.reduceAdd, Nat.reduceSub, Nat.reduceEqDiff, Nat.reduceLeDiff, Nat.zero_add, if_true, if_false, Bool.not_true, Bool.not_false, Bool.false_eq_true, decide_true, decide_false, ite_true, ite_false, Option.some.injEq, reduceIte, mLc, mItV, rv]
  rw [comp_pure (l := r) (enc := pv2) (cb := fun _ => true) (f := fun p => .bl (decide (a % p.1 = 0) && (decide (0 ≤ b - a) && decide (b - a ≤ p.2)))) (fun i => itT_nx _ i h) hl]
  · simp only [Mv.mDef, Mv.mSeq, Mv.mSet, Mv.mRet, Mv.mRetN, Mv.mIfS, Mv.mVar, Mv.mC, Mv.mBin, Mv.mChain, Mv.mCall, Mv.mDo, Mv.mCons, Mv.mNil, Mv.mAndV, Mv.mOrV, Mv.mNotV, Mv.mAsB, Mv.mAndT, Mv.mOrT, Mv.mNotT, Mv.mIf, Mv.mTup, Mv.mLst, Mv.mNext, Mv.mBad, Mv.mDrop, Mv.mPar, Mv.mAsg, Mv.mStore, Mv.mNeg, Mv.fNeg, Mv.mYes, Mv.mNoP, Mv.mPart, Mv.mSl, Mv.fI, Mv.fAdd, Mv.fSub, Mv.fMul, Mv.fMod, Mv.fDiv, Mv.fPow, Mv.fLt, Mv.fLe, Mv.fGt, Mv.fGe, Mv.yes2, Mv.fIsN, Mv.fNotN, Mv.isNon, Mv.fIx, Mv.items_tup, Mv.items_new, Mv.list_new, Mv.lstOf_new, Mv.fEq_int, Mv.fNe_int, Mv.fLen_tup, Mv.fMax2, Mv.fMin2, Mv.fInt, Mv.fAbs, Mv.mIsi, Mv.isT, Mv.gN, Mv.gT, Mv.setAll, Mv.wipeM, Mv.R.bind_ok, Mv.R.bind_bad, Mv.R.noX_ok, Mv.R.andS_ok, Mv.R.andS_bad, Mv.S.andS_nx, Mv.S.andS_rt, Mv.S.andS_bad, Mv.S.andS_bk, Mv.S.andS_ct, List.map_cons, List.map_nil, List.cons_append, List.nil_append, List.append_nil, List.replicate_succ, List.replicate_zero, List.length_cons, List.length_nil, List.set_cons_zero, List.set_cons_succ, List.getElem?_cons_zero, List.getElem?_cons_succ, List.getElem?_nil, Nat.reduceAdd, Nat.reduceSub, Nat.reduceEqDiff, Nat.reduceLeDiff, Nat.zero_add, if_true, if_false, Bool.not_true, Bool.not_false, Bool.false_eq_true, decide_true, decide_false, ite_true, ite_false, Option.some.injEq, reduceIte, fAny_at (items_new h _) (any_map _ _)]
    rw [filter_yes]
    refine ⟨_, congrArg (fun b => R.ok (MV.bl b) _) ?_⟩
    unfold isHeld
    rw [List.any_map]
    rfl
  · intro p hp'
    obtain ⟨e, u⟩ := p
    have h0 : 0 < e := hp _ hp'
    refine ⟨_, rfl, ?_⟩
    simp only [Mv.mDef, Mv.mSeq, Mv.mSet, Mv.mRet, Mv.mRetN, Mv.mIfS, Mv.mVar, Mv.mC, Mv.mBin, Mv.mChain, Mv.mCall, Mv.mDo, Mv.mCons, Mv.mNil, Mv.mAndV, Mv.mOrV, Mv.mNotV, Mv.mAsB, Mv.mAndT, Mv.mOrT, Mv.mNotT, Mv.mIf, Mv.mTup, Mv.mLst, Mv.mNext, Mv.mBad, Mv.mDrop, Mv.mPar, Mv.mAsg, Mv.mStore, Mv.mNeg, Mv.fNeg, Mv.mYes, Mv.mNoP, Mv.mPart, Mv.mSl, Mv.fI, Mv.fAdd, Mv.fSub, Mv.fMul, Mv.fMod, Mv.fDiv, Mv.fPow, Mv.fLt, Mv.fLe, Mv.fGt, Mv.fGe, Mv.yes2, Mv.fIsN, Mv.fNotN, Mv.isNon, Mv.fIx, Mv.items_tup, Mv.items_new, Mv.list_new, Mv.lstOf_new, Mv.fEq_int, Mv.fNe_int, Mv.fLen_tup, Mv.fMax2, Mv.fMin2, Mv.fInt, Mv.fAbs, Mv.mIsi, Mv.isT, Mv.gN, Mv.gT, Mv.setAll, Mv.wipeM, Mv.R.bind_ok, Mv.R.bind_bad, Mv.R.noX_ok, Mv.R.andS_ok, Mv.R.andS_bad, Mv.S.andS_nx, Mv.S.andS_rt, Mv.S.andS_bad, Mv.S.andS_bk, Mv.S.andS_ct, List.map_cons, List.map_nil, List.cons_append, List.nil_append, List.append_nil, List.replicate_succ, List.replicate_zero, List.length_cons, List.length_nil, List.set_cons_zero, List.set_cons_succ, List.getElem?_cons_zero, List.getElem?_cons_succ, List.getElem?_nil, Nat.reduceAdd, Nat.reduceSub, Nat.reduceEqDiff, Nat.reduceLeDiff, Nat.zero_add, if_true, if_false, Bool.not_true, Bool.not_false, Bool.false_eq_true, decide_true, decide_false, ite_true, ite_false, Option.some.injEq, reduceIte, pv2, h0]
    refine ⟨trivial, fun _ => ?_⟩
    cases decide (a % e = 0) <;> cases decide (0 ≤ b - a) <;> rfl
theorem Valid.cap {r : Rule} (v : Valid r) : r.length ≤ cap := Nat.le_trans v.l3 (by decide)
theorem Valid.pos {r : Rule} (v : Valid r) : ∀ p ∈ r, 0 < p.1 := fun p hp => by have := v.ok p hp; omega
noncomputable def G_is_held : List MV → MH → R MV := specOf (α := Rule × Int × Int) (fun p => [rv p.1, .int p.2.1, .int p.2.2]) (fun p => Valid p.1) fun p h => .ok (.bl (isHeld p.1 p.2.1 p.2.2)) h
theorem G_is_held_eq {r : Rule} (v : Valid r) (a b : Int) (h : MH) : G_is_held [rv r, .int a, .int b] h = .ok (.bl (isHeld r a b)) h :=
  specOf_eq (a := ((r, a, b) : Rule × Int × Int)) (fun x y e => by
    obtain ⟨x1, x2, x3⟩ := x
    obtain ⟨y1, y2, y3⟩ := y
    simp only [List.cons.injEq, MV.int.injEq, and_true] at e
    rw [rv_inj e.1, e.2.1, e.2.2]) v h
theorem sim_is_held (xs : List MV) (h : MH) : Sim h (F_is_held xs h) (G_is_held xs h) := specOf_sim (fun p h v => by
  obtain ⟨g, e⟩ := F_is_held_eq p.1 p.2.1 p.2.2 h v.pos v.cap
  rw [e]
  exact sim_drop0 (und_bl _ _)) xs h
/-- the greatest until -/
def settled (r : Rule) : Int := maxOf (r.map (·.2))
theorem Valid.ne {r : Rule} (v : Valid r) : r ≠ [] := fun e => by have := v.l1; rw [e] at this; exact absurd this (by decide)
theorem settled_spec {r : Rule} (v : Valid r) : (∃ p ∈ r, p.2 = settled r) ∧ (∀ p ∈ r, p.2 ≤ settled r) ∧ 0 ≤ settled r ∧ settled r ≤ 12 := by
  obtain ⟨a, b⟩ := maxOf_spec (l := r.map (·.2)) (by simpa using v.ne)
  obtain ⟨q, hq, e⟩ := List.mem_map.mp a
  have e : q.2 = settled r := e
  have := v.ok q hq
  exact ⟨⟨q, hq, e⟩, fun p hp => b _ (List.mem_map_of_mem hp), by omega, by omega⟩
theorem F_settled_of_eq (r : Rule) (h : MH) (hn : r ≠ []) (hl : r.length ≤ cap) : ∃ g, F_settled_of [rv r] h = .ok (.int (settled r)) (h ++ g) := by
  unfold F_settled_of m_settled_of
  simp only [Mv.mDef, Mv.mSeq, Mv.mSet, Mv.mRet, Mv.mRetN, Mv.mIfS, Mv.mVar, Mv.mC, Mv.mBin, Mv.mChain, Mv.mCall, Mv.mDo, Mv.mCons, Mv.mNil, Mv.mAndV, Mv.mOrV, Mv.mNotV, Mv.mAsB, Mv.mAndT, Mv.mOrT, Mv.mNotT, Mv.mIf, Mv.mTup, Mv.mLst, Mv.mNext, Mv.mBad, Mv.mDrop, Mv.mPar, Mv.mAsg, Mv.mStore, Mv.mNeg, Mv.fNeg, Mv.mYes, Mv.mNoP, Mv.mPart, Mv.mSl, Mv.fI, Mv.fAdd, Mv.fSub, Mv.fMul, Mv.fMod, Mv.fDiv, Mv.fPow, Mv.fLt, Mv.fLe, Mv.fGt, Mv.fGe, Mv.yes2, Mv.fIsN, Mv.fNotN, Mv.isNon, Mv.fIx, Mv.items_tup, Mv.items_new, Mv.list_new, Mv.lstOf_new, Mv.fEq_int, Mv.fNe_int, Mv.fLen_tup, Mv.fMax2, Mv.fMin2, Mv.fInt, Mv.fAbs, Mv.mIsi, Mv.isT, Mv.gN, Mv.gT, Mv.setAll, Mv.wipeM, Mv.R.bind_ok, Mv.R.bind_bad, Mv.R.noX_ok, Mv.R.andS_ok, Mv.R.andS_bad, Mv.S.andS_nx, Mv.S.andS_rt, Mv.S.andS_bad, Mv.S.andS_bk, Mv.S.andS_ct, List.map_cons, List.map_nil, List.cons_append, List.nil_append, List.append_nil, List.replicate_succ, List.replicate_zero, List.length_cons, List.length_nil, List.set_cons_zero, List.set_cons_succ, List.getElem?_cons_zero, List.getElem?_cons_succ, List.getElem?_nil, Nat.reduceAdd, Nat.reduceSub, Nat.reduceEqDiff, Nat.reduceLeDiff, Nat.zero_add, if_true, if_false, Bool.not_true, Bool.not_false, Bool.false_eq_true, decide_true, decide_false, ite_true, ite_false, Option.some.injEq, reduceIte, mLc, mItV, rv]
  rw [comp_pure (l := r) (enc := pv2) (cb := fun _ => true) (f := fun p => .int p.2) (fun i => itT_nx _ i h) hl]
  · rw [filter_yes]
    simp only [Mv.mDef, Mv.mSeq, Mv.mSet, Mv.mRet, Mv.mRetN, Mv.mIfS, Mv.mVar, Mv.mC, Mv.mBin, Mv.mChain, Mv.mCall, Mv.mDo, Mv.mCons, Mv.mNil, Mv.mAndV, Mv.mOrV, Mv.mNotV, Mv.mAsB, Mv.mAndT, Mv.mOrT, Mv.mNotT, Mv.mIf, Mv.mTup, Mv.mLst, Mv.mNext, Mv.mBad, Mv.mDrop, Mv.mPar, Mv.mAsg, Mv.mStore, Mv.mNeg, Mv.fNeg, Mv.mYes, Mv.mNoP, Mv.mPart, Mv.mSl, Mv.fI, Mv.fAdd, Mv.fSub, Mv.fMul, Mv.fMod, Mv.fDiv, Mv.fPow, Mv.fLt, Mv.fLe, Mv.fGt, Mv.fGe, Mv.yes2, Mv.fIsN, Mv.fNotN, Mv.isNon, Mv.fIx, Mv.items_tup, Mv.items_new, Mv.list_new, Mv.lstOf_new, Mv.fEq_int, Mv.fNe_int, Mv.fLen_tup, Mv.fMax2, Mv.fMin2, Mv.fInt, Mv.fAbs, Mv.mIsi, Mv.isT, Mv.gN, Mv.gT, Mv.setAll, Mv.wipeM, Mv.R.bind_ok, Mv.R.bind_bad, Mv.R.noX_ok, Mv.R.andS_ok, Mv.R.andS_bad, Mv.S.andS_nx, Mv.S.andS_rt, Mv.S.andS_bad, Mv.S.andS_bk, Mv.S.andS_ct, List.map_cons, List.map_nil, List.cons_append, List.nil_append, List.append_nil, List.replicate_succ, List.replicate_zero, List.length_cons, List.length_nil, List.set_cons_zero, List.set_cons_succ, List.getElem?_cons_zero, List.getElem?_cons_succ, List.getElem?_nil, Nat.reduceAdd, Nat.reduceSub, Nat.reduceEqDiff, Nat.reduceLeDiff, Nat.zero_add, if_true, if_false, Bool.not_true, Bool.not_false, Bool.false_eq_true, decide_true, decide_false, ite_true, ite_false, Option.some.injEq, reduceIte, fMax_ns (items_new h _) (ints_map r (·.2)) (by simpa using hn)]
    exact ⟨_, rfl⟩
  · intro p hp'
    refine ⟨_, rfl, ?_⟩
    simp only [Mv.mDef, Mv.mSeq, Mv.mSet, Mv.mRet, Mv.mRetN, Mv.mIfS, Mv.mVar, Mv.mC, Mv.mBin, Mv.mChain, Mv.mCall, Mv.mDo, Mv.mCons, Mv.mNil, Mv.mAndV, Mv.mOrV, Mv.mNotV, Mv.mAsB, Mv.mAndT, Mv.mOrT, Mv.mNotT, Mv.mIf, Mv.mTup, Mv.mLst, Mv.mNext, Mv.mBad, Mv.mDrop, Mv.mPar, Mv.mAsg, Mv.mStore, Mv.mNeg, Mv.fNeg, Mv.mYes, Mv.mNoP, Mv.mPart, Mv.mSl, Mv.fI, Mv.fAdd, Mv.fSub, Mv.fMul, Mv.fMod, Mv.fDiv, Mv.fPow, Mv.fLt, Mv.fLe, Mv.fGt, Mv.fGe, Mv.yes2, Mv.fIsN, Mv.fNotN, Mv.isNon, Mv.fIx, Mv.items_tup, Mv.items_new, Mv.list_new, Mv.lstOf_new, Mv.fEq_int, Mv.fNe_int, Mv.fLen_tup, Mv.fMax2, Mv.fMin2, Mv.fInt, Mv.fAbs, Mv.mIsi, Mv.isT, Mv.gN, Mv.gT, Mv.setAll, Mv.wipeM, Mv.R.bind_ok, Mv.R.bind_bad, Mv.R.noX_ok, Mv.R.andS_ok, Mv.R.andS_bad, Mv.S.andS_nx, Mv.S.andS_rt, Mv.S.andS_bad, Mv.S.andS_bk, Mv.S.andS_ct, List.map_cons, List.map_nil, List.cons_append, List.nil_append, List.append_nil, List.replicate_succ, List.replicate_zero, List.length_cons, List.length_nil, List.set_cons_zero, List.set_cons_succ, List.getElem?_cons_zero, List.getElem?_cons_succ, List.getElem?_nil, Nat.reduceAdd, Nat.reduceSub, Nat.reduceEqDiff, Nat.reduceLeDiff, Nat.zero_add, if_true, if_false, Bool.not_true, Bool.not_false, Bool.false_eq_true, decide_true, decide_false, ite_true, ite_false, Option.some.injEq, reduceIte, pv2]
    exact ⟨trivial, fun _ => trivial⟩
noncomputable def G_settled_of : List MV → MH → R MV := specOf (fun r : Rule => [rv r]) Valid fun r h => .ok (.int (settled r)) h
theorem one_inj {α : Type} {f : α → MV} (hf : ∀ a b, f a = f b → a = b) (a b : α) (e : [f a] = [f b]) : a = b := hf a b (List.cons.inj e).1
theorem G_settled_of_eq {r : Rule} (v : Valid r) (h : MH) : G_settled_of [rv r] h = .ok (.int (settled r)) h := specOf_eq (fun x y e => rv_inj (List.cons.inj e).1) v h
theorem sim_settled_of (xs : List MV) (h : MH) : Sim h (F_settled_of xs h) (G_settled_of xs h) := specOf_sim (fun r h v => by
  obtain ⟨g, e⟩ := F_settled_of_eq r h v.ne v.cap
  rw [e]
  exact sim_drop0 (und_int _ _)) xs h
/-- what a rule holds at a time -/
def heldAt (r : Rule) (t : Int) : List Int := (prog 0 1 ((if settled r < t then settled r else t) + 1).toNat).filter fun age => isHeld r (t - age) t
theorem F_held_at_eq {r : Rule} (v : Valid r) (t : Int) (h : MH) (ht : -1000 ≤ t) : ∃ g, F_held_at G_settled_of G_is_held [rv r, .int t] h = .ok (.tup (ivs (heldAt r t))) (h ++ g) := by
  unfold F_held_at m_held_at
  obtain ⟨_, _, s1, s2⟩ := settled_spec v
  have hb : inR ((if settled r < t then settled r else t) + 1) = true := inR_of (by split <;> omega)
  simp only [Mv.mDef, Mv.mSeq, Mv.mSet, Mv.mRet, Mv.mRetN, Mv.mIfS, Mv.mVar, Mv.mC, Mv.mBin, Mv.mChain, Mv.mCall, Mv.mDo, Mv.mCons, Mv.mNil, Mv.mAndV, Mv.mOrV, Mv.mNotV, Mv.mAsB, Mv.mAndT, Mv.mOrT, Mv.mNotT, Mv.mIf, Mv.mTup, Mv.mLst, Mv.mNext, Mv.mBad, Mv.mDrop, Mv.mPar, Mv.mAsg, Mv.mStore, Mv.mNeg, Mv.fNeg, Mv.mYes, Mv.mNoP, Mv.mPart, Mv.mSl, Mv.fI, Mv.fAdd, Mv.fSub, Mv.fMul, Mv.fMod, Mv.fDiv, Mv.fPow, Mv.fLt, Mv.fLe, Mv.fGt, Mv.fGe, Mv.yes2, Mv.fIsN, Mv.fNotN, Mv.isNon, Mv.fIx, Mv.items_tup, Mv.items_new, Mv.list_new, Mv.lstOf_new, Mv.fEq_int, Mv.fNe_int, Mv.fLen_tup, Mv.fMax2, Mv.fMin2, Mv.fInt, Mv.fAbs, Mv.mIsi, Mv.isT, Mv.gN, Mv.gT, Mv.setAll, Mv.wipeM, Mv.R.bind_ok, Mv.R.bind_bad, Mv.R.noX_ok, Mv.R.andS_ok, Mv.R.andS_bad, Mv.S.andS_nx, Mv.S.andS_rt, Mv.S.andS_bad, Mv.S.andS_bk, Mv.S.andS_ct, List.map_cons, List.map_nil, List.cons_append, List.nil_append, List.append_nil, List.replicate_succ, List.replicate_zero, List.length_cons, List.length_nil, List.set_cons_zero, List.set_cons_succ, List.getElem?_cons_zero, List.getElem?_cons_succ, List.getElem?_nil, Nat.reduceAdd, Nat.reduceSub, Nat.reduceEqDiff, Nat.reduceLeDiff, Nat.zero_add, if_true, if_false, Bool.not_true, Bool.not_false, Bool.false_eq_true, decide_true, decide_false, ite_true, ite_false, Option.some.injEq, reduceIte, mLc, mRng1, G_settled_of_eq v, hb]
  rw [comp_pure (l := prog 0 1 ((if settled r < t then settled r else t) + 1).toNat) (enc := MV.int) (cb := fun age => isHeld r (t - age) t) (f := MV.int) (fun i => itR_nx _ _ _ i h) (by rw [prog_length]; unfold cap; split <;> omega)]
  · simp only [Mv.mDef, Mv.mSeq, Mv.mSet, Mv.mRet, Mv.mRetN, Mv.mIfS, Mv.mVar, Mv.mC, Mv.mBin, Mv.mChain, Mv.mCall, Mv.mDo, Mv.mCons, Mv.mNil, Mv.mAndV, Mv.mOrV, Mv.mNotV, Mv.mAsB, Mv.mAndT, Mv.mOrT, Mv.mNotT, Mv.mIf, Mv.mTup, Mv.mLst, Mv.mNext, Mv.mBad, Mv.mDrop, Mv.mPar, Mv.mAsg, Mv.mStore, Mv.mNeg, Mv.fNeg, Mv.mYes, Mv.mNoP, Mv.mPart, Mv.mSl, Mv.fI, Mv.fAdd, Mv.fSub, Mv.fMul, Mv.fMod, Mv.fDiv, Mv.fPow, Mv.fLt, Mv.fLe, Mv.fGt, Mv.fGe, Mv.yes2, Mv.fIsN, Mv.fNotN, Mv.isNon, Mv.fIx, Mv.items_tup, Mv.items_new, Mv.list_new, Mv.lstOf_new, Mv.fEq_int, Mv.fNe_int, Mv.fLen_tup, Mv.fMax2, Mv.fMin2, Mv.fInt, Mv.fAbs, Mv.mIsi, Mv.isT, Mv.gN, Mv.gT, Mv.setAll, Mv.wipeM, Mv.R.bind_ok, Mv.R.bind_bad, Mv.R.noX_ok, Mv.R.andS_ok, Mv.R.andS_bad, Mv.S.andS_nx, Mv.S.andS_rt, Mv.S.andS_bad, Mv.S.andS_bk, Mv.S.andS_ct, List.map_cons, List.map_nil, List.cons_append, List.nil_append, List.append_nil, List.replicate_succ, List.replicate_zero, List.length_cons, List.length_nil, List.set_cons_zero, List.set_cons_succ, List.getElem?_cons_zero, List.getElem?_cons_succ, List.getElem?_nil, Nat.reduceAdd, Nat.reduceSub, Nat.reduceEqDiff, Nat.reduceLeDiff, Nat.zero_add, if_true, if_false, Bool.not_true, Bool.not_false, Bool.false_eq_true, decide_true, decide_false, ite_true, ite_false, Option.some.injEq, reduceIte, fTuple_at (items_new h _)]
    exact ⟨_, rfl⟩
  · intro age _
    refine ⟨_, rfl, ?_⟩
    simp only [Mv.mDef, Mv.mSeq, Mv.mSet, Mv.mRet, Mv.mRetN, Mv.mIfS, Mv.mVar, Mv.mC, Mv.mBin, Mv.mChain, Mv.mCall, Mv.mDo, Mv.mCons, Mv.mNil, Mv.mAndV, Mv.mOrV, Mv.mNotV, Mv.mAsB, Mv.mAndT, Mv.mOrT, Mv.mNotT, Mv.mIf, Mv.mTup, Mv.mLst, Mv.mNext, Mv.mBad, Mv.mDrop, Mv.mPar, Mv.mAsg, Mv.mStore, Mv.mNeg, Mv.fNeg, Mv.mYes, Mv.mNoP, Mv.mPart, Mv.mSl, Mv.fI, Mv.fAdd, Mv.fSub, Mv.fMul, Mv.fMod, Mv.fDiv, Mv.fPow, Mv.fLt, Mv.fLe, Mv.fGt, Mv.fGe, Mv.yes2, Mv.fIsN, Mv.fNotN, Mv.isNon, Mv.fIx, Mv.items_tup, Mv.items_new, Mv.list_new, Mv.lstOf_new, Mv.fEq_int, Mv.fNe_int, Mv.fLen_tup, Mv.fMax2, Mv.fMin2, Mv.fInt, Mv.fAbs, Mv.mIsi, Mv.isT, Mv.gN, Mv.gT, Mv.setAll, Mv.wipeM, Mv.R.bind_ok, Mv.R.bind_bad, Mv.R.noX_ok, Mv.R.andS_ok, Mv.R.andS_bad, Mv.S.andS_nx, Mv.S.andS_rt, Mv.S.andS_bad, Mv.S.andS_bk, Mv.S.andS_ct, List.map_cons, List.map_nil, List.cons_append, List.nil_append, List.append_nil, List.replicate_succ, List.replicate_zero, List.length_cons, List.length_nil, List.set_cons_zero, List.set_cons_succ, List.getElem?_cons_zero, List.getElem?_cons_succ, List.getElem?_nil, Nat.reduceAdd, Nat.reduceSub, Nat.reduceEqDiff, Nat.reduceLeDiff, Nat.zero_add, if_true, if_false, Bool.not_true, Bool.not_false, Bool.false_eq_true, decide_true, decide_false, ite_true, ite_false, Option.some.injEq, reduceIte, G_is_held_eq v]
    exact ⟨trivial, fun _ => trivial⟩
noncomputable def G_held_at : List MV → MH → R MV := specOf (α := Rule × Int) (fun p => [rv p.1, .int p.2]) (fun p => Valid p.1 ∧ -1000 ≤ p.2) fun p h => .ok (.tup (ivs (heldAt p.1 p.2))) h
theorem two_inj (x y : Rule × Int) (e : [rv x.1, .int x.2] = [rv y.1, .int y.2]) : x = y := by
  simp only [List.cons.injEq, MV.int.injEq, and_true] at e
  exact Prod.ext (rv_inj e.1) e.2
theorem G_held_at_eq {r : Rule} (v : Valid r) {t : Int} (ht : -1000 ≤ t) (h : MH) : G_held_at [rv r, .int t] h = .ok (.tup (ivs (heldAt r t))) h := specOf_eq (a := ((r, t) : Rule × Int)) two_inj ⟨v, ht⟩ h
theorem sim_held_at (xs : List MV) (h : MH) : Sim h (F_held_at G_settled_of G_is_held xs h) (G_held_at xs h) := specOf_sim (fun p h v => by
  obtain ⟨g, e⟩ := F_held_at_eq v.1 p.2 h v.2
  rw [e]
  exact sim_drop0 (und_tints _ _)) xs h


/-! ### common, turn_of -/
theorem cmul_ok {i j : Int} {a b : Nat} (ha : i.natAbs < 2 ^ a) (hb : j.natAbs < 2 ^ b) (h0 : 0 < a) (h1 : 0 < b) (h : a + b ≤ 100000000) : CMulB i j = true := decide_eq_true (by
  have x := PySem.Flt.log2_lt_of h0 ha
  have y := PySem.Flt.log2_lt_of h1 hb
  omega)
/-- the multiples of a up to a * b that b divides -/
def commons (a b : Int) : List Int := (prog a a (rngN a (a * b + 1) a)).filter fun n => decide (n % b = 0)
theorem F_common_eq (a b : Int) (h : MH) (ha : 1 ≤ a) (ha2 : a ≤ 60) (hb : 1 ≤ b) (hb2 : b ≤ 60) {m : Int} {rest : List Int} (e : commons a b = m :: rest) : ∃ g, F_common [.int a, .int b] h = .ok (.int m) (h ++ g) := by
  unfold F_common m_common
  have h1 : a * b ≤ 3600 := Int.le_trans (Int.mul_le_mul ha2 hb2 (by omega) (by omega)) (by decide)
  have h0 : 0 ≤ a * b := Int.mul_nonneg (by omega) (by omega)
  have q1 : inR a = true := inR_of (by omega)
  have q2 : inR (a * b + 1) = true := inR_of (by omega)
  have q3 : CMulB a b = true := cmul_ok (a := 10) (b := 10) (by omega) (by omega) (by decide) (by decide) (by decide)
  have q4 : 0 < a := by omega
  have q5 : a < 1000000 := by omega
  have q6 : 0 < b := by omega
  simp only [Mv.mDef, Mv.mSeq, Mv.mSet, Mv.mRet, Mv.mRetN, Mv.mIfS, Mv.mVar, Mv.mC, Mv.mBin, Mv.mChain, Mv.mCall, Mv.mDo, Mv.mCons, Mv.mNil, Mv.mAndV, Mv.mOrV, Mv.mNotV, Mv.mAsB, Mv.mAndT, Mv.mOrT, Mv.mNotT, Mv.mIf, Mv.mTup, Mv.mLst, Mv.mNext, Mv.mBad, Mv.mDrop, Mv.mPar, Mv.mAsg, Mv.mStore, Mv.mNeg, Mv.fNeg, Mv.mYes, Mv.mNoP, Mv.mPart, Mv.mSl, Mv.fI, Mv.fAdd, Mv.fSub, Mv.fMul, Mv.fMod, Mv.fDiv, Mv.fPow, Mv.fLt, Mv.fLe, Mv.fGt, Mv.fGe, Mv.yes2, Mv.fIsN, Mv.fNotN, Mv.isNon, Mv.fIx, Mv.items_tup, Mv.items_new, Mv.list_new, Mv.lstOf_new, Mv.fEq_int, Mv.fNe_int, Mv.fLen_tup, Mv.fMax2, Mv.fMin2, Mv.fInt, Mv.fAbs, Mv.mIsi, Mv.isT, Mv.gN, Mv.gT, Mv.setAll, Mv.wipeM, Mv.R.bind_ok, Mv.R.bind_bad, Mv.R.noX_ok, Mv.R.andS_ok, Mv.R.andS_bad, Mv.S.andS_nx, Mv.S.andS_rt, Mv.S.andS_bad, Mv.S.andS_bk, Mv.S.andS_ct, List.map_cons, List.map_nil, List.cons_append, List.nil_append, List.append_nil, List.replicate_succ, List.replicate_zero, List.length_cons, List.length_nil, List.set_cons_zero, List.set_cons_succ, List.getElem?_cons_zero, List.getElem?_cons_succ, List.getElem?_nil, Nat.reduceAdd, Nat.reduceSub, Nat.reduceEqDiff, Nat.reduceLeDiff, Nat.zero_add, if_true, if_false, Bool.not_true, Bool.not_false, Bool.false_eq_true, decide_true, decide_false, ite_true, ite_false, Option.some.injEq, reduceIte, mLc, mRng3, q1, q2, q3, q4, q5, and_self]
  rw [comp_pure (l := prog a a (rngN a (a * b + 1) a)) (enc := MV.int) (cb := fun n => decide (n % b = 0)) (f := MV.int) (fun i => itR_nx _ _ _ i h) (by
    rw [prog_length]; unfold rngN cap
    split
    · have : (a * b + 1 - a - 1) / a ≤ a * b + 1 - a - 1 := Int.ediv_le_self _ (by omega)
      omega
    · omega)]
  · have e' : List.filter (fun n => decide (n % b = 0)) (prog a a (rngN a (a * b + 1) a)) = m :: rest := e
    rw [e']
    simp only [Mv.mDef, Mv.mSeq, Mv.mSet, Mv.mRet, Mv.mRetN, Mv.mIfS, Mv.mVar, Mv.mC, Mv.mBin, Mv.mChain, Mv.mCall, Mv.mDo, Mv.mCons, Mv.mNil, Mv.mAndV, Mv.mOrV, Mv.mNotV, Mv.mAsB, Mv.mAndT, Mv.mOrT, Mv.mNotT, Mv.mIf, Mv.mTup, Mv.mLst, Mv.mNext, Mv.mBad, Mv.mDrop, Mv.mPar, Mv.mAsg, Mv.mStore, Mv.mNeg, Mv.fNeg, Mv.mYes, Mv.mNoP, Mv.mPart, Mv.mSl, Mv.fI, Mv.fAdd, Mv.fSub, Mv.fMul, Mv.fMod, Mv.fDiv, Mv.fPow, Mv.fLt, Mv.fLe, Mv.fGt, Mv.fGe, Mv.yes2, Mv.fIsN, Mv.fNotN, Mv.isNon, Mv.fIx, Mv.items_tup, Mv.items_new, Mv.list_new, Mv.lstOf_new, Mv.fEq_int, Mv.fNe_int, Mv.fLen_tup, Mv.fMax2, Mv.fMin2, Mv.fInt, Mv.fAbs, Mv.mIsi, Mv.isT, Mv.gN, Mv.gT, Mv.setAll, Mv.wipeM, Mv.R.bind_ok, Mv.R.bind_bad, Mv.R.noX_ok, Mv.R.andS_ok, Mv.R.andS_bad, Mv.S.andS_nx, Mv.S.andS_rt, Mv.S.andS_bad, Mv.S.andS_bk, Mv.S.andS_ct, List.map_cons, List.map_nil, List.cons_append, List.nil_append, List.append_nil, List.replicate_succ, List.replicate_zero, List.length_cons, List.length_nil, List.set_cons_zero, List.set_cons_succ, List.getElem?_cons_zero, List.getElem?_cons_succ, List.getElem?_nil, Nat.reduceAdd, Nat.reduceSub, Nat.reduceEqDiff, Nat.reduceLeDiff, Nat.zero_add, if_true, if_false, Bool.not_true, Bool.not_false, Bool.false_eq_true, decide_true, decide_false, ite_true, ite_false, Option.some.injEq, reduceIte, atI, ixN]
    refine ⟨[.lst (MV.int m :: rest.map MV.int)], ?_⟩
    simp
  · intro n _
    refine ⟨_, rfl, ?_⟩
    simp only [Mv.mDef, Mv.mSeq, Mv.mSet, Mv.mRet, Mv.mRetN, Mv.mIfS, Mv.mVar, Mv.mC, Mv.mBin, Mv.mChain, Mv.mCall, Mv.mDo, Mv.mCons, Mv.mNil, Mv.mAndV, Mv.mOrV, Mv.mNotV, Mv.mAsB, Mv.mAndT, Mv.mOrT, Mv.mNotT, Mv.mIf, Mv.mTup, Mv.mLst, Mv.mNext, Mv.mBad, Mv.mDrop, Mv.mPar, Mv.mAsg, Mv.mStore, Mv.mNeg, Mv.fNeg, Mv.mYes, Mv.mNoP, Mv.mPart, Mv.mSl, Mv.fI, Mv.fAdd, Mv.fSub, Mv.fMul, Mv.fMod, Mv.fDiv, Mv.fPow, Mv.fLt, Mv.fLe, Mv.fGt, Mv.fGe, Mv.yes2, Mv.fIsN, Mv.fNotN, Mv.isNon, Mv.fIx, Mv.items_tup, Mv.items_new, Mv.list_new, Mv.lstOf_new, Mv.fEq_int, Mv.fNe_int, Mv.fLen_tup, Mv.fMax2, Mv.fMin2, Mv.fInt, Mv.fAbs, Mv.mIsi, Mv.isT, Mv.gN, Mv.gT, Mv.setAll, Mv.wipeM, Mv.R.bind_ok, Mv.R.bind_bad, Mv.R.noX_ok, Mv.R.andS_ok, Mv.R.andS_bad, Mv.S.andS_nx, Mv.S.andS_rt, Mv.S.andS_bad, Mv.S.andS_bk, Mv.S.andS_ct, List.map_cons, List.map_nil, List.cons_append, List.nil_append, List.append_nil, List.replicate_succ, List.replicate_zero, List.length_cons, List.length_nil, List.set_cons_zero, List.set_cons_succ, List.getElem?_cons_zero, List.getElem?_cons_succ, List.getElem?_nil, Nat.reduceAdd, Nat.reduceSub, Nat.reduceEqDiff, Nat.reduceLeDiff, Nat.zero_add, if_true, if_false, Bool.not_true, Bool.not_false, Bool.false_eq_true, decide_true, decide_false, ite_true, ite_false, Option.some.injEq, reduceIte, q6]
    exact ⟨trivial, fun _ => trivial⟩
theorem commons_all : ∀ a : Fin 61, ∀ b : Fin 61, a.val ∣ 60 → b.val ∣ 60 → (commons a.val b.val).head? = some ((Nat.lcm a.val b.val : Nat) : Int) := by decide +kernel
theorem div60 {a : Nat} (h : a ∣ 60) : 1 ≤ a ∧ a ≤ 60 := ⟨Nat.pos_of_dvd_of_pos h (by decide), Nat.le_of_dvd (by decide) h⟩
theorem commons_eq {a b : Nat} (da : a ∣ 60) (db : b ∣ 60) : ∃ rest, commons a b = ((Nat.lcm a b : Nat) : Int) :: rest := by
  have h1 := div60 da
  have h2 := div60 db
  have q := commons_all ⟨a, by omega⟩ ⟨b, by omega⟩ da db
  cases e : commons (a : Int) (b : Int) with
  | nil => rw [e] at q; cases q
  | cons m r => rw [e] at q; simp only [List.head?_cons, Option.some.injEq] at q; exact ⟨r, by rw [q]⟩
noncomputable def G_common : List MV → MH → R MV := specOf (α := Nat × Nat) (fun p => [.int p.1, .int p.2]) (fun p => p.1 ∣ 60 ∧ p.2 ∣ 60) fun p h => .ok (.int (Nat.lcm p.1 p.2 : Nat)) h
theorem G_common_eq {a b : Nat} (da : a ∣ 60) (db : b ∣ 60) (h : MH) : G_common [.int a, .int b] h = .ok (.int (Nat.lcm a b : Nat)) h :=
  specOf_eq (a := ((a, b) : Nat × Nat)) (fun x y e => by
    simp only [List.cons.injEq, MV.int.injEq, and_true] at e
    exact Prod.ext (by omega) (by omega)) ⟨da, db⟩ h
theorem sim_common (xs : List MV) (h : MH) : Sim h (F_common xs h) (G_common xs h) := specOf_sim (fun p h v => by
  obtain ⟨d1, d2⟩ := v
  have h1 := div60 d1
  have h2 := div60 d2
  obtain ⟨r, e⟩ := commons_eq d1 d2
  obtain ⟨g, e⟩ := F_common_eq p.1 p.2 h (by omega) (by omega) (by omega) (by omega) e
  rw [e]
  exact sim_drop0 (und_int _ _)) xs h
/-- the least common multiple of the everys -/
def turnN (r : Rule) : Nat := r.foldl (fun acc p => Nat.lcm acc p.1.toNat) 1
theorem turn_fold (r : Rule) (hr : ∀ p ∈ r, 1 ≤ p.1 ∧ p.1 ≤ 6) : ∀ acc : Nat, 1 ≤ acc → acc ∣ 60 → let T := r.foldl (fun acc p => Nat.lcm acc p.1.toNat) acc
    1 ≤ T ∧ T ∣ 60 ∧ acc ∣ T ∧ ∀ p ∈ r, p.1.toNat ∣ T := by
  induction r with
  | nil => intro acc h1 h2; exact ⟨h1, h2, Nat.dvd_refl _, fun p hp => by cases hp⟩
  | cons q r ih =>
    intro acc h1 h2
    have hq := hr q (List.mem_cons_self ..)
    have d6 : q.1.toNat ∣ 60 := by
      have : q.1.toNat = 1 ∨ q.1.toNat = 2 ∨ q.1.toNat = 3 ∨ q.1.toNat = 4 ∨ q.1.toNat = 5 ∨ q.1.toNat = 6 := by omega
      rcases this with e | e | e | e | e | e <;> rw [e] <;> decide
    have l1 : 1 ≤ Nat.lcm acc q.1.toNat := Nat.lcm_pos (by omega) (by omega)
    obtain ⟨a, b, c, d⟩ := ih (fun p hp => hr p (List.mem_cons_of_mem _ hp)) (Nat.lcm acc q.1.toNat) l1 (Nat.lcm_dvd h2 d6)
    refine ⟨a, b, Nat.dvd_trans (Nat.dvd_lcm_left _ _) c, fun p hp => ?_⟩
    rcases List.mem_cons.mp hp with e | e
    · rw [e]; exact Nat.dvd_trans (Nat.dvd_lcm_right _ _) c
    · exact d p e
theorem turn_spec {r : Rule} (v : Valid r) : 1 ≤ turnN r ∧ turnN r ∣ 60 ∧ turnN r ≤ 60 ∧ ∀ p ∈ r, p.1.toNat ∣ turnN r := by
  obtain ⟨a, b, _, d⟩ := turn_fold r (fun p hp => ⟨(v.ok p hp).1, (v.ok p hp).2.1⟩) 1 (Nat.le_refl _) (by decide)
  exact ⟨a, b, Nat.le_of_dvd (by decide) b, d⟩
theorem F_turn_of_eq {r : Rule} (v : Valid r) (h : MH) : F_turn_of G_common [rv r] h = .ok (.int (turnN r : Nat)) h := by
  unfold F_turn_of m_turn_of
  simp only [Mv.mDef, Mv.mSeq, Mv.mSet, Mv.mRet, Mv.mRetN, Mv.mIfS, Mv.mVar, Mv.mC, Mv.mBin, Mv.mChain, Mv.mCall, Mv.mDo, Mv.mCons, Mv.mNil, Mv.mAndV, Mv.mOrV, Mv.mNotV, Mv.mAsB, Mv.mAndT, Mv.mOrT, Mv.mNotT, Mv.mIf, Mv.mTup, Mv.mLst, Mv.mNext, Mv.mBad, Mv.mDrop, Mv.mPar, Mv.mAsg, Mv.mStore, Mv.mNeg, Mv.fNeg, Mv.mYes, Mv.mNoP, Mv.mPart, Mv.mSl, Mv.fI, Mv.fAdd, Mv.fSub, Mv.fMul, Mv.fMod, Mv.fDiv, Mv.fPow, Mv.fLt, Mv.fLe, Mv.fGt, Mv.fGe, Mv.yes2, Mv.fIsN, Mv.fNotN, Mv.isNon, Mv.fIx, Mv.items_tup, Mv.items_new, Mv.list_new, Mv.lstOf_new, Mv.fEq_int, Mv.fNe_int, Mv.fLen_tup, Mv.fMax2, Mv.fMin2, Mv.fInt, Mv.fAbs, Mv.mIsi, Mv.isT, Mv.gN, Mv.gT, Mv.setAll, Mv.wipeM, Mv.R.bind_ok, Mv.R.bind_bad, Mv.R.noX_ok, Mv.R.andS_ok, Mv.R.andS_bad, Mv.S.andS_nx, Mv.S.andS_rt, Mv.S.andS_bad, Mv.S.andS_bk, Mv.S.andS_ct, List.map_cons, List.map_nil, List.cons_append, List.nil_append, List.append_nil, List.replicate_succ, List.replicate_zero, List.length_cons, List.length_nil, List.set_cons_zero, List.set_cons_succ, List.getElem?_cons_zero, List.getElem?_cons_succ, List.getElem?_nil, Nat.reduceAdd, Nat.reduceSub, Nat.reduceEqDiff, Nat.reduceLeDiff, Nat.zero_add, if_true, if_false, Bool.not_true, Bool.not_false, Bool.false_eq_true, decide_true, decide_false, ite_true, ite_false, Option.some.injEq, reduceIte, mFor, mItV, rv]
  refine for_ind (xs := r.map pv2) (P := fun s => (match s.andS fun env h => (match env[1]? with | some (some v) => R.ok v h | _ => .bad).andS env fun v h1 => .rt v h1 with | .nx _ h' => R.ok MV.non h' | .rt v h' => .ok v h' | .exc x _ h' => .exc x h' | _ => .bad) = R.ok (MV.int (turnN r : Nat)) h)
    (fun i env h' => h' = h ∧ ∃ x2 x3, env = [some (.tup (r.map pv2)), some (.int ((r.take i).foldl (fun acc p => Nat.lcm acc p.1.toNat) 1 : Nat)), x2, x3])
    (fun i env h' _ => itT_nx _ i h') ?_ ?_ fuel 0 _ h ⟨rfl, none, none, rfl⟩ (Nat.zero_le _) (by have := v.l3; have := fuel_ge; simp only [List.length_map]; omega)
  · rintro env h' ⟨rfl, x2, x3, rfl⟩
    simp only [Mv.mDef, Mv.mSeq, Mv.mSet, Mv.mRet, Mv.mRetN, Mv.mIfS, Mv.mVar, Mv.mC, Mv.mBin, Mv.mChain, Mv.mCall, Mv.mDo, Mv.mCons, Mv.mNil, Mv.mAndV, Mv.mOrV, Mv.mNotV, Mv.mAsB, Mv.mAndT, Mv.mOrT, Mv.mNotT, Mv.mIf, Mv.mTup, Mv.mLst, Mv.mNext, Mv.mBad, Mv.mDrop, Mv.mPar, Mv.mAsg, Mv.mStore, Mv.mNeg, Mv.fNeg, Mv.mYes, Mv.mNoP, Mv.mPart, Mv.mSl, Mv.fI, Mv.fAdd, Mv.fSub, Mv.fMul, Mv.fMod, Mv.fDiv, Mv.fPow, Mv.fLt, Mv.fLe, Mv.fGt, Mv.fGe, Mv.yes2, Mv.fIsN, Mv.fNotN, Mv.isNon, Mv.fIx, Mv.items_tup, Mv.items_new, Mv.list_new, Mv.lstOf_new, Mv.fEq_int, Mv.fNe_int, Mv.fLen_tup, Mv.fMax2, Mv.fMin2, Mv.fInt, Mv.fAbs, Mv.mIsi, Mv.isT, Mv.gN, Mv.gT, Mv.setAll, Mv.wipeM, Mv.R.bind_ok, Mv.R.bind_bad, Mv.R.noX_ok, Mv.R.andS_ok, Mv.R.andS_bad, Mv.S.andS_nx, Mv.S.andS_rt, Mv.S.andS_bad, Mv.S.andS_bk, Mv.S.andS_ct, List.map_cons, List.map_nil, List.cons_append, List.nil_append, List.append_nil, List.replicate_succ, List.replicate_zero, List.length_cons, List.length_nil, List.set_cons_zero, List.set_cons_succ, List.getElem?_cons_zero, List.getElem?_cons_succ, List.getElem?_nil, Nat.reduceAdd, Nat.reduceSub, Nat.reduceEqDiff, Nat.reduceLeDiff, Nat.zero_add, if_true, if_false, Bool.not_true, Bool.not_false, Bool.false_eq_true, decide_true, decide_false, ite_true, ite_false, Option.some.injEq, reduceIte, List.length_map, List.take_length]
    rfl
  · rintro i x env h' hx ⟨rfl, x2, x3, rfl⟩
    rw [List.getElem?_map] at hx
    cases q : r[i]? with
    | none => rw [q] at hx; cases hx
    | some p =>
      rw [q] at hx
      cases hx
      obtain ⟨hi, ei⟩ := List.getElem?_eq_some_iff.mp q
      have hp := v.ok p (List.mem_of_getElem? q)
      have hsub : ∀ z ∈ r.take i, 1 ≤ z.1 ∧ z.1 ≤ 6 := fun z hz => by have := v.ok z (List.mem_of_mem_take hz); omega
      obtain ⟨a1, a2, _, _⟩ := turn_fold (r.take i) hsub 1 (Nat.le_refl _) (by decide)
      have a3 := Nat.le_of_dvd (by decide) a2
      have ep : p.1 = ((p.1.toNat : Nat) : Int) := by omega
      refine ⟨_, rfl, ?_⟩
      simp only [Mv.mDef, Mv.mSeq, Mv.mSet, Mv.mRet, Mv.mRetN, Mv.mIfS, Mv.mVar, Mv.mC, Mv.mBin, Mv.mChain, Mv.mCall, Mv.mDo, Mv.mCons, Mv.mNil, Mv.mAndV, Mv.mOrV, Mv.mNotV, Mv.mAsB, Mv.mAndT, Mv.mOrT, Mv.mNotT, Mv.mIf, Mv.mTup, Mv.mLst, Mv.mNext, Mv.mBad, Mv.mDrop, Mv.mPar, Mv.mAsg, Mv.mStore, Mv.mNeg, Mv.fNeg, Mv.mYes, Mv.mNoP, Mv.mPart, Mv.mSl, Mv.fI, Mv.fAdd, Mv.fSub, Mv.fMul, Mv.fMod, Mv.fDiv, Mv.fPow, Mv.fLt, Mv.fLe, Mv.fGt, Mv.fGe, Mv.yes2, Mv.fIsN, Mv.fNotN, Mv.isNon, Mv.fIx, Mv.items_tup, Mv.items_new, Mv.list_new, Mv.lstOf_new, Mv.fEq_int, Mv.fNe_int, Mv.fLen_tup, Mv.fMax2, Mv.fMin2, Mv.fInt, Mv.fAbs, Mv.mIsi, Mv.isT, Mv.gN, Mv.gT, Mv.setAll, Mv.wipeM, Mv.R.bind_ok, Mv.R.bind_bad, Mv.R.noX_ok, Mv.R.andS_ok, Mv.R.andS_bad, Mv.S.andS_nx, Mv.S.andS_rt, Mv.S.andS_bad, Mv.S.andS_bk, Mv.S.andS_ct, List.map_cons, List.map_nil, List.cons_append, List.nil_append, List.append_nil, List.replicate_succ, List.replicate_zero, List.length_cons, List.length_nil, List.set_cons_zero, List.set_cons_succ, List.getElem?_cons_zero, List.getElem?_cons_succ, List.getElem?_nil, Nat.reduceAdd, Nat.reduceSub, Nat.reduceEqDiff, Nat.reduceLeDiff, Nat.zero_add, if_true, if_false, Bool.not_true, Bool.not_false, Bool.false_eq_true, decide_true, decide_false, ite_true, ite_false, Option.some.injEq, reduceIte, pv2]
      have d6 : p.1.toNat ∣ 60 := by
        have : p.1.toNat = 1 ∨ p.1.toNat = 2 ∨ p.1.toNat = 3 ∨ p.1.toNat = 4 ∨ p.1.toNat = 5 ∨ p.1.toNat = 6 := by omega
        rcases this with e | e | e | e | e | e <;> rw [e] <;> decide
      rw [ep, G_common_eq a2 d6]
      simp only [Mv.mDef, Mv.mSeq, Mv.mSet, Mv.mRet, Mv.mRetN, Mv.mIfS, Mv.mVar, Mv.mC, Mv.mBin, Mv.mChain, Mv.mCall, Mv.mDo, Mv.mCons, Mv.mNil, Mv.mAndV, Mv.mOrV, Mv.mNotV, Mv.mAsB, Mv.mAndT, Mv.mOrT, Mv.mNotT, Mv.mIf, Mv.mTup, Mv.mLst, Mv.mNext, Mv.mBad, Mv.mDrop, Mv.mPar, Mv.mAsg, Mv.mStore, Mv.mNeg, Mv.fNeg, Mv.mYes, Mv.mNoP, Mv.mPart, Mv.mSl, Mv.fI, Mv.fAdd, Mv.fSub, Mv.fMul, Mv.fMod, Mv.fDiv, Mv.fPow, Mv.fLt, Mv.fLe, Mv.fGt, Mv.fGe, Mv.yes2, Mv.fIsN, Mv.fNotN, Mv.isNon, Mv.fIx, Mv.items_tup, Mv.items_new, Mv.list_new, Mv.lstOf_new, Mv.fEq_int, Mv.fNe_int, Mv.fLen_tup, Mv.fMax2, Mv.fMin2, Mv.fInt, Mv.fAbs, Mv.mIsi, Mv.isT, Mv.gN, Mv.gT, Mv.setAll, Mv.wipeM, Mv.R.bind_ok, Mv.R.bind_bad, Mv.R.noX_ok, Mv.R.andS_ok, Mv.R.andS_bad, Mv.S.andS_nx, Mv.S.andS_rt, Mv.S.andS_bad, Mv.S.andS_bk, Mv.S.andS_ct, List.map_cons, List.map_nil, List.cons_append, List.nil_append, List.append_nil, List.replicate_succ, List.replicate_zero, List.length_cons, List.length_nil, List.set_cons_zero, List.set_cons_succ, List.getElem?_cons_zero, List.getElem?_cons_succ, List.getElem?_nil, Nat.reduceAdd, Nat.reduceSub, Nat.reduceEqDiff, Nat.reduceLeDiff, Nat.zero_add, if_true, if_false, Bool.not_true, Bool.not_false, Bool.false_eq_true, decide_true, decide_false, ite_true, ite_false, Option.some.injEq, reduceIte]
      have tk : r.take (i + 1) = r.take i ++ [p] := by rw [List.take_succ, q]; rfl
      rw [tk, List.foldl_append]
      exact ⟨trivial, _, _, rfl⟩

/-! ### round_of, period_of -/
/-- what r holds, so long from its settled time on -/
def rowF (r : Rule) (k : Nat) : List Int := heldAt r (settled r + (k : Int))
def rowV (r : Rule) (k : Nat) : MV := .tup (ivs (rowF r k))
theorem nats_prog (n : Nat) : prog 0 1 n = (List.range n).map fun (k : Nat) => (k : Int) := by
  unfold prog
  congr 1
  funext k
  omega
theorem F_round_of_eq {r : Rule} (v : Valid r) (h : MH) : F_round_of (F_turn_of G_common) G_settled_of G_held_at [rv r] h = .ok (.ref h.length) (h ++ [.lst ((List.range (turnN r)).map (rowV r))]) := by
  unfold F_round_of m_round_of
  obtain ⟨t1, t2, t3, _⟩ := turn_spec v
  obtain ⟨_, _, s1, s2⟩ := settled_spec v
  have hb : inR (turnN r : Nat) = true := inR_of (by omega)
  simp only [Mv.mDef, Mv.mSeq, Mv.mSet, Mv.mRet, Mv.mRetN, Mv.mIfS, Mv.mVar, Mv.mC, Mv.mBin, Mv.mChain, Mv.mCall, Mv.mDo, Mv.mCons, Mv.mNil, Mv.mAndV, Mv.mOrV, Mv.mNotV, Mv.mAsB, Mv.mAndT, Mv.mOrT, Mv.mNotT, Mv.mIf, Mv.mTup, Mv.mLst, Mv.mNext, Mv.mBad, Mv.mDrop, Mv.mPar, Mv.mAsg, Mv.mStore, Mv.mNeg, Mv.fNeg, Mv.mYes, Mv.mNoP, Mv.mPart, Mv.mSl, Mv.fI, Mv.fAdd, Mv.fSub, Mv.fMul, Mv.fMod, Mv.fDiv, Mv.fPow, Mv.fLt, Mv.fLe, Mv.fGt, Mv.fGe, Mv.yes2, Mv.fIsN, Mv.fNotN, Mv.isNon, Mv.fIx, Mv.items_tup, Mv.items_new, Mv.list_new, Mv.lstOf_new, Mv.fEq_int, Mv.fNe_int, Mv.fLen_tup, Mv.fMax2, Mv.fMin2, Mv.fInt, Mv.fAbs, Mv.mIsi, Mv.isT, Mv.gN, Mv.gT, Mv.setAll, Mv.wipeM, Mv.R.bind_ok, Mv.R.bind_bad, Mv.R.noX_ok, Mv.R.andS_ok, Mv.R.andS_bad, Mv.S.andS_nx, Mv.S.andS_rt, Mv.S.andS_bad, Mv.S.andS_bk, Mv.S.andS_ct, List.map_cons, List.map_nil, List.cons_append, List.nil_append, List.append_nil, List.replicate_succ, List.replicate_zero, List.length_cons, List.length_nil, List.set_cons_zero, List.set_cons_succ, List.getElem?_cons_zero, List.getElem?_cons_succ, List.getElem?_nil, Nat.reduceAdd, Nat.reduceSub, Nat.reduceEqDiff, Nat.reduceLeDiff, Nat.zero_add, if_true, if_false, Bool.not_true, Bool.not_false, Bool.false_eq_true, decide_true, decide_false, ite_true, ite_false, Option.some.injEq, reduceIte, mLc, mRng1, F_turn_of_eq v, hb]
  rw [comp_pure (l := List.range (turnN r)) (enc := fun (k : Nat) => MV.int (k : Int)) (cb := fun _ => true) (f := rowV r) (fun i => by
    rw [itR_nx, nats_prog, Int.toNat_natCast]; unfold ivs; rw [List.map_map]; rfl) (by rw [List.length_range]; unfold cap; omega)]
  · rw [filter_yes]; rfl
  · intro k _
    refine ⟨_, rfl, ?_⟩
    simp only [Mv.mDef, Mv.mSeq, Mv.mSet, Mv.mRet, Mv.mRetN, Mv.mIfS, Mv.mVar, Mv.mC, Mv.mBin, Mv.mChain, Mv.mCall, Mv.mDo, Mv.mCons, Mv.mNil, Mv.mAndV, Mv.mOrV, Mv.mNotV, Mv.mAsB, Mv.mAndT, Mv.mOrT, Mv.mNotT, Mv.mIf, Mv.mTup, Mv.mLst, Mv.mNext, Mv.mBad, Mv.mDrop, Mv.mPar, Mv.mAsg, Mv.mStore, Mv.mNeg, Mv.fNeg, Mv.mYes, Mv.mNoP, Mv.mPart, Mv.mSl, Mv.fI, Mv.fAdd, Mv.fSub, Mv.fMul, Mv.fMod, Mv.fDiv, Mv.fPow, Mv.fLt, Mv.fLe, Mv.fGt, Mv.fGe, Mv.yes2, Mv.fIsN, Mv.fNotN, Mv.isNon, Mv.fIx, Mv.items_tup, Mv.items_new, Mv.list_new, Mv.lstOf_new, Mv.fEq_int, Mv.fNe_int, Mv.fLen_tup, Mv.fMax2, Mv.fMin2, Mv.fInt, Mv.fAbs, Mv.mIsi, Mv.isT, Mv.gN, Mv.gT, Mv.setAll, Mv.wipeM, Mv.R.bind_ok, Mv.R.bind_bad, Mv.R.noX_ok, Mv.R.andS_ok, Mv.R.andS_bad, Mv.S.andS_nx, Mv.S.andS_rt, Mv.S.andS_bad, Mv.S.andS_bk, Mv.S.andS_ct, List.map_cons, List.map_nil, List.cons_append, List.nil_append, List.append_nil, List.replicate_succ, List.replicate_zero, List.length_cons, List.length_nil, List.set_cons_zero, List.set_cons_succ, List.getElem?_cons_zero, List.getElem?_cons_succ, List.getElem?_nil, Nat.reduceAdd, Nat.reduceSub, Nat.reduceEqDiff, Nat.reduceLeDiff, Nat.zero_add, if_true, if_false, Bool.not_true, Bool.not_false, Bool.false_eq_true, decide_true, decide_false, ite_true, ite_false, Option.some.injEq, reduceIte, G_settled_of_eq v, G_held_at_eq v (t := settled r + (k : Int)) (by omega)]
    exact ⟨trivial, fun _ => rfl⟩


theorem ok_ex {v : MV} {h h' : MH} (e : h <+: h') : ∃ g, R.ok v h' = R.ok v (h ++ g) := by
  obtain ⟨t, e⟩ := e
  exact ⟨t, by rw [e]⟩
/-! ### lists of rows as data -/
def tD (l : List Int) : PyData := .tuple (l.map PyData.int)
theorem data_rows {h : MH} {n : Nat} {ls : List (List Int)} (e : h[n]? = some (.lst (ls.map fun l => .tup (ivs l)))) : dataOf 12 h (.ref n) = some (.list (ls.map tD)) := by
  show (match h[n]? with
      | some (.lst xs) => (allSome (xs.map (dataOf 11 h))).map PyData.list
      | some (.frz xs) => (allSome (xs.map (dataOf 11 h))).map PyData.list
      | _ => none) = _
  simp only [e]
  have q : allSome ((ls.map fun l => MV.tup (ivs l)).map (dataOf 11 h)) = some (ls.map tD) := by
    rw [List.map_map]
    exact allSome_map fun l _ => data_ints 9 h l
  rw [q]
  rfl
theorem eqv_tD (a b : List Int) : PyData.eqv (tD a) (tD b) = true ↔ a = b := by
  unfold tD
  rw [eqv_tints]
  simp
theorem eqv_rows (a b : List (List Int)) : PyData.eqv (.list (a.map tD)) (.list (b.map tD)) = decide (a = b) := by
  have : PyData.eqv (.list (a.map tD)) (.list (b.map tD)) = true ↔ a = b := by
    simp only [PyData.eqv]
    exact eqvAll_by eqv_tD a b
  by_cases e : a = b
  · rw [decide_eq_true e]; exact this.mpr e
  · rw [decide_eq_false e]
    exact Bool.eq_false_iff.mpr fun z => e (this.mp z)
theorem fEq_rows {h : MH} {n m : Nat} {a b : List (List Int)} (e : h[n]? = some (.lst (a.map fun l => .tup (ivs l)))) (e' : h[m]? = some (.lst (b.map fun l => .tup (ivs l)))) : fEq (.ref n) (.ref m) h = .ok (.bl (decide (a = b))) h := by
  unfold fEq
  simp only [data_rows e, data_rows e', eqv_rows]
theorem fNe_rows {h : MH} {n m : Nat} {a b : List (List Int)} (e : h[n]? = some (.lst (a.map fun l => .tup (ivs l)))) (e' : h[m]? = some (.lst (b.map fun l => .tup (ivs l)))) : fNe (.ref n) (.ref m) h = .ok (.bl (!decide (a = b))) h := by
  unfold fNe
  simp only [data_rows e, data_rows e', eqv_rows]
theorem fEq_tints (a b : List Int) (h : MH) : fEq (.tup (ivs a)) (.tup (ivs b)) h = .ok (.bl (decide (a = b))) h := by
  unfold fEq
  simp only [data_ints, eqv_tints]
theorem fNe_tints (a b : List Int) (h : MH) : fNe (.tup (ivs a)) (.tup (ivs b)) h = .ok (.bl (!decide (a = b))) h := by
  unfold fNe
  simp only [data_ints, eqv_tints]
theorem cutM_drop (xs : List MV) {n : Nat} (h : n ≤ xs.length) : cutM xs (some (n : Int)) none = xs.drop n := by
  unfold cutM
  rw [HT.sIx_nat, HT.sIx_none, Nat.min_eq_left h, ← List.length_drop, List.take_length]
theorem cutM_take (xs : List MV) {n : Nat} (h : n ≤ xs.length) : cutM xs none (some (n : Int)) = xs.take n := by
  unfold cutM
  rw [HT.sIx_nat, HT.sIx_none, Nat.min_eq_left h, List.drop_zero, Nat.sub_zero]

theorem at_zero {α : Type} (a : α) (l : List α) : atI (a :: l) 0 = some a := by
  simp [atI, ixN]
/-! ### period_of -/
def rotE (L : List (List Int)) (n : Nat) : Bool := decide (L.drop n ++ L.take n = L)
def rowsL (r : Rule) (n : Nat) : List (List Int) := (List.range n).map (rowF r)
theorem rowsV_eq (r : Rule) (n : Nat) : (List.range n).map (rowV r) = (rowsL r n).map fun l => .tup (ivs l) := by
  unfold rowsL rowV
  rw [List.map_map]; rfl
def nums (T : Nat) : List Nat := ((List.range T).map (· + 1)).filter fun n => decide (T % n = 0)
theorem nums_ivs (T : Nat) : ivs (prog 1 1 ((T : Int) + 1 - 1).toNat) = ((List.range T).map (· + 1)).map fun (k : Nat) => MV.int (k : Int) := by
  have : ((T : Int) + 1 - 1).toNat = T := by omega
  rw [this]
  unfold ivs prog
  rw [List.map_map, List.map_map]
  apply List.map_congr_left
  intro k _
  show MV.int (1 + (k : Int) * 1) = MV.int ((k + 1 : Nat) : Int)
  congr 1
  omega
def periods (r : Rule) : List Nat := (nums (turnN r)).filter fun n => rotE (rowsL r (turnN r)) n
noncomputable def G_round_of : List MV → MH → R MV := F_round_of (F_turn_of G_common) G_settled_of G_held_at
theorem F_period_of_eq {r : Rule} (v : Valid r) (h : MH) {p : Nat} {rest : List Nat} (hp : periods r = p :: rest) : ∃ g, F_period_of G_round_of [rv r] h = .ok (.int (p : Nat)) (h ++ g) := by
  unfold F_period_of m_period_of G_round_of
  obtain ⟨t1, t2, t3, _⟩ := turn_spec v
  have hlen : ((List.range (turnN r)).map (rowV r)).length = turnN r := by simp
  simp only [Mv.mDef, Mv.mSeq, Mv.mSet, Mv.mRet, Mv.mRetN, Mv.mIfS, Mv.mVar, Mv.mC, Mv.mBin, Mv.mChain, Mv.mCall, Mv.mDo, Mv.mCons, Mv.mNil, Mv.mAndV, Mv.mOrV, Mv.mNotV, Mv.mAsB, Mv.mAndT, Mv.mOrT, Mv.mNotT, Mv.mIf, Mv.mTup, Mv.mLst, Mv.mNext, Mv.mBad, Mv.mDrop, Mv.mPar, Mv.mAsg, Mv.mStore, Mv.mNeg, Mv.fNeg, Mv.mYes, Mv.mNoP, Mv.mPart, Mv.mSl, Mv.fI, Mv.fAdd, Mv.fSub, Mv.fMul, Mv.fMod, Mv.fDiv, Mv.fPow, Mv.fLt, Mv.fLe, Mv.fGt, Mv.fGe, Mv.yes2, Mv.fIsN, Mv.fNotN, Mv.isNon, Mv.fIx, Mv.items_tup, Mv.items_new, Mv.list_new, Mv.lstOf_new, Mv.fEq_int, Mv.fNe_int, Mv.fLen_tup, Mv.fMax2, Mv.fMin2, Mv.fInt, Mv.fAbs, Mv.mIsi, Mv.isT, Mv.gN, Mv.gT, Mv.setAll, Mv.wipeM, Mv.R.bind_ok, Mv.R.bind_bad, Mv.R.noX_ok, Mv.R.andS_ok, Mv.R.andS_bad, Mv.S.andS_nx, Mv.S.andS_rt, Mv.S.andS_bad, Mv.S.andS_bk, Mv.S.andS_ct, List.map_cons, List.map_nil, List.cons_append, List.nil_append, List.append_nil, List.replicate_succ, List.replicate_zero, List.length_cons, List.length_nil, List.set_cons_zero, List.set_cons_succ, List.getElem?_cons_zero, List.getElem?_cons_succ, List.getElem?_nil, Nat.reduceAdd, Nat.reduceSub, Nat.reduceEqDiff, Nat.reduceLeDiff, Nat.zero_add, if_true, if_false, Bool.not_true, Bool.not_false, Bool.false_eq_true, decide_true, decide_false, ite_true, ite_false, Option.some.injEq, reduceIte, F_round_of_eq v, mLc, mRng2, fLen_items (items_new h _), hlen]
  have hb1 : inR 1 = true := inR_of (by omega)
  have hb : inR ((turnN r : Nat) + 1) = true := inR_of (by omega)
  simp only [Mv.mDef, Mv.mSeq, Mv.mSet, Mv.mRet, Mv.mRetN, Mv.mIfS, Mv.mVar, Mv.mC, Mv.mBin, Mv.mChain, Mv.mCall, Mv.mDo, Mv.mCons, Mv.mNil, Mv.mAndV, Mv.mOrV, Mv.mNotV, Mv.mAsB, Mv.mAndT, Mv.mOrT, Mv.mNotT, Mv.mIf, Mv.mTup, Mv.mLst, Mv.mNext, Mv.mBad, Mv.mDrop, Mv.mPar, Mv.mAsg, Mv.mStore, Mv.mNeg, Mv.fNeg, Mv.mYes, Mv.mNoP, Mv.mPart, Mv.mSl, Mv.fI, Mv.fAdd, Mv.fSub, Mv.fMul, Mv.fMod, Mv.fDiv, Mv.fPow, Mv.fLt, Mv.fLe, Mv.fGt, Mv.fGe, Mv.yes2, Mv.fIsN, Mv.fNotN, Mv.isNon, Mv.fIx, Mv.items_tup, Mv.items_new, Mv.list_new, Mv.lstOf_new, Mv.fEq_int, Mv.fNe_int, Mv.fLen_tup, Mv.fMax2, Mv.fMin2, Mv.fInt, Mv.fAbs, Mv.mIsi, Mv.isT, Mv.gN, Mv.gT, Mv.setAll, Mv.wipeM, Mv.R.bind_ok, Mv.R.bind_bad, Mv.R.noX_ok, Mv.R.andS_ok, Mv.R.andS_bad, Mv.S.andS_nx, Mv.S.andS_rt, Mv.S.andS_bad, Mv.S.andS_bk, Mv.S.andS_ct, List.map_cons, List.map_nil, List.cons_append, List.nil_append, List.append_nil, List.replicate_succ, List.replicate_zero, List.length_cons, List.length_nil, List.set_cons_zero, List.set_cons_succ, List.getElem?_cons_zero, List.getElem?_cons_succ, List.getElem?_nil, Nat.reduceAdd, Nat.reduceSub, Nat.reduceEqDiff, Nat.reduceLeDiff, Nat.zero_add, if_true, if_false, Bool.not_true, Bool.not_false, Bool.false_eq_true, decide_true, decide_false, ite_true, ite_false, Option.some.injEq, reduceIte, hb1, hb, and_self]
  rw [comp_pure (l := (List.range (turnN r)).map (· + 1)) (enc := fun (k : Nat) => MV.int (k : Int)) (cb := fun n => decide (turnN r % n = 0)) (f := fun (k : Nat) => MV.int (k : Int)) (fun i => by
    rw [itR_nx, nums_ivs]) (by rw [List.length_map, List.length_range]; unfold cap; omega)]
  · generalize eg : ((List.range (turnN r)).map (· + 1)).filter (fun n => decide (turnN r % n = 0)) = ns
    have ens : nums (turnN r) = ns := eg
    have hns : ∀ n ∈ ns, 1 ≤ n ∧ n ≤ turnN r := fun n hn => by
      rw [← eg] at hn
      obtain ⟨k, hk, e⟩ := List.mem_map.mp (List.mem_filter.mp hn).1
      have := List.mem_range.mp hk
      omega
    simp only [Mv.mDef, Mv.mSeq, Mv.mSet, Mv.mRet, Mv.mRetN, Mv.mIfS, Mv.mVar, Mv.mC, Mv.mBin, Mv.mChain, Mv.mCall, Mv.mDo, Mv.mCons, Mv.mNil, Mv.mAndV, Mv.mOrV, Mv.mNotV, Mv.mAsB, Mv.mAndT, Mv.mOrT, Mv.mNotT, Mv.mIf, Mv.mTup, Mv.mLst, Mv.mNext, Mv.mBad, Mv.mDrop, Mv.mPar, Mv.mAsg, Mv.mStore, Mv.mNeg, Mv.fNeg, Mv.mYes, Mv.mNoP, Mv.mPart, Mv.mSl, Mv.fI, Mv.fAdd, Mv.fSub, Mv.fMul, Mv.fMod, Mv.fDiv, Mv.fPow, Mv.fLt, Mv.fLe, Mv.fGt, Mv.fGe, Mv.yes2, Mv.fIsN, Mv.fNotN, Mv.isNon, Mv.fIx, Mv.items_tup, Mv.items_new, Mv.list_new, Mv.lstOf_new, Mv.fEq_int, Mv.fNe_int, Mv.fLen_tup, Mv.fMax2, Mv.fMin2, Mv.fInt, Mv.fAbs, Mv.mIsi, Mv.isT, Mv.gN, Mv.gT, Mv.setAll, Mv.wipeM, Mv.R.bind_ok, Mv.R.bind_bad, Mv.R.noX_ok, Mv.R.andS_ok, Mv.R.andS_bad, Mv.S.andS_nx, Mv.S.andS_rt, Mv.S.andS_bad, Mv.S.andS_bk, Mv.S.andS_ct, List.map_cons, List.map_nil, List.cons_append, List.nil_append, List.append_nil, List.replicate_succ, List.replicate_zero, List.length_cons, List.length_nil, List.set_cons_zero, List.set_cons_succ, List.getElem?_cons_zero, List.getElem?_cons_succ, List.getElem?_nil, Nat.reduceAdd, Nat.reduceSub, Nat.reduceEqDiff, Nat.reduceLeDiff, Nat.zero_add, if_true, if_false, Bool.not_true, Bool.not_false, Bool.false_eq_true, decide_true, decide_false, ite_true, ite_false, Option.some.injEq, reduceIte, mLc, mItV]
    generalize eh2 : h ++ [MO.lst ((List.range (turnN r)).map (rowV r))] ++ [MO.lst (ns.map fun (k : Nat) => MV.int (k : Int))] = h2
    have hrow : h2[h.length]? = some (.lst ((rowsL r (turnN r)).map fun l => .tup (ivs l))) := by
      rw [← eh2, ← rowsV_eq]
      exact look_app (look_new _ _)
    have hns2 : h2[(h ++ [MO.lst ((List.range (turnN r)).map (rowV r))]).length]? = some (.lst (ns.map fun (k : Nat) => MV.int (k : Int))) := by
      rw [← eh2]
      exact look_new _ _
    have hrl : (rowsL r (turnN r)).length = turnN r := by simp [rowsL]
    have hnl : ns.length ≤ cap := by
      rw [← eg]
      have := List.length_filter_le (fun n => decide (turnN r % n = 0)) ((List.range (turnN r)).map (· + 1))
      simp at this
      unfold cap
      omega
    obtain ⟨g, ec⟩ := comp_more (h := h2) (it := itL (h ++ [MO.lst ((List.range (turnN r)).map (rowV r))]).length) (tg := gN 3) (own := [3])
      (c := mAsB (mBin fEq (mBin fAdd (mSl (mVar 1) (mPart (mVar 3)) mNoP) (mSl (mVar 1) mNoP (mPart (mVar 3)))) (mVar 1))) (m := mVar 3)
      (env := [some (rv r), some (MV.ref h.length), some (MV.ref (h ++ [MO.lst ((List.range (turnN r)).map (rowV r))]).length), none])
      (l := ns) (enc := fun (k : Nat) => MV.int (k : Int)) (cb := fun n => rotE (rowsL r (turnN r)) n) (f := fun (k : Nat) => MV.int (k : Int)) (fun i g => itL_nx (look_app hns2) i) hnl (fun n hn g => by
        obtain ⟨n1, n2⟩ := hns n hn
        refine ⟨_, rfl, ?_⟩
        have a0 : (h2 ++ g)[h.length]? = some (.lst ((rowsL r (turnN r)).map fun l => .tup (ivs l))) := look_app hrow
        simp only [Mv.mDef, Mv.mSeq, Mv.mSet, Mv.mRet, Mv.mRetN, Mv.mIfS, Mv.mVar, Mv.mC, Mv.mBin, Mv.mChain, Mv.mCall, Mv.mDo, Mv.mCons, Mv.mNil, Mv.mAndV, Mv.mOrV, Mv.mNotV, Mv.mAsB, Mv.mAndT, Mv.mOrT, Mv.mNotT, Mv.mIf, Mv.mTup, Mv.mLst, Mv.mNext, Mv.mBad, Mv.mDrop, Mv.mPar, Mv.mAsg, Mv.mStore, Mv.mNeg, Mv.fNeg, Mv.mYes, Mv.mNoP, Mv.mPart, Mv.mSl, Mv.fI, Mv.fSub, Mv.fMul, Mv.fMod, Mv.fDiv, Mv.fPow, Mv.fLt, Mv.fLe, Mv.fGt, Mv.fGe, Mv.yes2, Mv.fIsN, Mv.fNotN, Mv.isNon, Mv.fIx, Mv.items_tup, Mv.items_new, Mv.list_new, Mv.lstOf_new, Mv.fEq_int, Mv.fNe_int, Mv.fLen_tup, Mv.fMax2, Mv.fMin2, Mv.fInt, Mv.fAbs, Mv.mIsi, Mv.isT, Mv.gN, Mv.gT, Mv.setAll, Mv.wipeM, Mv.R.bind_ok, Mv.R.bind_bad, Mv.R.noX_ok, Mv.R.andS_ok, Mv.R.andS_bad, Mv.S.andS_nx, Mv.S.andS_rt, Mv.S.andS_bad, Mv.S.andS_bk, Mv.S.andS_ct, List.map_cons, List.map_nil, List.cons_append, List.nil_append, List.append_nil, List.replicate_succ, List.replicate_zero, List.length_cons, List.length_nil, List.set_cons_zero, List.set_cons_succ, List.getElem?_cons_zero, List.getElem?_cons_succ, List.getElem?_nil, Nat.reduceAdd, Nat.reduceSub, Nat.reduceEqDiff, Nat.reduceLeDiff, Nat.zero_add, if_true, if_false, Bool.not_true, Bool.not_false, Bool.false_eq_true, decide_true, decide_false, ite_true, ite_false, Option.some.injEq, reduceIte]
        rw [fSl_drop (items_at a0) (by rw [List.length_map, hrl]; omega) (by rw [List.length_map, hrl]; unfold cap; omega)]
        simp only [Mv.mDef, Mv.mSeq, Mv.mSet, Mv.mRet, Mv.mRetN, Mv.mIfS, Mv.mVar, Mv.mC, Mv.mBin, Mv.mChain, Mv.mCall, Mv.mDo, Mv.mCons, Mv.mNil, Mv.mAndV, Mv.mOrV, Mv.mNotV, Mv.mAsB, Mv.mAndT, Mv.mOrT, Mv.mNotT, Mv.mIf, Mv.mTup, Mv.mLst, Mv.mNext, Mv.mBad, Mv.mDrop, Mv.mPar, Mv.mAsg, Mv.mStore, Mv.mNeg, Mv.fNeg, Mv.mYes, Mv.mNoP, Mv.mPart, Mv.mSl, Mv.fI, Mv.fSub, Mv.fMul, Mv.fMod, Mv.fDiv, Mv.fPow, Mv.fLt, Mv.fLe, Mv.fGt, Mv.fGe, Mv.yes2, Mv.fIsN, Mv.fNotN, Mv.isNon, Mv.fIx, Mv.items_tup, Mv.items_new, Mv.list_new, Mv.lstOf_new, Mv.fEq_int, Mv.fNe_int, Mv.fLen_tup, Mv.fMax2, Mv.fMin2, Mv.fInt, Mv.fAbs, Mv.mIsi, Mv.isT, Mv.gN, Mv.gT, Mv.setAll, Mv.wipeM, Mv.R.bind_ok, Mv.R.bind_bad, Mv.R.noX_ok, Mv.R.andS_ok, Mv.R.andS_bad, Mv.S.andS_nx, Mv.S.andS_rt, Mv.S.andS_bad, Mv.S.andS_bk, Mv.S.andS_ct, List.map_cons, List.map_nil, List.cons_append, List.nil_append, List.append_nil, List.replicate_succ, List.replicate_zero, List.length_cons, List.length_nil, List.set_cons_zero, List.set_cons_succ, List.getElem?_cons_zero, List.getElem?_cons_succ, List.getElem?_nil, Nat.reduceAdd, Nat.reduceSub, Nat.reduceEqDiff, Nat.reduceLeDiff, Nat.zero_add, if_true, if_false, Bool.not_true, Bool.not_false, Bool.false_eq_true, decide_true, decide_false, ite_true, ite_false, Option.some.injEq, reduceIte]
        have a1 := look_app (g := [MO.lst (((rowsL r (turnN r)).map fun l => MV.tup (ivs l)).drop n)]) a0
        rw [fSl_take (items_at a1) (by rw [List.length_map, hrl]; omega) (by rw [List.length_map, hrl]; unfold cap; omega)]
        simp only [Mv.mDef, Mv.mSeq, Mv.mSet, Mv.mRet, Mv.mRetN, Mv.mIfS, Mv.mVar, Mv.mC, Mv.mBin, Mv.mChain, Mv.mCall, Mv.mDo, Mv.mCons, Mv.mNil, Mv.mAndV, Mv.mOrV, Mv.mNotV, Mv.mAsB, Mv.mAndT, Mv.mOrT, Mv.mNotT, Mv.mIf, Mv.mTup, Mv.mLst, Mv.mNext, Mv.mBad, Mv.mDrop, Mv.mPar, Mv.mAsg, Mv.mStore, Mv.mNeg, Mv.fNeg, Mv.mYes, Mv.mNoP, Mv.mPart, Mv.mSl, Mv.fI, Mv.fSub, Mv.fMul, Mv.fMod, Mv.fDiv, Mv.fPow, Mv.fLt, Mv.fLe, Mv.fGt, Mv.fGe, Mv.yes2, Mv.fIsN, Mv.fNotN, Mv.isNon, Mv.fIx, Mv.items_tup, Mv.items_new, Mv.list_new, Mv.lstOf_new, Mv.fEq_int, Mv.fNe_int, Mv.fLen_tup, Mv.fMax2, Mv.fMin2, Mv.fInt, Mv.fAbs, Mv.mIsi, Mv.isT, Mv.gN, Mv.gT, Mv.setAll, Mv.wipeM, Mv.R.bind_ok, Mv.R.bind_bad, Mv.R.noX_ok, Mv.R.andS_ok, Mv.R.andS_bad, Mv.S.andS_nx, Mv.S.andS_rt, Mv.S.andS_bad, Mv.S.andS_bk, Mv.S.andS_ct, List.map_cons, List.map_nil, List.cons_append, List.nil_append, List.append_nil, List.replicate_succ, List.replicate_zero, List.length_cons, List.length_nil, List.set_cons_zero, List.set_cons_succ, List.getElem?_cons_zero, List.getElem?_cons_succ, List.getElem?_nil, Nat.reduceAdd, Nat.reduceSub, Nat.reduceEqDiff, Nat.reduceLeDiff, Nat.zero_add, if_true, if_false, Bool.not_true, Bool.not_false, Bool.false_eq_true, decide_true, decide_false, ite_true, ite_false, Option.some.injEq, reduceIte]
        have b1 := look_app (g := [MO.lst (((rowsL r (turnN r)).map fun l => MV.tup (ivs l)).take n)]) (look_new (h2 ++ g) (MO.lst (((rowsL r (turnN r)).map fun l => MV.tup (ivs l)).drop n)))
        have b2 := look_new (h2 ++ g ++ [MO.lst (((rowsL r (turnN r)).map fun l => MV.tup (ivs l)).drop n)]) (MO.lst (((rowsL r (turnN r)).map fun l => MV.tup (ivs l)).take n))
        rw [fAdd_refs b1 b2 (by simp only [List.length_drop, List.length_take, List.length_map, hrl]; unfold cap; omega)]
        simp only [Mv.mDef, Mv.mSeq, Mv.mSet, Mv.mRet, Mv.mRetN, Mv.mIfS, Mv.mVar, Mv.mC, Mv.mBin, Mv.mChain, Mv.mCall, Mv.mDo, Mv.mCons, Mv.mNil, Mv.mAndV, Mv.mOrV, Mv.mNotV, Mv.mAsB, Mv.mAndT, Mv.mOrT, Mv.mNotT, Mv.mIf, Mv.mTup, Mv.mLst, Mv.mNext, Mv.mBad, Mv.mDrop, Mv.mPar, Mv.mAsg, Mv.mStore, Mv.mNeg, Mv.fNeg, Mv.mYes, Mv.mNoP, Mv.mPart, Mv.mSl, Mv.fI, Mv.fSub, Mv.fMul, Mv.fMod, Mv.fDiv, Mv.fPow, Mv.fLt, Mv.fLe, Mv.fGt, Mv.fGe, Mv.yes2, Mv.fIsN, Mv.fNotN, Mv.isNon, Mv.fIx, Mv.items_tup, Mv.items_new, Mv.list_new, Mv.lstOf_new, Mv.fEq_int, Mv.fNe_int, Mv.fLen_tup, Mv.fMax2, Mv.fMin2, Mv.fInt, Mv.fAbs, Mv.mIsi, Mv.isT, Mv.gN, Mv.gT, Mv.setAll, Mv.wipeM, Mv.R.bind_ok, Mv.R.bind_bad, Mv.R.noX_ok, Mv.R.andS_ok, Mv.R.andS_bad, Mv.S.andS_nx, Mv.S.andS_rt, Mv.S.andS_bad, Mv.S.andS_bk, Mv.S.andS_ct, List.map_cons, List.map_nil, List.cons_append, List.nil_append, List.append_nil, List.replicate_succ, List.replicate_zero, List.length_cons, List.length_nil, List.set_cons_zero, List.set_cons_succ, List.getElem?_cons_zero, List.getElem?_cons_succ, List.getElem?_nil, Nat.reduceAdd, Nat.reduceSub, Nat.reduceEqDiff, Nat.reduceLeDiff, Nat.zero_add, if_true, if_false, Bool.not_true, Bool.not_false, Bool.false_eq_true, decide_true, decide_false, ite_true, ite_false, Option.some.injEq, reduceIte]
        have b3 := look_new (h2 ++ g ++ [MO.lst (((rowsL r (turnN r)).map fun l => MV.tup (ivs l)).drop n)] ++ [MO.lst (((rowsL r (turnN r)).map fun l => MV.tup (ivs l)).take n)]) (MO.lst ((((rowsL r (turnN r)).map fun l => MV.tup (ivs l)).drop n) ++ (((rowsL r (turnN r)).map fun l => MV.tup (ivs l)).take n)))
        have a2 := look_app (g := [MO.lst ((((rowsL r (turnN r)).map fun l => MV.tup (ivs l)).drop n) ++ (((rowsL r (turnN r)).map fun l => MV.tup (ivs l)).take n))]) (look_app (g := [MO.lst (((rowsL r (turnN r)).map fun l => MV.tup (ivs l)).take n)]) a1)
        have b4 := b3.trans (show _ = some (MO.lst (((rowsL r (turnN r)).drop n ++ (rowsL r (turnN r)).take n).map fun l => MV.tup (ivs l))) by rw [List.map_append, List.map_drop, List.map_take])
        rw [fEq_rows b4 a2]
        simp only [Mv.mDef, Mv.mSeq, Mv.mSet, Mv.mRet, Mv.mRetN, Mv.mIfS, Mv.mVar, Mv.mC, Mv.mBin, Mv.mChain, Mv.mCall, Mv.mDo, Mv.mCons, Mv.mNil, Mv.mAndV, Mv.mOrV, Mv.mNotV, Mv.mAsB, Mv.mAndT, Mv.mOrT, Mv.mNotT, Mv.mIf, Mv.mTup, Mv.mLst, Mv.mNext, Mv.mBad, Mv.mDrop, Mv.mPar, Mv.mAsg, Mv.mStore, Mv.mNeg, Mv.fNeg, Mv.mYes, Mv.mNoP, Mv.mPart, Mv.mSl, Mv.fI, Mv.fAdd, Mv.fSub, Mv.fMul, Mv.fMod, Mv.fDiv, Mv.fPow, Mv.fLt, Mv.fLe, Mv.fGt, Mv.fGe, Mv.yes2, Mv.fIsN, Mv.fNotN, Mv.isNon, Mv.fIx, Mv.items_tup, Mv.items_new, Mv.list_new, Mv.lstOf_new, Mv.fEq_int, Mv.fNe_int, Mv.fLen_tup, Mv.fMax2, Mv.fMin2, Mv.fInt, Mv.fAbs, Mv.mIsi, Mv.isT, Mv.gN, Mv.gT, Mv.setAll, Mv.wipeM, Mv.R.bind_ok, Mv.R.bind_bad, Mv.R.noX_ok, Mv.R.andS_ok, Mv.R.andS_bad, Mv.S.andS_nx, Mv.S.andS_rt, Mv.S.andS_bad, Mv.S.andS_bk, Mv.S.andS_ct, List.map_cons, List.map_nil, List.cons_append, List.nil_append, List.append_nil, List.replicate_succ, List.replicate_zero, List.length_cons, List.length_nil, List.set_cons_zero, List.set_cons_succ, List.getElem?_cons_zero, List.getElem?_cons_succ, List.getElem?_nil, Nat.reduceAdd, Nat.reduceSub, Nat.reduceEqDiff, Nat.reduceLeDiff, Nat.zero_add, if_true, if_false, Bool.not_true, Bool.not_false, Bool.false_eq_true, decide_true, decide_false, ite_true, ite_false, Option.some.injEq, reduceIte]
        refine ⟨g ++ ([MO.lst (((rowsL r (turnN r)).map fun l => MV.tup (ivs l)).drop n)] ++ ([MO.lst (((rowsL r (turnN r)).map fun l => MV.tup (ivs l)).take n)] ++ [MO.lst ((((rowsL r (turnN r)).map fun l => MV.tup (ivs l)).drop n) ++ (((rowsL r (turnN r)).map fun l => MV.tup (ivs l)).take n))])), ?_, fun _ => ⟨_, rfl⟩⟩
        rw [List.append_assoc, List.append_assoc, List.append_assoc]
        rfl)
    rw [ec]
    have ep : ns.filter (fun n => rotE (rowsL r (turnN r)) n) = p :: rest := by rw [← ens]; exact hp
    rw [ep]
    simp only [Mv.mDef, Mv.mSeq, Mv.mSet, Mv.mRet, Mv.mRetN, Mv.mIfS, Mv.mVar, Mv.mC, Mv.mBin, Mv.mChain, Mv.mCall, Mv.mDo, Mv.mCons, Mv.mNil, Mv.mAndV, Mv.mOrV, Mv.mNotV, Mv.mAsB, Mv.mAndT, Mv.mOrT, Mv.mNotT, Mv.mIf, Mv.mTup, Mv.mLst, Mv.mNext, Mv.mBad, Mv.mDrop, Mv.mPar, Mv.mAsg, Mv.mStore, Mv.mNeg, Mv.fNeg, Mv.mYes, Mv.mNoP, Mv.mPart, Mv.mSl, Mv.fI, Mv.fAdd, Mv.fSub, Mv.fMul, Mv.fMod, Mv.fDiv, Mv.fPow, Mv.fLt, Mv.fLe, Mv.fGt, Mv.fGe, Mv.yes2, Mv.fIsN, Mv.fNotN, Mv.isNon, Mv.fIx, Mv.items_tup, Mv.items_new, Mv.list_new, Mv.lstOf_new, Mv.fEq_int, Mv.fNe_int, Mv.fLen_tup, Mv.fMax2, Mv.fMin2, Mv.fInt, Mv.fAbs, Mv.mIsi, Mv.isT, Mv.gN, Mv.gT, Mv.setAll, Mv.wipeM, Mv.R.bind_ok, Mv.R.bind_bad, Mv.R.noX_ok, Mv.R.andS_ok, Mv.R.andS_bad, Mv.S.andS_nx, Mv.S.andS_rt, Mv.S.andS_bad, Mv.S.andS_bk, Mv.S.andS_ct, List.map_cons, List.map_nil, List.cons_append, List.nil_append, List.append_nil, List.replicate_succ, List.replicate_zero, List.length_cons, List.length_nil, List.set_cons_zero, List.set_cons_succ, List.getElem?_cons_zero, List.getElem?_cons_succ, List.getElem?_nil, Nat.reduceAdd, Nat.reduceSub, Nat.reduceEqDiff, Nat.reduceLeDiff, Nat.zero_add, if_true, if_false, Bool.not_true, Bool.not_false, Bool.false_eq_true, decide_true, decide_false, ite_true, ite_false, Option.some.injEq, reduceIte, items_at (look_new _ _), at_zero]
    rw [← eh2]
    apply ok_ex
    simp only [List.append_assoc]
    exact List.prefix_append _ _
  · intro n hn
    obtain ⟨k, hk, e⟩ := List.mem_map.mp hn
    have hn0 : (0 : Int) < (n : Int) := by omega
    refine ⟨_, rfl, ?_⟩
    simp only [Mv.mDef, Mv.mSeq, Mv.mSet, Mv.mRet, Mv.mRetN, Mv.mIfS, Mv.mVar, Mv.mC, Mv.mBin, Mv.mChain, Mv.mCall, Mv.mDo, Mv.mCons, Mv.mNil, Mv.mAndV, Mv.mOrV, Mv.mNotV, Mv.mAsB, Mv.mAndT, Mv.mOrT, Mv.mNotT, Mv.mIf, Mv.mTup, Mv.mLst, Mv.mNext, Mv.mBad, Mv.mDrop, Mv.mPar, Mv.mAsg, Mv.mStore, Mv.mNeg, Mv.fNeg, Mv.mYes, Mv.mNoP, Mv.mPart, Mv.mSl, Mv.fI, Mv.fAdd, Mv.fSub, Mv.fMul, Mv.fMod, Mv.fDiv, Mv.fPow, Mv.fLt, Mv.fLe, Mv.fGt, Mv.fGe, Mv.yes2, Mv.fIsN, Mv.fNotN, Mv.isNon, Mv.fIx, Mv.items_tup, Mv.items_new, Mv.list_new, Mv.lstOf_new, Mv.fEq_int, Mv.fNe_int, Mv.fLen_tup, Mv.fMax2, Mv.fMin2, Mv.fInt, Mv.fAbs, Mv.mIsi, Mv.isT, Mv.gN, Mv.gT, Mv.setAll, Mv.wipeM, Mv.R.bind_ok, Mv.R.bind_bad, Mv.R.noX_ok, Mv.R.andS_ok, Mv.R.andS_bad, Mv.S.andS_nx, Mv.S.andS_rt, Mv.S.andS_bad, Mv.S.andS_bk, Mv.S.andS_ct, List.map_cons, List.map_nil, List.cons_append, List.nil_append, List.append_nil, List.replicate_succ, List.replicate_zero, List.length_cons, List.length_nil, List.set_cons_zero, List.set_cons_succ, List.getElem?_cons_zero, List.getElem?_cons_succ, List.getElem?_nil, Nat.reduceAdd, Nat.reduceSub, Nat.reduceEqDiff, Nat.reduceLeDiff, Nat.zero_add, if_true, if_false, Bool.not_true, Bool.not_false, Bool.false_eq_true, decide_true, decide_false, ite_true, ite_false, Option.some.injEq, reduceIte, fLen_items (items_new h _), hlen, hn0]
    have e1 : decide (((turnN r : Nat) : Int) % (n : Int) = 0) = decide (turnN r % n = 0) := decide_eq_decide.mpr (by omega)
    rw [e1]
    exact ⟨rfl, fun _ => trivial⟩


/-! ### checks -/
theorem F_is_pair_eq {p : Int × Int} (hp : 1 ≤ p.1 ∧ p.1 ≤ 6 ∧ 0 ≤ p.2 ∧ p.2 ≤ 12) (h : MH) : F_is_pair F_is_integer [pv2 p] h = .ok (.bl true) h := by
  unfold F_is_pair m_is_pair
  obtain ⟨e, u⟩ := p
  obtain ⟨h1, h2, h3, h4⟩ := hp
  simp only at h1 h2 h3 h4
  have a1 : decide (1 ≤ e ∧ e ≤ 6) = true := decide_eq_true ⟨h1, h2⟩
  have a2 : decide (0 ≤ u ∧ u ≤ 12) = true := decide_eq_true ⟨h3, h4⟩
  have e1 : ((2 : Nat) : Int) = 2 := rfl
  have e2 : atI [MV.int e, MV.int u] 1 = some (.int u) := rfl
  simp only [Mv.mDef, Mv.mSeq, Mv.mSet, Mv.mRet, Mv.mRetN, Mv.mIfS, Mv.mVar, Mv.mC, Mv.mBin, Mv.mChain, Mv.mCall, Mv.mDo, Mv.mCons, Mv.mNil, Mv.mAndV, Mv.mOrV, Mv.mNotV, Mv.mAsB, Mv.mAndT, Mv.mOrT, Mv.mNotT, Mv.mIf, Mv.mTup, Mv.mLst, Mv.mNext, Mv.mBad, Mv.mDrop, Mv.mPar, Mv.mAsg, Mv.mStore, Mv.mNeg, Mv.fNeg, Mv.mYes, Mv.mNoP, Mv.mPart, Mv.mSl, Mv.fI, Mv.fAdd, Mv.fSub, Mv.fMul, Mv.fMod, Mv.fDiv, Mv.fPow, Mv.fLt, Mv.fLe, Mv.fGt, Mv.fGe, Mv.yes2, Mv.fIsN, Mv.fNotN, Mv.isNon, Mv.fIx, Mv.items_tup, Mv.items_new, Mv.list_new, Mv.lstOf_new, Mv.fEq_int, Mv.fNe_int, Mv.fLen_tup, Mv.fMax2, Mv.fMin2, Mv.fInt, Mv.fAbs, Mv.mIsi, Mv.isT, Mv.gN, Mv.gT, Mv.setAll, Mv.wipeM, Mv.R.bind_ok, Mv.R.bind_bad, Mv.R.noX_ok, Mv.R.andS_ok, Mv.R.andS_bad, Mv.S.andS_nx, Mv.S.andS_rt, Mv.S.andS_bad, Mv.S.andS_bk, Mv.S.andS_ct, List.map_cons, List.map_nil, List.cons_append, List.nil_append, List.append_nil, List.replicate_succ, List.replicate_zero, List.length_cons, List.length_nil, List.set_cons_zero, List.set_cons_succ, List.getElem?_cons_zero, List.getElem?_cons_succ, List.getElem?_nil, Nat.reduceAdd, Nat.reduceSub, Nat.reduceEqDiff, Nat.reduceLeDiff, Nat.zero_add, if_true, if_false, Bool.not_true, Bool.not_false, Bool.false_eq_true, decide_true, decide_false, ite_true, ite_false, Option.some.injEq, reduceIte, pv2, at_zero, e1, e2, F_is_integer_eq, a1, a2]
theorem F_check_rule_eq {r : Rule} (v : Valid r) (h : MH) : F_check_rule (F_is_pair F_is_integer) [rv r] h = .ok .non h := by
  unfold F_check_rule m_check_rule
  have a1 : ((1 : Int) ≤ (r.length : Int)) := by have := v.l1; omega
  have a2 : ((r.length : Int) ≤ 3) := by have := v.l3; omega
  simp only [Mv.mDef, Mv.mSeq, Mv.mSet, Mv.mRet, Mv.mRetN, Mv.mIfS, Mv.mVar, Mv.mC, Mv.mBin, Mv.mChain, Mv.mCall, Mv.mDo, Mv.mCons, Mv.mNil, Mv.mAndV, Mv.mOrV, Mv.mNotV, Mv.mAsB, Mv.mAndT, Mv.mOrT, Mv.mNotT, Mv.mIf, Mv.mTup, Mv.mLst, Mv.mNext, Mv.mBad, Mv.mDrop, Mv.mPar, Mv.mAsg, Mv.mStore, Mv.mNeg, Mv.fNeg, Mv.mYes, Mv.mNoP, Mv.mPart, Mv.mSl, Mv.fI, Mv.fAdd, Mv.fSub, Mv.fMul, Mv.fMod, Mv.fDiv, Mv.fPow, Mv.fLt, Mv.fLe, Mv.fGt, Mv.fGe, Mv.yes2, Mv.fIsN, Mv.fNotN, Mv.isNon, Mv.fIx, Mv.items_tup, Mv.items_new, Mv.list_new, Mv.lstOf_new, Mv.fEq_int, Mv.fNe_int, Mv.fLen_tup, Mv.fMax2, Mv.fMin2, Mv.fInt, Mv.fAbs, Mv.mIsi, Mv.isT, Mv.gN, Mv.gT, Mv.setAll, Mv.wipeM, Mv.R.bind_ok, Mv.R.bind_bad, Mv.R.noX_ok, Mv.R.andS_ok, Mv.R.andS_bad, Mv.S.andS_nx, Mv.S.andS_rt, Mv.S.andS_bad, Mv.S.andS_bk, Mv.S.andS_ct, List.map_cons, List.map_nil, List.cons_append, List.nil_append, List.append_nil, List.replicate_succ, List.replicate_zero, List.length_cons, List.length_nil, List.set_cons_zero, List.set_cons_succ, List.getElem?_cons_zero, List.getElem?_cons_succ, List.getElem?_nil, Nat.reduceAdd, Nat.reduceSub, Nat.reduceEqDiff, Nat.reduceLeDiff, Nat.zero_add, if_true, if_false, Bool.not_true, Bool.not_false, Bool.false_eq_true, decide_true, decide_false, ite_true, ite_false, Option.some.injEq, reduceIte, rv, mFor, mEnumV, a1, a2, List.length_map]
  refine for_ind (xs := enumL (r.map pv2)) (P := fun s => (match s with | .nx _ h' => R.ok MV.non h' | .rt v h' => .ok v h' | .exc x _ h' => .exc x h' | _ => .bad) = R.ok MV.non h)
    (fun i env h' => h' = h ∧ ∃ x2 x3, env = [some (.tup (r.map pv2)), x2, x3])
    (fun i env h' _ => itE_nx (fun i => itT_nx _ i h') i) ?_ ?_ fuel 0 _ h ⟨rfl, none, none, rfl⟩ (Nat.zero_le _) (by have := v.l3; have := fuel_ge; simp only [enumL, List.length_map, List.length_zipIdx]; omega)
  · rintro env h' ⟨rfl, x2, x3, rfl⟩
    rfl
  · rintro i x env h' hx ⟨rfl, x2, x3, rfl⟩
    unfold enumL at hx
    rw [List.getElem?_map] at hx
    cases q : (r.map pv2).zipIdx[i]? with
    | none => rw [q] at hx; cases hx
    | some p =>
      rw [q] at hx
      cases hx
      rw [List.getElem?_zipIdx, List.getElem?_map] at q
      cases q2 : r[i]? with
      | none => rw [q2] at q; cases q
      | some z =>
        rw [q2] at q
        cases q
        refine ⟨_, rfl, ?_⟩
        simp only [Mv.mDef, Mv.mSeq, Mv.mSet, Mv.mRet, Mv.mRetN, Mv.mIfS, Mv.mVar, Mv.mC, Mv.mBin, Mv.mChain, Mv.mCall, Mv.mDo, Mv.mCons, Mv.mNil, Mv.mAndV, Mv.mOrV, Mv.mNotV, Mv.mAsB, Mv.mAndT, Mv.mOrT, Mv.mNotT, Mv.mIf, Mv.mTup, Mv.mLst, Mv.mNext, Mv.mBad, Mv.mDrop, Mv.mPar, Mv.mAsg, Mv.mStore, Mv.mNeg, Mv.fNeg, Mv.mYes, Mv.mNoP, Mv.mPart, Mv.mSl, Mv.fI, Mv.fAdd, Mv.fSub, Mv.fMul, Mv.fMod, Mv.fDiv, Mv.fPow, Mv.fLt, Mv.fLe, Mv.fGt, Mv.fGe, Mv.yes2, Mv.fIsN, Mv.fNotN, Mv.isNon, Mv.fIx, Mv.items_tup, Mv.items_new, Mv.list_new, Mv.lstOf_new, Mv.fEq_int, Mv.fNe_int, Mv.fLen_tup, Mv.fMax2, Mv.fMin2, Mv.fInt, Mv.fAbs, Mv.mIsi, Mv.isT, Mv.gN, Mv.gT, Mv.setAll, Mv.wipeM, Mv.R.bind_ok, Mv.R.bind_bad, Mv.R.noX_ok, Mv.R.andS_ok, Mv.R.andS_bad, Mv.S.andS_nx, Mv.S.andS_rt, Mv.S.andS_bad, Mv.S.andS_bk, Mv.S.andS_ct, List.map_cons, List.map_nil, List.cons_append, List.nil_append, List.append_nil, List.replicate_succ, List.replicate_zero, List.length_cons, List.length_nil, List.set_cons_zero, List.set_cons_succ, List.getElem?_cons_zero, List.getElem?_cons_succ, List.getElem?_nil, Nat.reduceAdd, Nat.reduceSub, Nat.reduceEqDiff, Nat.reduceLeDiff, Nat.zero_add, if_true, if_false, Bool.not_true, Bool.not_false, Bool.false_eq_true, decide_true, decide_false, ite_true, ite_false, Option.some.injEq, reduceIte, F_is_pair_eq (v.ok z (List.mem_of_getElem? q2))]
        exact ⟨trivial, _, _, rfl⟩
/-! ### the checked ones -/
noncomputable def G_check_rule : List MV → MH → R MV := F_check_rule (F_is_pair F_is_integer)
def periodN (r : Rule) : Nat := (periods r).headD 0
theorem periods_ne {r : Rule} (v : Valid r) : ∃ rest, periods r = periodN r :: rest := by
  obtain ⟨t1, t2, t3, _⟩ := turn_spec v
  have hm : turnN r ∈ periods r := by
    unfold periods nums
    refine List.mem_filter.mpr ⟨List.mem_filter.mpr ⟨List.mem_map.mpr ⟨turnN r - 1, List.mem_range.mpr (by omega), by omega⟩, decide_eq_true (Nat.mod_self _)⟩, ?_⟩
    unfold rotE
    have hrl : (rowsL r (turnN r)).length = turnN r := by simp [rowsL]
    refine decide_eq_true ?_
    rw [List.drop_of_length_le (by omega), List.take_of_length_le (by omega)]
    rfl
  unfold periodN
  cases e : periods r with
  | nil => rw [e] at hm; cases hm
  | cons p rest => exact ⟨rest, rfl⟩
noncomputable def G_period_of : List MV → MH → R MV := specOf (fun r : Rule => [rv r]) Valid fun r h => .ok (.int (periodN r : Nat)) h
theorem G_period_of_eq {r : Rule} (v : Valid r) (h : MH) : G_period_of [rv r] h = .ok (.int (periodN r : Nat)) h := specOf_eq (fun x y e => rv_inj (List.cons.inj e).1) v h
theorem sim_period_of (xs : List MV) (h : MH) : Sim h (F_period_of G_round_of xs h) (G_period_of xs h) := specOf_sim (fun r h v => by
  obtain ⟨rest, e⟩ := periods_ne v
  obtain ⟨g, e⟩ := F_period_of_eq v h e
  rw [e]
  exact sim_drop0 (und_int _ _)) xs h
/-! ### greatest -/
def lens (r : Rule) (n : Nat) : List Int := (List.range n).map fun (k : Nat) => ((heldAt r (k : Int)).length : Int)
theorem lens_ne {r : Rule} {n : Nat} (h : 0 < n) : lens r n ≠ [] := fun e => by
  have : (lens r n).length = 0 := by rw [e]; rfl
  simp [lens] at this
  omega
noncomputable def G_greatest : List MV → MH → R MV := specOf (fun r : Rule => [rv r]) Valid fun r h => .ok (.int (maxOf (lens r ((settled r).toNat + turnN r)))) h
theorem G_greatest_eq {r : Rule} (v : Valid r) (h : MH) : G_greatest [rv r] h = .ok (.int (maxOf (lens r ((settled r).toNat + turnN r)))) h := specOf_eq (fun x y e => rv_inj (List.cons.inj e).1) v h

/-! ### lists of whole numbers as data -/
theorem data_lints {h : MH} {n : Nat} {a : List Int} (e : h[n]? = some (.lst (ivs a))) : dataOf 12 h (.ref n) = some (.list (a.map PyData.int)) := by
  show (match h[n]? with
      | some (.lst xs) => (allSome (xs.map (dataOf 11 h))).map PyData.list
      | some (.frz xs) => (allSome (xs.map (dataOf 11 h))).map PyData.list
      | _ => none) = _
  simp only [e]
  have q : allSome ((ivs a).map (dataOf 11 h)) = some (a.map PyData.int) := by
    unfold ivs
    rw [List.map_map]
    exact allSome_map fun i _ => rfl
  rw [q]
  rfl
theorem fEq_lints {h : MH} {n m : Nat} {a b : List Int} (e : h[n]? = some (.lst (ivs a))) (e' : h[m]? = some (.lst (ivs b))) : fEq (.ref n) (.ref m) h = .ok (.bl (decide (a = b))) h := by
  unfold fEq
  simp only [data_lints e, data_lints e', PyData.eqv, eqvAll_ints]
theorem findAt_has {m : Int} : ∀ (fs : List Int) (i : Nat), m ∈ fs → ∃ j, findAt (.int m) i (fs.map PyData.int) = some j
  | [], i, h => by cases h
  | x :: r, i, h => by
    unfold findAt
    simp only [List.map_cons]
    by_cases e : x = m
    · subst e
      exact ⟨i, by simp [PyData.eqv]⟩
    · rcases List.mem_cons.mp h with e' | h'
      · exact absurd e'.symm e
      · obtain ⟨j, ej⟩ := findAt_has r (i + 1) h'
        exact ⟨j, by simp [PyData.eqv, e, ej]⟩
theorem fIndex_ints {h : MH} {n : Nat} {fs : List Int} {m : Int} (e : h[n]? = some (.lst (ivs fs))) (hm : m ∈ fs) : ∃ j : Nat, fIndex (.ref n) [.int m] h = .ok (.int (j : Nat)) h ∧ fs[j]? = some m ∧ ∀ k, k < j → fs[k]? ≠ some m := by
  obtain ⟨j, ej⟩ := findAt_has fs 0 hm
  obtain ⟨_, ⟨z, h2, h3⟩, h4⟩ := findAt_spec _ 0 j ej
  refine ⟨j, ?_, ?_, fun k hk ek => ?_⟩
  · unfold fIndex
    simp only [data_lints e, data_int, ej]
  · simp only [Nat.sub_zero, List.getElem?_map] at h2
    cases q : fs[j]? with
    | none => rw [q] at h2; cases h2
    | some x =>
      rw [q] at h2
      cases h2
      simp [PyData.eqv] at h3
      rw [h3]
  · have := h4 k (.int m) (by simpa using hk) (by simp [ek])
    simp [PyData.eqv] at this

/-! ### gaps of rows -/
def olderL (r : Rule) (age : Int) (k : Nat) : List Int := ((rowF r k).filter fun x => decide (age ≤ x)).map fun x => x - age
def firstO (r : Rule) (age : Int) (k : Nat) : Option Int := (olderL r age k).head?
structure IsGap (f : Nat → Option Int) (n : Nat) (m : Int) (i : Nat) : Prop where
  lt : i < n
  at' : f i = some m
  all : ∀ k, k < n → ∃ x, f k = some x ∧ x ≤ m
  first : ∀ k, k < i → f k ≠ some m
def GapIs (f : Nat → Option Int) (s : Int) (n : Nat) (v : MV) : Prop := (v = .non ∧ ∃ k, k < n ∧ f k = none) ∨ ∃ m i, v = .tup [.int m, .int (s + (i : Nat))] ∧ IsGap f n m i
theorem GapIs.uniq {f : Nat → Option Int} {s : Int} {n : Nat} {v w : MV} (h : GapIs f s n v) (h' : GapIs f s n w) : v = w := by
  rcases h with ⟨rfl, k, hk, ek⟩ | ⟨m, i, rfl, g⟩
  · rcases h' with ⟨rfl, _⟩ | ⟨m, i, rfl, g⟩
    · rfl
    · obtain ⟨x, e, _⟩ := g.all k hk
      rw [ek] at e; cases e
  · rcases h' with ⟨rfl, k, hk, ek⟩ | ⟨m', i', rfl, g'⟩
    · obtain ⟨x, e, _⟩ := g.all k hk
      rw [ek] at e; cases e
    · have hm : m = m' := by
        obtain ⟨x, e, l⟩ := g.all i' g'.lt
        obtain ⟨y, e', l'⟩ := g'.all i g.lt
        rw [g'.at'] at e; cases e
        rw [g.at'] at e'; cases e'
        omega
      subst hm
      have hi : i = i' := by
        rcases Nat.lt_trichotomy i i' with z | z | z
        · exact absurd g.at' (g'.first i z)
        · exact z
        · exact absurd g'.at' (g.first i' z)
      rw [hi]
theorem asInts_ivs (ns : List Int) : asInts (ivs ns) = some ns := asInts_map ns
theorem set_at {h g : MH} {o o' : MO} : (h ++ o :: g).set h.length o' = h ++ o' :: g := by simp
theorem at_len (h g : MH) (o : MO) : (h ++ o :: g)[h.length]? = some o := by simp
def firsts (r : Rule) (age : Int) (n : Nat) : List Int := (List.range n).map fun k => (firstO r age k).getD 0
theorem firsts_succ (r : Rule) (age : Int) (n : Nat) : firsts r age (n + 1) = firsts r age n ++ [(firstO r age n).getD 0] := by
  unfold firsts
  rw [List.range_succ, List.map_append]
  rfl
theorem gap_of_firsts {r : Rule} {age : Int} {n : Nat} {j : Nat} (hn : 0 < n) (hf : ∀ k, k < n → firstO r age k ≠ none) (e : (firsts r age n)[j]? = some (maxOf (firsts r age n))) (h1 : ∀ k, k < j → (firsts r age n)[k]? ≠ some (maxOf (firsts r age n))) : IsGap (firstO r age) n (maxOf (firsts r age n)) j := by
  have hl : (firsts r age n).length = n := by simp [firsts]
  have hg : ∀ k, k < n → ∃ x, firstO r age k = some x ∧ (firsts r age n)[k]? = some x := fun k hk => by
    cases q : firstO r age k with
    | none => exact absurd q (hf k hk)
    | some x => exact ⟨x, rfl, by simp [firsts, hk, q]⟩
  have hj : j < n := by
    have := (List.getElem?_eq_some_iff.mp e).1
    omega
  have ne : firsts r age n ≠ [] := fun z => by rw [z] at hl; simp at hl; omega
  obtain ⟨_, b⟩ := maxOf_spec ne
  refine ⟨hj, ?_, fun k hk => ?_, fun k hk z => ?_⟩
  · obtain ⟨x, e1, e2⟩ := hg j hj
    rw [e] at e2; cases e2
    exact e1
  · obtain ⟨x, e1, e2⟩ := hg k hk
    exact ⟨x, e1, b x (List.mem_of_getElem? e2)⟩
  · obtain ⟨x, e1, e2⟩ := hg k (by omega)
    rw [z] at e1; cases e1
    exact h1 k hk e2
theorem heldAt_len {r : Rule} (v : Valid r) (t : Int) : (heldAt r t).length ≤ 13 := by
  obtain ⟨_, _, s1, s2⟩ := settled_spec v
  unfold heldAt
  refine Nat.le_trans (List.length_filter_le _ _) ?_
  rw [prog_length]
  split <;> omega
theorem rowF_len {r : Rule} (v : Valid r) (k : Nat) : (rowF r k).length ≤ 13 := heldAt_len v _
theorem ok_ex2 {v : MV} {h h' : MH} {Q : MV → Prop} (e : h <+: h') (q : Q v) : ∃ x g, R.ok v h' = R.ok x (h ++ g) ∧ Q x := by
  obtain ⟨t, e⟩ := e
  exact ⟨v, t, by rw [e], q⟩

/-! ### rows come again -/
theorem any_same {α : Type} {f g : α → Bool} : ∀ {l : List α}, (∀ x ∈ l, f x = g x) → l.any f = l.any g
  | [], _ => rfl
  | x :: l, h => by
    rw [List.any_cons, List.any_cons, h x (List.mem_cons_self ..), any_same fun y hy => h y (List.mem_cons_of_mem _ hy)]
theorem isHeld_add {r : Rule} (v : Valid r) (a b : Int) (q : Nat) : isHeld r (a + (turnN r : Nat) * (q : Int)) (b + (turnN r : Nat) * (q : Int)) = isHeld r a b := by
  unfold isHeld
  obtain ⟨_, _, _, d⟩ := turn_spec v
  have key : ∀ p ∈ r, (decide ((a + (turnN r : Nat) * (q : Int)) % p.1 = 0) && (decide (0 ≤ b + (turnN r : Nat) * (q : Int) - (a + (turnN r : Nat) * (q : Int))) && decide (b + (turnN r : Nat) * (q : Int) - (a + (turnN r : Nat) * (q : Int)) ≤ p.2))) = (decide (a % p.1 = 0) && (decide (0 ≤ b - a) && decide (b - a ≤ p.2))) := fun p hp => by
    obtain ⟨c, ec⟩ := d p hp
    have h0 := v.pos p hp
    have e1 : ((turnN r : Nat) : Int) * (q : Int) = p.1 * ((c : Int) * (q : Int)) := by
      have : ((turnN r : Nat) : Int) = p.1 * (c : Int) := by rw [ec]; rw [Int.natCast_mul]; congr 1; omega
      rw [this, Int.mul_assoc]
    have e2 : b + (turnN r : Nat) * (q : Int) - (a + (turnN r : Nat) * (q : Int)) = b - a := by omega
    rw [e2, e1, Int.add_mul_emod_self_left]
  exact any_same key
theorem heldAt_add {r : Rule} (v : Valid r) {t : Int} (ht : settled r ≤ t) (q : Nat) : heldAt r (t + (turnN r : Nat) * (q : Int)) = heldAt r t := by
  unfold heldAt
  have h0 : 0 ≤ ((turnN r : Nat) : Int) * (q : Int) := Int.mul_nonneg (by omega) (by omega)
  have e1 : (if settled r < t + (turnN r : Nat) * (q : Int) then settled r else t + (turnN r : Nat) * (q : Int)) = settled r := by split <;> omega
  have e2 : (if settled r < t then settled r else t) = settled r := by split <;> omega
  rw [e1, e2]
  congr 1
  funext age
  have : t + (turnN r : Nat) * (q : Int) - age = (t - age) + (turnN r : Nat) * (q : Int) := by omega
  rw [this, isHeld_add v]
theorem rowF_add {r : Rule} (v : Valid r) (k q : Nat) : rowF r (k + turnN r * q) = rowF r k := by
  unfold rowF
  have : settled r + ((k + turnN r * q : Nat) : Int) = settled r + (k : Int) + (turnN r : Nat) * (q : Int) := by
    rw [Int.natCast_add, Int.natCast_mul]; omega
  rw [this]
  exact heldAt_add v (by omega) q
theorem rowF_mod {r : Rule} (v : Valid r) (k : Nat) : rowF r (k % turnN r) = rowF r k := by
  have := rowF_add v (k % turnN r) (k / turnN r)
  rw [Nat.mod_add_div] at this
  exact this.symm
theorem rowF_mod60 {r : Rule} (v : Valid r) (k : Nat) : rowF r (k % 60) = rowF r k := by
  obtain ⟨_, ⟨c, e⟩, _, _⟩ := turn_spec v
  have := rowF_add v (k % 60) (c * (k / 60))
  rw [← Nat.mul_assoc, ← e, Nat.mod_add_div] at this
  exact this.symm
theorem firstO_mod {r : Rule} (v : Valid r) (age : Int) (k : Nat) : firstO r age (k % turnN r) = firstO r age k := by
  unfold firstO olderL
  rw [rowF_mod v]
theorem gap60 {r : Rule} (v : Valid r) {age : Int} {x : MV} (h : GapIs (firstO r age) (settled r) (turnN r) x) : GapIs (firstO r age) (settled r) 60 x := by
  obtain ⟨t1, t2, t3, _⟩ := turn_spec v
  rcases h with ⟨rfl, k, hk, ek⟩ | ⟨m, i, rfl, g⟩
  · exact .inl ⟨rfl, k, by omega, ek⟩
  · refine .inr ⟨m, i, rfl, ⟨by have := g.lt; omega, g.at', fun k _ => ?_, g.first⟩⟩
    obtain ⟨x, e, l⟩ := g.all (k % turnN r) (Nat.mod_lt _ (by omega))
    rw [firstO_mod v] at e
    exact ⟨x, e, l⟩
open Classical in
noncomputable def gapV (r : Rule) (age : Int) : MV := if q : ∃ x, GapIs (firstO r age) (settled r) 60 x then q.choose else .non
theorem gapV_eq {r : Rule} {age : Int} {x : MV} (h : GapIs (firstO r age) (settled r) 60 x) : gapV r age = x := by
  unfold gapV
  have q : ∃ x, GapIs (firstO r age) (settled r) 60 x := ⟨x, h⟩
  rw [dif_pos q]
  exact GapIs.uniq q.choose_spec h
theorem und_gapV (n : Nat) (r : Rule) (age : Int) : MV.und n (gapV r age) := by
  unfold gapV
  split
  · rename_i q
    have := q.choose_spec
    generalize q.choose = y at *
    rcases this with ⟨rfl, _⟩ | ⟨m, i, rfl, _⟩
    · exact und_non _
    · exact und_tup fun x hx => by
        simp only [List.mem_cons, List.mem_nil_iff, or_false] at hx
        rcases hx with rfl | rfl <;> exact und_int _ _
  · exact und_non _
noncomputable def G_gap : List MV → MH → R MV := specOf (α := Rule × Int) (fun p => [rv p.1, .int p.2]) (fun p => Valid p.1 ∧ 0 ≤ p.2 ∧ p.2 ≤ 12) fun p h => .ok (gapV p.1 p.2) h
theorem G_gap_eq {r : Rule} (v : Valid r) {age : Int} (h0 : 0 ≤ age) (h1 : age ≤ 12) (h : MH) : G_gap [rv r, .int age] h = .ok (gapV r age) h := specOf_eq (a := ((r, age) : Rule × Int)) two_inj ⟨v, h0, h1⟩ h
/-! ### the least period -/
def cyc (r : Rule) (n : Nat) : Prop := ∀ k, rowF r (k + n) = rowF r k
theorem cyc_mul {r : Rule} {n : Nat} (h : cyc r n) (q : Nat) : cyc r (n * q) := by
  induction q with
  | zero => intro k; rfl
  | succ q ih => intro k; rw [Nat.mul_succ, ← Nat.add_assoc, h, ih]
theorem cyc_mod {r : Rule} {a b : Nat} (ha : cyc r a) (hb : cyc r b) : cyc r (b % a) := fun k => by
  have e : k + b % a + a * (b / a) = k + b := by rw [Nat.add_assoc, Nat.mod_add_div]
  have := cyc_mul ha (b / a) (k + b % a)
  rw [e] at this
  rw [← this, hb]
theorem cyc_turn {r : Rule} (v : Valid r) : cyc r (turnN r) := fun k => by
  have := rowF_add v k 1
  rwa [Nat.mul_one] at this
theorem rot_iff (f : Nat → List Int) (T n : Nat) (hn : n ≤ T) : ((List.range T).map f).drop n ++ ((List.range T).map f).take n = (List.range T).map f ↔ ∀ k, k < T → f ((k + n) % T) = f k := by
  have e : ((List.range T).map f).drop n ++ ((List.range T).map f).take n = (List.range T).map fun k => f ((k + n) % T) := by
    apply List.ext_getElem
    · simp; omega
    · intro i h1 h2
      simp only [List.length_map, List.length_range] at h2
      rw [List.getElem_append]
      simp only [List.length_drop, List.length_map, List.length_range]
      split
      · rename_i hi
        rw [List.getElem_drop, List.getElem_map, List.getElem_map, List.getElem_range, List.getElem_range, Nat.mod_eq_of_lt (by omega), Nat.add_comm]
      · rename_i hi
        rw [List.getElem_take, List.getElem_map, List.getElem_map, List.getElem_range, List.getElem_range, Nat.mod_eq_sub_mod (by omega), Nat.mod_eq_of_lt (by omega)]
        congr 1
        omega
  rw [e]
  constructor
  · intro h k hk
    have := congrArg (fun l => l[k]?) h
    simp [hk] at this
    exact this
  · intro h
    exact List.map_congr_left fun k hk => h k (List.mem_range.mp hk)
theorem rotE_iff {r : Rule} (v : Valid r) {n : Nat} (hn : n ≤ turnN r) : rotE (rowsL r (turnN r)) n = true ↔ cyc r n := by
  obtain ⟨t1, t2, t3, _⟩ := turn_spec v
  unfold rotE rowsL
  rw [decide_eq_true_iff, rot_iff _ _ _ hn]
  constructor
  · intro h k
    have := h (k % turnN r) (Nat.mod_lt _ (by omega))
    rw [rowF_mod v, rowF_mod v] at this
    rw [← this, ← rowF_mod v (k + n), ← rowF_mod v (k % turnN r + n)]
    rw [Nat.mod_add_mod]
  · intro h k hk
    rw [rowF_mod v, h]
def PerIs (r : Rule) (n : Nat) : Prop := 1 ≤ n ∧ cyc r n ∧ ∀ m, 1 ≤ m → m < n → ¬ cyc r m
theorem PerIs.uniq {r : Rule} {n m : Nat} (h : PerIs r n) (h' : PerIs r m) : n = m := by
  rcases Nat.lt_trichotomy n m with z | z | z
  · exact absurd h.2.1 (h'.2.2 n h.1 z)
  · exact z
  · exact absurd h'.2.1 (h.2.2 m h'.1 z)
theorem periodN_is {r : Rule} (v : Valid r) : PerIs r (periodN r) := by
  obtain ⟨t1, t2, t3, _⟩ := turn_spec v
  obtain ⟨rest, e⟩ := periods_ne v
  have hm : periodN r ∈ periods r := by rw [e]; exact List.mem_cons_self ..
  unfold periods nums at hm
  obtain ⟨m1, m2⟩ := List.mem_filter.mp hm
  obtain ⟨m3, m4⟩ := List.mem_filter.mp m1
  obtain ⟨k, hk, ek⟩ := List.mem_map.mp m3
  have hk := List.mem_range.mp hk
  have hp := (rotE_iff v (n := periodN r) (by omega)).mp m2
  refine ⟨by omega, hp, fun m h1 h2 hc => ?_⟩
  -- the least one divides the turn
  have hex : ∃ m, 1 ≤ m ∧ m < periodN r ∧ cyc r m ∧ ∀ z, 1 ≤ z → z < m → ¬ cyc r z := by
    have : ∀ n m, m ≤ n → 1 ≤ m → m < periodN r → cyc r m → ∃ m, 1 ≤ m ∧ m < periodN r ∧ cyc r m ∧ ∀ z, 1 ≤ z → z < m → ¬ cyc r z := by
      intro n
      induction n with
      | zero => intro m h1 h2; omega
      | succ n ih =>
        intro m hm h1 h2 h3
        by_cases q : ∃ z, 1 ≤ z ∧ z < m ∧ cyc r z
        · obtain ⟨z, z1, z2, z3⟩ := q
          exact ih z (by omega) z1 (by omega) z3
        · exact ⟨m, h1, h2, h3, fun z z1 z2 z3 => q ⟨z, z1, z2, z3⟩⟩
    exact this m m (Nat.le_refl _) h1 h2 hc
  obtain ⟨m, h1, h2, hc, hl⟩ := hex
  have hd : turnN r % m = 0 := by
    rcases Nat.eq_zero_or_pos (turnN r % m) with z | z
    · exact z
    · exact absurd (cyc_mod hc (cyc_turn v)) (hl _ z (Nat.mod_lt _ h1))
  have hmem : m ∈ periods r := by
    unfold periods nums
    refine List.mem_filter.mpr ⟨List.mem_filter.mpr ⟨List.mem_map.mpr ⟨m - 1, List.mem_range.mpr (by omega), by omega⟩, decide_eq_true hd⟩, ?_⟩
    exact (rotE_iff v (by omega)).mpr hc
  have hs : (periods r).Pairwise (· < ·) := by
    unfold periods nums
    apply List.Pairwise.filter
    apply List.Pairwise.filter
    exact List.Pairwise.map _ (fun a b hab => Nat.add_lt_add_right hab 1) List.pairwise_lt_range
  rw [e] at hs hmem
  rcases List.mem_cons.mp hmem with z | z
  · omega
  · have := (List.pairwise_cons.mp hs).1 m z
    omega
/-! ### greatest -/
theorem greatest_73 {r : Rule} (v : Valid r) : maxOf (lens r ((settled r).toNat + turnN r)) = maxOf (lens r 73) := by
  obtain ⟨t1, t2, t3, _⟩ := turn_spec v
  obtain ⟨_, _, s1, s2⟩ := settled_spec v
  obtain ⟨a, b⟩ := maxOf_spec (lens_ne (r := r) (n := 73) (by decide))
  refine maxOf_eq ?_ ?_
  · obtain ⟨k, hk, ek⟩ := List.mem_map.mp a
    rw [← ek]
    have hk := List.mem_range.mp hk
    by_cases hz : k < (settled r).toNat + turnN r
    · exact List.mem_map.mpr ⟨k, List.mem_range.mpr hz, rfl⟩
    · have e1 : (settled r).toNat + (k - (settled r).toNat) % turnN r < (settled r).toNat + turnN r := by
        have := Nat.mod_lt (k - (settled r).toNat) (show turnN r > 0 by omega)
        omega
      refine List.mem_map.mpr ⟨_, List.mem_range.mpr e1, ?_⟩
      have e2 := heldAt_add v (t := settled r + ((k - (settled r).toNat) % turnN r : Nat)) (by omega) ((k - (settled r).toNat) / turnN r)
      have e3 : (((settled r).toNat + (k - (settled r).toNat) % turnN r : Nat) : Int) = settled r + ((k - (settled r).toNat) % turnN r : Nat) := by omega
      have e4 : (k : Int) = settled r + ((k - (settled r).toNat) % turnN r : Nat) + (turnN r : Nat) * ((k - (settled r).toNat) / turnN r : Nat) := by
        have := Nat.mod_add_div (k - (settled r).toNat) (turnN r)
        rw [← Int.natCast_mul]
        omega
      show ((heldAt r _).length : Int) = ((heldAt r _).length : Int)
      rw [e3, ← e2]
      congr 3
      exact e4.symm
  · intro y hy
    obtain ⟨k, hk, ek⟩ := List.mem_map.mp hy
    have hk := List.mem_range.mp hk
    exact b y (List.mem_map.mpr ⟨k, List.mem_range.mpr (by omega), ek⟩)


theorem F_l_settled_is : F_l_settled = F_settled_of := rfl
/-! ### the law's own held -/
def ableL (r : Rule) (t age : Int) : Rule := r.filter fun p => decide ((t - age) % p.1 = 0)
def lawB (r : Rule) (t age : Int) : Bool := (ableL r t age).any fun p => decide (age ≤ p.2)
theorem lawB_eq (r : Rule) (t : Int) {age : Int} (h : 0 ≤ age) : lawB r t age = isHeld r (t - age) t := by
  unfold lawB ableL isHeld
  rw [List.any_filter]
  congr 1
  funext p
  have : t - (t - age) = age := by omega
  rw [this]
  simp [h]
theorem prog_more (n m : Nat) : prog 0 1 (n + m) = prog 0 1 n ++ prog (n : Int) 1 m := by
  unfold prog
  rw [List.range_add, List.map_append, List.map_map]
  congr 1
  apply List.map_congr_left
  intro i _
  show 0 + ((n + i : Nat) : Int) * 1 = (n : Int) + (i : Int) * 1
  omega
theorem prog_succ (n : Nat) : prog 0 1 (n + 1) = prog 0 1 n ++ [(n : Int)] := by
  rw [prog_more]
  simp [prog]
def lawHeld (r : Rule) (t : Int) (n : Nat) : List Int := (prog 0 1 n).filter fun age => lawB r t age
theorem lawHeld_eq {r : Rule} (v : Valid r) {t : Int} : lawHeld r t ((if 12 < t then 12 else t) + 1).toNat = heldAt r t := by
  unfold lawHeld heldAt
  obtain ⟨_, s0, s1, s2⟩ := settled_spec v
  have e : ((if 12 < t then 12 else t) + 1).toNat = ((if settled r < t then settled r else t) + 1).toNat + (((if 12 < t then 12 else t) + 1).toNat - ((if settled r < t then settled r else t) + 1).toNat) := by
    split <;> split <;> omega
  rw [e, prog_more, List.filter_append]
  have e1 : List.filter (fun age => lawB r t age) (prog 0 1 ((if settled r < t then settled r else t) + 1).toNat) = List.filter (fun age => isHeld r (t - age) t) (prog 0 1 ((if settled r < t then settled r else t) + 1).toNat) := List.filter_congr fun x hx => by
    obtain ⟨i, _, rfl⟩ := mem_prog.mp hx
    exact lawB_eq r t (by omega)
  rw [e1]
  have e2 : ∀ m : Nat, m ≤ (((if 12 < t then 12 else t) + 1).toNat - ((if settled r < t then settled r else t) + 1).toNat) → List.filter (fun age => lawB r t age) (prog (((if settled r < t then settled r else t) + 1).toNat : Int) 1 m) = [] := fun m hm => by
    rw [List.filter_eq_nil_iff]
    intro x hx
    obtain ⟨i, hi, rfl⟩ := mem_prog.mp hx
    unfold lawB
    intro z
    obtain ⟨p, hp, hq⟩ := List.any_eq_true.mp z
    have a := s0 p (List.mem_filter.mp hp).1
    have b := of_decide_eq_true hq
    revert hm b
    split <;> split <;> omega
  rw [e2 _ (Nat.le_refl _), List.append_nil]
theorem F_l_held_eq {r : Rule} (v : Valid r) {t : Int} (h0 : 0 ≤ t) (ht : t ≤ 100000) (h : MH) : ∃ g, F_l_held [rv r, .int t] h = .ok (.tup (ivs (heldAt r t))) (h ++ g) := by
  unfold F_l_held m_l_held
  have hb : inR ((if 12 < t then 12 else t) + 1) = true := inR_of (by split <;> omega)
  simp only [Mv.mDef, Mv.mSeq, Mv.mSet, Mv.mRet, Mv.mRetN, Mv.mIfS, Mv.mVar, Mv.mC, Mv.mBin, Mv.mChain, Mv.mCall, Mv.mDo, Mv.mCons, Mv.mNil, Mv.mAndV, Mv.mOrV, Mv.mNotV, Mv.mAsB, Mv.mAndT, Mv.mOrT, Mv.mNotT, Mv.mIf, Mv.mTup, Mv.mLst, Mv.mNext, Mv.mBad, Mv.mDrop, Mv.mPar, Mv.mAsg, Mv.mStore, Mv.mNeg, Mv.fNeg, Mv.mYes, Mv.mNoP, Mv.mPart, Mv.mSl, Mv.fI, Mv.fAdd, Mv.fSub, Mv.fMul, Mv.fMod, Mv.fDiv, Mv.fPow, Mv.fLt, Mv.fLe, Mv.fGt, Mv.fGe, Mv.yes2, Mv.fIsN, Mv.fNotN, Mv.isNon, Mv.fIx, Mv.items_tup, Mv.items_new, Mv.list_new, Mv.lstOf_new, Mv.fEq_int, Mv.fNe_int, Mv.fLen_tup, Mv.fMax2, Mv.fMin2, Mv.fInt, Mv.fAbs, Mv.mIsi, Mv.isT, Mv.gN, Mv.gT, Mv.setAll, Mv.wipeM, Mv.R.bind_ok, Mv.R.bind_bad, Mv.R.noX_ok, Mv.R.andS_ok, Mv.R.andS_bad, Mv.S.andS_nx, Mv.S.andS_rt, Mv.S.andS_bad, Mv.S.andS_bk, Mv.S.andS_ct, List.map_cons, List.map_nil, List.cons_append, List.nil_append, List.append_nil, List.replicate_succ, List.replicate_zero, List.length_cons, List.length_nil, List.set_cons_zero, List.set_cons_succ, List.getElem?_cons_zero, List.getElem?_cons_succ, List.getElem?_nil, Nat.reduceAdd, Nat.reduceSub, Nat.reduceEqDiff, Nat.reduceLeDiff, Nat.zero_add, if_true, if_false, Bool.not_true, Bool.not_false, Bool.false_eq_true, decide_true, decide_false, ite_true, ite_false, Option.some.injEq, reduceIte, mFor, mRng1, hb, Nat.zero_le]
  generalize en : ((if 12 < t then 12 else t) + 1).toNat = n
  have hn : n ≤ 13 := by rw [← en]; split <;> omega
  generalize hF : forGo _ _ _ _ _ _ _ = s
  revert hF
  refine for_ind (xs := ivs (prog 0 1 n)) (P := fun t => t = s → _)
    (fun i env h' => ∃ g x3 x4 x5 x6, h' = h ++ .lst (ivs (lawHeld r t i)) :: g ∧ env = [some (rv r), some (.int t), some (.ref h.length), x3, x4, x5, x6])
    ?_ ?_ ?_ fuel 0 _ _ ?_ (Nat.zero_le _) (by have := fuel_ge; simp only [ints_length, prog_length]; omega)
  · rintro i env h' _
    exact itR_nx _ _ _ i h'
  · rintro env h' ⟨g, x3, x4, x5, x6, rfl, rfl⟩ rfl
    rw [ints_length, prog_length]
    simp only [Mv.mDef, Mv.mSeq, Mv.mSet, Mv.mRet, Mv.mRetN, Mv.mIfS, Mv.mVar, Mv.mC, Mv.mBin, Mv.mChain, Mv.mCall, Mv.mDo, Mv.mCons, Mv.mNil, Mv.mAndV, Mv.mOrV, Mv.mNotV, Mv.mAsB, Mv.mAndT, Mv.mOrT, Mv.mNotT, Mv.mIf, Mv.mTup, Mv.mLst, Mv.mNext, Mv.mBad, Mv.mDrop, Mv.mPar, Mv.mAsg, Mv.mStore, Mv.mNeg, Mv.fNeg, Mv.mYes, Mv.mNoP, Mv.mPart, Mv.mSl, Mv.fI, Mv.fAdd, Mv.fSub, Mv.fMul, Mv.fMod, Mv.fDiv, Mv.fPow, Mv.fLt, Mv.fLe, Mv.fGt, Mv.fGe, Mv.yes2, Mv.fIsN, Mv.fNotN, Mv.isNon, Mv.fIx, Mv.items_tup, Mv.items_new, Mv.list_new, Mv.lstOf_new, Mv.fEq_int, Mv.fNe_int, Mv.fLen_tup, Mv.fMax2, Mv.fMin2, Mv.fInt, Mv.fAbs, Mv.mIsi, Mv.isT, Mv.gN, Mv.gT, Mv.setAll, Mv.wipeM, Mv.R.bind_ok, Mv.R.bind_bad, Mv.R.noX_ok, Mv.R.andS_ok, Mv.R.andS_bad, Mv.S.andS_nx, Mv.S.andS_rt, Mv.S.andS_bad, Mv.S.andS_bk, Mv.S.andS_ct, List.map_cons, List.map_nil, List.cons_append, List.nil_append, List.append_nil, List.replicate_succ, List.replicate_zero, List.length_cons, List.length_nil, List.set_cons_zero, List.set_cons_succ, List.getElem?_cons_zero, List.getElem?_cons_succ, List.getElem?_nil, Nat.reduceAdd, Nat.reduceSub, Nat.reduceEqDiff, Nat.reduceLeDiff, Nat.zero_add, if_true, if_false, Bool.not_true, Bool.not_false, Bool.false_eq_true, decide_true, decide_false, ite_true, ite_false, Option.some.injEq, reduceIte, fTuple_at (items_at (at_len h _ _))]
    rw [← en, lawHeld_eq v]
    exact ⟨_, rfl⟩
  · rintro i x env h' hx ⟨g, x3, x4, x5, x6, rfl, rfl⟩
    have hi : i < n := by
      have := (List.getElem?_eq_some_iff.mp hx).1
      rwa [ints_length, prog_length] at this
    have ex : x = .int (i : Int) := by
      have : (ivs (prog 0 1 n))[i]? = some (.int (i : Int)) := by
        unfold ivs prog
        simp [hi]
      rw [this] at hx
      cases hx
      rfl
    subst ex
    refine ⟨_, rfl, ?_⟩
    simp only [Mv.mDef, Mv.mSeq, Mv.mSet, Mv.mRet, Mv.mRetN, Mv.mIfS, Mv.mVar, Mv.mC, Mv.mBin, Mv.mChain, Mv.mCall, Mv.mDo, Mv.mCons, Mv.mNil, Mv.mAndV, Mv.mOrV, Mv.mNotV, Mv.mAsB, Mv.mAndT, Mv.mOrT, Mv.mNotT, Mv.mIf, Mv.mTup, Mv.mLst, Mv.mNext, Mv.mBad, Mv.mDrop, Mv.mPar, Mv.mAsg, Mv.mStore, Mv.mNeg, Mv.fNeg, Mv.mYes, Mv.mNoP, Mv.mPart, Mv.mSl, Mv.fI, Mv.fAdd, Mv.fSub, Mv.fMul, Mv.fMod, Mv.fDiv, Mv.fPow, Mv.fLt, Mv.fLe, Mv.fGt, Mv.fGe, Mv.yes2, Mv.fIsN, Mv.fNotN, Mv.isNon, Mv.fIx, Mv.items_tup, Mv.items_new, Mv.list_new, Mv.lstOf_new, Mv.fEq_int, Mv.fNe_int, Mv.fLen_tup, Mv.fMax2, Mv.fMin2, Mv.fInt, Mv.fAbs, Mv.mIsi, Mv.isT, Mv.gN, Mv.gT, Mv.setAll, Mv.wipeM, Mv.R.bind_ok, Mv.R.bind_bad, Mv.R.noX_ok, Mv.R.andS_ok, Mv.R.andS_bad, Mv.S.andS_nx, Mv.S.andS_rt, Mv.S.andS_bad, Mv.S.andS_bk, Mv.S.andS_ct, List.map_cons, List.map_nil, List.cons_append, List.nil_append, List.append_nil, List.replicate_succ, List.replicate_zero, List.length_cons, List.length_nil, List.set_cons_zero, List.set_cons_succ, List.getElem?_cons_zero, List.getElem?_cons_succ, List.getElem?_nil, Nat.reduceAdd, Nat.reduceSub, Nat.reduceEqDiff, Nat.reduceLeDiff, Nat.zero_add, if_true, if_false, Bool.not_true, Bool.not_false, Bool.false_eq_true, decide_true, decide_false, ite_true, ite_false, Option.some.injEq, reduceIte, mLc, mItV, rv]
    rw [comp_pure (it := itT (r.map pv2)) (l := r) (enc := pv2) (cb := fun p => decide ((t - (i : Int)) % p.1 = 0)) (f := fun p => MV.int p.2) (fun j => itT_nx _ j _) v.cap]
    · simp only [Mv.mDef, Mv.mSeq, Mv.mSet, Mv.mRet, Mv.mRetN, Mv.mIfS, Mv.mVar, Mv.mC, Mv.mBin, Mv.mChain, Mv.mCall, Mv.mDo, Mv.mCons, Mv.mNil, Mv.mAndV, Mv.mOrV, Mv.mNotV, Mv.mAsB, Mv.mAndT, Mv.mOrT, Mv.mNotT, Mv.mIf, Mv.mTup, Mv.mLst, Mv.mNext, Mv.mBad, Mv.mDrop, Mv.mPar, Mv.mAsg, Mv.mStore, Mv.mNeg, Mv.fNeg, Mv.mYes, Mv.mNoP, Mv.mPart, Mv.mSl, Mv.fI, Mv.fAdd, Mv.fSub, Mv.fMul, Mv.fMod, Mv.fDiv, Mv.fPow, Mv.fLt, Mv.fLe, Mv.fGt, Mv.fGe, Mv.yes2, Mv.fIsN, Mv.fNotN, Mv.isNon, Mv.fIx, Mv.items_tup, Mv.items_new, Mv.list_new, Mv.lstOf_new, Mv.fEq_int, Mv.fNe_int, Mv.fLen_tup, Mv.fMax2, Mv.fMin2, Mv.fInt, Mv.fAbs, Mv.mIsi, Mv.isT, Mv.gN, Mv.gT, Mv.setAll, Mv.wipeM, Mv.R.bind_ok, Mv.R.bind_bad, Mv.R.noX_ok, Mv.R.andS_ok, Mv.R.andS_bad, Mv.S.andS_nx, Mv.S.andS_rt, Mv.S.andS_bad, Mv.S.andS_bk, Mv.S.andS_ct, List.map_cons, List.map_nil, List.cons_append, List.nil_append, List.append_nil, List.replicate_succ, List.replicate_zero, List.length_cons, List.length_nil, List.set_cons_zero, List.set_cons_succ, List.getElem?_cons_zero, List.getElem?_cons_succ, List.getElem?_nil, Nat.reduceAdd, Nat.reduceSub, Nat.reduceEqDiff, Nat.reduceLeDiff, Nat.zero_add, if_true, if_false, Bool.not_true, Bool.not_false, Bool.false_eq_true, decide_true, decide_false, ite_true, ite_false, Option.some.injEq, reduceIte, mLc, mItV]
      generalize eh : h ++ MO.lst (ivs (lawHeld r t i)) :: g = h2
      have w0 : h2[h.length]? = some (MO.lst (ivs (lawHeld r t i))) := by rw [← eh]; exact at_len _ _ _
      have el : List.filter (fun p => decide ((t - (i : Int)) % p.1 = 0)) r = ableL r t i := rfl
      rw [el]
      rw [comp_pure (it := itL h2.length) (l := ableL r t i) (enc := fun p => MV.int p.2) (cb := fun _ => true) (f := fun p => MV.bl (decide ((i : Int) ≤ p.2))) (fun j => itL_nx (look_new _ _) j) (Nat.le_trans (List.length_filter_le _ _) v.cap)]
      · rw [filter_yes]
        simp only [Mv.mDef, Mv.mSeq, Mv.mSet, Mv.mRet, Mv.mRetN, Mv.mIfS, Mv.mVar, Mv.mC, Mv.mBin, Mv.mChain, Mv.mCall, Mv.mDo, Mv.mCons, Mv.mNil, Mv.mAndV, Mv.mOrV, Mv.mNotV, Mv.mAsB, Mv.mAndT, Mv.mOrT, Mv.mNotT, Mv.mIf, Mv.mTup, Mv.mLst, Mv.mNext, Mv.mBad, Mv.mDrop, Mv.mPar, Mv.mAsg, Mv.mStore, Mv.mNeg, Mv.fNeg, Mv.mYes, Mv.mNoP, Mv.mPart, Mv.mSl, Mv.fI, Mv.fAdd, Mv.fSub, Mv.fMul, Mv.fMod, Mv.fDiv, Mv.fPow, Mv.fLt, Mv.fLe, Mv.fGt, Mv.fGe, Mv.yes2, Mv.fIsN, Mv.fNotN, Mv.isNon, Mv.fIx, Mv.items_tup, Mv.items_new, Mv.list_new, Mv.lstOf_new, Mv.fEq_int, Mv.fNe_int, Mv.fLen_tup, Mv.fMax2, Mv.fMin2, Mv.fInt, Mv.fAbs, Mv.mIsi, Mv.isT, Mv.gN, Mv.gT, Mv.setAll, Mv.wipeM, Mv.R.bind_ok, Mv.R.bind_bad, Mv.R.noX_ok, Mv.R.andS_ok, Mv.R.andS_bad, Mv.S.andS_nx, Mv.S.andS_rt, Mv.S.andS_bad, Mv.S.andS_bk, Mv.S.andS_ct, List.map_cons, List.map_nil, List.cons_append, List.nil_append, List.append_nil, List.replicate_succ, List.replicate_zero, List.length_cons, List.length_nil, List.set_cons_zero, List.set_cons_succ, List.getElem?_cons_zero, List.getElem?_cons_succ, List.getElem?_nil, Nat.reduceAdd, Nat.reduceSub, Nat.reduceEqDiff, Nat.reduceLeDiff, Nat.zero_add, if_true, if_false, Bool.not_true, Bool.not_false, Bool.false_eq_true, decide_true, decide_false, ite_true, ite_false, Option.some.injEq, reduceIte, fAny_at (items_new _ _) (any_map _ _)]
        have eb : (List.map (fun p : Int × Int => decide ((i : Int) ≤ p.2)) (ableL r t i)).any id = lawB r t i := by
          unfold lawB
          rw [List.any_map]
          rfl
        rw [eb]
        have es : lawHeld r t (i + 1) = lawHeld r t i ++ (if lawB r t i = true then [(i : Int)] else []) := by
          unfold lawHeld
          rw [prog_succ, List.filter_append]
          congr 1
          by_cases q : lawB r t i = true <;> simp [q]
        cases q : lawB r t i with
        | false =>
          simp only [Mv.mDef, Mv.mSeq, Mv.mSet, Mv.mRet, Mv.mRetN, Mv.mIfS, Mv.mVar, Mv.mC, Mv.mBin, Mv.mChain, Mv.mCall, Mv.mDo, Mv.mCons, Mv.mNil, Mv.mAndV, Mv.mOrV, Mv.mNotV, Mv.mAsB, Mv.mAndT, Mv.mOrT, Mv.mNotT, Mv.mIf, Mv.mTup, Mv.mLst, Mv.mNext, Mv.mBad, Mv.mDrop, Mv.mPar, Mv.mAsg, Mv.mStore, Mv.mNeg, Mv.fNeg, Mv.mYes, Mv.mNoP, Mv.mPart, Mv.mSl, Mv.fI, Mv.fAdd, Mv.fSub, Mv.fMul, Mv.fMod, Mv.fDiv, Mv.fPow, Mv.fLt, Mv.fLe, Mv.fGt, Mv.fGe, Mv.yes2, Mv.fIsN, Mv.fNotN, Mv.isNon, Mv.fIx, Mv.items_tup, Mv.items_new, Mv.list_new, Mv.lstOf_new, Mv.fEq_int, Mv.fNe_int, Mv.fLen_tup, Mv.fMax2, Mv.fMin2, Mv.fInt, Mv.fAbs, Mv.mIsi, Mv.isT, Mv.gN, Mv.gT, Mv.setAll, Mv.wipeM, Mv.R.bind_ok, Mv.R.bind_bad, Mv.R.noX_ok, Mv.R.andS_ok, Mv.R.andS_bad, Mv.S.andS_nx, Mv.S.andS_rt, Mv.S.andS_bad, Mv.S.andS_bk, Mv.S.andS_ct, List.map_cons, List.map_nil, List.cons_append, List.nil_append, List.append_nil, List.replicate_succ, List.replicate_zero, List.length_cons, List.length_nil, List.set_cons_zero, List.set_cons_succ, List.getElem?_cons_zero, List.getElem?_cons_succ, List.getElem?_nil, Nat.reduceAdd, Nat.reduceSub, Nat.reduceEqDiff, Nat.reduceLeDiff, Nat.zero_add, if_true, if_false, Bool.not_true, Bool.not_false, Bool.false_eq_true, decide_true, decide_false, ite_true, ite_false, Option.some.injEq, reduceIte]
          rw [es, q, ← eh]
          simp only [Bool.false_eq_true, if_false, List.append_nil, List.append_assoc]
          exact ⟨_, _, _, _, _, rfl, rfl⟩
        | true =>
          have w1 : (h2 ++ [MO.lst (List.map (fun p : Int × Int => MV.int p.2) (ableL r t i))] ++ [MO.lst (List.map (fun p : Int × Int => MV.bl (decide ((i : Int) ≤ p.2))) (ableL r t i))])[h.length]? = some (MO.lst (ivs (lawHeld r t i))) := look_app (look_app w0)
          have hc : (ivs (lawHeld r t i)).length < cap := by
            have : (lawHeld r t i).length ≤ i := by
              unfold lawHeld
              refine Nat.le_trans (List.length_filter_le _ _) ?_
              rw [prog_length]
              exact Nat.le_refl _
            rw [ints_length]
            unfold cap
            omega
          simp only [Mv.mDef, Mv.mSeq, Mv.mSet, Mv.mRet, Mv.mRetN, Mv.mIfS, Mv.mVar, Mv.mC, Mv.mBin, Mv.mChain, Mv.mCall, Mv.mDo, Mv.mCons, Mv.mNil, Mv.mAndV, Mv.mOrV, Mv.mNotV, Mv.mAsB, Mv.mAndT, Mv.mOrT, Mv.mNotT, Mv.mIf, Mv.mTup, Mv.mLst, Mv.mNext, Mv.mBad, Mv.mDrop, Mv.mPar, Mv.mAsg, Mv.mStore, Mv.mNeg, Mv.fNeg, Mv.mYes, Mv.mNoP, Mv.mPart, Mv.mSl, Mv.fI, Mv.fAdd, Mv.fSub, Mv.fMul, Mv.fMod, Mv.fDiv, Mv.fPow, Mv.fLt, Mv.fLe, Mv.fGt, Mv.fGe, Mv.yes2, Mv.fIsN, Mv.fNotN, Mv.isNon, Mv.fIx, Mv.items_tup, Mv.items_new, Mv.list_new, Mv.lstOf_new, Mv.fEq_int, Mv.fNe_int, Mv.fLen_tup, Mv.fMax2, Mv.fMin2, Mv.fInt, Mv.fAbs, Mv.mIsi, Mv.isT, Mv.gN, Mv.gT, Mv.setAll, Mv.wipeM, Mv.R.bind_ok, Mv.R.bind_bad, Mv.R.noX_ok, Mv.R.andS_ok, Mv.R.andS_bad, Mv.S.andS_nx, Mv.S.andS_rt, Mv.S.andS_bad, Mv.S.andS_bk, Mv.S.andS_ct, List.map_cons, List.map_nil, List.cons_append, List.nil_append, List.append_nil, List.replicate_succ, List.replicate_zero, List.length_cons, List.length_nil, List.set_cons_zero, List.set_cons_succ, List.getElem?_cons_zero, List.getElem?_cons_succ, List.getElem?_nil, Nat.reduceAdd, Nat.reduceSub, Nat.reduceEqDiff, Nat.reduceLeDiff, Nat.zero_add, if_true, if_false, Bool.not_true, Bool.not_false, Bool.false_eq_true, decide_true, decide_false, ite_true, ite_false, Option.some.injEq, reduceIte, mLm, list_ref, items_at w1, fAppend, lstOf_at w1, hc]
          rw [es, q, ← eh]
          have e2 : ivs (lawHeld r t i ++ if true = true then [(i : Int)] else []) = ivs (lawHeld r t i) ++ [.int i] := by
            unfold ivs
            rw [if_pos rfl, List.map_append]
            rfl
          rw [e2, List.append_assoc, List.append_assoc, List.cons_append, set_at]
          exact ⟨_, _, _, _, _, rfl, rfl⟩
      · intro p _
        refine ⟨_, rfl, ?_⟩
        simp only [Mv.mDef, Mv.mSeq, Mv.mSet, Mv.mRet, Mv.mRetN, Mv.mIfS, Mv.mVar, Mv.mC, Mv.mBin, Mv.mChain, Mv.mCall, Mv.mDo, Mv.mCons, Mv.mNil, Mv.mAndV, Mv.mOrV, Mv.mNotV, Mv.mAsB, Mv.mAndT, Mv.mOrT, Mv.mNotT, Mv.mIf, Mv.mTup, Mv.mLst, Mv.mNext, Mv.mBad, Mv.mDrop, Mv.mPar, Mv.mAsg, Mv.mStore, Mv.mNeg, Mv.fNeg, Mv.mYes, Mv.mNoP, Mv.mPart, Mv.mSl, Mv.fI, Mv.fAdd, Mv.fSub, Mv.fMul, Mv.fMod, Mv.fDiv, Mv.fPow, Mv.fLt, Mv.fLe, Mv.fGt, Mv.fGe, Mv.yes2, Mv.fIsN, Mv.fNotN, Mv.isNon, Mv.fIx, Mv.items_tup, Mv.items_new, Mv.list_new, Mv.lstOf_new, Mv.fEq_int, Mv.fNe_int, Mv.fLen_tup, Mv.fMax2, Mv.fMin2, Mv.fInt, Mv.fAbs, Mv.mIsi, Mv.isT, Mv.gN, Mv.gT, Mv.setAll, Mv.wipeM, Mv.R.bind_ok, Mv.R.bind_bad, Mv.R.noX_ok, Mv.R.andS_ok, Mv.R.andS_bad, Mv.S.andS_nx, Mv.S.andS_rt, Mv.S.andS_bad, Mv.S.andS_bk, Mv.S.andS_ct, List.map_cons, List.map_nil, List.cons_append, List.nil_append, List.append_nil, List.replicate_succ, List.replicate_zero, List.length_cons, List.length_nil, List.set_cons_zero, List.set_cons_succ, List.getElem?_cons_zero, List.getElem?_cons_succ, List.getElem?_nil, Nat.reduceAdd, Nat.reduceSub, Nat.reduceEqDiff, Nat.reduceLeDiff, Nat.zero_add, if_true, if_false, Bool.not_true, Bool.not_false, Bool.false_eq_true, decide_true, decide_false, ite_true, ite_false, Option.some.injEq, reduceIte]
        exact ⟨trivial, fun _ => trivial⟩
    · intro p hp
      have h0 := v.pos p hp
      refine ⟨_, rfl, ?_⟩
      simp only [Mv.mDef, Mv.mSeq, Mv.mSet, Mv.mRet, Mv.mRetN, Mv.mIfS, Mv.mVar, Mv.mC, Mv.mBin, Mv.mChain, Mv.mCall, Mv.mDo, Mv.mCons, Mv.mNil, Mv.mAndV, Mv.mOrV, Mv.mNotV, Mv.mAsB, Mv.mAndT, Mv.mOrT, Mv.mNotT, Mv.mIf, Mv.mTup, Mv.mLst, Mv.mNext, Mv.mBad, Mv.mDrop, Mv.mPar, Mv.mAsg, Mv.mStore, Mv.mNeg, Mv.fNeg, Mv.mYes, Mv.mNoP, Mv.mPart, Mv.mSl, Mv.fI, Mv.fAdd, Mv.fSub, Mv.fMul, Mv.fMod, Mv.fDiv, Mv.fPow, Mv.fLt, Mv.fLe, Mv.fGt, Mv.fGe, Mv.yes2, Mv.fIsN, Mv.fNotN, Mv.isNon, Mv.fIx, Mv.items_tup, Mv.items_new, Mv.list_new, Mv.lstOf_new, Mv.fEq_int, Mv.fNe_int, Mv.fLen_tup, Mv.fMax2, Mv.fMin2, Mv.fInt, Mv.fAbs, Mv.mIsi, Mv.isT, Mv.gN, Mv.gT, Mv.setAll, Mv.wipeM, Mv.R.bind_ok, Mv.R.bind_bad, Mv.R.noX_ok, Mv.R.andS_ok, Mv.R.andS_bad, Mv.S.andS_nx, Mv.S.andS_rt, Mv.S.andS_bad, Mv.S.andS_bk, Mv.S.andS_ct, List.map_cons, List.map_nil, List.cons_append, List.nil_append, List.append_nil, List.replicate_succ, List.replicate_zero, List.length_cons, List.length_nil, List.set_cons_zero, List.set_cons_succ, List.getElem?_cons_zero, List.getElem?_cons_succ, List.getElem?_nil, Nat.reduceAdd, Nat.reduceSub, Nat.reduceEqDiff, Nat.reduceLeDiff, Nat.zero_add, if_true, if_false, Bool.not_true, Bool.not_false, Bool.false_eq_true, decide_true, decide_false, ite_true, ite_false, Option.some.injEq, reduceIte, pv2, h0]
      exact ⟨trivial, fun _ => trivial⟩
  · exact ⟨[], none, none, none, none, rfl, rfl⟩
noncomputable def G_l_held : List MV → MH → R MV := specOf (α := Rule × Int) (fun p => [rv p.1, .int p.2]) (fun p => Valid p.1 ∧ 0 ≤ p.2 ∧ p.2 ≤ 100000) fun p h => .ok (.tup (ivs (heldAt p.1 p.2))) h
theorem G_l_held_eq {r : Rule} (v : Valid r) {t : Int} (h0 : 0 ≤ t) (ht : t ≤ 100000) (h : MH) : G_l_held [rv r, .int t] h = .ok (.tup (ivs (heldAt r t))) h := specOf_eq (a := ((r, t) : Rule × Int)) two_inj ⟨v, h0, ht⟩ h
theorem sim_l_held (xs : List MV) (h : MH) : Sim h (F_l_held xs h) (G_l_held xs h) := specOf_sim (fun p h v => by
  obtain ⟨g, e⟩ := F_l_held_eq v.1 v.2.1 v.2.2 h
  rw [e]
  exact sim_drop0 (und_tints _ _)) xs h
theorem F_l_rows_eq {r : Rule} (v : Valid r) (n : Nat) (hn : n ≤ 1000) (h : MH) : F_l_rows G_settled_of G_l_held [rv r, .int (n : Nat)] h = .ok (.ref h.length) (h ++ [.lst ((List.range n).map (rowV r))]) := by
  unfold F_l_rows m_l_rows
  obtain ⟨_, _, s1, s2⟩ := settled_spec v
  have hb : inR (n : Nat) = true := inR_of (by omega)
  simp only [Mv.mDef, Mv.mSeq, Mv.mSet, Mv.mRet, Mv.mRetN, Mv.mIfS, Mv.mVar, Mv.mC, Mv.mBin, Mv.mChain, Mv.mCall, Mv.mDo, Mv.mCons, Mv.mNil, Mv.mAndV, Mv.mOrV, Mv.mNotV, Mv.mAsB, Mv.mAndT, Mv.mOrT, Mv.mNotT, Mv.mIf, Mv.mTup, Mv.mLst, Mv.mNext, Mv.mBad, Mv.mDrop, Mv.mPar, Mv.mAsg, Mv.mStore, Mv.mNeg, Mv.fNeg, Mv.mYes, Mv.mNoP, Mv.mPart, Mv.mSl, Mv.fI, Mv.fAdd, Mv.fSub, Mv.fMul, Mv.fMod, Mv.fDiv, Mv.fPow, Mv.fLt, Mv.fLe, Mv.fGt, Mv.fGe, Mv.yes2, Mv.fIsN, Mv.fNotN, Mv.isNon, Mv.fIx, Mv.items_tup, Mv.items_new, Mv.list_new, Mv.lstOf_new, Mv.fEq_int, Mv.fNe_int, Mv.fLen_tup, Mv.fMax2, Mv.fMin2, Mv.fInt, Mv.fAbs, Mv.mIsi, Mv.isT, Mv.gN, Mv.gT, Mv.setAll, Mv.wipeM, Mv.R.bind_ok, Mv.R.bind_bad, Mv.R.noX_ok, Mv.R.andS_ok, Mv.R.andS_bad, Mv.S.andS_nx, Mv.S.andS_rt, Mv.S.andS_bad, Mv.S.andS_bk, Mv.S.andS_ct, List.map_cons, List.map_nil, List.cons_append, List.nil_append, List.append_nil, List.replicate_succ, List.replicate_zero, List.length_cons, List.length_nil, List.set_cons_zero, List.set_cons_succ, List.getElem?_cons_zero, List.getElem?_cons_succ, List.getElem?_nil, Nat.reduceAdd, Nat.reduceSub, Nat.reduceEqDiff, Nat.reduceLeDiff, Nat.zero_add, if_true, if_false, Bool.not_true, Bool.not_false, Bool.false_eq_true, decide_true, decide_false, ite_true, ite_false, Option.some.injEq, reduceIte, mLc, mRng1, G_settled_of_eq v, hb]
  rw [comp_pure (l := List.range n) (enc := fun (k : Nat) => MV.int (k : Int)) (cb := fun _ => true) (f := rowV r) (fun i => by
    rw [itR_nx, nats_prog, Int.toNat_natCast]; unfold ivs; rw [List.map_map]; rfl) (by rw [List.length_range]; unfold cap; omega)]
  · rw [filter_yes]; rfl
  · intro k hk
    have := List.mem_range.mp hk
    refine ⟨_, rfl, ?_⟩
    simp only [Mv.mDef, Mv.mSeq, Mv.mSet, Mv.mRet, Mv.mRetN, Mv.mIfS, Mv.mVar, Mv.mC, Mv.mBin, Mv.mChain, Mv.mCall, Mv.mDo, Mv.mCons, Mv.mNil, Mv.mAndV, Mv.mOrV, Mv.mNotV, Mv.mAsB, Mv.mAndT, Mv.mOrT, Mv.mNotT, Mv.mIf, Mv.mTup, Mv.mLst, Mv.mNext, Mv.mBad, Mv.mDrop, Mv.mPar, Mv.mAsg, Mv.mStore, Mv.mNeg, Mv.fNeg, Mv.mYes, Mv.mNoP, Mv.mPart, Mv.mSl, Mv.fI, Mv.fAdd, Mv.fSub, Mv.fMul, Mv.fMod, Mv.fDiv, Mv.fPow, Mv.fLt, Mv.fLe, Mv.fGt, Mv.fGe, Mv.yes2, Mv.fIsN, Mv.fNotN, Mv.isNon, Mv.fIx, Mv.items_tup, Mv.items_new, Mv.list_new, Mv.lstOf_new, Mv.fEq_int, Mv.fNe_int, Mv.fLen_tup, Mv.fMax2, Mv.fMin2, Mv.fInt, Mv.fAbs, Mv.mIsi, Mv.isT, Mv.gN, Mv.gT, Mv.setAll, Mv.wipeM, Mv.R.bind_ok, Mv.R.bind_bad, Mv.R.noX_ok, Mv.R.andS_ok, Mv.R.andS_bad, Mv.S.andS_nx, Mv.S.andS_rt, Mv.S.andS_bad, Mv.S.andS_bk, Mv.S.andS_ct, List.map_cons, List.map_nil, List.cons_append, List.nil_append, List.append_nil, List.replicate_succ, List.replicate_zero, List.length_cons, List.length_nil, List.set_cons_zero, List.set_cons_succ, List.getElem?_cons_zero, List.getElem?_cons_succ, List.getElem?_nil, Nat.reduceAdd, Nat.reduceSub, Nat.reduceEqDiff, Nat.reduceLeDiff, Nat.zero_add, if_true, if_false, Bool.not_true, Bool.not_false, Bool.false_eq_true, decide_true, decide_false, ite_true, ite_false, Option.some.injEq, reduceIte, G_l_held_eq v (t := settled r + (k : Int)) (by omega) (by omega)]
    exact ⟨trivial, fun _ => rfl⟩


/-! ### the law's own period -/
def turned (r : Rule) (n : Nat) : List (List Int) := (List.range 60).map fun k => rowF r ((k + n) % 60)
theorem turned_iff {r : Rule} (v : Valid r) (n : Nat) : turned r n = rowsL r 60 ↔ cyc r n := by
  unfold turned rowsL
  constructor
  · intro h k
    have := congrArg (fun l => l[k % 60]?) h
    simp only [List.getElem?_map, List.getElem?_range (Nat.mod_lt k (show 60 > 0 by decide)), Option.map_some, Option.some.injEq] at this
    rw [rowF_mod60 v, rowF_mod60 v] at this
    rw [← this, ← rowF_mod60 v (k + n), ← rowF_mod60 v (k % 60 + n), Nat.mod_add_mod]
  · intro h
    exact List.map_congr_left fun k _ => by rw [rowF_mod60 v, h]
theorem at_nat {α : Type} {l : List α} {k : Nat} {a : α} (h : l[k]? = some a) : atI l (k : Int) = some a := by
  have hk := (List.getElem?_eq_some_iff.mp h).1
  have e : ixN l.length (k : Int) = some k := by
    unfold ixN
    rw [if_pos (by omega), if_pos (by omega)]
    simp
  unfold atI
  rw [e]
  exact h
theorem F_l_period_eq {r : Rule} (v : Valid r) (h : MH) : ∃ g, F_l_period (F_l_rows G_settled_of G_l_held) [rv r] h = .ok (.int (periodN r : Nat)) (h ++ g) := by
  unfold F_l_period m_l_period
  have hrow : F_l_rows G_settled_of G_l_held [rv r, .int 60] h = _ := F_l_rows_eq v 60 (by decide) h
  have hper := periodN_is v
  obtain ⟨t1, t2, t3, _⟩ := turn_spec v
  have hp60 : periodN r ≤ 60 := Nat.le_of_not_lt fun z => hper.2.2 (turnN r) t1 (by omega) (cyc_turn v)
  have hb : inR 60 = true := inR_of (by omega)
  simp only [Mv.mDef, Mv.mSeq, Mv.mSet, Mv.mRet, Mv.mRetN, Mv.mIfS, Mv.mVar, Mv.mC, Mv.mBin, Mv.mChain, Mv.mCall, Mv.mDo, Mv.mCons, Mv.mNil, Mv.mAndV, Mv.mOrV, Mv.mNotV, Mv.mAsB, Mv.mAndT, Mv.mOrT, Mv.mNotT, Mv.mIf, Mv.mTup, Mv.mLst, Mv.mNext, Mv.mBad, Mv.mDrop, Mv.mPar, Mv.mAsg, Mv.mStore, Mv.mNeg, Mv.fNeg, Mv.mYes, Mv.mNoP, Mv.mPart, Mv.mSl, Mv.fI, Mv.fAdd, Mv.fSub, Mv.fMul, Mv.fMod, Mv.fDiv, Mv.fPow, Mv.fLt, Mv.fLe, Mv.fGt, Mv.fGe, Mv.yes2, Mv.fIsN, Mv.fNotN, Mv.isNon, Mv.fIx, Mv.items_tup, Mv.items_new, Mv.list_new, Mv.lstOf_new, Mv.fEq_int, Mv.fNe_int, Mv.fLen_tup, Mv.fMax2, Mv.fMin2, Mv.fInt, Mv.fAbs, Mv.mIsi, Mv.isT, Mv.gN, Mv.gT, Mv.setAll, Mv.wipeM, Mv.R.bind_ok, Mv.R.bind_bad, Mv.R.noX_ok, Mv.R.andS_ok, Mv.R.andS_bad, Mv.S.andS_nx, Mv.S.andS_rt, Mv.S.andS_bad, Mv.S.andS_bk, Mv.S.andS_ct, List.map_cons, List.map_nil, List.cons_append, List.nil_append, List.append_nil, List.replicate_succ, List.replicate_zero, List.length_cons, List.length_nil, List.set_cons_zero, List.set_cons_succ, List.getElem?_cons_zero, List.getElem?_cons_succ, List.getElem?_nil, Nat.reduceAdd, Nat.reduceSub, Nat.reduceEqDiff, Nat.reduceLeDiff, Nat.zero_add, if_true, if_false, Bool.not_true, Bool.not_false, Bool.false_eq_true, decide_true, decide_false, ite_true, ite_false, Option.some.injEq, reduceIte, hrow, mWhile]
  generalize hF : whileGo _ _ _ _ _ = s
  revert hF
  refine while_ind (P := fun t => t = s → _) (I := fun env h' => ∃ (n : Nat) (g : MH) (x3 : Option MV), 1 ≤ n ∧ n ≤ periodN r ∧ h' = h ++ .lst ((List.range 60).map (rowV r)) :: g ∧ env = [some (rv r), some (.ref h.length), some (.int (n : Nat)), x3])
    (m := fun env _ => match env with | [_, _, some (.int n), _] => (60 - n).toNat | _ => 0) ?_ fuel _ _ ?_ ?_
  · rintro env h' ⟨n, g, x3, hn1, hn2, rfl, rfl⟩
    generalize eh : h ++ .lst ((List.range 60).map (rowV r)) :: g = h2
    have w0 : h2[h.length]? = some (MO.lst ((List.range 60).map (rowV r))) := by rw [← eh]; exact at_len _ _ _
    have hlt : decide ((n : Int) < 60) = decide (n < 60) := decide_eq_decide.mpr (by omega)
    by_cases hz : n < 60
    · have hz' : decide (n < 60) = true := decide_eq_true hz
      simp only [Mv.mDef, Mv.mSeq, Mv.mSet, Mv.mRet, Mv.mRetN, Mv.mIfS, Mv.mVar, Mv.mC, Mv.mBin, Mv.mChain, Mv.mCall, Mv.mDo, Mv.mCons, Mv.mNil, Mv.mAndV, Mv.mOrV, Mv.mNotV, Mv.mAsB, Mv.mAndT, Mv.mOrT, Mv.mNotT, Mv.mIf, Mv.mTup, Mv.mLst, Mv.mNext, Mv.mBad, Mv.mDrop, Mv.mPar, Mv.mAsg, Mv.mStore, Mv.mNeg, Mv.fNeg, Mv.mYes, Mv.mNoP, Mv.mPart, Mv.mSl, Mv.fI, Mv.fAdd, Mv.fSub, Mv.fMul, Mv.fMod, Mv.fDiv, Mv.fPow, Mv.fLt, Mv.fLe, Mv.fGt, Mv.fGe, Mv.yes2, Mv.fIsN, Mv.fNotN, Mv.isNon, Mv.fIx, Mv.items_tup, Mv.items_new, Mv.list_new, Mv.lstOf_new, Mv.fEq_int, Mv.fNe_int, Mv.fLen_tup, Mv.fMax2, Mv.fMin2, Mv.fInt, Mv.fAbs, Mv.mIsi, Mv.isT, Mv.gN, Mv.gT, Mv.setAll, Mv.wipeM, Mv.R.bind_ok, Mv.R.bind_bad, Mv.R.noX_ok, Mv.R.andS_ok, Mv.R.andS_bad, Mv.S.andS_nx, Mv.S.andS_rt, Mv.S.andS_bad, Mv.S.andS_bk, Mv.S.andS_ct, List.map_cons, List.map_nil, List.cons_append, List.nil_append, List.append_nil, List.replicate_succ, List.replicate_zero, List.length_cons, List.length_nil, List.set_cons_zero, List.set_cons_succ, List.getElem?_cons_zero, List.getElem?_cons_succ, List.getElem?_nil, Nat.reduceAdd, Nat.reduceSub, Nat.reduceEqDiff, Nat.reduceLeDiff, Nat.zero_add, if_true, if_false, Bool.not_true, Bool.not_false, Bool.false_eq_true, decide_true, decide_false, ite_true, ite_false, Option.some.injEq, reduceIte, hlt, hz', mLc, mRng1, hb]
      rw [comp_pure (l := List.range 60) (enc := fun (k : Nat) => MV.int (k : Int)) (cb := fun _ => true) (f := fun k => rowV r ((k + n) % 60)) (fun i => by
        rw [itR_nx]
        show nxOf (ivs (prog 0 1 60))[i]? = _
        rw [nats_prog]; unfold ivs; rw [List.map_map]; rfl) (by rw [List.length_range]; decide)]
      · rw [filter_yes]
        have e1 : (List.range 60).map (fun k => rowV r ((k + n) % 60)) = (turned r n).map fun l => .tup (ivs l) := by
          unfold turned rowV
          rw [List.map_map]; rfl
        rw [e1]
        simp only [Mv.mDef, Mv.mSeq, Mv.mSet, Mv.mRet, Mv.mRetN, Mv.mIfS, Mv.mVar, Mv.mC, Mv.mBin, Mv.mChain, Mv.mCall, Mv.mDo, Mv.mCons, Mv.mNil, Mv.mAndV, Mv.mOrV, Mv.mNotV, Mv.mAsB, Mv.mAndT, Mv.mOrT, Mv.mNotT, Mv.mIf, Mv.mTup, Mv.mLst, Mv.mNext, Mv.mBad, Mv.mDrop, Mv.mPar, Mv.mAsg, Mv.mStore, Mv.mNeg, Mv.fNeg, Mv.mYes, Mv.mNoP, Mv.mPart, Mv.mSl, Mv.fI, Mv.fAdd, Mv.fSub, Mv.fMul, Mv.fMod, Mv.fDiv, Mv.fPow, Mv.fLt, Mv.fLe, Mv.fGt, Mv.fGe, Mv.yes2, Mv.fIsN, Mv.fNotN, Mv.isNon, Mv.fIx, Mv.items_tup, Mv.items_new, Mv.list_new, Mv.lstOf_new, Mv.fEq_int, Mv.fNe_int, Mv.fLen_tup, Mv.fMax2, Mv.fMin2, Mv.fInt, Mv.fAbs, Mv.mIsi, Mv.isT, Mv.gN, Mv.gT, Mv.setAll, Mv.wipeM, Mv.R.bind_ok, Mv.R.bind_bad, Mv.R.noX_ok, Mv.R.andS_ok, Mv.R.andS_bad, Mv.S.andS_nx, Mv.S.andS_rt, Mv.S.andS_bad, Mv.S.andS_bk, Mv.S.andS_ct, List.map_cons, List.map_nil, List.cons_append, List.nil_append, List.append_nil, List.replicate_succ, List.replicate_zero, List.length_cons, List.length_nil, List.set_cons_zero, List.set_cons_succ, List.getElem?_cons_zero, List.getElem?_cons_succ, List.getElem?_nil, Nat.reduceAdd, Nat.reduceSub, Nat.reduceEqDiff, Nat.reduceLeDiff, Nat.zero_add, if_true, if_false, Bool.not_true, Bool.not_false, Bool.false_eq_true, decide_true, decide_false, ite_true, ite_false, Option.some.injEq, reduceIte]
        rw [rowsV_eq] at w0
        rw [fNe_rows (look_new _ _) (look_app w0)]
        simp only [Mv.mDef, Mv.mSeq, Mv.mSet, Mv.mRet, Mv.mRetN, Mv.mIfS, Mv.mVar, Mv.mC, Mv.mBin, Mv.mChain, Mv.mCall, Mv.mDo, Mv.mCons, Mv.mNil, Mv.mAndV, Mv.mOrV, Mv.mNotV, Mv.mAsB, Mv.mAndT, Mv.mOrT, Mv.mNotT, Mv.mIf, Mv.mTup, Mv.mLst, Mv.mNext, Mv.mBad, Mv.mDrop, Mv.mPar, Mv.mAsg, Mv.mStore, Mv.mNeg, Mv.fNeg, Mv.mYes, Mv.mNoP, Mv.mPart, Mv.mSl, Mv.fI, Mv.fAdd, Mv.fSub, Mv.fMul, Mv.fMod, Mv.fDiv, Mv.fPow, Mv.fLt, Mv.fLe, Mv.fGt, Mv.fGe, Mv.yes2, Mv.fIsN, Mv.fNotN, Mv.isNon, Mv.fIx, Mv.items_tup, Mv.items_new, Mv.list_new, Mv.lstOf_new, Mv.fEq_int, Mv.fNe_int, Mv.fLen_tup, Mv.fMax2, Mv.fMin2, Mv.fInt, Mv.fAbs, Mv.mIsi, Mv.isT, Mv.gN, Mv.gT, Mv.setAll, Mv.wipeM, Mv.R.bind_ok, Mv.R.bind_bad, Mv.R.noX_ok, Mv.R.andS_ok, Mv.R.andS_bad, Mv.S.andS_nx, Mv.S.andS_rt, Mv.S.andS_bad, Mv.S.andS_bk, Mv.S.andS_ct, List.map_cons, List.map_nil, List.cons_append, List.nil_append, List.append_nil, List.replicate_succ, List.replicate_zero, List.length_cons, List.length_nil, List.set_cons_zero, List.set_cons_succ, List.getElem?_cons_zero, List.getElem?_cons_succ, List.getElem?_nil, Nat.reduceAdd, Nat.reduceSub, Nat.reduceEqDiff, Nat.reduceLeDiff, Nat.zero_add, if_true, if_false, Bool.not_true, Bool.not_false, Bool.false_eq_true, decide_true, decide_false, ite_true, ite_false, Option.some.injEq, reduceIte]
        have ed : decide (turned r n = rowsL r 60) = decide (n = periodN r) := decide_eq_decide.mpr ⟨fun z => by
          rcases Nat.lt_or_ge n (periodN r) with y | y
          · exact absurd ((turned_iff v n).mp z) (hper.2.2 n hn1 y)
          · omega, fun z => (turned_iff v n).mpr (z ▸ hper.2.1)⟩
        rw [ed]
        refine ⟨_, _, rfl, fun q => ?_, fun q => ?_⟩
        · have q : n = periodN r := by simpa using q
          rintro rfl
          simp only [Mv.mDef, Mv.mSeq, Mv.mSet, Mv.mRet, Mv.mRetN, Mv.mIfS, Mv.mVar, Mv.mC, Mv.mBin, Mv.mChain, Mv.mCall, Mv.mDo, Mv.mCons, Mv.mNil, Mv.mAndV, Mv.mOrV, Mv.mNotV, Mv.mAsB, Mv.mAndT, Mv.mOrT, Mv.mNotT, Mv.mIf, Mv.mTup, Mv.mLst, Mv.mNext, Mv.mBad, Mv.mDrop, Mv.mPar, Mv.mAsg, Mv.mStore, Mv.mNeg, Mv.fNeg, Mv.mYes, Mv.mNoP, Mv.mPart, Mv.mSl, Mv.fI, Mv.fAdd, Mv.fSub, Mv.fMul, Mv.fMod, Mv.fDiv, Mv.fPow, Mv.fLt, Mv.fLe, Mv.fGt, Mv.fGe, Mv.yes2, Mv.fIsN, Mv.fNotN, Mv.isNon, Mv.fIx, Mv.items_tup, Mv.items_new, Mv.list_new, Mv.lstOf_new, Mv.fEq_int, Mv.fNe_int, Mv.fLen_tup, Mv.fMax2, Mv.fMin2, Mv.fInt, Mv.fAbs, Mv.mIsi, Mv.isT, Mv.gN, Mv.gT, Mv.setAll, Mv.wipeM, Mv.R.bind_ok, Mv.R.bind_bad, Mv.R.noX_ok, Mv.R.andS_ok, Mv.R.andS_bad, Mv.S.andS_nx, Mv.S.andS_rt, Mv.S.andS_bad, Mv.S.andS_bk, Mv.S.andS_ct, List.map_cons, List.map_nil, List.cons_append, List.nil_append, List.append_nil, List.replicate_succ, List.replicate_zero, List.length_cons, List.length_nil, List.set_cons_zero, List.set_cons_succ, List.getElem?_cons_zero, List.getElem?_cons_succ, List.getElem?_nil, Nat.reduceAdd, Nat.reduceSub, Nat.reduceEqDiff, Nat.reduceLeDiff, Nat.zero_add, if_true, if_false, Bool.not_true, Bool.not_false, Bool.false_eq_true, decide_true, decide_false, ite_true, ite_false, Option.some.injEq, reduceIte]
          rw [← eh, q, List.append_assoc]
          exact ok_ex (List.prefix_append _ _)
        · have q : n ≠ periodN r := by simpa using q
          refine ⟨⟨n + 1, _, _, by omega, by omega, by rw [← eh, List.append_assoc]; rfl, rfl⟩, ?_⟩
          show (60 - ((n : Int) + 1)).toNat < (60 - (n : Int)).toNat
          omega
      · intro k hk
        have hk := List.mem_range.mp hk
        refine ⟨_, rfl, ?_⟩
        have e2 : ((k : Int) + (n : Int)) % 60 = (((k + n) % 60 : Nat) : Int) := by omega
        have e3 : ((List.range 60).map (rowV r))[(k + n) % 60]? = some (rowV r ((k + n) % 60)) := by
          rw [List.getElem?_map, List.getElem?_range (Nat.mod_lt _ (by decide))]; rfl
        have e4 : (0 : Int) < 60 := by decide
        simp only [Mv.mDef, Mv.mSeq, Mv.mSet, Mv.mRet, Mv.mRetN, Mv.mIfS, Mv.mVar, Mv.mC, Mv.mBin, Mv.mChain, Mv.mCall, Mv.mDo, Mv.mCons, Mv.mNil, Mv.mAndV, Mv.mOrV, Mv.mNotV, Mv.mAsB, Mv.mAndT, Mv.mOrT, Mv.mNotT, Mv.mIf, Mv.mTup, Mv.mLst, Mv.mNext, Mv.mBad, Mv.mDrop, Mv.mPar, Mv.mAsg, Mv.mStore, Mv.mNeg, Mv.fNeg, Mv.mYes, Mv.mNoP, Mv.mPart, Mv.mSl, Mv.fI, Mv.fAdd, Mv.fSub, Mv.fMul, Mv.fMod, Mv.fDiv, Mv.fPow, Mv.fLt, Mv.fLe, Mv.fGt, Mv.fGe, Mv.yes2, Mv.fIsN, Mv.fNotN, Mv.isNon, Mv.fIx, Mv.items_tup, Mv.items_new, Mv.list_new, Mv.lstOf_new, Mv.fEq_int, Mv.fNe_int, Mv.fLen_tup, Mv.fMax2, Mv.fMin2, Mv.fInt, Mv.fAbs, Mv.mIsi, Mv.isT, Mv.gN, Mv.gT, Mv.setAll, Mv.wipeM, Mv.R.bind_ok, Mv.R.bind_bad, Mv.R.noX_ok, Mv.R.andS_ok, Mv.R.andS_bad, Mv.S.andS_nx, Mv.S.andS_rt, Mv.S.andS_bad, Mv.S.andS_bk, Mv.S.andS_ct, List.map_cons, List.map_nil, List.cons_append, List.nil_append, List.append_nil, List.replicate_succ, List.replicate_zero, List.length_cons, List.length_nil, List.set_cons_zero, List.set_cons_succ, List.getElem?_cons_zero, List.getElem?_cons_succ, List.getElem?_nil, Nat.reduceAdd, Nat.reduceSub, Nat.reduceEqDiff, Nat.reduceLeDiff, Nat.zero_add, if_true, if_false, Bool.not_true, Bool.not_false, Bool.false_eq_true, decide_true, decide_false, ite_true, ite_false, Option.some.injEq, reduceIte, e2, e4, items_at w0, at_nat e3]
        exact ⟨trivial, fun _ => trivial⟩
    · have hz' : decide (n < 60) = false := decide_eq_false hz
      simp only [Mv.mDef, Mv.mSeq, Mv.mSet, Mv.mRet, Mv.mRetN, Mv.mIfS, Mv.mVar, Mv.mC, Mv.mBin, Mv.mChain, Mv.mCall, Mv.mDo, Mv.mCons, Mv.mNil, Mv.mAndV, Mv.mOrV, Mv.mNotV, Mv.mAsB, Mv.mAndT, Mv.mOrT, Mv.mNotT, Mv.mIf, Mv.mTup, Mv.mLst, Mv.mNext, Mv.mBad, Mv.mDrop, Mv.mPar, Mv.mAsg, Mv.mStore, Mv.mNeg, Mv.fNeg, Mv.mYes, Mv.mNoP, Mv.mPart, Mv.mSl, Mv.fI, Mv.fAdd, Mv.fSub, Mv.fMul, Mv.fMod, Mv.fDiv, Mv.fPow, Mv.fLt, Mv.fLe, Mv.fGt, Mv.fGe, Mv.yes2, Mv.fIsN, Mv.fNotN, Mv.isNon, Mv.fIx, Mv.items_tup, Mv.items_new, Mv.list_new, Mv.lstOf_new, Mv.fEq_int, Mv.fNe_int, Mv.fLen_tup, Mv.fMax2, Mv.fMin2, Mv.fInt, Mv.fAbs, Mv.mIsi, Mv.isT, Mv.gN, Mv.gT, Mv.setAll, Mv.wipeM, Mv.R.bind_ok, Mv.R.bind_bad, Mv.R.noX_ok, Mv.R.andS_ok, Mv.R.andS_bad, Mv.S.andS_nx, Mv.S.andS_rt, Mv.S.andS_bad, Mv.S.andS_bk, Mv.S.andS_ct, List.map_cons, List.map_nil, List.cons_append, List.nil_append, List.append_nil, List.replicate_succ, List.replicate_zero, List.length_cons, List.length_nil, List.set_cons_zero, List.set_cons_succ, List.getElem?_cons_zero, List.getElem?_cons_succ, List.getElem?_nil, Nat.reduceAdd, Nat.reduceSub, Nat.reduceEqDiff, Nat.reduceLeDiff, Nat.zero_add, if_true, if_false, Bool.not_true, Bool.not_false, Bool.false_eq_true, decide_true, decide_false, ite_true, ite_false, Option.some.injEq, reduceIte, hlt, hz']
      refine ⟨_, _, rfl, fun _ => ?_, fun q => by cases q⟩
      rintro rfl
      simp only [Mv.mDef, Mv.mSeq, Mv.mSet, Mv.mRet, Mv.mRetN, Mv.mIfS, Mv.mVar, Mv.mC, Mv.mBin, Mv.mChain, Mv.mCall, Mv.mDo, Mv.mCons, Mv.mNil, Mv.mAndV, Mv.mOrV, Mv.mNotV, Mv.mAsB, Mv.mAndT, Mv.mOrT, Mv.mNotT, Mv.mIf, Mv.mTup, Mv.mLst, Mv.mNext, Mv.mBad, Mv.mDrop, Mv.mPar, Mv.mAsg, Mv.mStore, Mv.mNeg, Mv.fNeg, Mv.mYes, Mv.mNoP, Mv.mPart, Mv.mSl, Mv.fI, Mv.fAdd, Mv.fSub, Mv.fMul, Mv.fMod, Mv.fDiv, Mv.fPow, Mv.fLt, Mv.fLe, Mv.fGt, Mv.fGe, Mv.yes2, Mv.fIsN, Mv.fNotN, Mv.isNon, Mv.fIx, Mv.items_tup, Mv.items_new, Mv.list_new, Mv.lstOf_new, Mv.fEq_int, Mv.fNe_int, Mv.fLen_tup, Mv.fMax2, Mv.fMin2, Mv.fInt, Mv.fAbs, Mv.mIsi, Mv.isT, Mv.gN, Mv.gT, Mv.setAll, Mv.wipeM, Mv.R.bind_ok, Mv.R.bind_bad, Mv.R.noX_ok, Mv.R.andS_ok, Mv.R.andS_bad, Mv.S.andS_nx, Mv.S.andS_rt, Mv.S.andS_bad, Mv.S.andS_bk, Mv.S.andS_ct, List.map_cons, List.map_nil, List.cons_append, List.nil_append, List.append_nil, List.replicate_succ, List.replicate_zero, List.length_cons, List.length_nil, List.set_cons_zero, List.set_cons_succ, List.getElem?_cons_zero, List.getElem?_cons_succ, List.getElem?_nil, Nat.reduceAdd, Nat.reduceSub, Nat.reduceEqDiff, Nat.reduceLeDiff, Nat.zero_add, if_true, if_false, Bool.not_true, Bool.not_false, Bool.false_eq_true, decide_true, decide_false, ite_true, ite_false, Option.some.injEq, reduceIte]
      have : n = periodN r := by omega
      rw [← eh, this]
      exact ⟨_, rfl⟩
  · exact ⟨1, [], none, by omega, hper.1, rfl, rfl⟩
  · have := fuel_ge
    show (60 - (1 : Int)).toNat < fuel
    omega
noncomputable def G_l_rows : List MV → MH → R MV := F_l_rows G_settled_of G_l_held
noncomputable def G_l_period : List MV → MH → R MV := G_period_of
theorem sim_l_period (xs : List MV) (h : MH) : Sim h (F_l_period G_l_rows xs h) (G_l_period xs h) := specOf_sim (fun r h v => by
  obtain ⟨g, e⟩ := F_l_period_eq v h
  show Sim h (F_l_period (F_l_rows G_settled_of G_l_held) [rv r] h) _
  rw [e]
  exact sim_drop0 (und_int _ _)) xs h

/-! ### the law's own gap -/
theorem enum_at {xs : List MV} {i : Nat} {x y : MV} (h : (enumL xs)[i]? = some x) (e : xs[i]? = some y) : x = .tup [.int (i : Nat), y] := by
  unfold enumL at h
  rw [List.getElem?_map, List.getElem?_zipIdx, e] at h
  simp at h
  exact h.symm
theorem enum_len (xs : List MV) : (enumL xs).length = xs.length := by simp [enumL]
/-- the best of the first i rows -/
def BestOf (r : Rule) (age : Int) (i : Nat) (b : MV) : Prop := (i = 0 ∧ b = .non) ∨ ∃ m j, b = .tup [.int m, .int (settled r + (j : Nat))] ∧ IsGap (firstO r age) i m j
theorem BestOf.keep {r : Rule} {age : Int} {i : Nat} {m o : Int} {j : Nat} (h : IsGap (firstO r age) i m j) (e : firstO r age i = some o) (l : ¬ m < o) : IsGap (firstO r age) (i + 1) m j := ⟨by have := h.lt; omega, h.at', fun k hk => by
  rcases Nat.lt_or_ge k i with z | z
  · exact h.all k z
  · have : k = i := by omega
    subst this
    exact ⟨o, e, by omega⟩, h.first⟩
theorem BestOf.new {r : Rule} {age : Int} {i : Nat} {o : Int} (e : firstO r age i = some o) (l : ∀ k, k < i → ∃ x, firstO r age k = some x ∧ x < o) : IsGap (firstO r age) (i + 1) o i := ⟨by omega, e, fun k hk => by
  rcases Nat.lt_or_ge k i with z | z
  · obtain ⟨x, a, b⟩ := l k z
    exact ⟨x, a, by omega⟩
  · have : k = i := by omega
    subst this
    exact ⟨o, e, by omega⟩, fun k hk z => by
  obtain ⟨x, a, b⟩ := l k hk
  rw [z] at a; cases a
  omega⟩
noncomputable def G_l_gap : List MV → MH → R MV := specOf (α := Rule × Int) (fun p => [rv p.1, .int p.2]) (fun p => Valid p.1) fun p h => .ok (gapV p.1 p.2) h
theorem G_l_gap_eq {r : Rule} (v : Valid r) (age : Int) (h : MH) : G_l_gap [rv r, .int age] h = .ok (gapV r age) h := specOf_eq (a := ((r, age) : Rule × Int)) two_inj v h

/-! ### what is drawn from the script -/
def primes : List Int := [1000003, 1000033, 1000037, 1000039, 1000081, 1000099, 1000117, 1000121, 1000133, 1000151, 1000159, 1000171, 1000183, 1000187, 1000193, 1000199]
theorem primes_at (k : Nat) (hk : k < 16) : ∃ p, primes[k]? = some p ∧ 1000003 ≤ p := by
  have : ∀ k : Fin 16, ∃ p, primes[k.val]? = some p ∧ 1000003 ≤ p := by
    intro k
    have h : k.val < primes.length := k.isLt
    refine ⟨primes[k.val], List.getElem?_eq_getElem h, ?_⟩
    have : ∀ p ∈ primes, (1000003 : Int) ≤ p := by decide
    exact this _ (List.getElem_mem h)
  exact this ⟨k, hk⟩
theorem F_l_draw_eq {c k b : Int} (h0 : 0 ≤ c) (h1 : c < 10 ^ 14) (h2 : 0 ≤ k) (h3 : k ≤ 100) (hb : 0 < b) (h : MH) : ∃ z, F_l_draw [.int c, .int k, .int b] h = .ok (.int z) h ∧ 0 ≤ z ∧ z < b := by
  unfold F_l_draw m_l_draw
  have a1 : CMulB c 48271 = true := cmul_ok (a := 48) (b := 20) (by omega) (by decide) (by decide) (by decide) (by decide)
  have a2 : CMulB k 69621 = true := cmul_ok (a := 8) (b := 20) (by omega) (by decide) (by decide) (by decide) (by decide)
  have a3 : (0 : Int) < 16 := by decide
  obtain ⟨p, e1, hp⟩ := primes_at (k % 16).toNat (by omega)
  have e2 : (k % 16) = (((k % 16).toNat : Nat) : Int) := by omega
  have e3 : atI (primes.map MV.int) (k % 16) = some (.int p) := by
    rw [e2]
    refine at_nat ?_
    rw [List.getElem?_map, e1]
    rfl
  have e4 : [MV.int 1000003, .int 1000033, .int 1000037, .int 1000039, .int 1000081, .int 1000099, .int 1000117, .int 1000121, .int 1000133, .int 1000151, .int 1000159, .int 1000171, .int 1000183, .int 1000187, .int 1000193, .int 1000199] = primes.map MV.int := rfl
  have hp0 : 0 < p := by omega
  have hc : ∀ m, m ≤ 16 → m ≤ cap := fun m hm => by unfold cap; omega
  simp only [Mv.mDef, Mv.mSeq, Mv.mSet, Mv.mRet, Mv.mRetN, Mv.mIfS, Mv.mVar, Mv.mC, Mv.mBin, Mv.mChain, Mv.mCall, Mv.mDo, Mv.mCons, Mv.mNil, Mv.mAndV, Mv.mOrV, Mv.mNotV, Mv.mAsB, Mv.mAndT, Mv.mOrT, Mv.mNotT, Mv.mIf, Mv.mTup, Mv.mLst, Mv.mNext, Mv.mBad, Mv.mDrop, Mv.mPar, Mv.mAsg, Mv.mStore, Mv.mNeg, Mv.fNeg, Mv.mYes, Mv.mNoP, Mv.mPart, Mv.mSl, Mv.fI, Mv.fAdd, Mv.fSub, Mv.fMul, Mv.fMod, Mv.fDiv, Mv.fPow, Mv.fLt, Mv.fLe, Mv.fGt, Mv.fGe, Mv.yes2, Mv.fIsN, Mv.fNotN, Mv.isNon, Mv.fIx, Mv.items_tup, Mv.items_new, Mv.list_new, Mv.lstOf_new, Mv.fEq_int, Mv.fNe_int, Mv.fLen_tup, Mv.fMax2, Mv.fMin2, Mv.fInt, Mv.fAbs, Mv.mIsi, Mv.isT, Mv.gN, Mv.gT, Mv.setAll, Mv.wipeM, Mv.R.bind_ok, Mv.R.bind_bad, Mv.R.noX_ok, Mv.R.andS_ok, Mv.R.andS_bad, Mv.S.andS_nx, Mv.S.andS_rt, Mv.S.andS_bad, Mv.S.andS_bk, Mv.S.andS_ct, List.map_cons, List.map_nil, List.cons_append, List.nil_append, List.append_nil, List.replicate_succ, List.replicate_zero, List.length_cons, List.length_nil, List.set_cons_zero, List.set_cons_succ, List.getElem?_cons_zero, List.getElem?_cons_succ, List.getElem?_nil, Nat.reduceAdd, Nat.reduceSub, Nat.reduceEqDiff, Nat.reduceLeDiff, Nat.zero_add, if_true, if_false, Bool.not_true, Bool.not_false, Bool.false_eq_true, decide_true, decide_false, ite_true, ite_false, Option.some.injEq, reduceIte, a1, a2, a3, hc _ (Nat.le_refl 16)]
  rw [e4, e3]
  simp only [Mv.mDef, Mv.mSeq, Mv.mSet, Mv.mRet, Mv.mRetN, Mv.mIfS, Mv.mVar, Mv.mC, Mv.mBin, Mv.mChain, Mv.mCall, Mv.mDo, Mv.mCons, Mv.mNil, Mv.mAndV, Mv.mOrV, Mv.mNotV, Mv.mAsB, Mv.mAndT, Mv.mOrT, Mv.mNotT, Mv.mIf, Mv.mTup, Mv.mLst, Mv.mNext, Mv.mBad, Mv.mDrop, Mv.mPar, Mv.mAsg, Mv.mStore, Mv.mNeg, Mv.fNeg, Mv.mYes, Mv.mNoP, Mv.mPart, Mv.mSl, Mv.fI, Mv.fAdd, Mv.fSub, Mv.fMul, Mv.fMod, Mv.fDiv, Mv.fPow, Mv.fLt, Mv.fLe, Mv.fGt, Mv.fGe, Mv.yes2, Mv.fIsN, Mv.fNotN, Mv.isNon, Mv.fIx, Mv.items_tup, Mv.items_new, Mv.list_new, Mv.lstOf_new, Mv.fEq_int, Mv.fNe_int, Mv.fLen_tup, Mv.fMax2, Mv.fMin2, Mv.fInt, Mv.fAbs, Mv.mIsi, Mv.isT, Mv.gN, Mv.gT, Mv.setAll, Mv.wipeM, Mv.R.bind_ok, Mv.R.bind_bad, Mv.R.noX_ok, Mv.R.andS_ok, Mv.R.andS_bad, Mv.S.andS_nx, Mv.S.andS_rt, Mv.S.andS_bad, Mv.S.andS_bk, Mv.S.andS_ct, List.map_cons, List.map_nil, List.cons_append, List.nil_append, List.append_nil, List.replicate_succ, List.replicate_zero, List.length_cons, List.length_nil, List.set_cons_zero, List.set_cons_succ, List.getElem?_cons_zero, List.getElem?_cons_succ, List.getElem?_nil, Nat.reduceAdd, Nat.reduceSub, Nat.reduceEqDiff, Nat.reduceLeDiff, Nat.zero_add, if_true, if_false, Bool.not_true, Bool.not_false, Bool.false_eq_true, decide_true, decide_false, ite_true, ite_false, Option.some.injEq, reduceIte, hp0, hb]
  exact ⟨_, rfl, Int.emod_nonneg _ (by omega), Int.emod_lt_of_pos _ hb⟩
theorem log2_lt {i : Int} {a : Nat} (h : 0 < a) (hi : i.natAbs < 2 ^ a) : i.natAbs.log2 < a := PySem.Flt.log2_lt_of h hi
theorem F_l_number_eq {c k b : Int} (h2 : 0 ≤ k) (h3 : k ≤ 100) (hb : 0 < b) (h : MH) : ∃ z, F_l_number F_l_draw [.int c, .int k, .int b] h = .ok (.int z) h ∧ 0 ≤ z ∧ z < b := by
  unfold F_l_number m_l_number
  have a1 : (0 : Int) < 24 := by decide
  have a2 : inR (k % 24) = true := inR_of (by omega)
  simp only [Mv.mDef, Mv.mSeq, Mv.mSet, Mv.mRet, Mv.mRetN, Mv.mIfS, Mv.mVar, Mv.mC, Mv.mBin, Mv.mChain, Mv.mCall, Mv.mDo, Mv.mCons, Mv.mNil, Mv.mAndV, Mv.mOrV, Mv.mNotV, Mv.mAsB, Mv.mAndT, Mv.mOrT, Mv.mNotT, Mv.mIf, Mv.mTup, Mv.mLst, Mv.mNext, Mv.mBad, Mv.mDrop, Mv.mPar, Mv.mAsg, Mv.mStore, Mv.mNeg, Mv.fNeg, Mv.mYes, Mv.mNoP, Mv.mPart, Mv.mSl, Mv.fI, Mv.fAdd, Mv.fSub, Mv.fMul, Mv.fMod, Mv.fDiv, Mv.fPow, Mv.fLt, Mv.fLe, Mv.fGt, Mv.fGe, Mv.yes2, Mv.fIsN, Mv.fNotN, Mv.isNon, Mv.fIx, Mv.items_tup, Mv.items_new, Mv.list_new, Mv.lstOf_new, Mv.fEq_int, Mv.fNe_int, Mv.fLen_tup, Mv.fMax2, Mv.fMin2, Mv.fInt, Mv.fAbs, Mv.mIsi, Mv.isT, Mv.gN, Mv.gT, Mv.setAll, Mv.wipeM, Mv.R.bind_ok, Mv.R.bind_bad, Mv.R.noX_ok, Mv.R.andS_ok, Mv.R.andS_bad, Mv.S.andS_nx, Mv.S.andS_rt, Mv.S.andS_bad, Mv.S.andS_bk, Mv.S.andS_ct, List.map_cons, List.map_nil, List.cons_append, List.nil_append, List.append_nil, List.replicate_succ, List.replicate_zero, List.length_cons, List.length_nil, List.set_cons_zero, List.set_cons_succ, List.getElem?_cons_zero, List.getElem?_cons_succ, List.getElem?_nil, Nat.reduceAdd, Nat.reduceSub, Nat.reduceEqDiff, Nat.reduceLeDiff, Nat.zero_add, if_true, if_false, Bool.not_true, Bool.not_false, Bool.false_eq_true, decide_true, decide_false, ite_true, ite_false, Option.some.injEq, reduceIte, mFor, mRng1, a1, a2]
  generalize hF : forGo _ _ _ _ _ _ _ = s
  revert hF
  refine for_ind (xs := ivs (prog 0 1 (k % 24).toNat)) (P := fun t => t = s → _)
    (fun i env h' => h' = h ∧ ∃ x4, env = [some (.int c), some (.int k), some (.int b), some (.int ((1009 : Int) ^ i)), x4, none, none])
    ?_ ?_ ?_ fuel 0 _ _ ?_ (Nat.zero_le _) (by have := fuel_ge; simp only [ints_length, prog_length]; omega)
  · rintro i env h' _
    exact itR_nx _ _ _ i h'
  · rintro env h' ⟨rfl, x4, rfl⟩ rfl
    rw [ints_length, prog_length]
    have hn : (k % 24).toNat < 24 := by omega
    generalize (k % 24).toNat = n at hn
    have hpos : (0 : Int) < 1009 ^ n := by
      have : (0 : Int) < 1009 := by decide
      exact Int.pow_pos this
    have hlog : ((1009 : Int) ^ n).natAbs.log2 < 9000 := by
      have : ∀ n : Fin 24, ((1009 : Int) ^ n.val).natAbs.log2 < 9000 := by decide
      exact this ⟨n, hn⟩
    have d1 : CDivB (c - 10 ^ (18 : Int).toNat) (1009 ^ n) = true := decide_eq_true ⟨hpos, hlog⟩
    have d2 : decide (0 ≤ (10 : Int) ∧ (10 : Int) ≤ 1000 ∧ 0 ≤ (18 : Int) ∧ (18 : Int) ≤ 1000) = true := by decide
    have d3 : (0 : Int) < 1009 := by decide
    have d4 : (0 : Int) < 1000003 := by decide
    have d5 : (0 : Int) < 9 := by decide
    simp only [Mv.mDef, Mv.mSeq, Mv.mSet, Mv.mRet, Mv.mRetN, Mv.mIfS, Mv.mVar, Mv.mC, Mv.mBin, Mv.mChain, Mv.mCall, Mv.mDo, Mv.mCons, Mv.mNil, Mv.mAndV, Mv.mOrV, Mv.mNotV, Mv.mAsB, Mv.mAndT, Mv.mOrT, Mv.mNotT, Mv.mIf, Mv.mTup, Mv.mLst, Mv.mNext, Mv.mBad, Mv.mDrop, Mv.mPar, Mv.mAsg, Mv.mStore, Mv.mNeg, Mv.fNeg, Mv.mYes, Mv.mNoP, Mv.mPart, Mv.mSl, Mv.fI, Mv.fAdd, Mv.fSub, Mv.fMul, Mv.fMod, Mv.fDiv, Mv.fPow, Mv.fLt, Mv.fLe, Mv.fGt, Mv.fGe, Mv.yes2, Mv.fIsN, Mv.fNotN, Mv.isNon, Mv.fIx, Mv.items_tup, Mv.items_new, Mv.list_new, Mv.lstOf_new, Mv.fEq_int, Mv.fNe_int, Mv.fLen_tup, Mv.fMax2, Mv.fMin2, Mv.fInt, Mv.fAbs, Mv.mIsi, Mv.isT, Mv.gN, Mv.gT, Mv.setAll, Mv.wipeM, Mv.R.bind_ok, Mv.R.bind_bad, Mv.R.noX_ok, Mv.R.andS_ok, Mv.R.andS_bad, Mv.S.andS_nx, Mv.S.andS_rt, Mv.S.andS_bad, Mv.S.andS_bk, Mv.S.andS_ct, List.map_cons, List.map_nil, List.cons_append, List.nil_append, List.append_nil, List.replicate_succ, List.replicate_zero, List.length_cons, List.length_nil, List.set_cons_zero, List.set_cons_succ, List.getElem?_cons_zero, List.getElem?_cons_succ, List.getElem?_nil, Nat.reduceAdd, Nat.reduceSub, Nat.reduceEqDiff, Nat.reduceLeDiff, Nat.zero_add, if_true, if_false, Bool.not_true, Bool.not_false, Bool.false_eq_true, decide_true, decide_false, ite_true, ite_false, Option.some.injEq, reduceIte, d2, d1]
    by_cases hr : 0 < (c - 10 ^ (18 : Int).toNat) / 1009 ^ n
    · have hr' : decide (0 < (c - 10 ^ (18 : Int).toNat) / 1009 ^ n) = true := decide_eq_true hr
      simp only [Mv.mDef, Mv.mSeq, Mv.mSet, Mv.mRet, Mv.mRetN, Mv.mIfS, Mv.mVar, Mv.mC, Mv.mBin, Mv.mChain, Mv.mCall, Mv.mDo, Mv.mCons, Mv.mNil, Mv.mAndV, Mv.mOrV, Mv.mNotV, Mv.mAsB, Mv.mAndT, Mv.mOrT, Mv.mNotT, Mv.mIf, Mv.mTup, Mv.mLst, Mv.mNext, Mv.mBad, Mv.mDrop, Mv.mPar, Mv.mAsg, Mv.mStore, Mv.mNeg, Mv.fNeg, Mv.mYes, Mv.mNoP, Mv.mPart, Mv.mSl, Mv.fI, Mv.fAdd, Mv.fSub, Mv.fMul, Mv.fMod, Mv.fDiv, Mv.fPow, Mv.fLt, Mv.fLe, Mv.fGt, Mv.fGe, Mv.yes2, Mv.fIsN, Mv.fNotN, Mv.isNon, Mv.fIx, Mv.items_tup, Mv.items_new, Mv.list_new, Mv.lstOf_new, Mv.fEq_int, Mv.fNe_int, Mv.fLen_tup, Mv.fMax2, Mv.fMin2, Mv.fInt, Mv.fAbs, Mv.mIsi, Mv.isT, Mv.gN, Mv.gT, Mv.setAll, Mv.wipeM, Mv.R.bind_ok, Mv.R.bind_bad, Mv.R.noX_ok, Mv.R.andS_ok, Mv.R.andS_bad, Mv.S.andS_nx, Mv.S.andS_rt, Mv.S.andS_bad, Mv.S.andS_bk, Mv.S.andS_ct, List.map_cons, List.map_nil, List.cons_append, List.nil_append, List.append_nil, List.replicate_succ, List.replicate_zero, List.length_cons, List.length_nil, List.set_cons_zero, List.set_cons_succ, List.getElem?_cons_zero, List.getElem?_cons_succ, List.getElem?_nil, Nat.reduceAdd, Nat.reduceSub, Nat.reduceEqDiff, Nat.reduceLeDiff, Nat.zero_add, if_true, if_false, Bool.not_true, Bool.not_false, Bool.false_eq_true, decide_true, decide_false, ite_true, ite_false, Option.some.injEq, reduceIte, hr', d3, hb]
      exact ⟨_, rfl, Int.emod_nonneg _ (by omega), Int.emod_lt_of_pos _ hb⟩
    · have hr' : decide (0 < (c - 10 ^ (18 : Int).toNat) / 1009 ^ n) = false := decide_eq_false hr
      simp only [Mv.mDef, Mv.mSeq, Mv.mSet, Mv.mRet, Mv.mRetN, Mv.mIfS, Mv.mVar, Mv.mC, Mv.mBin, Mv.mChain, Mv.mCall, Mv.mDo, Mv.mCons, Mv.mNil, Mv.mAndV, Mv.mOrV, Mv.mNotV, Mv.mAsB, Mv.mAndT, Mv.mOrT, Mv.mNotT, Mv.mIf, Mv.mTup, Mv.mLst, Mv.mNext, Mv.mBad, Mv.mDrop, Mv.mPar, Mv.mAsg, Mv.mStore, Mv.mNeg, Mv.fNeg, Mv.mYes, Mv.mNoP, Mv.mPart, Mv.mSl, Mv.fI, Mv.fAdd, Mv.fSub, Mv.fMul, Mv.fMod, Mv.fDiv, Mv.fPow, Mv.fLt, Mv.fLe, Mv.fGt, Mv.fGe, Mv.yes2, Mv.fIsN, Mv.fNotN, Mv.isNon, Mv.fIx, Mv.items_tup, Mv.items_new, Mv.list_new, Mv.lstOf_new, Mv.fEq_int, Mv.fNe_int, Mv.fLen_tup, Mv.fMax2, Mv.fMin2, Mv.fInt, Mv.fAbs, Mv.mIsi, Mv.isT, Mv.gN, Mv.gT, Mv.setAll, Mv.wipeM, Mv.R.bind_ok, Mv.R.bind_bad, Mv.R.noX_ok, Mv.R.andS_ok, Mv.R.andS_bad, Mv.S.andS_nx, Mv.S.andS_rt, Mv.S.andS_bad, Mv.S.andS_bk, Mv.S.andS_ct, List.map_cons, List.map_nil, List.cons_append, List.nil_append, List.append_nil, List.replicate_succ, List.replicate_zero, List.length_cons, List.length_nil, List.set_cons_zero, List.set_cons_succ, List.getElem?_cons_zero, List.getElem?_cons_succ, List.getElem?_nil, Nat.reduceAdd, Nat.reduceSub, Nat.reduceEqDiff, Nat.reduceLeDiff, Nat.zero_add, if_true, if_false, Bool.not_true, Bool.not_false, Bool.false_eq_true, decide_true, decide_false, ite_true, ite_false, Option.some.injEq, reduceIte, hr', d4]
      have m0 : 0 ≤ c % 1000003 := Int.emod_nonneg _ (by decide)
      have m1 : c % 1000003 < 1000003 := Int.emod_lt_of_pos _ (by decide)
      generalize c % 1000003 = w at m0 m1
      have c1 : CMulB 977 k = true := cmul_ok (a := 20) (b := 20) (by decide) (by omega) (by decide) (by decide) (by decide)
      have c2 : CMulB 31 k = true := cmul_ok (a := 20) (b := 20) (by decide) (by omega) (by decide) (by decide) (by decide)
      have c3 : CMulB (w + 977 * k) (w + 31 * k + 5) = true := cmul_ok (a := 30) (b := 30) (by omega) (by omega) (by decide) (by decide) (by decide)
      have u0 : 0 ≤ (w + 977 * k) * (w + 31 * k + 5) := Int.mul_nonneg (by omega) (by omega)
      have u1 : (w + 977 * k) * (w + 31 * k + 5) < 10 ^ 14 := by
        have : (w + 977 * k) * (w + 31 * k + 5) ≤ 2000000 * 2000000 := Int.mul_le_mul (by omega) (by omega) (by omega) (by omega)
        omega
      obtain ⟨z, ez, z0, z1⟩ := F_l_draw_eq (c := (w + 977 * k) * (w + 31 * k + 5)) (k := k % 9 + 1) (b := 999983) u0 u1 (by omega) (by omega) (by decide) h'
      simp only [Mv.mDef, Mv.mSeq, Mv.mSet, Mv.mRet, Mv.mRetN, Mv.mIfS, Mv.mVar, Mv.mC, Mv.mBin, Mv.mChain, Mv.mCall, Mv.mDo, Mv.mCons, Mv.mNil, Mv.mAndV, Mv.mOrV, Mv.mNotV, Mv.mAsB, Mv.mAndT, Mv.mOrT, Mv.mNotT, Mv.mIf, Mv.mTup, Mv.mLst, Mv.mNext, Mv.mBad, Mv.mDrop, Mv.mPar, Mv.mAsg, Mv.mStore, Mv.mNeg, Mv.fNeg, Mv.mYes, Mv.mNoP, Mv.mPart, Mv.mSl, Mv.fI, Mv.fAdd, Mv.fSub, Mv.fMul, Mv.fMod, Mv.fDiv, Mv.fPow, Mv.fLt, Mv.fLe, Mv.fGt, Mv.fGe, Mv.yes2, Mv.fIsN, Mv.fNotN, Mv.isNon, Mv.fIx, Mv.items_tup, Mv.items_new, Mv.list_new, Mv.lstOf_new, Mv.fEq_int, Mv.fNe_int, Mv.fLen_tup, Mv.fMax2, Mv.fMin2, Mv.fInt, Mv.fAbs, Mv.mIsi, Mv.isT, Mv.gN, Mv.gT, Mv.setAll, Mv.wipeM, Mv.R.bind_ok, Mv.R.bind_bad, Mv.R.noX_ok, Mv.R.andS_ok, Mv.R.andS_bad, Mv.S.andS_nx, Mv.S.andS_rt, Mv.S.andS_bad, Mv.S.andS_bk, Mv.S.andS_ct, List.map_cons, List.map_nil, List.cons_append, List.nil_append, List.append_nil, List.replicate_succ, List.replicate_zero, List.length_cons, List.length_nil, List.set_cons_zero, List.set_cons_succ, List.getElem?_cons_zero, List.getElem?_cons_succ, List.getElem?_nil, Nat.reduceAdd, Nat.reduceSub, Nat.reduceEqDiff, Nat.reduceLeDiff, Nat.zero_add, if_true, if_false, Bool.not_true, Bool.not_false, Bool.false_eq_true, decide_true, decide_false, ite_true, ite_false, Option.some.injEq, reduceIte, c1, c2, c3, d5, ez, hb]
      exact ⟨_, rfl, Int.emod_nonneg _ (by omega), Int.emod_lt_of_pos _ hb⟩
  · rintro i x env h' hx ⟨rfl, x4, rfl⟩
    have hi : i < 24 := by
      have := (List.getElem?_eq_some_iff.mp hx).1
      rw [ints_length, prog_length] at this
      omega
    obtain ⟨y, _, rfl⟩ := mem_ints.mp (List.mem_of_getElem? hx)
    have c1 : CMulB (1009 ^ i) 1009 = true := by
      have : ∀ n : Fin 24, CMulB ((1009 : Int) ^ n.val) 1009 = true := by decide
      exact this ⟨i, hi⟩
    refine ⟨_, rfl, ?_⟩
    simp only [Mv.mDef, Mv.mSeq, Mv.mSet, Mv.mRet, Mv.mRetN, Mv.mIfS, Mv.mVar, Mv.mC, Mv.mBin, Mv.mChain, Mv.mCall, Mv.mDo, Mv.mCons, Mv.mNil, Mv.mAndV, Mv.mOrV, Mv.mNotV, Mv.mAsB, Mv.mAndT, Mv.mOrT, Mv.mNotT, Mv.mIf, Mv.mTup, Mv.mLst, Mv.mNext, Mv.mBad, Mv.mDrop, Mv.mPar, Mv.mAsg, Mv.mStore, Mv.mNeg, Mv.fNeg, Mv.mYes, Mv.mNoP, Mv.mPart, Mv.mSl, Mv.fI, Mv.fAdd, Mv.fSub, Mv.fMul, Mv.fMod, Mv.fDiv, Mv.fPow, Mv.fLt, Mv.fLe, Mv.fGt, Mv.fGe, Mv.yes2, Mv.fIsN, Mv.fNotN, Mv.isNon, Mv.fIx, Mv.items_tup, Mv.items_new, Mv.list_new, Mv.lstOf_new, Mv.fEq_int, Mv.fNe_int, Mv.fLen_tup, Mv.fMax2, Mv.fMin2, Mv.fInt, Mv.fAbs, Mv.mIsi, Mv.isT, Mv.gN, Mv.gT, Mv.setAll, Mv.wipeM, Mv.R.bind_ok, Mv.R.bind_bad, Mv.R.noX_ok, Mv.R.andS_ok, Mv.R.andS_bad, Mv.S.andS_nx, Mv.S.andS_rt, Mv.S.andS_bad, Mv.S.andS_bk, Mv.S.andS_ct, List.map_cons, List.map_nil, List.cons_append, List.nil_append, List.append_nil, List.replicate_succ, List.replicate_zero, List.length_cons, List.length_nil, List.set_cons_zero, List.set_cons_succ, List.getElem?_cons_zero, List.getElem?_cons_succ, List.getElem?_nil, Nat.reduceAdd, Nat.reduceSub, Nat.reduceEqDiff, Nat.reduceLeDiff, Nat.zero_add, if_true, if_false, Bool.not_true, Bool.not_false, Bool.false_eq_true, decide_true, decide_false, ite_true, ite_false, Option.some.injEq, reduceIte, c1]
    exact ⟨trivial, _, by rw [Int.pow_succ]⟩
  · exact ⟨rfl, _, rfl⟩
/-- a script in the heap -/
def HasScript (h : MH) (s : Nat) (ns : List Int) : Prop := h[s]? = some (.lst (ivs ns)) ∨ h[s]? = some (.frz (ivs ns))
theorem HasScript.items {h : MH} {s : Nat} {ns : List Int} (q : HasScript h s ns) : itemsOf h (.ref s) = some (ivs ns) := by
  rcases q with e | e
  · exact items_at e
  · exact items_atf e
theorem F_l_cell_at_eq {h : MH} {s : Nat} {ns : List Int} (q : HasScript h s ns) {k : Int} (hk : 0 ≤ k) : ∃ z, F_l_cell_at [.ref s, .int k] h = .ok (.int z) h := by
  unfold F_l_cell_at m_l_cell_at
  simp only [Mv.mDef, Mv.mSeq, Mv.mSet, Mv.mRet, Mv.mRetN, Mv.mIfS, Mv.mVar, Mv.mC, Mv.mBin, Mv.mChain, Mv.mCall, Mv.mDo, Mv.mCons, Mv.mNil, Mv.mAndV, Mv.mOrV, Mv.mNotV, Mv.mAsB, Mv.mAndT, Mv.mOrT, Mv.mNotT, Mv.mIf, Mv.mTup, Mv.mLst, Mv.mNext, Mv.mBad, Mv.mDrop, Mv.mPar, Mv.mAsg, Mv.mStore, Mv.mNeg, Mv.fNeg, Mv.mYes, Mv.mNoP, Mv.mPart, Mv.mSl, Mv.fI, Mv.fAdd, Mv.fSub, Mv.fMul, Mv.fMod, Mv.fDiv, Mv.fPow, Mv.fLt, Mv.fLe, Mv.fGt, Mv.fGe, Mv.yes2, Mv.fIsN, Mv.fNotN, Mv.isNon, Mv.fIx, Mv.items_tup, Mv.items_new, Mv.list_new, Mv.lstOf_new, Mv.fEq_int, Mv.fNe_int, Mv.fLen_tup, Mv.fMax2, Mv.fMin2, Mv.fInt, Mv.fAbs, Mv.mIsi, Mv.isT, Mv.gN, Mv.gT, Mv.setAll, Mv.wipeM, Mv.R.bind_ok, Mv.R.bind_bad, Mv.R.noX_ok, Mv.R.andS_ok, Mv.R.andS_bad, Mv.S.andS_nx, Mv.S.andS_rt, Mv.S.andS_bad, Mv.S.andS_bk, Mv.S.andS_ct, List.map_cons, List.map_nil, List.cons_append, List.nil_append, List.append_nil, List.replicate_succ, List.replicate_zero, List.length_cons, List.length_nil, List.set_cons_zero, List.set_cons_succ, List.getElem?_cons_zero, List.getElem?_cons_succ, List.getElem?_nil, Nat.reduceAdd, Nat.reduceSub, Nat.reduceEqDiff, Nat.reduceLeDiff, Nat.zero_add, if_true, if_false, Bool.not_true, Bool.not_false, Bool.false_eq_true, decide_true, decide_false, ite_true, ite_false, Option.some.injEq, reduceIte, fLen_items q.items, ints_length]
  by_cases hl : k < (ns.length : Int)
  · have hl' : decide (k < (ns.length : Int)) = true := decide_eq_true hl
    have e0 : k = ((k.toNat : Nat) : Int) := by omega
    have e1 : atI (ivs ns) k = some (.int ns[k.toNat]) := by
      conv => lhs; rw [e0]
      refine at_nat ?_
      unfold ivs
      rw [List.getElem?_map, List.getElem?_eq_getElem (by omega)]
      rfl
    simp only [Mv.mDef, Mv.mSeq, Mv.mSet, Mv.mRet, Mv.mRetN, Mv.mIfS, Mv.mVar, Mv.mC, Mv.mBin, Mv.mChain, Mv.mCall, Mv.mDo, Mv.mCons, Mv.mNil, Mv.mAndV, Mv.mOrV, Mv.mNotV, Mv.mAsB, Mv.mAndT, Mv.mOrT, Mv.mNotT, Mv.mIf, Mv.mTup, Mv.mLst, Mv.mNext, Mv.mBad, Mv.mDrop, Mv.mPar, Mv.mAsg, Mv.mStore, Mv.mNeg, Mv.fNeg, Mv.mYes, Mv.mNoP, Mv.mPart, Mv.mSl, Mv.fI, Mv.fAdd, Mv.fSub, Mv.fMul, Mv.fMod, Mv.fDiv, Mv.fPow, Mv.fLt, Mv.fLe, Mv.fGt, Mv.fGe, Mv.yes2, Mv.fIsN, Mv.fNotN, Mv.isNon, Mv.fIx, Mv.items_tup, Mv.items_new, Mv.list_new, Mv.lstOf_new, Mv.fEq_int, Mv.fNe_int, Mv.fLen_tup, Mv.fMax2, Mv.fMin2, Mv.fInt, Mv.fAbs, Mv.mIsi, Mv.isT, Mv.gN, Mv.gT, Mv.setAll, Mv.wipeM, Mv.R.bind_ok, Mv.R.bind_bad, Mv.R.noX_ok, Mv.R.andS_ok, Mv.R.andS_bad, Mv.S.andS_nx, Mv.S.andS_rt, Mv.S.andS_bad, Mv.S.andS_bk, Mv.S.andS_ct, List.map_cons, List.map_nil, List.cons_append, List.nil_append, List.append_nil, List.replicate_succ, List.replicate_zero, List.length_cons, List.length_nil, List.set_cons_zero, List.set_cons_succ, List.getElem?_cons_zero, List.getElem?_cons_succ, List.getElem?_nil, Nat.reduceAdd, Nat.reduceSub, Nat.reduceEqDiff, Nat.reduceLeDiff, Nat.zero_add, if_true, if_false, Bool.not_true, Bool.not_false, Bool.false_eq_true, decide_true, decide_false, ite_true, ite_false, Option.some.injEq, reduceIte, hl', q.items, e1]
    exact ⟨_, rfl⟩
  · have hl' : decide (k < (ns.length : Int)) = false := decide_eq_false hl
    simp only [Mv.mDef, Mv.mSeq, Mv.mSet, Mv.mRet, Mv.mRetN, Mv.mIfS, Mv.mVar, Mv.mC, Mv.mBin, Mv.mChain, Mv.mCall, Mv.mDo, Mv.mCons, Mv.mNil, Mv.mAndV, Mv.mOrV, Mv.mNotV, Mv.mAsB, Mv.mAndT, Mv.mOrT, Mv.mNotT, Mv.mIf, Mv.mTup, Mv.mLst, Mv.mNext, Mv.mBad, Mv.mDrop, Mv.mPar, Mv.mAsg, Mv.mStore, Mv.mNeg, Mv.fNeg, Mv.mYes, Mv.mNoP, Mv.mPart, Mv.mSl, Mv.fI, Mv.fAdd, Mv.fSub, Mv.fMul, Mv.fMod, Mv.fDiv, Mv.fPow, Mv.fLt, Mv.fLe, Mv.fGt, Mv.fGe, Mv.yes2, Mv.fIsN, Mv.fNotN, Mv.isNon, Mv.fIx, Mv.items_tup, Mv.items_new, Mv.list_new, Mv.lstOf_new, Mv.fEq_int, Mv.fNe_int, Mv.fLen_tup, Mv.fMax2, Mv.fMin2, Mv.fInt, Mv.fAbs, Mv.mIsi, Mv.isT, Mv.gN, Mv.gT, Mv.setAll, Mv.wipeM, Mv.R.bind_ok, Mv.R.bind_bad, Mv.R.noX_ok, Mv.R.andS_ok, Mv.R.andS_bad, Mv.S.andS_nx, Mv.S.andS_rt, Mv.S.andS_bad, Mv.S.andS_bk, Mv.S.andS_ct, List.map_cons, List.map_nil, List.cons_append, List.nil_append, List.append_nil, List.replicate_succ, List.replicate_zero, List.length_cons, List.length_nil, List.set_cons_zero, List.set_cons_succ, List.getElem?_cons_zero, List.getElem?_cons_succ, List.getElem?_nil, Nat.reduceAdd, Nat.reduceSub, Nat.reduceEqDiff, Nat.reduceLeDiff, Nat.zero_add, if_true, if_false, Bool.not_true, Bool.not_false, Bool.false_eq_true, decide_true, decide_false, ite_true, ite_false, Option.some.injEq, reduceIte, hl']
    exact ⟨_, rfl⟩
/-- what is drawn from -/
def drawO (s : Nat) (b k : Int) : MO := .lst [.ref s, .int b, .int k]
theorem F_l_next_eq {h : MH} {s n : Nat} {ns : List Int} {by' k : Int} (q : HasScript h s ns) (e : h[n]? = some (drawO s by' k)) (hs : s ≠ n) (h0 : 0 ≤ by') (h1 : 0 ≤ k) (h2 : k ≤ 100000) {b : Int} (hb : 0 < b) :
    ∃ z, F_l_next F_l_cell_at (F_l_number F_l_draw) [.ref n, .int b] h = .ok (.int z) (h.set n (drawO s by' (k + 1))) ∧ 0 ≤ z ∧ z < b := by
  unfold F_l_next m_l_next
  have hn := (List.getElem?_eq_some_iff.mp e).1
  have e2 : (h.set n (drawO s by' (k + 1)))[n]? = some (drawO s by' (k + 1)) := by simp [hn]
  have q2 : HasScript (h.set n (drawO s by' (k + 1))) s ns := by
    unfold HasScript at q ⊢
    rw [List.getElem?_set_ne (fun z => hs z.symm)]
    exact q
  have i0 : itemsOf h (.ref n) = some [.ref s, .int by', .int k] := items_at e
  have l0 : lstOf h n = some [.ref s, .int by', .int k] := lstOf_at e
  have i1 : itemsOf (h.set n (drawO s by' (k + 1))) (.ref n) = some [.ref s, .int by', .int (k + 1)] := items_at e2
  have x0 : ∀ a b c : MV, atI [a, b, c] 0 = some a := fun _ _ _ => rfl
  have x1 : ∀ a b c : MV, atI [a, b, c] 1 = some b := fun _ _ _ => rfl
  have x2 : ∀ a b c : MV, atI [a, b, c] 2 = some c := fun _ _ _ => rfl
  have y2 : ixN 3 2 = some 2 := rfl
  have st : (h.set n (.lst [.ref s, .int by', .int (k + 1)])) = h.set n (drawO s by' (k + 1)) := rfl
  have d1 : CDivB (k + 1) 12 = true := decide_eq_true ⟨by decide, by decide⟩
  have d2 : (0 : Int) < 12 := by decide
  have d3 : CMulB 31 ((k + 1) / 12) = true := cmul_ok (a := 20) (b := 20) (by decide) (by omega) (by decide) (by decide) (by decide)
  simp only [Mv.mDef, Mv.mSeq, Mv.mSet, Mv.mRet, Mv.mRetN, Mv.mIfS, Mv.mVar, Mv.mC, Mv.mBin, Mv.mChain, Mv.mCall, Mv.mDo, Mv.mCons, Mv.mNil, Mv.mAndV, Mv.mOrV, Mv.mNotV, Mv.mAsB, Mv.mAndT, Mv.mOrT, Mv.mNotT, Mv.mIf, Mv.mTup, Mv.mLst, Mv.mNext, Mv.mBad, Mv.mDrop, Mv.mPar, Mv.mAsg, Mv.mStore, Mv.mNeg, Mv.fNeg, Mv.mYes, Mv.mNoP, Mv.mPart, Mv.mSl, Mv.fI, Mv.fAdd, Mv.fSub, Mv.fMul, Mv.fMod, Mv.fDiv, Mv.fPow, Mv.fLt, Mv.fLe, Mv.fGt, Mv.fGe, Mv.yes2, Mv.fIsN, Mv.fNotN, Mv.isNon, Mv.fIx, Mv.items_tup, Mv.items_new, Mv.list_new, Mv.lstOf_new, Mv.fEq_int, Mv.fNe_int, Mv.fLen_tup, Mv.fMax2, Mv.fMin2, Mv.fInt, Mv.fAbs, Mv.mIsi, Mv.isT, Mv.gN, Mv.gT, Mv.setAll, Mv.wipeM, Mv.R.bind_ok, Mv.R.bind_bad, Mv.R.noX_ok, Mv.R.andS_ok, Mv.R.andS_bad, Mv.S.andS_nx, Mv.S.andS_rt, Mv.S.andS_bad, Mv.S.andS_bk, Mv.S.andS_ct, List.map_cons, List.map_nil, List.cons_append, List.nil_append, List.append_nil, List.replicate_succ, List.replicate_zero, List.length_cons, List.length_nil, List.set_cons_zero, List.set_cons_succ, List.getElem?_cons_zero, List.getElem?_cons_succ, List.getElem?_nil, Nat.reduceAdd, Nat.reduceSub, Nat.reduceEqDiff, Nat.reduceLeDiff, Nat.zero_add, if_true, if_false, Bool.not_true, Bool.not_false, Bool.false_eq_true, decide_true, decide_false, ite_true, ite_false, Option.some.injEq, reduceIte, i0, l0, x0, x1, x2, y2, st, i1, d1]
  obtain ⟨z, ez⟩ := F_l_cell_at_eq q2 (k := by' + (k + 1) / 12) (by omega)
  simp only [Mv.mDef, Mv.mSeq, Mv.mSet, Mv.mRet, Mv.mRetN, Mv.mIfS, Mv.mVar, Mv.mC, Mv.mBin, Mv.mChain, Mv.mCall, Mv.mDo, Mv.mCons, Mv.mNil, Mv.mAndV, Mv.mOrV, Mv.mNotV, Mv.mAsB, Mv.mAndT, Mv.mOrT, Mv.mNotT, Mv.mIf, Mv.mTup, Mv.mLst, Mv.mNext, Mv.mBad, Mv.mDrop, Mv.mPar, Mv.mAsg, Mv.mStore, Mv.mNeg, Mv.fNeg, Mv.mYes, Mv.mNoP, Mv.mPart, Mv.mSl, Mv.fI, Mv.fAdd, Mv.fSub, Mv.fMul, Mv.fMod, Mv.fDiv, Mv.fPow, Mv.fLt, Mv.fLe, Mv.fGt, Mv.fGe, Mv.yes2, Mv.fIsN, Mv.fNotN, Mv.isNon, Mv.fIx, Mv.items_tup, Mv.items_new, Mv.list_new, Mv.lstOf_new, Mv.fEq_int, Mv.fNe_int, Mv.fLen_tup, Mv.fMax2, Mv.fMin2, Mv.fInt, Mv.fAbs, Mv.mIsi, Mv.isT, Mv.gN, Mv.gT, Mv.setAll, Mv.wipeM, Mv.R.bind_ok, Mv.R.bind_bad, Mv.R.noX_ok, Mv.R.andS_ok, Mv.R.andS_bad, Mv.S.andS_nx, Mv.S.andS_rt, Mv.S.andS_bad, Mv.S.andS_bk, Mv.S.andS_ct, List.map_cons, List.map_nil, List.cons_append, List.nil_append, List.append_nil, List.replicate_succ, List.replicate_zero, List.length_cons, List.length_nil, List.set_cons_zero, List.set_cons_succ, List.getElem?_cons_zero, List.getElem?_cons_succ, List.getElem?_nil, Nat.reduceAdd, Nat.reduceSub, Nat.reduceEqDiff, Nat.reduceLeDiff, Nat.zero_add, if_true, if_false, Bool.not_true, Bool.not_false, Bool.false_eq_true, decide_true, decide_false, ite_true, ite_false, Option.some.injEq, reduceIte, ez, d3, i1, x2, d2]
  obtain ⟨w, ew, w0, w1⟩ := F_l_number_eq (c := z + 31 * ((k + 1) / 12)) (k := (k + 1) % 12 + 1) (b := b) (by omega) (by omega) hb (h.set n (drawO s by' (k + 1)))
  simp only [Mv.mDef, Mv.mSeq, Mv.mSet, Mv.mRet, Mv.mRetN, Mv.mIfS, Mv.mVar, Mv.mC, Mv.mBin, Mv.mChain, Mv.mCall, Mv.mDo, Mv.mCons, Mv.mNil, Mv.mAndV, Mv.mOrV, Mv.mNotV, Mv.mAsB, Mv.mAndT, Mv.mOrT, Mv.mNotT, Mv.mIf, Mv.mTup, Mv.mLst, Mv.mNext, Mv.mBad, Mv.mDrop, Mv.mPar, Mv.mAsg, Mv.mStore, Mv.mNeg, Mv.fNeg, Mv.mYes, Mv.mNoP, Mv.mPart, Mv.mSl, Mv.fI, Mv.fAdd, Mv.fSub, Mv.fMul, Mv.fMod, Mv.fDiv, Mv.fPow, Mv.fLt, Mv.fLe, Mv.fGt, Mv.fGe, Mv.yes2, Mv.fIsN, Mv.fNotN, Mv.isNon, Mv.fIx, Mv.items_tup, Mv.items_new, Mv.list_new, Mv.lstOf_new, Mv.fEq_int, Mv.fNe_int, Mv.fLen_tup, Mv.fMax2, Mv.fMin2, Mv.fInt, Mv.fAbs, Mv.mIsi, Mv.isT, Mv.gN, Mv.gT, Mv.setAll, Mv.wipeM, Mv.R.bind_ok, Mv.R.bind_bad, Mv.R.noX_ok, Mv.R.andS_ok, Mv.R.andS_bad, Mv.S.andS_nx, Mv.S.andS_rt, Mv.S.andS_bad, Mv.S.andS_bk, Mv.S.andS_ct, List.map_cons, List.map_nil, List.cons_append, List.nil_append, List.append_nil, List.replicate_succ, List.replicate_zero, List.length_cons, List.length_nil, List.set_cons_zero, List.set_cons_succ, List.getElem?_cons_zero, List.getElem?_cons_succ, List.getElem?_nil, Nat.reduceAdd, Nat.reduceSub, Nat.reduceEqDiff, Nat.reduceLeDiff, Nat.zero_add, if_true, if_false, Bool.not_true, Bool.not_false, Bool.false_eq_true, decide_true, decide_false, ite_true, ite_false, Option.some.injEq, reduceIte, ew]
  exact ⟨_, rfl, w0, w1⟩


/-! ### heaps that go on, but for one list -/
def Ext (n : Nat) (h h' : MH) : Prop := h.length ≤ h'.length ∧ ∀ m, m < h.length → m ≠ n → h'[m]? = h[m]?
theorem Ext.refl {n : Nat} {h : MH} : Ext n h h := ⟨Nat.le_refl _, fun _ _ _ => rfl⟩
theorem Ext.trans {n : Nat} {h h' h'' : MH} (e : Ext n h h') (f : Ext n h' h'') : Ext n h h'' := ⟨Nat.le_trans e.1 f.1, fun m hm hn => (f.2 m (Nat.lt_of_lt_of_le hm e.1) hn).trans (e.2 m hm hn)⟩
theorem Ext.app {n : Nat} {h h' g : MH} (e : Ext n h h') : Ext n h (h' ++ g) := ⟨by rw [List.length_append]; exact Nat.le_trans e.1 (Nat.le_add_right _ _), fun m hm hn => by
  rw [List.getElem?_append_left (Nat.lt_of_lt_of_le hm e.1)]
  exact e.2 m hm hn⟩
theorem Ext.set {n : Nat} {h h' : MH} {o : MO} (e : Ext n h h') : Ext n h (h'.set n o) := ⟨by rw [List.length_set]; exact e.1, fun m hm hn => by
  rw [List.getElem?_set_ne (fun z => hn z.symm)]
  exact e.2 m hm hn⟩
theorem Ext.set' {n p : Nat} {h h' : MH} {o : MO} (e : Ext n h h') (hp : h.length ≤ p) : Ext n h (h'.set p o) := ⟨by rw [List.length_set]; exact e.1, fun m hm hn => by
  rw [List.getElem?_set_ne (by omega)]
  exact e.2 m hm hn⟩
theorem Ext.look {n m : Nat} {h h' : MH} {o : MO} (e : Ext n h h') (q : h[m]? = some o) (hn : m ≠ n) : h'[m]? = some o := (e.2 m (List.getElem?_eq_some_iff.mp q).1 hn).trans q
theorem Ext.script {n m : Nat} {h h' : MH} {ns : List Int} (e : Ext n h h') (q : HasScript h m ns) (hn : m ≠ n) : HasScript h' m ns := q.elim (fun q => .inl (e.look q hn)) fun q => .inr (e.look q hn)
/-- the list n draws: it has drawn k times -/
structure Draw (ns : List Int) (s n : Nat) (h : MH) (k : Nat) : Prop where
  scr : HasScript h s ns
  ne : s ≠ n
  at' : ∃ b : Nat, h[n]? = some (drawO s b k)
theorem Draw.lt {ns : List Int} {s n k : Nat} {h : MH} (d : Draw ns s n h k) : n < h.length := by
  obtain ⟨b, e⟩ := d.at'
  exact (List.getElem?_eq_some_iff.mp e).1
theorem HasScript.app {h g : MH} {s : Nat} {ns : List Int} (q : HasScript h s ns) : HasScript (h ++ g) s ns := q.elim (fun q => .inl (look_app q)) fun q => .inr (look_app q)
theorem Draw.app {ns : List Int} {s n k : Nat} {h g : MH} (d : Draw ns s n h k) : Draw ns s n (h ++ g) k := ⟨d.scr.app, d.ne, d.at'.imp fun _ e => look_app e⟩
theorem HasScript.lt {h : MH} {s : Nat} {ns : List Int} (q : HasScript h s ns) : s < h.length := q.elim (fun q => (List.getElem?_eq_some_iff.mp q).1) fun q => (List.getElem?_eq_some_iff.mp q).1
theorem Draw.set {ns : List Int} {s n k p : Nat} {h : MH} {o : MO} (d : Draw ns s n h k) (hs : s ≠ p) (hn : n ≠ p) : Draw ns s n (h.set p o) k := ⟨d.scr.elim (fun q => .inl (by rw [List.getElem?_set_ne (fun z => hs z.symm)]; exact q)) fun q => .inr (by rw [List.getElem?_set_ne (fun z => hs z.symm)]; exact q), d.ne, d.at'.imp fun _ e => by rw [List.getElem?_set_ne (fun z => hn z.symm)]; exact e⟩
noncomputable def G_l_next : List MV → MH → R MV := F_l_next F_l_cell_at (F_l_number F_l_draw)
/-- one number is drawn -/
theorem next_step {ns : List Int} {s n k : Nat} {h : MH} (d : Draw ns s n h k) (hk : k ≤ 100000) {b : Int} (hb : 0 < b) : ∃ z o, G_l_next [.ref n, .int b] h = .ok (.int z) (h.set n o) ∧ 0 ≤ z ∧ z < b ∧ Draw ns s n (h.set n o) (k + 1) := by
  obtain ⟨b', e⟩ := d.at'
  obtain ⟨z, ez, z0, z1⟩ := F_l_next_eq d.scr e d.ne (by omega) (by omega) (by omega) hb
  refine ⟨z, _, ez, z0, z1, ?_, d.ne, b', ?_⟩
  · exact d.scr.elim (fun q => .inl (by rw [List.getElem?_set_ne (fun z => d.ne z.symm)]; exact q)) fun q => .inr (by rw [List.getElem?_set_ne (fun z => d.ne z.symm)]; exact q)
  · rw [List.getElem?_set_self d.lt]
    rfl

/-! ### a rule is drawn -/
theorem F_l_rule_eq {ns : List Int} {s n k : Nat} {h : MH} (d : Draw ns s n h k) (hk : k ≤ 50000) {most : Int} (m0 : 0 ≤ most) (m1 : most ≤ 12) :
    ∃ r h' k', F_l_rule G_l_next [.ref n, .int most] h = .ok (rv r) h' ∧ Valid r ∧ Ext n h h' ∧ Draw ns s n h' k' ∧ k' ≤ k + 20 := by
  unfold F_l_rule m_l_rule
  have hsl := d.scr.lt
  have hnl := d.lt
  have d0 : Draw ns s n (h ++ [.lst []]) k := d.app
  obtain ⟨z, o, e1, z0, z1, d1⟩ := next_step d0 (by omega) (b := 3) (by decide)
  have hb : inR (1 + z) = true := inR_of (by omega)
  simp only [Mv.mDef, Mv.mSeq, Mv.mSet, Mv.mRet, Mv.mRetN, Mv.mIfS, Mv.mVar, Mv.mC, Mv.mBin, Mv.mChain, Mv.mCall, Mv.mDo, Mv.mCons, Mv.mNil, Mv.mAndV, Mv.mOrV, Mv.mNotV, Mv.mAsB, Mv.mAndT, Mv.mOrT, Mv.mNotT, Mv.mIf, Mv.mTup, Mv.mLst, Mv.mNext, Mv.mBad, Mv.mDrop, Mv.mPar, Mv.mAsg, Mv.mStore, Mv.mNeg, Mv.fNeg, Mv.mYes, Mv.mNoP, Mv.mPart, Mv.mSl, Mv.fI, Mv.fAdd, Mv.fSub, Mv.fMul, Mv.fMod, Mv.fDiv, Mv.fPow, Mv.fLt, Mv.fLe, Mv.fGt, Mv.fGe, Mv.yes2, Mv.fIsN, Mv.fNotN, Mv.isNon, Mv.fIx, Mv.items_tup, Mv.items_new, Mv.list_new, Mv.lstOf_new, Mv.fEq_int, Mv.fNe_int, Mv.fLen_tup, Mv.fMax2, Mv.fMin2, Mv.fInt, Mv.fAbs, Mv.mIsi, Mv.isT, Mv.gN, Mv.gT, Mv.setAll, Mv.wipeM, Mv.R.bind_ok, Mv.R.bind_bad, Mv.R.noX_ok, Mv.R.andS_ok, Mv.R.andS_bad, Mv.S.andS_nx, Mv.S.andS_rt, Mv.S.andS_bad, Mv.S.andS_bk, Mv.S.andS_ct, List.map_cons, List.map_nil, List.cons_append, List.nil_append, List.append_nil, List.replicate_succ, List.replicate_zero, List.length_cons, List.length_nil, List.set_cons_zero, List.set_cons_succ, List.getElem?_cons_zero, List.getElem?_cons_succ, List.getElem?_nil, Nat.reduceAdd, Nat.reduceSub, Nat.reduceEqDiff, Nat.reduceLeDiff, Nat.zero_add, if_true, if_false, Bool.not_true, Bool.not_false, Bool.false_eq_true, decide_true, decide_false, ite_true, ite_false, Option.some.injEq, reduceIte, Nat.zero_le, mFor, mRng1, e1, hb]
  generalize hF : forGo _ _ _ _ _ _ _ = t
  revert hF
  refine for_ind (xs := ivs (prog 0 1 (1 + z).toNat)) (P := fun u => u = t → _)
    (fun i env h' => ∃ (r : Rule) (k' : Nat) (x3 : Option MV), h'[h.length]? = some (.lst (r.map pv2)) ∧ r.length = i ∧ (∀ p ∈ r, 1 ≤ p.1 ∧ p.1 ≤ 6 ∧ 0 ≤ p.2 ∧ p.2 ≤ 12) ∧ Ext n h h' ∧ Draw ns s n h' k' ∧ k' = k + 1 + 2 * i ∧ env = [some (.ref n), some (.int most), some (.ref h.length), x3])
    ?_ ?_ ?_ fuel 0 _ _ ?_ (Nat.zero_le _) (by have := fuel_ge; simp only [ints_length, prog_length]; omega)
  · rintro i env h' _
    exact itR_nx _ _ _ i h'
  · rintro env h' ⟨r, k', x3, e, hr, hv, ex, dr, hk', rfl⟩ rfl
    rw [ints_length, prog_length] at hr hk'
    have d2 : CDivB most 2 = true := decide_eq_true ⟨by decide, by decide⟩
    obtain ⟨y, o2, e2, y0, y1, dr2⟩ := next_step dr (by omega) (b := 2) (by decide)
    have hpn : h.length ≠ n := by omega
    have e3 : (h'.set n o2)[h.length]? = some (.lst (r.map pv2)) := by rw [List.getElem?_set_ne (by omega)]; exact e
    simp only [Mv.mDef, Mv.mSeq, Mv.mSet, Mv.mRet, Mv.mRetN, Mv.mIfS, Mv.mVar, Mv.mC, Mv.mBin, Mv.mChain, Mv.mCall, Mv.mDo, Mv.mCons, Mv.mNil, Mv.mAndV, Mv.mOrV, Mv.mNotV, Mv.mAsB, Mv.mAndT, Mv.mOrT, Mv.mNotT, Mv.mIf, Mv.mTup, Mv.mLst, Mv.mNext, Mv.mBad, Mv.mDrop, Mv.mPar, Mv.mAsg, Mv.mStore, Mv.mNeg, Mv.fNeg, Mv.mYes, Mv.mNoP, Mv.mPart, Mv.mSl, Mv.fI, Mv.fAdd, Mv.fSub, Mv.fMul, Mv.fMod, Mv.fDiv, Mv.fPow, Mv.fLt, Mv.fLe, Mv.fGt, Mv.fGe, Mv.yes2, Mv.fIsN, Mv.fNotN, Mv.isNon, Mv.fIx, Mv.items_tup, Mv.items_new, Mv.list_new, Mv.lstOf_new, Mv.fEq_int, Mv.fNe_int, Mv.fLen_tup, Mv.fMax2, Mv.fMin2, Mv.fInt, Mv.fAbs, Mv.mIsi, Mv.isT, Mv.gN, Mv.gT, Mv.setAll, Mv.wipeM, Mv.R.bind_ok, Mv.R.bind_bad, Mv.R.noX_ok, Mv.R.andS_ok, Mv.R.andS_bad, Mv.S.andS_nx, Mv.S.andS_rt, Mv.S.andS_bad, Mv.S.andS_bk, Mv.S.andS_ct, List.map_cons, List.map_nil, List.cons_append, List.nil_append, List.append_nil, List.replicate_succ, List.replicate_zero, List.length_cons, List.length_nil, List.set_cons_zero, List.set_cons_succ, List.getElem?_cons_zero, List.getElem?_cons_succ, List.getElem?_nil, Nat.reduceAdd, Nat.reduceSub, Nat.reduceEqDiff, Nat.reduceLeDiff, Nat.zero_add, if_true, if_false, Bool.not_true, Bool.not_false, Bool.false_eq_true, decide_true, decide_false, ite_true, ite_false, Option.some.injEq, reduceIte, e2]
    by_cases hy : y = 0
    · have hy' : decide (y = 0) = true := decide_eq_true hy
      obtain ⟨x, o3, e4, x0, x1, dr3⟩ := next_step dr2 (by omega) (b := 1 + most / 2) (by omega)
      have e5 : ((h'.set n o2).set n o3)[h.length]? = some (.lst (r.map pv2)) := by rw [List.getElem?_set_ne (by omega)]; exact e3
      cases r with
      | nil => simp at hr; omega
      | cons q r =>
        have ix : ixN (List.map pv2 (q :: r)).length 0 = some 0 := by simp [ixN]
        have hc2 : ∀ m, m ≤ 2 → m ≤ cap := fun m hm => by unfold cap; omega
        simp only [Mv.mDef, Mv.mSeq, Mv.mSet, Mv.mRet, Mv.mRetN, Mv.mIfS, Mv.mVar, Mv.mC, Mv.mBin, Mv.mChain, Mv.mCall, Mv.mDo, Mv.mCons, Mv.mNil, Mv.mAndV, Mv.mOrV, Mv.mNotV, Mv.mAsB, Mv.mAndT, Mv.mOrT, Mv.mNotT, Mv.mIf, Mv.mTup, Mv.mLst, Mv.mNext, Mv.mBad, Mv.mDrop, Mv.mPar, Mv.mAsg, Mv.mStore, Mv.mNeg, Mv.fNeg, Mv.mYes, Mv.mNoP, Mv.mPart, Mv.mSl, Mv.fI, Mv.fAdd, Mv.fSub, Mv.fMul, Mv.fMod, Mv.fDiv, Mv.fPow, Mv.fLt, Mv.fLe, Mv.fGt, Mv.fGe, Mv.yes2, Mv.fIsN, Mv.fNotN, Mv.isNon, Mv.fIx, Mv.items_tup, Mv.items_new, Mv.list_new, Mv.lstOf_new, Mv.fEq_int, Mv.fNe_int, Mv.fLen_tup, Mv.fMax2, Mv.fMin2, Mv.fInt, Mv.fAbs, Mv.mIsi, Mv.isT, Mv.gN, Mv.gT, Mv.setAll, Mv.wipeM, Mv.R.bind_ok, Mv.R.bind_bad, Mv.R.noX_ok, Mv.R.andS_ok, Mv.R.andS_bad, Mv.S.andS_nx, Mv.S.andS_rt, Mv.S.andS_bad, Mv.S.andS_bk, Mv.S.andS_ct, List.map_cons, List.map_nil, List.cons_append, List.nil_append, List.append_nil, List.replicate_succ, List.replicate_zero, List.length_cons, List.length_nil, List.set_cons_zero, List.set_cons_succ, List.getElem?_cons_zero, List.getElem?_cons_succ, List.getElem?_nil, Nat.reduceAdd, Nat.reduceSub, Nat.reduceEqDiff, Nat.reduceLeDiff, Nat.zero_add, if_true, if_false, Bool.not_true, Bool.not_false, Bool.false_eq_true, decide_true, decide_false, ite_true, ite_false, Option.some.injEq, reduceIte, hy', d2, e4, lstOf_at e5, hc2 _ (Nat.le_refl 2)]
        have ix2 : ixN ((List.map pv2 r).length + 1) 0 = some 0 := by simp [ixN]
        simp only [Mv.mDef, Mv.mSeq, Mv.mSet, Mv.mRet, Mv.mRetN, Mv.mIfS, Mv.mVar, Mv.mC, Mv.mBin, Mv.mChain, Mv.mCall, Mv.mDo, Mv.mCons, Mv.mNil, Mv.mAndV, Mv.mOrV, Mv.mNotV, Mv.mAsB, Mv.mAndT, Mv.mOrT, Mv.mNotT, Mv.mIf, Mv.mTup, Mv.mLst, Mv.mNext, Mv.mBad, Mv.mDrop, Mv.mPar, Mv.mAsg, Mv.mStore, Mv.mNeg, Mv.fNeg, Mv.mYes, Mv.mNoP, Mv.mPart, Mv.mSl, Mv.fI, Mv.fAdd, Mv.fSub, Mv.fMul, Mv.fMod, Mv.fDiv, Mv.fPow, Mv.fLt, Mv.fLe, Mv.fGt, Mv.fGe, Mv.yes2, Mv.fIsN, Mv.fNotN, Mv.isNon, Mv.fIx, Mv.items_tup, Mv.items_new, Mv.list_new, Mv.lstOf_new, Mv.fEq_int, Mv.fNe_int, Mv.fLen_tup, Mv.fMax2, Mv.fMin2, Mv.fInt, Mv.fAbs, Mv.mIsi, Mv.isT, Mv.gN, Mv.gT, Mv.setAll, Mv.wipeM, Mv.R.bind_ok, Mv.R.bind_bad, Mv.R.noX_ok, Mv.R.andS_ok, Mv.R.andS_bad, Mv.S.andS_nx, Mv.S.andS_rt, Mv.S.andS_bad, Mv.S.andS_bk, Mv.S.andS_ct, List.map_cons, List.map_nil, List.cons_append, List.nil_append, List.append_nil, List.replicate_succ, List.replicate_zero, List.length_cons, List.length_nil, List.set_cons_zero, List.set_cons_succ, List.getElem?_cons_zero, List.getElem?_cons_succ, List.getElem?_nil, Nat.reduceAdd, Nat.reduceSub, Nat.reduceEqDiff, Nat.reduceLeDiff, Nat.zero_add, if_true, if_false, Bool.not_true, Bool.not_false, Bool.false_eq_true, decide_true, decide_false, ite_true, ite_false, Option.some.injEq, reduceIte, ix2]
        have hlen : h.length < ((h'.set n o2).set n o3).length := (List.getElem?_eq_some_iff.mp e5).1
        have e6 : (((h'.set n o2).set n o3).set h.length (MO.lst (MV.tup [.int 1, .int x] :: List.map pv2 r)))[h.length]? = some (.lst (MV.tup [.int 1, .int x] :: List.map pv2 r)) := by rw [List.getElem?_set_self hlen]
        simp only [Mv.mDef, Mv.mSeq, Mv.mSet, Mv.mRet, Mv.mRetN, Mv.mIfS, Mv.mVar, Mv.mC, Mv.mBin, Mv.mChain, Mv.mCall, Mv.mDo, Mv.mCons, Mv.mNil, Mv.mAndV, Mv.mOrV, Mv.mNotV, Mv.mAsB, Mv.mAndT, Mv.mOrT, Mv.mNotT, Mv.mIf, Mv.mTup, Mv.mLst, Mv.mNext, Mv.mBad, Mv.mDrop, Mv.mPar, Mv.mAsg, Mv.mStore, Mv.mNeg, Mv.fNeg, Mv.mYes, Mv.mNoP, Mv.mPart, Mv.mSl, Mv.fI, Mv.fAdd, Mv.fSub, Mv.fMul, Mv.fMod, Mv.fDiv, Mv.fPow, Mv.fLt, Mv.fLe, Mv.fGt, Mv.fGe, Mv.yes2, Mv.fIsN, Mv.fNotN, Mv.isNon, Mv.fIx, Mv.items_tup, Mv.items_new, Mv.list_new, Mv.lstOf_new, Mv.fEq_int, Mv.fNe_int, Mv.fLen_tup, Mv.fMax2, Mv.fMin2, Mv.fInt, Mv.fAbs, Mv.mIsi, Mv.isT, Mv.gN, Mv.gT, Mv.setAll, Mv.wipeM, Mv.R.bind_ok, Mv.R.bind_bad, Mv.R.noX_ok, Mv.R.andS_ok, Mv.R.andS_bad, Mv.S.andS_nx, Mv.S.andS_rt, Mv.S.andS_bad, Mv.S.andS_bk, Mv.S.andS_ct, List.map_cons, List.map_nil, List.cons_append, List.nil_append, List.append_nil, List.replicate_succ, List.replicate_zero, List.length_cons, List.length_nil, List.set_cons_zero, List.set_cons_succ, List.getElem?_cons_zero, List.getElem?_cons_succ, List.getElem?_nil, Nat.reduceAdd, Nat.reduceSub, Nat.reduceEqDiff, Nat.reduceLeDiff, Nat.zero_add, if_true, if_false, Bool.not_true, Bool.not_false, Bool.false_eq_true, decide_true, decide_false, ite_true, ite_false, Option.some.injEq, reduceIte, fTuple_at (items_at e6)]
        refine ⟨(1, x) :: r, _, _, rfl, ⟨by simp, by simp at hr ⊢; omega, fun p hp => ?_⟩, ((ex.set).set).set' (Nat.le_refl _), dr3.set (by omega) (by omega), by omega⟩
        rcases List.mem_cons.mp hp with rfl | hp
        · simp only; omega
        · exact hv p (List.mem_cons_of_mem _ hp)
    · have hy' : decide (y = 0) = false := decide_eq_false hy
      simp only [Mv.mDef, Mv.mSeq, Mv.mSet, Mv.mRet, Mv.mRetN, Mv.mIfS, Mv.mVar, Mv.mC, Mv.mBin, Mv.mChain, Mv.mCall, Mv.mDo, Mv.mCons, Mv.mNil, Mv.mAndV, Mv.mOrV, Mv.mNotV, Mv.mAsB, Mv.mAndT, Mv.mOrT, Mv.mNotT, Mv.mIf, Mv.mTup, Mv.mLst, Mv.mNext, Mv.mBad, Mv.mDrop, Mv.mPar, Mv.mAsg, Mv.mStore, Mv.mNeg, Mv.fNeg, Mv.mYes, Mv.mNoP, Mv.mPart, Mv.mSl, Mv.fI, Mv.fAdd, Mv.fSub, Mv.fMul, Mv.fMod, Mv.fDiv, Mv.fPow, Mv.fLt, Mv.fLe, Mv.fGt, Mv.fGe, Mv.yes2, Mv.fIsN, Mv.fNotN, Mv.isNon, Mv.fIx, Mv.items_tup, Mv.items_new, Mv.list_new, Mv.lstOf_new, Mv.fEq_int, Mv.fNe_int, Mv.fLen_tup, Mv.fMax2, Mv.fMin2, Mv.fInt, Mv.fAbs, Mv.mIsi, Mv.isT, Mv.gN, Mv.gT, Mv.setAll, Mv.wipeM, Mv.R.bind_ok, Mv.R.bind_bad, Mv.R.noX_ok, Mv.R.andS_ok, Mv.R.andS_bad, Mv.S.andS_nx, Mv.S.andS_rt, Mv.S.andS_bad, Mv.S.andS_bk, Mv.S.andS_ct, List.map_cons, List.map_nil, List.cons_append, List.nil_append, List.append_nil, List.replicate_succ, List.replicate_zero, List.length_cons, List.length_nil, List.set_cons_zero, List.set_cons_succ, List.getElem?_cons_zero, List.getElem?_cons_succ, List.getElem?_nil, Nat.reduceAdd, Nat.reduceSub, Nat.reduceEqDiff, Nat.reduceLeDiff, Nat.zero_add, if_true, if_false, Bool.not_true, Bool.not_false, Bool.false_eq_true, decide_true, decide_false, ite_true, ite_false, Option.some.injEq, reduceIte, hy', fTuple_at (items_at e3)]
      exact ⟨r, _, _, rfl, ⟨by omega, by omega, hv⟩, ex.set, dr2, by omega⟩
  · rintro i x env h' hx ⟨r, k', x3, e, hr, hv, ex, dr, hk', rfl⟩
    have hi : i < (1 + z).toNat := by
      have := (List.getElem?_eq_some_iff.mp hx).1
      rwa [ints_length, prog_length] at this
    obtain ⟨y, _, rfl⟩ := mem_ints.mp (List.mem_of_getElem? hx)
    obtain ⟨a, o2, e2, a0, a1, dr2⟩ := next_step dr (by omega) (b := 6) (by decide)
    obtain ⟨c, o3, e4, c0, c1, dr3⟩ := next_step dr2 (by omega) (b := most + 1) (by omega)
    have e5 : ((h'.set n o2).set n o3)[h.length]? = some (.lst (r.map pv2)) := by rw [List.getElem?_set_ne (by omega), List.getElem?_set_ne (by omega)]; exact e
    have hc2 : ∀ m, m ≤ 2 → m ≤ cap := fun m hm => by unfold cap; omega
    have hlc : (r.map pv2).length < cap := by rw [List.length_map]; unfold cap; omega
    have hlen : h.length < ((h'.set n o2).set n o3).length := (List.getElem?_eq_some_iff.mp e5).1
    refine ⟨_, rfl, ?_⟩
    simp only [Mv.mDef, Mv.mSeq, Mv.mSet, Mv.mRet, Mv.mRetN, Mv.mIfS, Mv.mVar, Mv.mC, Mv.mBin, Mv.mChain, Mv.mCall, Mv.mDo, Mv.mCons, Mv.mNil, Mv.mAndV, Mv.mOrV, Mv.mNotV, Mv.mAsB, Mv.mAndT, Mv.mOrT, Mv.mNotT, Mv.mIf, Mv.mTup, Mv.mLst, Mv.mNext, Mv.mBad, Mv.mDrop, Mv.mPar, Mv.mAsg, Mv.mStore, Mv.mNeg, Mv.fNeg, Mv.mYes, Mv.mNoP, Mv.mPart, Mv.mSl, Mv.fI, Mv.fAdd, Mv.fSub, Mv.fMul, Mv.fMod, Mv.fDiv, Mv.fPow, Mv.fLt, Mv.fLe, Mv.fGt, Mv.fGe, Mv.yes2, Mv.fIsN, Mv.fNotN, Mv.isNon, Mv.fIx, Mv.items_tup, Mv.items_new, Mv.list_new, Mv.lstOf_new, Mv.fEq_int, Mv.fNe_int, Mv.fLen_tup, Mv.fMax2, Mv.fMin2, Mv.fInt, Mv.fAbs, Mv.mIsi, Mv.isT, Mv.gN, Mv.gT, Mv.setAll, Mv.wipeM, Mv.R.bind_ok, Mv.R.bind_bad, Mv.R.noX_ok, Mv.R.andS_ok, Mv.R.andS_bad, Mv.S.andS_nx, Mv.S.andS_rt, Mv.S.andS_bad, Mv.S.andS_bk, Mv.S.andS_ct, List.map_cons, List.map_nil, List.cons_append, List.nil_append, List.append_nil, List.replicate_succ, List.replicate_zero, List.length_cons, List.length_nil, List.set_cons_zero, List.set_cons_succ, List.getElem?_cons_zero, List.getElem?_cons_succ, List.getElem?_nil, Nat.reduceAdd, Nat.reduceSub, Nat.reduceEqDiff, Nat.reduceLeDiff, Nat.zero_add, if_true, if_false, Bool.not_true, Bool.not_false, Bool.false_eq_true, decide_true, decide_false, ite_true, ite_false, Option.some.injEq, reduceIte, mLm, list_ref, items_at e, e2, e4, hc2 _ (Nat.le_refl 2), fAppend, lstOf_at e5, hlc]
    refine ⟨r ++ [(1 + a, c)], _, _, ?_, by simp [hr], fun p hp => ?_, ((ex.set).set).set' (Nat.le_refl _), dr3.set (by omega) (by omega), by omega, rfl⟩
    · rw [List.getElem?_set_self hlen]
      simp [pv2]
    · rcases List.mem_append.mp hp with hp | hp
      · exact hv p hp
      · have := List.mem_singleton.mp hp
        subst this
        simp only
        omega
  · refine ⟨[], k + 1, none, ?_, rfl, (fun p hp => by cases hp), (Ext.refl.app).set, d1, rfl, rfl⟩
    rw [List.getElem?_set_ne (by omega)]
    exact look_new _ _

end Mv

set_option maxHeartbeats 4000000
namespace Mv
open PySem PySem.Spec L2

theorem ins_new (h : MH) (c : Nat) (vs : List MV) : insOf (h ++ [.ins c vs]) (.ref h.length) = some (c, vs) := by
  unfold insOf
  simp
theorem set_new (h : MH) (o o' : MO) : (h ++ [o]).set h.length o' = h ++ [o'] := by simp
theorem ins_at {h : MH} {n c : Nat} {vs : List MV} (e : h[n]? = some (.ins c vs)) : insOf h (.ref n) = some (c, vs) := by
  unfold insOf
  simp only [e]
structure Plan where
  far : Int
  least : Int
  p : Int
  q : Int
  many : Int
structure Plan.Ok (P : Plan) : Prop where
  f0 : 0 ≤ P.far
  f6 : P.far ≤ 6
  b0 : 0 ≤ P.least
  b3 : P.least ≤ 3
  p0 : 0 ≤ P.p
  p4 : P.p ≤ 4
  q1 : 1 ≤ P.q
  q4 : P.q ≤ 4
  hor : P.far + P.least + P.far * P.p / P.q ≤ 9
  m1 : 1 ≤ P.many
  m2 : P.many ≤ 2
def promO (P : Plan) : MO := .ins 0 [.int P.far, .int P.least, .tup [.int P.p, .int P.q], .int P.many]
def HasP (h : MH) (n : Nat) (P : Plan) : Prop := h[n]? = some (promO P)
theorem HasP.ins {h : MH} {n : Nat} {P : Plan} (e : HasP h n P) : insOf h (.ref n) = some (0, [.int P.far, .int P.least, .tup [.int P.p, .int P.q], .int P.many]) := ins_at e
theorem HasP.app {h g : MH} {n : Nat} {P : Plan} (e : HasP h n P) : HasP (h ++ g) n P := look_app e
theorem HasP.uniq {h : MH} {n : Nat} {P Q : Plan} (e : HasP h n P) (f : HasP h n Q) : P = Q := by
  unfold HasP promO at e f
  rw [e] at f
  obtain ⟨a, b, c, d, e⟩ := P
  obtain ⟨a', b', c', d', e'⟩ := Q
  simp only [Option.some.injEq, MO.ins.injEq, List.cons.injEq, MV.int.injEq, MV.tup.injEq, and_true, true_and] at f
  obtain ⟨rfl, rfl, ⟨rfl, rfl⟩, rfl⟩ := f
  rfl
def slack (P : Plan) (a : Int) : Int := P.least + a * P.p / P.q
def horizon (P : Plan) : Int := P.far + slack P P.far
theorem mul_small {a b : Int} (ha : -1000 ≤ a ∧ a ≤ 1000) (hb : -1000 ≤ b ∧ b ≤ 1000) : CMulB a b = true := cmul_ok (a := 10) (b := 10) (by omega) (by omega) (by decide) (by decide) (by decide)
theorem div_small {a b : Int} (hb : 0 < b ∧ b ≤ 1000) : CDivB a b = true := decide_eq_true ⟨hb.1, by
  have := log2_lt (a := 10) (by decide) (show b.natAbs < 2 ^ 10 by omega)
  omega⟩
theorem Plan.Ok.hor9 {P : Plan} (k : P.Ok) : horizon P ≤ 9 := by
  have := k.hor
  unfold horizon slack
  omega
theorem Plan.Ok.hor0 {P : Plan} (k : P.Ok) : 0 ≤ horizon P := by
  have h1 : 0 ≤ P.far * P.p / P.q := Int.ediv_nonneg (Int.mul_nonneg k.f0 k.p0) (by have := k.q1; omega)
  have := k.f0; have := k.b0
  unfold horizon slack
  omega
theorem F_slack_at_eq {h : MH} {n : Nat} {P : Plan} (e : HasP h n P) (k : P.Ok) {a : Int} (h0 : 0 ≤ a) (h1 : a ≤ 100) : F_slack_at [.ref n, .int a] h = .ok (.int (slack P a)) h := by
  unfold F_slack_at m_slack_at
  have c1 : CMulB a P.p = true := by have := k.p0; have := k.p4; exact mul_small (by omega) (by omega)
  have c2 : CDivB (a * P.p) P.q = true := by have := k.q1; have := k.q4; exact div_small (by omega)
  have e2 : atI [MV.int P.p, MV.int P.q] 1 = some (.int P.q) := rfl
  simp only [Mv.mDef, Mv.mSeq, Mv.mSet, Mv.mRet, Mv.mRetN, Mv.mIfS, Mv.mVar, Mv.mC, Mv.mBin, Mv.mChain, Mv.mCall, Mv.mDo, Mv.mCons, Mv.mNil, Mv.mAndV, Mv.mOrV, Mv.mNotV, Mv.mAsB, Mv.mAndT, Mv.mOrT, Mv.mNotT, Mv.mIf, Mv.mTup, Mv.mLst, Mv.mNext, Mv.mBad, Mv.mDrop, Mv.mPar, Mv.mAsg, Mv.mStore, Mv.mNeg, Mv.fNeg, Mv.mYes, Mv.mNoP, Mv.mPart, Mv.mSl, Mv.fI, Mv.fAdd, Mv.fSub, Mv.fMul, Mv.fMod, Mv.fDiv, Mv.fPow, Mv.fLt, Mv.fLe, Mv.fGt, Mv.fGe, Mv.yes2, Mv.fIsN, Mv.fNotN, Mv.isNon, Mv.fIx, Mv.items_tup, Mv.items_new, Mv.list_new, Mv.lstOf_new, Mv.fEq_int, Mv.fNe_int, Mv.fLen_tup, Mv.fMax2, Mv.fMin2, Mv.fInt, Mv.fAbs, Mv.mIsi, Mv.isT, Mv.gN, Mv.gT, Mv.setAll, Mv.wipeM, Mv.R.bind_ok, Mv.R.bind_bad, Mv.R.noX_ok, Mv.R.andS_ok, Mv.R.andS_bad, Mv.S.andS_nx, Mv.S.andS_rt, Mv.S.andS_bad, Mv.S.andS_bk, Mv.S.andS_ct, List.map_cons, List.map_nil, List.cons_append, List.nil_append, List.append_nil, List.replicate_succ, List.replicate_zero, List.length_cons, List.length_nil, List.set_cons_zero, List.set_cons_succ, List.getElem?_cons_zero, List.getElem?_cons_succ, List.getElem?_nil, Nat.reduceAdd, Nat.reduceSub, Nat.reduceEqDiff, Nat.reduceLeDiff, Nat.zero_add, if_true, if_false, Bool.not_true, Bool.not_false, Bool.false_eq_true, decide_true, decide_false, ite_true, ite_false, Option.some.injEq, reduceIte, Mv.mFld, Mv.mIsC, Mv.mMeth, Mv.mMake, Mv.mMakeK, Mv.mEqB, Mv.boolR, Mv.mRev, List.lookup_cons, List.lookup_nil, Nat.reduceBEq, beq_self_eq_true, Mv.ins_new, Mv.set_new, e.ins, at_zero, e2, c1, c2]
  rfl
theorem F_horizon_of_eq {h : MH} {n : Nat} {P : Plan} (e : HasP h n P) (k : P.Ok) : F_horizon_of F_slack_at [.ref n] h = .ok (.int (horizon P)) h := by
  unfold F_horizon_of m_horizon_of
  simp only [Mv.mDef, Mv.mSeq, Mv.mSet, Mv.mRet, Mv.mRetN, Mv.mIfS, Mv.mVar, Mv.mC, Mv.mBin, Mv.mChain, Mv.mCall, Mv.mDo, Mv.mCons, Mv.mNil, Mv.mAndV, Mv.mOrV, Mv.mNotV, Mv.mAsB, Mv.mAndT, Mv.mOrT, Mv.mNotT, Mv.mIf, Mv.mTup, Mv.mLst, Mv.mNext, Mv.mBad, Mv.mDrop, Mv.mPar, Mv.mAsg, Mv.mStore, Mv.mNeg, Mv.fNeg, Mv.mYes, Mv.mNoP, Mv.mPart, Mv.mSl, Mv.fI, Mv.fAdd, Mv.fSub, Mv.fMul, Mv.fMod, Mv.fDiv, Mv.fPow, Mv.fLt, Mv.fLe, Mv.fGt, Mv.fGe, Mv.yes2, Mv.fIsN, Mv.fNotN, Mv.isNon, Mv.fIx, Mv.items_tup, Mv.items_new, Mv.list_new, Mv.lstOf_new, Mv.fEq_int, Mv.fNe_int, Mv.fLen_tup, Mv.fMax2, Mv.fMin2, Mv.fInt, Mv.fAbs, Mv.mIsi, Mv.isT, Mv.gN, Mv.gT, Mv.setAll, Mv.wipeM, Mv.R.bind_ok, Mv.R.bind_bad, Mv.R.noX_ok, Mv.R.andS_ok, Mv.R.andS_bad, Mv.S.andS_nx, Mv.S.andS_rt, Mv.S.andS_bad, Mv.S.andS_bk, Mv.S.andS_ct, List.map_cons, List.map_nil, List.cons_append, List.nil_append, List.append_nil, List.replicate_succ, List.replicate_zero, List.length_cons, List.length_nil, List.set_cons_zero, List.set_cons_succ, List.getElem?_cons_zero, List.getElem?_cons_succ, List.getElem?_nil, Nat.reduceAdd, Nat.reduceSub, Nat.reduceEqDiff, Nat.reduceLeDiff, Nat.zero_add, if_true, if_false, Bool.not_true, Bool.not_false, Bool.false_eq_true, decide_true, decide_false, ite_true, ite_false, Option.some.injEq, reduceIte, Mv.mFld, Mv.mIsC, Mv.mMeth, Mv.mMake, Mv.mMakeK, Mv.mEqB, Mv.boolR, Mv.mRev, List.lookup_cons, List.lookup_nil, Nat.reduceBEq, beq_self_eq_true, Mv.ins_new, Mv.set_new, e.ins, F_slack_at_eq e k k.f0 (by have := k.f6; omega)]
  rfl
theorem F_check_promise_eq {h : MH} {n : Nat} {P : Plan} (e : HasP h n P) : F_check_promise [.ref n] h = .ok .non h := by
  unfold F_check_promise m_check_promise
  simp only [Mv.mDef, Mv.mSeq, Mv.mSet, Mv.mRet, Mv.mRetN, Mv.mIfS, Mv.mVar, Mv.mC, Mv.mBin, Mv.mChain, Mv.mCall, Mv.mDo, Mv.mCons, Mv.mNil, Mv.mAndV, Mv.mOrV, Mv.mNotV, Mv.mAsB, Mv.mAndT, Mv.mOrT, Mv.mNotT, Mv.mIf, Mv.mTup, Mv.mLst, Mv.mNext, Mv.mBad, Mv.mDrop, Mv.mPar, Mv.mAsg, Mv.mStore, Mv.mNeg, Mv.fNeg, Mv.mYes, Mv.mNoP, Mv.mPart, Mv.mSl, Mv.fI, Mv.fAdd, Mv.fSub, Mv.fMul, Mv.fMod, Mv.fDiv, Mv.fPow, Mv.fLt, Mv.fLe, Mv.fGt, Mv.fGe, Mv.yes2, Mv.fIsN, Mv.fNotN, Mv.isNon, Mv.fIx, Mv.items_tup, Mv.items_new, Mv.list_new, Mv.lstOf_new, Mv.fEq_int, Mv.fNe_int, Mv.fLen_tup, Mv.fMax2, Mv.fMin2, Mv.fInt, Mv.fAbs, Mv.mIsi, Mv.isT, Mv.gN, Mv.gT, Mv.setAll, Mv.wipeM, Mv.R.bind_ok, Mv.R.bind_bad, Mv.R.noX_ok, Mv.R.andS_ok, Mv.R.andS_bad, Mv.S.andS_nx, Mv.S.andS_rt, Mv.S.andS_bad, Mv.S.andS_bk, Mv.S.andS_ct, List.map_cons, List.map_nil, List.cons_append, List.nil_append, List.append_nil, List.replicate_succ, List.replicate_zero, List.length_cons, List.length_nil, List.set_cons_zero, List.set_cons_succ, List.getElem?_cons_zero, List.getElem?_cons_succ, List.getElem?_nil, Nat.reduceAdd, Nat.reduceSub, Nat.reduceEqDiff, Nat.reduceLeDiff, Nat.zero_add, if_true, if_false, Bool.not_true, Bool.not_false, Bool.false_eq_true, decide_true, decide_false, ite_true, ite_false, Option.some.injEq, reduceIte, Mv.mFld, Mv.mIsC, Mv.mMeth, Mv.mMake, Mv.mMakeK, Mv.mEqB, Mv.boolR, Mv.mRev, List.lookup_cons, List.lookup_nil, Nat.reduceBEq, beq_self_eq_true, Mv.ins_new, Mv.set_new, e.ins]
theorem F_Promise_reach_eq {h : MH} {n : Nat} {P : Plan} (e : HasP h n P) : F_Promise_reach [.ref n] h = .ok (.int P.far) h := by
  unfold F_Promise_reach m_Promise_reach
  simp only [Mv.mDef, Mv.mSeq, Mv.mSet, Mv.mRet, Mv.mRetN, Mv.mIfS, Mv.mVar, Mv.mC, Mv.mBin, Mv.mChain, Mv.mCall, Mv.mDo, Mv.mCons, Mv.mNil, Mv.mAndV, Mv.mOrV, Mv.mNotV, Mv.mAsB, Mv.mAndT, Mv.mOrT, Mv.mNotT, Mv.mIf, Mv.mTup, Mv.mLst, Mv.mNext, Mv.mBad, Mv.mDrop, Mv.mPar, Mv.mAsg, Mv.mStore, Mv.mNeg, Mv.fNeg, Mv.mYes, Mv.mNoP, Mv.mPart, Mv.mSl, Mv.fI, Mv.fAdd, Mv.fSub, Mv.fMul, Mv.fMod, Mv.fDiv, Mv.fPow, Mv.fLt, Mv.fLe, Mv.fGt, Mv.fGe, Mv.yes2, Mv.fIsN, Mv.fNotN, Mv.isNon, Mv.fIx, Mv.items_tup, Mv.items_new, Mv.list_new, Mv.lstOf_new, Mv.fEq_int, Mv.fNe_int, Mv.fLen_tup, Mv.fMax2, Mv.fMin2, Mv.fInt, Mv.fAbs, Mv.mIsi, Mv.isT, Mv.gN, Mv.gT, Mv.setAll, Mv.wipeM, Mv.R.bind_ok, Mv.R.bind_bad, Mv.R.noX_ok, Mv.R.andS_ok, Mv.R.andS_bad, Mv.S.andS_nx, Mv.S.andS_rt, Mv.S.andS_bad, Mv.S.andS_bk, Mv.S.andS_ct, List.map_cons, List.map_nil, List.cons_append, List.nil_append, List.append_nil, List.replicate_succ, List.replicate_zero, List.length_cons, List.length_nil, List.set_cons_zero, List.set_cons_succ, List.getElem?_cons_zero, List.getElem?_cons_succ, List.getElem?_nil, Nat.reduceAdd, Nat.reduceSub, Nat.reduceEqDiff, Nat.reduceLeDiff, Nat.zero_add, if_true, if_false, Bool.not_true, Bool.not_false, Bool.false_eq_true, decide_true, decide_false, ite_true, ite_false, Option.some.injEq, reduceIte, Mv.mFld, Mv.mIsC, Mv.mMeth, Mv.mMake, Mv.mMakeK, Mv.mEqB, Mv.boolR, Mv.mRev, List.lookup_cons, List.lookup_nil, Nat.reduceBEq, beq_self_eq_true, Mv.ins_new, Mv.set_new, e.ins]
theorem F_Promise_base_eq {h : MH} {n : Nat} {P : Plan} (e : HasP h n P) : F_Promise_base [.ref n] h = .ok (.int P.least) h := by
  unfold F_Promise_base m_Promise_base
  simp only [Mv.mDef, Mv.mSeq, Mv.mSet, Mv.mRet, Mv.mRetN, Mv.mIfS, Mv.mVar, Mv.mC, Mv.mBin, Mv.mChain, Mv.mCall, Mv.mDo, Mv.mCons, Mv.mNil, Mv.mAndV, Mv.mOrV, Mv.mNotV, Mv.mAsB, Mv.mAndT, Mv.mOrT, Mv.mNotT, Mv.mIf, Mv.mTup, Mv.mLst, Mv.mNext, Mv.mBad, Mv.mDrop, Mv.mPar, Mv.mAsg, Mv.mStore, Mv.mNeg, Mv.fNeg, Mv.mYes, Mv.mNoP, Mv.mPart, Mv.mSl, Mv.fI, Mv.fAdd, Mv.fSub, Mv.fMul, Mv.fMod, Mv.fDiv, Mv.fPow, Mv.fLt, Mv.fLe, Mv.fGt, Mv.fGe, Mv.yes2, Mv.fIsN, Mv.fNotN, Mv.isNon, Mv.fIx, Mv.items_tup, Mv.items_new, Mv.list_new, Mv.lstOf_new, Mv.fEq_int, Mv.fNe_int, Mv.fLen_tup, Mv.fMax2, Mv.fMin2, Mv.fInt, Mv.fAbs, Mv.mIsi, Mv.isT, Mv.gN, Mv.gT, Mv.setAll, Mv.wipeM, Mv.R.bind_ok, Mv.R.bind_bad, Mv.R.noX_ok, Mv.R.andS_ok, Mv.R.andS_bad, Mv.S.andS_nx, Mv.S.andS_rt, Mv.S.andS_bad, Mv.S.andS_bk, Mv.S.andS_ct, List.map_cons, List.map_nil, List.cons_append, List.nil_append, List.append_nil, List.replicate_succ, List.replicate_zero, List.length_cons, List.length_nil, List.set_cons_zero, List.set_cons_succ, List.getElem?_cons_zero, List.getElem?_cons_succ, List.getElem?_nil, Nat.reduceAdd, Nat.reduceSub, Nat.reduceEqDiff, Nat.reduceLeDiff, Nat.zero_add, if_true, if_false, Bool.not_true, Bool.not_false, Bool.false_eq_true, decide_true, decide_false, ite_true, ite_false, Option.some.injEq, reduceIte, Mv.mFld, Mv.mIsC, Mv.mMeth, Mv.mMake, Mv.mMakeK, Mv.mEqB, Mv.boolR, Mv.mRev, List.lookup_cons, List.lookup_nil, Nat.reduceBEq, beq_self_eq_true, Mv.ins_new, Mv.set_new, e.ins]
theorem F_Promise_share_eq {h : MH} {n : Nat} {P : Plan} (e : HasP h n P) : F_Promise_share [.ref n] h = .ok (.tup [.int P.p, .int P.q]) h := by
  unfold F_Promise_share m_Promise_share
  simp only [Mv.mDef, Mv.mSeq, Mv.mSet, Mv.mRet, Mv.mRetN, Mv.mIfS, Mv.mVar, Mv.mC, Mv.mBin, Mv.mChain, Mv.mCall, Mv.mDo, Mv.mCons, Mv.mNil, Mv.mAndV, Mv.mOrV, Mv.mNotV, Mv.mAsB, Mv.mAndT, Mv.mOrT, Mv.mNotT, Mv.mIf, Mv.mTup, Mv.mLst, Mv.mNext, Mv.mBad, Mv.mDrop, Mv.mPar, Mv.mAsg, Mv.mStore, Mv.mNeg, Mv.fNeg, Mv.mYes, Mv.mNoP, Mv.mPart, Mv.mSl, Mv.fI, Mv.fAdd, Mv.fSub, Mv.fMul, Mv.fMod, Mv.fDiv, Mv.fPow, Mv.fLt, Mv.fLe, Mv.fGt, Mv.fGe, Mv.yes2, Mv.fIsN, Mv.fNotN, Mv.isNon, Mv.fIx, Mv.items_tup, Mv.items_new, Mv.list_new, Mv.lstOf_new, Mv.fEq_int, Mv.fNe_int, Mv.fLen_tup, Mv.fMax2, Mv.fMin2, Mv.fInt, Mv.fAbs, Mv.mIsi, Mv.isT, Mv.gN, Mv.gT, Mv.setAll, Mv.wipeM, Mv.R.bind_ok, Mv.R.bind_bad, Mv.R.noX_ok, Mv.R.andS_ok, Mv.R.andS_bad, Mv.S.andS_nx, Mv.S.andS_rt, Mv.S.andS_bad, Mv.S.andS_bk, Mv.S.andS_ct, List.map_cons, List.map_nil, List.cons_append, List.nil_append, List.append_nil, List.replicate_succ, List.replicate_zero, List.length_cons, List.length_nil, List.set_cons_zero, List.set_cons_succ, List.getElem?_cons_zero, List.getElem?_cons_succ, List.getElem?_nil, Nat.reduceAdd, Nat.reduceSub, Nat.reduceEqDiff, Nat.reduceLeDiff, Nat.zero_add, if_true, if_false, Bool.not_true, Bool.not_false, Bool.false_eq_true, decide_true, decide_false, ite_true, ite_false, Option.some.injEq, reduceIte, Mv.mFld, Mv.mIsC, Mv.mMeth, Mv.mMake, Mv.mMakeK, Mv.mEqB, Mv.boolR, Mv.mRev, List.lookup_cons, List.lookup_nil, Nat.reduceBEq, beq_self_eq_true, Mv.ins_new, Mv.set_new, e.ins]
theorem F_Promise_copies_eq {h : MH} {n : Nat} {P : Plan} (e : HasP h n P) : F_Promise_copies [.ref n] h = .ok (.int P.many) h := by
  unfold F_Promise_copies m_Promise_copies
  simp only [Mv.mDef, Mv.mSeq, Mv.mSet, Mv.mRet, Mv.mRetN, Mv.mIfS, Mv.mVar, Mv.mC, Mv.mBin, Mv.mChain, Mv.mCall, Mv.mDo, Mv.mCons, Mv.mNil, Mv.mAndV, Mv.mOrV, Mv.mNotV, Mv.mAsB, Mv.mAndT, Mv.mOrT, Mv.mNotT, Mv.mIf, Mv.mTup, Mv.mLst, Mv.mNext, Mv.mBad, Mv.mDrop, Mv.mPar, Mv.mAsg, Mv.mStore, Mv.mNeg, Mv.fNeg, Mv.mYes, Mv.mNoP, Mv.mPart, Mv.mSl, Mv.fI, Mv.fAdd, Mv.fSub, Mv.fMul, Mv.fMod, Mv.fDiv, Mv.fPow, Mv.fLt, Mv.fLe, Mv.fGt, Mv.fGe, Mv.yes2, Mv.fIsN, Mv.fNotN, Mv.isNon, Mv.fIx, Mv.items_tup, Mv.items_new, Mv.list_new, Mv.lstOf_new, Mv.fEq_int, Mv.fNe_int, Mv.fLen_tup, Mv.fMax2, Mv.fMin2, Mv.fInt, Mv.fAbs, Mv.mIsi, Mv.isT, Mv.gN, Mv.gT, Mv.setAll, Mv.wipeM, Mv.R.bind_ok, Mv.R.bind_bad, Mv.R.noX_ok, Mv.R.andS_ok, Mv.R.andS_bad, Mv.S.andS_nx, Mv.S.andS_rt, Mv.S.andS_bad, Mv.S.andS_bk, Mv.S.andS_ct, List.map_cons, List.map_nil, List.cons_append, List.nil_append, List.append_nil, List.replicate_succ, List.replicate_zero, List.length_cons, List.length_nil, List.set_cons_zero, List.set_cons_succ, List.getElem?_cons_zero, List.getElem?_cons_succ, List.getElem?_nil, Nat.reduceAdd, Nat.reduceSub, Nat.reduceEqDiff, Nat.reduceLeDiff, Nat.zero_add, if_true, if_false, Bool.not_true, Bool.not_false, Bool.false_eq_true, decide_true, decide_false, ite_true, ite_false, Option.some.injEq, reduceIte, Mv.mFld, Mv.mIsC, Mv.mMeth, Mv.mMake, Mv.mMakeK, Mv.mEqB, Mv.boolR, Mv.mRev, List.lookup_cons, List.lookup_nil, Nat.reduceBEq, beq_self_eq_true, Mv.ins_new, Mv.set_new, e.ins]
theorem F_is_share_eq {p q : Int} (h0 : 0 ≤ p) (h1 : p ≤ 4) (h2 : 1 ≤ q) (h3 : q ≤ 4) (h : MH) : F_is_share F_is_integer [.tup [.int p, .int q]] h = .ok (.bl true) h := by
  unfold F_is_share m_is_share
  have a1 : decide (0 ≤ p ∧ p ≤ 4) = true := decide_eq_true ⟨h0, h1⟩
  have a2 : decide (1 ≤ q ∧ q ≤ 4) = true := decide_eq_true ⟨h2, h3⟩
  have e1 : ((2 : Nat) : Int) = 2 := rfl
  have e2 : atI [MV.int p, MV.int q] 1 = some (.int q) := rfl
  simp only [Mv.mDef, Mv.mSeq, Mv.mSet, Mv.mRet, Mv.mRetN, Mv.mIfS, Mv.mVar, Mv.mC, Mv.mBin, Mv.mChain, Mv.mCall, Mv.mDo, Mv.mCons, Mv.mNil, Mv.mAndV, Mv.mOrV, Mv.mNotV, Mv.mAsB, Mv.mAndT, Mv.mOrT, Mv.mNotT, Mv.mIf, Mv.mTup, Mv.mLst, Mv.mNext, Mv.mBad, Mv.mDrop, Mv.mPar, Mv.mAsg, Mv.mStore, Mv.mNeg, Mv.fNeg, Mv.mYes, Mv.mNoP, Mv.mPart, Mv.mSl, Mv.fI, Mv.fAdd, Mv.fSub, Mv.fMul, Mv.fMod, Mv.fDiv, Mv.fPow, Mv.fLt, Mv.fLe, Mv.fGt, Mv.fGe, Mv.yes2, Mv.fIsN, Mv.fNotN, Mv.isNon, Mv.fIx, Mv.items_tup, Mv.items_new, Mv.list_new, Mv.lstOf_new, Mv.fEq_int, Mv.fNe_int, Mv.fLen_tup, Mv.fMax2, Mv.fMin2, Mv.fInt, Mv.fAbs, Mv.mIsi, Mv.isT, Mv.gN, Mv.gT, Mv.setAll, Mv.wipeM, Mv.R.bind_ok, Mv.R.bind_bad, Mv.R.noX_ok, Mv.R.andS_ok, Mv.R.andS_bad, Mv.S.andS_nx, Mv.S.andS_rt, Mv.S.andS_bad, Mv.S.andS_bk, Mv.S.andS_ct, List.map_cons, List.map_nil, List.cons_append, List.nil_append, List.append_nil, List.replicate_succ, List.replicate_zero, List.length_cons, List.length_nil, List.set_cons_zero, List.set_cons_succ, List.getElem?_cons_zero, List.getElem?_cons_succ, List.getElem?_nil, Nat.reduceAdd, Nat.reduceSub, Nat.reduceEqDiff, Nat.reduceLeDiff, Nat.zero_add, if_true, if_false, Bool.not_true, Bool.not_false, Bool.false_eq_true, decide_true, decide_false, ite_true, ite_false, Option.some.injEq, reduceIte, Mv.mFld, Mv.mIsC, Mv.mMeth, Mv.mMake, Mv.mMakeK, Mv.mEqB, Mv.boolR, Mv.mRev, List.lookup_cons, List.lookup_nil, Nat.reduceBEq, beq_self_eq_true, Mv.ins_new, Mv.set_new, at_zero, e1, e2, F_is_integer_eq, a1, a2]
noncomputable def G_Promise_init : List MV → MH → R MV := F_Promise_init F_is_integer (F_is_share F_is_integer)
theorem new_promise {P : Plan} (k : P.Ok) (h : MH) : newIns 0 G_Promise_init [.int P.far, .int P.least, .tup [.int P.p, .int P.q], .int P.many] h = .ok (.ref h.length) (h ++ [promO P]) := by
  unfold newIns G_Promise_init F_Promise_init m_Promise_init
  have a1 : decide (0 ≤ P.far ∧ P.far ≤ 6) = true := decide_eq_true ⟨k.f0, k.f6⟩
  have a2 : decide (0 ≤ P.least ∧ P.least ≤ 3) = true := decide_eq_true ⟨k.b0, k.b3⟩
  have a3 : decide (1 ≤ P.many ∧ P.many ≤ 2) = true := decide_eq_true ⟨k.m1, k.m2⟩
  have c1 : CMulB P.far P.p = true := by have := k.p0; have := k.p4; have := k.f0; have := k.f6; exact mul_small (by omega) (by omega)
  have c2 : CDivB (P.far * P.p) P.q = true := by have := k.q1; have := k.q4; exact div_small (by omega)
  have e2 : atI [MV.int P.p, MV.int P.q] 1 = some (.int P.q) := rfl
  have hh : decide (9 < P.far + P.least + P.far * P.p / P.q) = false := decide_eq_false (by have := k.hor; omega)
  simp only [Mv.mDef, Mv.mSeq, Mv.mSet, Mv.mRet, Mv.mRetN, Mv.mIfS, Mv.mVar, Mv.mC, Mv.mBin, Mv.mChain, Mv.mCall, Mv.mDo, Mv.mCons, Mv.mNil, Mv.mAndV, Mv.mOrV, Mv.mNotV, Mv.mAsB, Mv.mAndT, Mv.mOrT, Mv.mNotT, Mv.mIf, Mv.mTup, Mv.mLst, Mv.mNext, Mv.mBad, Mv.mDrop, Mv.mPar, Mv.mAsg, Mv.mStore, Mv.mNeg, Mv.fNeg, Mv.mYes, Mv.mNoP, Mv.mPart, Mv.mSl, Mv.fI, Mv.fAdd, Mv.fSub, Mv.fMul, Mv.fMod, Mv.fDiv, Mv.fPow, Mv.fLt, Mv.fLe, Mv.fGt, Mv.fGe, Mv.yes2, Mv.fIsN, Mv.fNotN, Mv.isNon, Mv.fIx, Mv.items_tup, Mv.items_new, Mv.list_new, Mv.lstOf_new, Mv.fEq_int, Mv.fNe_int, Mv.fLen_tup, Mv.fMax2, Mv.fMin2, Mv.fInt, Mv.fAbs, Mv.mIsi, Mv.isT, Mv.gN, Mv.gT, Mv.setAll, Mv.wipeM, Mv.R.bind_ok, Mv.R.bind_bad, Mv.R.noX_ok, Mv.R.andS_ok, Mv.R.andS_bad, Mv.S.andS_nx, Mv.S.andS_rt, Mv.S.andS_bad, Mv.S.andS_bk, Mv.S.andS_ct, List.map_cons, List.map_nil, List.cons_append, List.nil_append, List.append_nil, List.replicate_succ, List.replicate_zero, List.length_cons, List.length_nil, List.set_cons_zero, List.set_cons_succ, List.getElem?_cons_zero, List.getElem?_cons_succ, List.getElem?_nil, Nat.reduceAdd, Nat.reduceSub, Nat.reduceEqDiff, Nat.reduceLeDiff, Nat.zero_add, if_true, if_false, Bool.not_true, Bool.not_false, Bool.false_eq_true, decide_true, decide_false, ite_true, ite_false, Option.some.injEq, reduceIte, Mv.mFld, Mv.mIsC, Mv.mMeth, Mv.mMake, Mv.mMakeK, Mv.mEqB, Mv.boolR, Mv.mRev, List.lookup_cons, List.lookup_nil, Nat.reduceBEq, beq_self_eq_true, Mv.ins_new, Mv.set_new, Mv.mStF, at_zero, e2, F_is_integer_eq, F_is_share_eq k.p0 k.p4 k.q1 k.q4, a1, a2, a3, c1, c2, hh, Nat.lt_irrefl, Nat.not_lt_zero]
  rfl


/-! ### specs of what asks a promise -/
noncomputable def specP {β : Type} (enc : β → List MV) (dom : Plan → β → Prop) (out : Plan → β → MV) : List MV → MH → R MV :=
  specH (α := Nat × Plan × β) (fun a => .ref a.1 :: enc a.2.2) (fun a h => HasP h a.1 a.2.1 ∧ a.2.1.Ok ∧ dom a.2.1 a.2.2) fun a h => .ok (out a.2.1 a.2.2) h
theorem specP_eq {β : Type} {enc : β → List MV} {dom : Plan → β → Prop} {out : Plan → β → MV} (inj : ∀ a b, enc a = enc b → a = b) {h : MH} {n : Nat} {P : Plan} (e : HasP h n P) (k : P.Ok) {b : β} (d : dom P b) : specP enc dom out (.ref n :: enc b) h = .ok (out P b) h :=
  specH_eq (a := ((n, P, b) : Nat × Plan × β)) (fun x y q d1 d2 => by
    obtain ⟨x1, x2, x3⟩ := x
    obtain ⟨y1, y2, y3⟩ := y
    simp only [List.cons.injEq, MV.ref.injEq] at q
    obtain ⟨rfl, q⟩ := q
    have e1 : x3 = y3 := inj _ _ q
    subst e1
    have e2 : x2 = y2 := HasP.uniq d1.1 d2.1
    subst e2
    rfl) ⟨e, k, d⟩
theorem specP_sim {β : Type} {enc : β → List MV} {dom : Plan → β → Prop} {out : Plan → β → MV} {F : List MV → MH → R MV} (hs : ∀ n P b h, HasP h n P → P.Ok → dom P b → ∃ g, F (.ref n :: enc b) h = .ok (out P b) (h ++ g)) (hu : ∀ n P b, MV.und n (out P b)) (xs : List MV) (h : MH) : Sim h (F xs h) (specP enc dom out xs h) :=
  specH_sim (fun a h d => by
    obtain ⟨g, e⟩ := hs _ _ _ _ d.1 d.2.1 d.2.2
    rw [e]
    exact sim_drop0 (hu _ _ _)) xs h
theorem tints_inj (a b : List Int) (e : MV.tup (ivs a) = MV.tup (ivs b)) : a = b := by
  simp only [MV.tup.injEq] at e
  exact map_inj (fun _ _ q => by simpa using q) e

/-! ### young, state_at -/
def youngL (P : Plan) (l : List Int) : List Int := l.filter fun a => decide (a ≤ horizon P)
theorem itL_items {n : Nat} {h : MH} {xs : List MV} (e : itemsOf h (.ref n) = some xs) (i : Nat) : itL n i h = nxOf xs[i]? := by
  unfold itL
  simp only [e]
/-- a walk over a tuple or a list of whole numbers -/
theorem itV_ints {m : ME} {env : MEnv} {h : MH} {x : MV} {l : List Int} (em : m env h = .ok x h) (ex : itemsOf h x = some (ivs l)) : ∃ it, mItV m env h = .ok it h ∧ ∀ i, it i h = nxOf (ivs l)[i]? := by
  unfold mItV
  rw [em]
  cases x with
  | tup xs =>
    cases ex
    exact ⟨itT (ivs l), rfl, fun i => rfl⟩
  | ref n => exact ⟨itL n, by simp only [R.bind_ok, ex], itL_items ex⟩
  | _ => cases ex
theorem F_young_eq {h : MH} {n : Nat} {P : Plan} (e : HasP h n P) (k : P.Ok) {x : MV} (l : List Int) (ex : itemsOf h x = some (ivs l)) (hl : l.length ≤ cap) : ∃ g, F_young (F_horizon_of F_slack_at) [.ref n, x] h = .ok (.tup (ivs (youngL P l))) (h ++ g) := by
  unfold F_young m_young
  obtain ⟨it, ei, hit⟩ := itV_ints (m := mVar 1) (env := [some (.ref n), some x, none]) (h := h) rfl ex
  simp only [Mv.mDef, Mv.mSeq, Mv.mSet, Mv.mRet, Mv.mRetN, Mv.mIfS, Mv.mVar, Mv.mC, Mv.mBin, Mv.mChain, Mv.mCall, Mv.mDo, Mv.mCons, Mv.mNil, Mv.mAndV, Mv.mOrV, Mv.mNotV, Mv.mAsB, Mv.mAndT, Mv.mOrT, Mv.mNotT, Mv.mIf, Mv.mTup, Mv.mLst, Mv.mNext, Mv.mBad, Mv.mDrop, Mv.mPar, Mv.mAsg, Mv.mStore, Mv.mNeg, Mv.fNeg, Mv.mYes, Mv.mNoP, Mv.mPart, Mv.mSl, Mv.fI, Mv.fAdd, Mv.fSub, Mv.fMul, Mv.fMod, Mv.fDiv, Mv.fPow, Mv.fLt, Mv.fLe, Mv.fGt, Mv.fGe, Mv.yes2, Mv.fIsN, Mv.fNotN, Mv.isNon, Mv.fIx, Mv.items_tup, Mv.items_new, Mv.list_new, Mv.lstOf_new, Mv.fEq_int, Mv.fNe_int, Mv.fLen_tup, Mv.fMax2, Mv.fMin2, Mv.fInt, Mv.fAbs, Mv.mIsi, Mv.isT, Mv.gN, Mv.gT, Mv.setAll, Mv.wipeM, Mv.R.bind_ok, Mv.R.bind_bad, Mv.R.noX_ok, Mv.R.andS_ok, Mv.R.andS_bad, Mv.S.andS_nx, Mv.S.andS_rt, Mv.S.andS_bad, Mv.S.andS_bk, Mv.S.andS_ct, List.map_cons, List.map_nil, List.cons_append, List.nil_append, List.append_nil, List.replicate_succ, List.replicate_zero, List.length_cons, List.length_nil, List.set_cons_zero, List.set_cons_succ, List.getElem?_cons_zero, List.getElem?_cons_succ, List.getElem?_nil, Nat.reduceAdd, Nat.reduceSub, Nat.reduceEqDiff, Nat.reduceLeDiff, Nat.zero_add, if_true, if_false, Bool.not_true, Bool.not_false, Bool.false_eq_true, decide_true, decide_false, ite_true, ite_false, Option.some.injEq, reduceIte, Mv.mFld, Mv.mIsC, Mv.mMeth, Mv.mMake, Mv.mMakeK, Mv.mEqB, Mv.boolR, Mv.mRev, List.lookup_cons, List.lookup_nil, Nat.reduceBEq, beq_self_eq_true, Mv.ins_new, Mv.set_new, mLc, ei]
  rw [comp_pure (it := it) (l := l) (enc := MV.int) (cb := fun a => decide (a ≤ horizon P)) (f := MV.int) hit hl]
  · simp only [Mv.mDef, Mv.mSeq, Mv.mSet, Mv.mRet, Mv.mRetN, Mv.mIfS, Mv.mVar, Mv.mC, Mv.mBin, Mv.mChain, Mv.mCall, Mv.mDo, Mv.mCons, Mv.mNil, Mv.mAndV, Mv.mOrV, Mv.mNotV, Mv.mAsB, Mv.mAndT, Mv.mOrT, Mv.mNotT, Mv.mIf, Mv.mTup, Mv.mLst, Mv.mNext, Mv.mBad, Mv.mDrop, Mv.mPar, Mv.mAsg, Mv.mStore, Mv.mNeg, Mv.fNeg, Mv.mYes, Mv.mNoP, Mv.mPart, Mv.mSl, Mv.fI, Mv.fAdd, Mv.fSub, Mv.fMul, Mv.fMod, Mv.fDiv, Mv.fPow, Mv.fLt, Mv.fLe, Mv.fGt, Mv.fGe, Mv.yes2, Mv.fIsN, Mv.fNotN, Mv.isNon, Mv.fIx, Mv.items_tup, Mv.items_new, Mv.list_new, Mv.lstOf_new, Mv.fEq_int, Mv.fNe_int, Mv.fLen_tup, Mv.fMax2, Mv.fMin2, Mv.fInt, Mv.fAbs, Mv.mIsi, Mv.isT, Mv.gN, Mv.gT, Mv.setAll, Mv.wipeM, Mv.R.bind_ok, Mv.R.bind_bad, Mv.R.noX_ok, Mv.R.andS_ok, Mv.R.andS_bad, Mv.S.andS_nx, Mv.S.andS_rt, Mv.S.andS_bad, Mv.S.andS_bk, Mv.S.andS_ct, List.map_cons, List.map_nil, List.cons_append, List.nil_append, List.append_nil, List.replicate_succ, List.replicate_zero, List.length_cons, List.length_nil, List.set_cons_zero, List.set_cons_succ, List.getElem?_cons_zero, List.getElem?_cons_succ, List.getElem?_nil, Nat.reduceAdd, Nat.reduceSub, Nat.reduceEqDiff, Nat.reduceLeDiff, Nat.zero_add, if_true, if_false, Bool.not_true, Bool.not_false, Bool.false_eq_true, decide_true, decide_false, ite_true, ite_false, Option.some.injEq, reduceIte, fTuple_at (items_new h _)]
    exact ⟨_, rfl⟩
  · intro a _
    refine ⟨_, rfl, ?_⟩
    simp only [Mv.mDef, Mv.mSeq, Mv.mSet, Mv.mRet, Mv.mRetN, Mv.mIfS, Mv.mVar, Mv.mC, Mv.mBin, Mv.mChain, Mv.mCall, Mv.mDo, Mv.mCons, Mv.mNil, Mv.mAndV, Mv.mOrV, Mv.mNotV, Mv.mAsB, Mv.mAndT, Mv.mOrT, Mv.mNotT, Mv.mIf, Mv.mTup, Mv.mLst, Mv.mNext, Mv.mBad, Mv.mDrop, Mv.mPar, Mv.mAsg, Mv.mStore, Mv.mNeg, Mv.fNeg, Mv.mYes, Mv.mNoP, Mv.mPart, Mv.mSl, Mv.fI, Mv.fAdd, Mv.fSub, Mv.fMul, Mv.fMod, Mv.fDiv, Mv.fPow, Mv.fLt, Mv.fLe, Mv.fGt, Mv.fGe, Mv.yes2, Mv.fIsN, Mv.fNotN, Mv.isNon, Mv.fIx, Mv.items_tup, Mv.items_new, Mv.list_new, Mv.lstOf_new, Mv.fEq_int, Mv.fNe_int, Mv.fLen_tup, Mv.fMax2, Mv.fMin2, Mv.fInt, Mv.fAbs, Mv.mIsi, Mv.isT, Mv.gN, Mv.gT, Mv.setAll, Mv.wipeM, Mv.R.bind_ok, Mv.R.bind_bad, Mv.R.noX_ok, Mv.R.andS_ok, Mv.R.andS_bad, Mv.S.andS_nx, Mv.S.andS_rt, Mv.S.andS_bad, Mv.S.andS_bk, Mv.S.andS_ct, List.map_cons, List.map_nil, List.cons_append, List.nil_append, List.append_nil, List.replicate_succ, List.replicate_zero, List.length_cons, List.length_nil, List.set_cons_zero, List.set_cons_succ, List.getElem?_cons_zero, List.getElem?_cons_succ, List.getElem?_nil, Nat.reduceAdd, Nat.reduceSub, Nat.reduceEqDiff, Nat.reduceLeDiff, Nat.zero_add, if_true, if_false, Bool.not_true, Bool.not_false, Bool.false_eq_true, decide_true, decide_false, ite_true, ite_false, Option.some.injEq, reduceIte, F_horizon_of_eq e k]
    exact ⟨trivial, fun _ => trivial⟩
noncomputable def G_young : List MV → MH → R MV := specH (α := Nat × Plan × MV × List Int) (fun a => [.ref a.1, a.2.2.1]) (fun a h => HasP h a.1 a.2.1 ∧ a.2.1.Ok ∧ itemsOf h a.2.2.1 = some (ivs a.2.2.2) ∧ a.2.2.2.length ≤ cap) fun a h => .ok (.tup (ivs (youngL a.2.1 a.2.2.2))) h
theorem ivs_inj {a b : List Int} (e : ivs a = ivs b) : a = b := map_inj (fun _ _ q => by simpa using q) e
theorem G_youngX_eq {h : MH} {n : Nat} {P : Plan} (e : HasP h n P) (k : P.Ok) {x : MV} (l : List Int) (ex : itemsOf h x = some (ivs l)) (hl : l.length ≤ cap) : G_young [.ref n, x] h = .ok (.tup (ivs (youngL P l))) h :=
  specH_eq (a := ((n, P, x, l) : Nat × Plan × MV × List Int)) (fun x y q d1 d2 => by
    obtain ⟨x1, x2, x3, x4⟩ := x
    obtain ⟨y1, y2, y3, y4⟩ := y
    simp only [List.cons.injEq, MV.ref.injEq, and_true] at q
    obtain ⟨rfl, rfl⟩ := q
    have e2 : x2 = y2 := HasP.uniq d1.1 d2.1
    subst e2
    have q4 := d1.2.2.1.symm.trans d2.2.2.1
    have e4 : x4 = y4 := ivs_inj (Option.some.inj q4)
    subst e4
    rfl) ⟨e, k, ex, hl⟩
theorem G_young_eq {h : MH} {n : Nat} {P : Plan} (e : HasP h n P) (k : P.Ok) (l : List Int) (hl : l.length ≤ cap) : G_young [.ref n, .tup (ivs l)] h = .ok (.tup (ivs (youngL P l))) h := G_youngX_eq e k l rfl hl
theorem G_youngL_eq {h : MH} {n m : Nat} {P : Plan} (e : HasP h n P) (k : P.Ok) {l : List Int} (ex : h[m]? = some (.lst (ivs l))) (hl : l.length ≤ cap) : G_young [.ref n, .ref m] h = .ok (.tup (ivs (youngL P l))) h := G_youngX_eq e k l (items_at ex) hl
theorem sim_young (xs : List MV) (h : MH) : Sim h (F_young (F_horizon_of F_slack_at) xs h) (G_young xs h) := specH_sim (fun a h d => by
  obtain ⟨g, e⟩ := F_young_eq d.1 d.2.1 a.2.2.2 d.2.2.1 d.2.2.2
  rw [e]
  exact sim_drop0 (und_tints _ _)) xs h
def stateAt (P : Plan) (r : Rule) (t : Int) : List Int := youngL P (heldAt r t)
theorem held_cap {r : Rule} (v : Valid r) (t : Int) : (heldAt r t).length ≤ cap := Nat.le_trans (heldAt_len v t) (by decide)
theorem state_cap {P : Plan} {r : Rule} (v : Valid r) (t : Int) : (stateAt P r t).length ≤ cap := Nat.le_trans (List.length_filter_le _ _) (held_cap v t)
theorem F_state_at_eq {h : MH} {n : Nat} {P : Plan} (e : HasP h n P) (k : P.Ok) {r : Rule} (v : Valid r) {t : Int} (ht : -1000 ≤ t) : F_state_at G_held_at G_young [.ref n, rv r, .int t] h = .ok (.tup (ivs (stateAt P r t))) h := by
  unfold F_state_at m_state_at
  simp only [Mv.mDef, Mv.mSeq, Mv.mSet, Mv.mRet, Mv.mRetN, Mv.mIfS, Mv.mVar, Mv.mC, Mv.mBin, Mv.mChain, Mv.mCall, Mv.mDo, Mv.mCons, Mv.mNil, Mv.mAndV, Mv.mOrV, Mv.mNotV, Mv.mAsB, Mv.mAndT, Mv.mOrT, Mv.mNotT, Mv.mIf, Mv.mTup, Mv.mLst, Mv.mNext, Mv.mBad, Mv.mDrop, Mv.mPar, Mv.mAsg, Mv.mStore, Mv.mNeg, Mv.fNeg, Mv.mYes, Mv.mNoP, Mv.mPart, Mv.mSl, Mv.fI, Mv.fAdd, Mv.fSub, Mv.fMul, Mv.fMod, Mv.fDiv, Mv.fPow, Mv.fLt, Mv.fLe, Mv.fGt, Mv.fGe, Mv.yes2, Mv.fIsN, Mv.fNotN, Mv.isNon, Mv.fIx, Mv.items_tup, Mv.items_new, Mv.list_new, Mv.lstOf_new, Mv.fEq_int, Mv.fNe_int, Mv.fLen_tup, Mv.fMax2, Mv.fMin2, Mv.fInt, Mv.fAbs, Mv.mIsi, Mv.isT, Mv.gN, Mv.gT, Mv.setAll, Mv.wipeM, Mv.R.bind_ok, Mv.R.bind_bad, Mv.R.noX_ok, Mv.R.andS_ok, Mv.R.andS_bad, Mv.S.andS_nx, Mv.S.andS_rt, Mv.S.andS_bad, Mv.S.andS_bk, Mv.S.andS_ct, List.map_cons, List.map_nil, List.cons_append, List.nil_append, List.append_nil, List.replicate_succ, List.replicate_zero, List.length_cons, List.length_nil, List.set_cons_zero, List.set_cons_succ, List.getElem?_cons_zero, List.getElem?_cons_succ, List.getElem?_nil, Nat.reduceAdd, Nat.reduceSub, Nat.reduceEqDiff, Nat.reduceLeDiff, Nat.zero_add, if_true, if_false, Bool.not_true, Bool.not_false, Bool.false_eq_true, decide_true, decide_false, ite_true, ite_false, Option.some.injEq, reduceIte, Mv.mFld, Mv.mIsC, Mv.mMeth, Mv.mMake, Mv.mMakeK, Mv.mEqB, Mv.boolR, Mv.mRev, List.lookup_cons, List.lookup_nil, Nat.reduceBEq, beq_self_eq_true, Mv.ins_new, Mv.set_new, G_held_at_eq v ht, G_young_eq e k _ (held_cap v t)]
  rfl

/-! ### holds_for, is_good, first_broken -/
def ableL2 (P : Plan) (st : List Int) (a : Int) : List Int := st.filter fun o => decide (a ≤ o) && decide (o ≤ a + slack P a)
def holdsFor (P : Plan) (st : List Int) (a : Int) : Bool := decide (P.many ≤ ((ableL2 P st a).length : Int))
def agesL (P : Plan) : List Int := prog 0 1 (P.far + 1).toNat
def isGood (P : Plan) (st : List Int) : Bool := (agesL P).all (holdsFor P st)
def brokenL (P : Plan) (st : List Int) : List Int := (agesL P).filter fun a => !holdsFor P st a
theorem mem_ages {P : Plan} (k : P.Ok) {a : Int} (h : a ∈ agesL P) : 0 ≤ a ∧ a ≤ 6 := by
  obtain ⟨i, hi, e⟩ := mem_prog.mp h
  have := k.f6
  omega
theorem F_holds_for_eq {h : MH} {n : Nat} {P : Plan} (e : HasP h n P) (k : P.Ok) (st : List Int) (hl : st.length ≤ cap) {a : Int} (h0 : 0 ≤ a) (h1 : a ≤ 100) : ∃ g, F_holds_for F_slack_at [.ref n, .tup (ivs st), .int a] h = .ok (.bl (holdsFor P st a)) (h ++ g) := by
  unfold F_holds_for m_holds_for
  simp only [Mv.mDef, Mv.mSeq, Mv.mSet, Mv.mRet, Mv.mRetN, Mv.mIfS, Mv.mVar, Mv.mC, Mv.mBin, Mv.mChain, Mv.mCall, Mv.mDo, Mv.mCons, Mv.mNil, Mv.mAndV, Mv.mOrV, Mv.mNotV, Mv.mAsB, Mv.mAndT, Mv.mOrT, Mv.mNotT, Mv.mIf, Mv.mTup, Mv.mLst, Mv.mNext, Mv.mBad, Mv.mDrop, Mv.mPar, Mv.mAsg, Mv.mStore, Mv.mNeg, Mv.fNeg, Mv.mYes, Mv.mNoP, Mv.mPart, Mv.mSl, Mv.fI, Mv.fAdd, Mv.fSub, Mv.fMul, Mv.fMod, Mv.fDiv, Mv.fPow, Mv.fLt, Mv.fLe, Mv.fGt, Mv.fGe, Mv.yes2, Mv.fIsN, Mv.fNotN, Mv.isNon, Mv.fIx, Mv.items_tup, Mv.items_new, Mv.list_new, Mv.lstOf_new, Mv.fEq_int, Mv.fNe_int, Mv.fLen_tup, Mv.fMax2, Mv.fMin2, Mv.fInt, Mv.fAbs, Mv.mIsi, Mv.isT, Mv.gN, Mv.gT, Mv.setAll, Mv.wipeM, Mv.R.bind_ok, Mv.R.bind_bad, Mv.R.noX_ok, Mv.R.andS_ok, Mv.R.andS_bad, Mv.S.andS_nx, Mv.S.andS_rt, Mv.S.andS_bad, Mv.S.andS_bk, Mv.S.andS_ct, List.map_cons, List.map_nil, List.cons_append, List.nil_append, List.append_nil, List.replicate_succ, List.replicate_zero, List.length_cons, List.length_nil, List.set_cons_zero, List.set_cons_succ, List.getElem?_cons_zero, List.getElem?_cons_succ, List.getElem?_nil, Nat.reduceAdd, Nat.reduceSub, Nat.reduceEqDiff, Nat.reduceLeDiff, Nat.zero_add, if_true, if_false, Bool.not_true, Bool.not_false, Bool.false_eq_true, decide_true, decide_false, ite_true, ite_false, Option.some.injEq, reduceIte, Mv.mFld, Mv.mIsC, Mv.mMeth, Mv.mMake, Mv.mMakeK, Mv.mEqB, Mv.boolR, Mv.mRev, List.lookup_cons, List.lookup_nil, Nat.reduceBEq, beq_self_eq_true, Mv.ins_new, Mv.set_new, mLc, mItV]
  rw [comp_pure (it := itT (ivs st)) (l := st) (enc := MV.int) (cb := fun o => decide (a ≤ o) && decide (o ≤ a + slack P a)) (f := MV.int) (fun i => itT_nx _ i h) hl]
  · simp only [Mv.mDef, Mv.mSeq, Mv.mSet, Mv.mRet, Mv.mRetN, Mv.mIfS, Mv.mVar, Mv.mC, Mv.mBin, Mv.mChain, Mv.mCall, Mv.mDo, Mv.mCons, Mv.mNil, Mv.mAndV, Mv.mOrV, Mv.mNotV, Mv.mAsB, Mv.mAndT, Mv.mOrT, Mv.mNotT, Mv.mIf, Mv.mTup, Mv.mLst, Mv.mNext, Mv.mBad, Mv.mDrop, Mv.mPar, Mv.mAsg, Mv.mStore, Mv.mNeg, Mv.fNeg, Mv.mYes, Mv.mNoP, Mv.mPart, Mv.mSl, Mv.fI, Mv.fAdd, Mv.fSub, Mv.fMul, Mv.fMod, Mv.fDiv, Mv.fPow, Mv.fLt, Mv.fLe, Mv.fGt, Mv.fGe, Mv.yes2, Mv.fIsN, Mv.fNotN, Mv.isNon, Mv.fIx, Mv.items_tup, Mv.items_new, Mv.list_new, Mv.lstOf_new, Mv.fEq_int, Mv.fNe_int, Mv.fLen_tup, Mv.fMax2, Mv.fMin2, Mv.fInt, Mv.fAbs, Mv.mIsi, Mv.isT, Mv.gN, Mv.gT, Mv.setAll, Mv.wipeM, Mv.R.bind_ok, Mv.R.bind_bad, Mv.R.noX_ok, Mv.R.andS_ok, Mv.R.andS_bad, Mv.S.andS_nx, Mv.S.andS_rt, Mv.S.andS_bad, Mv.S.andS_bk, Mv.S.andS_ct, List.map_cons, List.map_nil, List.cons_append, List.nil_append, List.append_nil, List.replicate_succ, List.replicate_zero, List.length_cons, List.length_nil, List.set_cons_zero, List.set_cons_succ, List.getElem?_cons_zero, List.getElem?_cons_succ, List.getElem?_nil, Nat.reduceAdd, Nat.reduceSub, Nat.reduceEqDiff, Nat.reduceLeDiff, Nat.zero_add, if_true, if_false, Bool.not_true, Bool.not_false, Bool.false_eq_true, decide_true, decide_false, ite_true, ite_false, Option.some.injEq, reduceIte, Mv.mFld, Mv.mIsC, Mv.mMeth, Mv.mMake, Mv.mMakeK, Mv.mEqB, Mv.boolR, Mv.mRev, List.lookup_cons, List.lookup_nil, Nat.reduceBEq, beq_self_eq_true, Mv.ins_new, Mv.set_new, fLen_new, (e.app).ins, List.length_map]
    exact ⟨_, rfl⟩
  · intro o _
    refine ⟨_, rfl, ?_⟩
    simp only [Mv.mDef, Mv.mSeq, Mv.mSet, Mv.mRet, Mv.mRetN, Mv.mIfS, Mv.mVar, Mv.mC, Mv.mBin, Mv.mChain, Mv.mCall, Mv.mDo, Mv.mCons, Mv.mNil, Mv.mAndV, Mv.mOrV, Mv.mNotV, Mv.mAsB, Mv.mAndT, Mv.mOrT, Mv.mNotT, Mv.mIf, Mv.mTup, Mv.mLst, Mv.mNext, Mv.mBad, Mv.mDrop, Mv.mPar, Mv.mAsg, Mv.mStore, Mv.mNeg, Mv.fNeg, Mv.mYes, Mv.mNoP, Mv.mPart, Mv.mSl, Mv.fI, Mv.fAdd, Mv.fSub, Mv.fMul, Mv.fMod, Mv.fDiv, Mv.fPow, Mv.fLt, Mv.fLe, Mv.fGt, Mv.fGe, Mv.yes2, Mv.fIsN, Mv.fNotN, Mv.isNon, Mv.fIx, Mv.items_tup, Mv.items_new, Mv.list_new, Mv.lstOf_new, Mv.fEq_int, Mv.fNe_int, Mv.fLen_tup, Mv.fMax2, Mv.fMin2, Mv.fInt, Mv.fAbs, Mv.mIsi, Mv.isT, Mv.gN, Mv.gT, Mv.setAll, Mv.wipeM, Mv.R.bind_ok, Mv.R.bind_bad, Mv.R.noX_ok, Mv.R.andS_ok, Mv.R.andS_bad, Mv.S.andS_nx, Mv.S.andS_rt, Mv.S.andS_bad, Mv.S.andS_bk, Mv.S.andS_ct, List.map_cons, List.map_nil, List.cons_append, List.nil_append, List.append_nil, List.replicate_succ, List.replicate_zero, List.length_cons, List.length_nil, List.set_cons_zero, List.set_cons_succ, List.getElem?_cons_zero, List.getElem?_cons_succ, List.getElem?_nil, Nat.reduceAdd, Nat.reduceSub, Nat.reduceEqDiff, Nat.reduceLeDiff, Nat.zero_add, if_true, if_false, Bool.not_true, Bool.not_false, Bool.false_eq_true, decide_true, decide_false, ite_true, ite_false, Option.some.injEq, reduceIte, F_slack_at_eq e k h0 h1]
    cases decide (a ≤ o)
    · exact ⟨rfl, fun _ => trivial⟩
    · exact ⟨rfl, fun _ => trivial⟩
theorem two_st (a b : List Int × Int) (e : [MV.tup (ivs a.1), MV.int a.2] = [MV.tup (ivs b.1), MV.int b.2]) : a = b := by
  simp only [List.cons.injEq, MV.int.injEq, and_true] at e
  exact Prod.ext (tints_inj _ _ e.1) e.2
noncomputable def G_holds_for : List MV → MH → R MV := specP (fun b : List Int × Int => [.tup (ivs b.1), .int b.2]) (fun _ b => b.1.length ≤ cap ∧ 0 ≤ b.2 ∧ b.2 ≤ 100) fun P b => .bl (holdsFor P b.1 b.2)
theorem G_holds_for_eq {h : MH} {n : Nat} {P : Plan} (e : HasP h n P) (k : P.Ok) (st : List Int) (hl : st.length ≤ cap) {a : Int} (h0 : 0 ≤ a) (h1 : a ≤ 100) : G_holds_for [.ref n, .tup (ivs st), .int a] h = .ok (.bl (holdsFor P st a)) h :=
  specP_eq two_st e k (b := (st, a)) ⟨hl, h0, h1⟩
theorem sim_holds_for (xs : List MV) (h : MH) : Sim h (F_holds_for F_slack_at xs h) (G_holds_for xs h) := specP_sim (fun n P b h e k d => F_holds_for_eq e k b.1 d.1 d.2.1 d.2.2) (fun _ _ _ => und_bl _ _) xs h
theorem far_in {P : Plan} (k : P.Ok) : inR (P.far + 1) = true := inR_of (by have := k.f0; have := k.f6; omega)
theorem ages_cap {P : Plan} (k : P.Ok) : (agesL P).length ≤ cap := by
  unfold agesL
  rw [prog_length]
  have := k.f6
  unfold cap
  omega
theorem F_is_good_eq {h : MH} {n : Nat} {P : Plan} (e : HasP h n P) (k : P.Ok) (st : List Int) (hl : st.length ≤ cap) : ∃ g, F_is_good G_holds_for [.ref n, .tup (ivs st)] h = .ok (.bl (isGood P st)) (h ++ g) := by
  unfold F_is_good m_is_good
  simp only [Mv.mDef, Mv.mSeq, Mv.mSet, Mv.mRet, Mv.mRetN, Mv.mIfS, Mv.mVar, Mv.mC, Mv.mBin, Mv.mChain, Mv.mCall, Mv.mDo, Mv.mCons, Mv.mNil, Mv.mAndV, Mv.mOrV, Mv.mNotV, Mv.mAsB, Mv.mAndT, Mv.mOrT, Mv.mNotT, Mv.mIf, Mv.mTup, Mv.mLst, Mv.mNext, Mv.mBad, Mv.mDrop, Mv.mPar, Mv.mAsg, Mv.mStore, Mv.mNeg, Mv.fNeg, Mv.mYes, Mv.mNoP, Mv.mPart, Mv.mSl, Mv.fI, Mv.fAdd, Mv.fSub, Mv.fMul, Mv.fMod, Mv.fDiv, Mv.fPow, Mv.fLt, Mv.fLe, Mv.fGt, Mv.fGe, Mv.yes2, Mv.fIsN, Mv.fNotN, Mv.isNon, Mv.fIx, Mv.items_tup, Mv.items_new, Mv.list_new, Mv.lstOf_new, Mv.fEq_int, Mv.fNe_int, Mv.fLen_tup, Mv.fMax2, Mv.fMin2, Mv.fInt, Mv.fAbs, Mv.mIsi, Mv.isT, Mv.gN, Mv.gT, Mv.setAll, Mv.wipeM, Mv.R.bind_ok, Mv.R.bind_bad, Mv.R.noX_ok, Mv.R.andS_ok, Mv.R.andS_bad, Mv.S.andS_nx, Mv.S.andS_rt, Mv.S.andS_bad, Mv.S.andS_bk, Mv.S.andS_ct, List.map_cons, List.map_nil, List.cons_append, List.nil_append, List.append_nil, List.replicate_succ, List.replicate_zero, List.length_cons, List.length_nil, List.set_cons_zero, List.set_cons_succ, List.getElem?_cons_zero, List.getElem?_cons_succ, List.getElem?_nil, Nat.reduceAdd, Nat.reduceSub, Nat.reduceEqDiff, Nat.reduceLeDiff, Nat.zero_add, if_true, if_false, Bool.not_true, Bool.not_false, Bool.false_eq_true, decide_true, decide_false, ite_true, ite_false, Option.some.injEq, reduceIte, Mv.mFld, Mv.mIsC, Mv.mMeth, Mv.mMake, Mv.mMakeK, Mv.mEqB, Mv.boolR, Mv.mRev, List.lookup_cons, List.lookup_nil, Nat.reduceBEq, beq_self_eq_true, Mv.ins_new, Mv.set_new, mLc, mRng1, e.ins, far_in k]
  rw [comp_pure (l := agesL P) (enc := MV.int) (cb := fun _ => true) (f := fun a => .bl (holdsFor P st a)) (fun i => itR_nx _ _ _ i h) (ages_cap k)]
  · rw [filter_yes]
    simp only [Mv.mDef, Mv.mSeq, Mv.mSet, Mv.mRet, Mv.mRetN, Mv.mIfS, Mv.mVar, Mv.mC, Mv.mBin, Mv.mChain, Mv.mCall, Mv.mDo, Mv.mCons, Mv.mNil, Mv.mAndV, Mv.mOrV, Mv.mNotV, Mv.mAsB, Mv.mAndT, Mv.mOrT, Mv.mNotT, Mv.mIf, Mv.mTup, Mv.mLst, Mv.mNext, Mv.mBad, Mv.mDrop, Mv.mPar, Mv.mAsg, Mv.mStore, Mv.mNeg, Mv.fNeg, Mv.mYes, Mv.mNoP, Mv.mPart, Mv.mSl, Mv.fI, Mv.fAdd, Mv.fSub, Mv.fMul, Mv.fMod, Mv.fDiv, Mv.fPow, Mv.fLt, Mv.fLe, Mv.fGt, Mv.fGe, Mv.yes2, Mv.fIsN, Mv.fNotN, Mv.isNon, Mv.fIx, Mv.items_tup, Mv.items_new, Mv.list_new, Mv.lstOf_new, Mv.fEq_int, Mv.fNe_int, Mv.fLen_tup, Mv.fMax2, Mv.fMin2, Mv.fInt, Mv.fAbs, Mv.mIsi, Mv.isT, Mv.gN, Mv.gT, Mv.setAll, Mv.wipeM, Mv.R.bind_ok, Mv.R.bind_bad, Mv.R.noX_ok, Mv.R.andS_ok, Mv.R.andS_bad, Mv.S.andS_nx, Mv.S.andS_rt, Mv.S.andS_bad, Mv.S.andS_bk, Mv.S.andS_ct, List.map_cons, List.map_nil, List.cons_append, List.nil_append, List.append_nil, List.replicate_succ, List.replicate_zero, List.length_cons, List.length_nil, List.set_cons_zero, List.set_cons_succ, List.getElem?_cons_zero, List.getElem?_cons_succ, List.getElem?_nil, Nat.reduceAdd, Nat.reduceSub, Nat.reduceEqDiff, Nat.reduceLeDiff, Nat.zero_add, if_true, if_false, Bool.not_true, Bool.not_false, Bool.false_eq_true, decide_true, decide_false, ite_true, ite_false, Option.some.injEq, reduceIte, fAll_at (items_new h _) (any_map _ _)]
    refine ⟨_, congrArg (fun b => R.ok (MV.bl b) _) ?_⟩
    unfold isGood
    rw [List.all_map]
    rfl
  · intro a ha
    have := mem_ages k ha
    refine ⟨_, rfl, ?_⟩
    simp only [Mv.mDef, Mv.mSeq, Mv.mSet, Mv.mRet, Mv.mRetN, Mv.mIfS, Mv.mVar, Mv.mC, Mv.mBin, Mv.mChain, Mv.mCall, Mv.mDo, Mv.mCons, Mv.mNil, Mv.mAndV, Mv.mOrV, Mv.mNotV, Mv.mAsB, Mv.mAndT, Mv.mOrT, Mv.mNotT, Mv.mIf, Mv.mTup, Mv.mLst, Mv.mNext, Mv.mBad, Mv.mDrop, Mv.mPar, Mv.mAsg, Mv.mStore, Mv.mNeg, Mv.fNeg, Mv.mYes, Mv.mNoP, Mv.mPart, Mv.mSl, Mv.fI, Mv.fAdd, Mv.fSub, Mv.fMul, Mv.fMod, Mv.fDiv, Mv.fPow, Mv.fLt, Mv.fLe, Mv.fGt, Mv.fGe, Mv.yes2, Mv.fIsN, Mv.fNotN, Mv.isNon, Mv.fIx, Mv.items_tup, Mv.items_new, Mv.list_new, Mv.lstOf_new, Mv.fEq_int, Mv.fNe_int, Mv.fLen_tup, Mv.fMax2, Mv.fMin2, Mv.fInt, Mv.fAbs, Mv.mIsi, Mv.isT, Mv.gN, Mv.gT, Mv.setAll, Mv.wipeM, Mv.R.bind_ok, Mv.R.bind_bad, Mv.R.noX_ok, Mv.R.andS_ok, Mv.R.andS_bad, Mv.S.andS_nx, Mv.S.andS_rt, Mv.S.andS_bad, Mv.S.andS_bk, Mv.S.andS_ct, List.map_cons, List.map_nil, List.cons_append, List.nil_append, List.append_nil, List.replicate_succ, List.replicate_zero, List.length_cons, List.length_nil, List.set_cons_zero, List.set_cons_succ, List.getElem?_cons_zero, List.getElem?_cons_succ, List.getElem?_nil, Nat.reduceAdd, Nat.reduceSub, Nat.reduceEqDiff, Nat.reduceLeDiff, Nat.zero_add, if_true, if_false, Bool.not_true, Bool.not_false, Bool.false_eq_true, decide_true, decide_false, ite_true, ite_false, Option.some.injEq, reduceIte, G_holds_for_eq e k st hl this.1 (show a ≤ 100 by omega)]
    exact ⟨trivial, fun _ => trivial⟩
noncomputable def G_is_good : List MV → MH → R MV := specP (fun l : List Int => [.tup (ivs l)]) (fun _ l => l.length ≤ cap) fun P l => .bl (isGood P l)
theorem G_is_good_eq {h : MH} {n : Nat} {P : Plan} (e : HasP h n P) (k : P.Ok) (l : List Int) (hl : l.length ≤ cap) : G_is_good [.ref n, .tup (ivs l)] h = .ok (.bl (isGood P l)) h :=
  specP_eq (fun a b q => tints_inj _ _ (List.cons.inj q).1) e k (b := l) hl
theorem sim_is_good (xs : List MV) (h : MH) : Sim h (F_is_good G_holds_for xs h) (G_is_good xs h) := specP_sim (fun n P l h e k d => F_is_good_eq e k l d) (fun _ _ _ => und_bl _ _) xs h
theorem good_iff {P : Plan} {st : List Int} : isGood P st = false ↔ ∃ a r, brokenL P st = a :: r := by
  unfold isGood brokenL
  constructor
  · intro q
    obtain ⟨a, ha, hb⟩ := List.all_eq_false.mp q
    have : a ∈ (agesL P).filter fun a => !holdsFor P st a := List.mem_filter.mpr ⟨ha, by simp [hb]⟩
    cases e : (agesL P).filter fun a => !holdsFor P st a with
    | nil => rw [e] at this; cases this
    | cons x r => exact ⟨x, r, rfl⟩
  · rintro ⟨a, r, e⟩
    have : a ∈ (agesL P).filter fun a => !holdsFor P st a := by rw [e]; exact List.mem_cons_self ..
    obtain ⟨h1, h2⟩ := List.mem_filter.mp this
    exact List.all_eq_false.mpr ⟨a, h1, by simpa using h2⟩
def firstB (P : Plan) (st : List Int) : Int := (brokenL P st).headD 0
theorem data_nil {h : MH} {n : Nat} (e : h[n]? = some (.lst [])) : dataOf 12 h (.ref n) = some (.list []) := by
  have := data_lints (a := []) e
  exact this
theorem F_first_broken_eq {h : MH} {n : Nat} {P : Plan} (e : HasP h n P) (k : P.Ok) (st : List Int) (hl : st.length ≤ cap) (hb : isGood P st = false) : ∃ g, F_first_broken G_holds_for [.ref n, .tup (ivs st)] h = .ok (.int (firstB P st)) (h ++ g) := by
  unfold F_first_broken m_first_broken
  simp only [Mv.mDef, Mv.mSeq, Mv.mSet, Mv.mRet, Mv.mRetN, Mv.mIfS, Mv.mVar, Mv.mC, Mv.mBin, Mv.mChain, Mv.mCall, Mv.mDo, Mv.mCons, Mv.mNil, Mv.mAndV, Mv.mOrV, Mv.mNotV, Mv.mAsB, Mv.mAndT, Mv.mOrT, Mv.mNotT, Mv.mIf, Mv.mTup, Mv.mLst, Mv.mNext, Mv.mBad, Mv.mDrop, Mv.mPar, Mv.mAsg, Mv.mStore, Mv.mNeg, Mv.fNeg, Mv.mYes, Mv.mNoP, Mv.mPart, Mv.mSl, Mv.fI, Mv.fAdd, Mv.fSub, Mv.fMul, Mv.fMod, Mv.fDiv, Mv.fPow, Mv.fLt, Mv.fLe, Mv.fGt, Mv.fGe, Mv.yes2, Mv.fIsN, Mv.fNotN, Mv.isNon, Mv.fIx, Mv.items_tup, Mv.items_new, Mv.list_new, Mv.lstOf_new, Mv.fEq_int, Mv.fNe_int, Mv.fLen_tup, Mv.fMax2, Mv.fMin2, Mv.fInt, Mv.fAbs, Mv.mIsi, Mv.isT, Mv.gN, Mv.gT, Mv.setAll, Mv.wipeM, Mv.R.bind_ok, Mv.R.bind_bad, Mv.R.noX_ok, Mv.R.andS_ok, Mv.R.andS_bad, Mv.S.andS_nx, Mv.S.andS_rt, Mv.S.andS_bad, Mv.S.andS_bk, Mv.S.andS_ct, List.map_cons, List.map_nil, List.cons_append, List.nil_append, List.append_nil, List.replicate_succ, List.replicate_zero, List.length_cons, List.length_nil, List.set_cons_zero, List.set_cons_succ, List.getElem?_cons_zero, List.getElem?_cons_succ, List.getElem?_nil, Nat.reduceAdd, Nat.reduceSub, Nat.reduceEqDiff, Nat.reduceLeDiff, Nat.zero_add, if_true, if_false, Bool.not_true, Bool.not_false, Bool.false_eq_true, decide_true, decide_false, ite_true, ite_false, Option.some.injEq, reduceIte, Mv.mFld, Mv.mIsC, Mv.mMeth, Mv.mMake, Mv.mMakeK, Mv.mEqB, Mv.boolR, Mv.mRev, List.lookup_cons, List.lookup_nil, Nat.reduceBEq, beq_self_eq_true, Mv.ins_new, Mv.set_new, mLc, mRng1, e.ins, far_in k]
  rw [comp_pure (l := agesL P) (enc := MV.int) (cb := fun a => !holdsFor P st a) (f := MV.int) (fun i => itR_nx _ _ _ i h) (ages_cap k)]
  · obtain ⟨a, r, q⟩ := good_iff.mp hb
    have q' : List.filter (fun a => !holdsFor P st a) (agesL P) = a :: r := q
    rw [q']
    have d1 : fNe (.ref h.length) (.ref (h ++ [MO.lst ((a :: r).map MV.int)]).length) (h ++ [MO.lst ((a :: r).map MV.int)] ++ [MO.lst []]) = .ok (.bl true) (h ++ [MO.lst ((a :: r).map MV.int)] ++ [MO.lst []]) := by
      unfold fNe
      have dd : dataOf 12 (h ++ [MO.lst ((a :: r).map MV.int)] ++ [MO.lst []]) (.ref h.length) = some (.list ((a :: r).map PyData.int)) := data_lints (look_app (look_new h _))
      rw [dd, data_nil (look_new _ _)]
      rfl
    have hc : (0 : Nat) ≤ cap := Nat.zero_le _
    have e2 : itemsOf (h ++ [MO.lst ((a :: r).map MV.int)] ++ [MO.lst []]) (.ref h.length) = some ((a :: r).map MV.int) := items_at (look_app (look_new h _))
    simp only [List.map_cons] at d1 e2
    simp only [Mv.mDef, Mv.mSeq, Mv.mSet, Mv.mRet, Mv.mRetN, Mv.mIfS, Mv.mVar, Mv.mC, Mv.mBin, Mv.mChain, Mv.mCall, Mv.mDo, Mv.mCons, Mv.mNil, Mv.mAndV, Mv.mOrV, Mv.mNotV, Mv.mAsB, Mv.mAndT, Mv.mOrT, Mv.mNotT, Mv.mIf, Mv.mTup, Mv.mLst, Mv.mNext, Mv.mBad, Mv.mDrop, Mv.mPar, Mv.mAsg, Mv.mStore, Mv.mNeg, Mv.fNeg, Mv.mYes, Mv.mNoP, Mv.mPart, Mv.mSl, Mv.fI, Mv.fAdd, Mv.fSub, Mv.fMul, Mv.fMod, Mv.fDiv, Mv.fPow, Mv.fLt, Mv.fLe, Mv.fGt, Mv.fGe, Mv.yes2, Mv.fIsN, Mv.fNotN, Mv.isNon, Mv.fIx, Mv.items_tup, Mv.items_new, Mv.list_new, Mv.lstOf_new, Mv.fEq_int, Mv.fNe_int, Mv.fLen_tup, Mv.fMax2, Mv.fMin2, Mv.fInt, Mv.fAbs, Mv.mIsi, Mv.isT, Mv.gN, Mv.gT, Mv.setAll, Mv.wipeM, Mv.R.bind_ok, Mv.R.bind_bad, Mv.R.noX_ok, Mv.R.andS_ok, Mv.R.andS_bad, Mv.S.andS_nx, Mv.S.andS_rt, Mv.S.andS_bad, Mv.S.andS_bk, Mv.S.andS_ct, List.map_cons, List.map_nil, List.cons_append, List.nil_append, List.append_nil, List.replicate_succ, List.replicate_zero, List.length_cons, List.length_nil, List.set_cons_zero, List.set_cons_succ, List.getElem?_cons_zero, List.getElem?_cons_succ, List.getElem?_nil, Nat.reduceAdd, Nat.reduceSub, Nat.reduceEqDiff, Nat.reduceLeDiff, Nat.zero_add, if_true, if_false, Bool.not_true, Bool.not_false, Bool.false_eq_true, decide_true, decide_false, ite_true, ite_false, Option.some.injEq, reduceIte, Mv.mFld, Mv.mIsC, Mv.mMeth, Mv.mMake, Mv.mMakeK, Mv.mEqB, Mv.boolR, Mv.mRev, List.lookup_cons, List.lookup_nil, Nat.reduceBEq, beq_self_eq_true, Mv.ins_new, Mv.set_new, hc, d1, e2, at_zero]
    refine ⟨[MO.lst (MV.int a :: r.map MV.int)] ++ [MO.lst []], ?_⟩
    unfold firstB
    rw [q, List.append_assoc]
    rfl
  · intro a ha
    have := mem_ages k ha
    refine ⟨_, rfl, ?_⟩
    simp only [Mv.mDef, Mv.mSeq, Mv.mSet, Mv.mRet, Mv.mRetN, Mv.mIfS, Mv.mVar, Mv.mC, Mv.mBin, Mv.mChain, Mv.mCall, Mv.mDo, Mv.mCons, Mv.mNil, Mv.mAndV, Mv.mOrV, Mv.mNotV, Mv.mAsB, Mv.mAndT, Mv.mOrT, Mv.mNotT, Mv.mIf, Mv.mTup, Mv.mLst, Mv.mNext, Mv.mBad, Mv.mDrop, Mv.mPar, Mv.mAsg, Mv.mStore, Mv.mNeg, Mv.fNeg, Mv.mYes, Mv.mNoP, Mv.mPart, Mv.mSl, Mv.fI, Mv.fAdd, Mv.fSub, Mv.fMul, Mv.fMod, Mv.fDiv, Mv.fPow, Mv.fLt, Mv.fLe, Mv.fGt, Mv.fGe, Mv.yes2, Mv.fIsN, Mv.fNotN, Mv.isNon, Mv.fIx, Mv.items_tup, Mv.items_new, Mv.list_new, Mv.lstOf_new, Mv.fEq_int, Mv.fNe_int, Mv.fLen_tup, Mv.fMax2, Mv.fMin2, Mv.fInt, Mv.fAbs, Mv.mIsi, Mv.isT, Mv.gN, Mv.gT, Mv.setAll, Mv.wipeM, Mv.R.bind_ok, Mv.R.bind_bad, Mv.R.noX_ok, Mv.R.andS_ok, Mv.R.andS_bad, Mv.S.andS_nx, Mv.S.andS_rt, Mv.S.andS_bad, Mv.S.andS_bk, Mv.S.andS_ct, List.map_cons, List.map_nil, List.cons_append, List.nil_append, List.append_nil, List.replicate_succ, List.replicate_zero, List.length_cons, List.length_nil, List.set_cons_zero, List.set_cons_succ, List.getElem?_cons_zero, List.getElem?_cons_succ, List.getElem?_nil, Nat.reduceAdd, Nat.reduceSub, Nat.reduceEqDiff, Nat.reduceLeDiff, Nat.zero_add, if_true, if_false, Bool.not_true, Bool.not_false, Bool.false_eq_true, decide_true, decide_false, ite_true, ite_false, Option.some.injEq, reduceIte, G_holds_for_eq e k st hl this.1 (show a ≤ 100 by omega)]
    exact ⟨trivial, fun _ => trivial⟩
noncomputable def G_first_broken : List MV → MH → R MV := specP (fun l : List Int => [.tup (ivs l)]) (fun P l => l.length ≤ cap ∧ isGood P l = false) fun P l => .int (firstB P l)
theorem G_first_broken_eq {h : MH} {n : Nat} {P : Plan} (e : HasP h n P) (k : P.Ok) (l : List Int) (hl : l.length ≤ cap) (hb : isGood P l = false) : G_first_broken [.ref n, .tup (ivs l)] h = .ok (.int (firstB P l)) h :=
  specP_eq (fun a b q => tints_inj _ _ (List.cons.inj q).1) e k (b := l) ⟨hl, hb⟩
theorem sim_first_broken (xs : List MV) (h : MH) : Sim h (F_first_broken G_holds_for xs h) (G_first_broken xs h) := specP_sim (fun n P l h e k d => F_first_broken_eq e k l d.1 d.2) (fun _ _ _ => und_int _ _) xs h


theorem cap2 : (2 ≤ cap) = True := eq_true (by decide)
/-! ### times_of, judge_of -/
theorem period_60 {r : Rule} (v : Valid r) : 1 ≤ periodN r ∧ periodN r ≤ 60 := by
  obtain ⟨a, b, c⟩ := periodN_is v
  refine ⟨a, ?_⟩
  rcases Nat.lt_or_ge 60 (periodN r) with h | h
  · exact absurd (cyc_mod (cyc_mul (cyc_turn v) (60 / turnN r)) (cyc_mul (cyc_turn v) (60 / turnN r))) (fun _ => by
      obtain ⟨t1, t2, t3, _⟩ := turn_spec v
      exact c (turnN r) t1 (by omega) (cyc_turn v))
  · exact h
def timesL (r : Rule) : List Int := (List.range (periodN r)).map fun (i : Nat) => settled r + (i : Int)
theorem F_times_of_eq {r : Rule} (v : Valid r) (h : MH) : F_times_of G_period_of G_settled_of [rv r] h = .ok (.ref h.length) (h ++ [.lst (ivs (timesL r))]) := by
  unfold F_times_of m_times_of
  obtain ⟨p1, p2⟩ := period_60 v
  have hb : inR ((periodN r : Nat) : Int) = true := inR_of (by omega)
  simp only [Mv.mDef, Mv.mSeq, Mv.mSet, Mv.mRet, Mv.mRetN, Mv.mIfS, Mv.mVar, Mv.mC, Mv.mBin, Mv.mChain, Mv.mCall, Mv.mDo, Mv.mCons, Mv.mNil, Mv.mAndV, Mv.mOrV, Mv.mNotV, Mv.mAsB, Mv.mAndT, Mv.mOrT, Mv.mNotT, Mv.mIf, Mv.mTup, Mv.mLst, Mv.mNext, Mv.mBad, Mv.mDrop, Mv.mPar, Mv.mAsg, Mv.mStore, Mv.mNeg, Mv.fNeg, Mv.mYes, Mv.mNoP, Mv.mPart, Mv.mSl, Mv.fI, Mv.fAdd, Mv.fSub, Mv.fMul, Mv.fMod, Mv.fDiv, Mv.fPow, Mv.fLt, Mv.fLe, Mv.fGt, Mv.fGe, Mv.yes2, Mv.fIsN, Mv.fNotN, Mv.isNon, Mv.fIx, Mv.items_tup, Mv.items_new, Mv.list_new, Mv.lstOf_new, Mv.fEq_int, Mv.fNe_int, Mv.fLen_tup, Mv.fMax2, Mv.fMin2, Mv.fInt, Mv.fAbs, Mv.mIsi, Mv.isT, Mv.gN, Mv.gT, Mv.setAll, Mv.wipeM, Mv.R.bind_ok, Mv.R.bind_bad, Mv.R.noX_ok, Mv.R.andS_ok, Mv.R.andS_bad, Mv.S.andS_nx, Mv.S.andS_rt, Mv.S.andS_bad, Mv.S.andS_bk, Mv.S.andS_ct, List.map_cons, List.map_nil, List.cons_append, List.nil_append, List.append_nil, List.replicate_succ, List.replicate_zero, List.length_cons, List.length_nil, List.set_cons_zero, List.set_cons_succ, List.getElem?_cons_zero, List.getElem?_cons_succ, List.getElem?_nil, Nat.reduceAdd, Nat.reduceSub, Nat.reduceEqDiff, Nat.reduceLeDiff, Nat.zero_add, if_true, if_false, Bool.not_true, Bool.not_false, Bool.false_eq_true, decide_true, decide_false, ite_true, ite_false, Option.some.injEq, reduceIte, Mv.mFld, Mv.mIsC, Mv.mMeth, Mv.mMake, Mv.mMakeK, Mv.mEqB, Mv.boolR, Mv.mRev, List.lookup_cons, List.lookup_nil, Nat.reduceBEq, beq_self_eq_true, Mv.ins_new, Mv.set_new, mLc, mRng1, G_period_of_eq v, hb]
  rw [comp_pure (l := List.range (periodN r)) (enc := fun (i : Nat) => MV.int (i : Int)) (cb := fun _ => true) (f := fun (i : Nat) => MV.int (settled r + (i : Int))) (fun i => by
    rw [itR_nx, Int.toNat_natCast, nats_prog]; unfold ivs; rw [List.map_map]; rfl) (by rw [List.length_range]; unfold cap; omega)]
  · rw [filter_yes]
    simp only [Mv.mDef, Mv.mSeq, Mv.mSet, Mv.mRet, Mv.mRetN, Mv.mIfS, Mv.mVar, Mv.mC, Mv.mBin, Mv.mChain, Mv.mCall, Mv.mDo, Mv.mCons, Mv.mNil, Mv.mAndV, Mv.mOrV, Mv.mNotV, Mv.mAsB, Mv.mAndT, Mv.mOrT, Mv.mNotT, Mv.mIf, Mv.mTup, Mv.mLst, Mv.mNext, Mv.mBad, Mv.mDrop, Mv.mPar, Mv.mAsg, Mv.mStore, Mv.mNeg, Mv.fNeg, Mv.mYes, Mv.mNoP, Mv.mPart, Mv.mSl, Mv.fI, Mv.fAdd, Mv.fSub, Mv.fMul, Mv.fMod, Mv.fDiv, Mv.fPow, Mv.fLt, Mv.fLe, Mv.fGt, Mv.fGe, Mv.yes2, Mv.fIsN, Mv.fNotN, Mv.isNon, Mv.fIx, Mv.items_tup, Mv.items_new, Mv.list_new, Mv.lstOf_new, Mv.fEq_int, Mv.fNe_int, Mv.fLen_tup, Mv.fMax2, Mv.fMin2, Mv.fInt, Mv.fAbs, Mv.mIsi, Mv.isT, Mv.gN, Mv.gT, Mv.setAll, Mv.wipeM, Mv.R.bind_ok, Mv.R.bind_bad, Mv.R.noX_ok, Mv.R.andS_ok, Mv.R.andS_bad, Mv.S.andS_nx, Mv.S.andS_rt, Mv.S.andS_bad, Mv.S.andS_bk, Mv.S.andS_ct, List.map_cons, List.map_nil, List.cons_append, List.nil_append, List.append_nil, List.replicate_succ, List.replicate_zero, List.length_cons, List.length_nil, List.set_cons_zero, List.set_cons_succ, List.getElem?_cons_zero, List.getElem?_cons_succ, List.getElem?_nil, Nat.reduceAdd, Nat.reduceSub, Nat.reduceEqDiff, Nat.reduceLeDiff, Nat.zero_add, if_true, if_false, Bool.not_true, Bool.not_false, Bool.false_eq_true, decide_true, decide_false, ite_true, ite_false, Option.some.injEq, reduceIte]
    unfold ivs timesL
    rw [List.map_map]
    rfl
  · intro i _
    refine ⟨_, rfl, ?_⟩
    simp only [Mv.mDef, Mv.mSeq, Mv.mSet, Mv.mRet, Mv.mRetN, Mv.mIfS, Mv.mVar, Mv.mC, Mv.mBin, Mv.mChain, Mv.mCall, Mv.mDo, Mv.mCons, Mv.mNil, Mv.mAndV, Mv.mOrV, Mv.mNotV, Mv.mAsB, Mv.mAndT, Mv.mOrT, Mv.mNotT, Mv.mIf, Mv.mTup, Mv.mLst, Mv.mNext, Mv.mBad, Mv.mDrop, Mv.mPar, Mv.mAsg, Mv.mStore, Mv.mNeg, Mv.fNeg, Mv.mYes, Mv.mNoP, Mv.mPart, Mv.mSl, Mv.fI, Mv.fAdd, Mv.fSub, Mv.fMul, Mv.fMod, Mv.fDiv, Mv.fPow, Mv.fLt, Mv.fLe, Mv.fGt, Mv.fGe, Mv.yes2, Mv.fIsN, Mv.fNotN, Mv.isNon, Mv.fIx, Mv.items_tup, Mv.items_new, Mv.list_new, Mv.lstOf_new, Mv.fEq_int, Mv.fNe_int, Mv.fLen_tup, Mv.fMax2, Mv.fMin2, Mv.fInt, Mv.fAbs, Mv.mIsi, Mv.isT, Mv.gN, Mv.gT, Mv.setAll, Mv.wipeM, Mv.R.bind_ok, Mv.R.bind_bad, Mv.R.noX_ok, Mv.R.andS_ok, Mv.R.andS_bad, Mv.S.andS_nx, Mv.S.andS_rt, Mv.S.andS_bad, Mv.S.andS_bk, Mv.S.andS_ct, List.map_cons, List.map_nil, List.cons_append, List.nil_append, List.append_nil, List.replicate_succ, List.replicate_zero, List.length_cons, List.length_nil, List.set_cons_zero, List.set_cons_succ, List.getElem?_cons_zero, List.getElem?_cons_succ, List.getElem?_nil, Nat.reduceAdd, Nat.reduceSub, Nat.reduceEqDiff, Nat.reduceLeDiff, Nat.zero_add, if_true, if_false, Bool.not_true, Bool.not_false, Bool.false_eq_true, decide_true, decide_false, ite_true, ite_false, Option.some.injEq, reduceIte, Mv.mFld, Mv.mIsC, Mv.mMeth, Mv.mMake, Mv.mMakeK, Mv.mEqB, Mv.boolR, Mv.mRev, List.lookup_cons, List.lookup_nil, Nat.reduceBEq, beq_self_eq_true, Mv.ins_new, Mv.set_new, G_settled_of_eq v]
    exact ⟨trivial, fun _ => trivial⟩
/-- Keeps (or Same) with a list of rows, Misses with a time and an age, Differ with a time -/
inductive Vd where
  | keeps (rows : List (List Int)) | misses (t a : Int)
  deriving DecidableEq
def rowsM (rows : List (List Int)) : List MV := rows.map fun l => .tup (ivs l)
def Vd.objs (k : Nat) : Vd → List MO
  | .keeps rows => [.ins 6 [.ref (k + 1)], .lst (rowsM rows)]
  | .misses t a => [.ins 7 [.int t, .int a]]
def Vd.At (h : MH) (n : Nat) : Vd → Prop
  | .keeps rows => ∃ l, h[n]? = some (.ins 6 [.ref l]) ∧ h[l]? = some (.lst (rowsM rows))
  | .misses t a => h[n]? = some (.ins 7 [.int t, .int a])
theorem Vd.At.app {h g : MH} {n : Nat} {v : Vd} (e : v.At h n) : v.At (h ++ g) n := by
  cases v with
  | keeps rows => obtain ⟨l, e1, e2⟩ := e; exact ⟨l, look_app e1, look_app e2⟩
  | misses t a => exact look_app e
theorem Vd.at_new (h : MH) (v : Vd) : v.At (h ++ v.objs h.length) h.length := by
  cases v with
  | keeps rows =>
    refine ⟨h.length + 1, by simp [Vd.objs], ?_⟩
    simp [Vd.objs]
  | misses t a => simp [Vd.At, Vd.objs]
theorem rowsM_inj {a b : List (List Int)} (e : rowsM a = rowsM b) : a = b := map_inj (fun x y q => tints_inj x y q) e
theorem Vd.At.uniq {h : MH} {n : Nat} {v w : Vd} (e : v.At h n) (f : w.At h n) : v = w := by
  cases v with
  | keeps rows =>
    obtain ⟨l, e1, e2⟩ := e
    cases w with
    | keeps rows' =>
      obtain ⟨l', f1, f2⟩ := f
      rw [e1] at f1
      simp only [Option.some.injEq, MO.ins.injEq, List.cons.injEq, MV.ref.injEq, and_true, true_and] at f1
      subst f1
      rw [e2] at f2
      simp only [Option.some.injEq, MO.lst.injEq] at f2
      rw [rowsM_inj f2]
    | misses t a =>
      have f : h[n]? = some (.ins 7 [.int t, .int a]) := f
      rw [e1] at f
      simp at f
  | misses t a =>
    have e : h[n]? = some (.ins 7 [.int t, .int a]) := e
    cases w with
    | keeps rows' =>
      obtain ⟨l', f1, f2⟩ := f
      rw [e] at f1
      simp at f1
    | misses t' a' =>
      have f : h[n]? = some (.ins 7 [.int t', .int a']) := f
      rw [e] at f
      simp only [Option.some.injEq, MO.ins.injEq, List.cons.injEq, MV.int.injEq, and_true, true_and] at f
      rw [f.1, f.2]
def judgeGo (P : Plan) (rows : List (Int × List Int)) : List (Int × List Int) → Vd
  | [] => .keeps (rows.map (·.2))
  | p :: r => if isGood P p.2 = true then judgeGo P rows r else .misses p.1 (firstB P p.2)
def judgeRows (P : Plan) (r : Rule) : List (Int × List Int) := (timesL r).map fun t => (t, stateAt P r t)
def judgeV (P : Plan) (r : Rule) : Vd := judgeGo P (judgeRows P r) (judgeRows P r)
theorem set_mid (h : MH) (o o' u : MO) : (h ++ [o] ++ [u]).set h.length o' = h ++ [o'] ++ [u] := by simp
theorem ins_mid (h : MH) (c : Nat) (vs : List MV) (u : MO) : insOf (h ++ [.ins c vs] ++ [u]) (.ref h.length) = some (c, vs) := by
  unfold insOf
  simp
theorem fList_at {h : MH} {n : Nat} {xs : List MV} (e : h[n]? = some (.lst xs)) (hl : xs.length ≤ cap) : fList [.ref n] h = .ok (.ref h.length) (h ++ [.lst xs]) := by
  unfold fList
  simp only [items_at e, if_pos hl]
theorem keeps_init {h : MH} {m : Nat} {xs : List MV} (e : h[m]? = some (.lst xs)) (hl : xs.length ≤ cap) : newIns 6 F_Keeps_init [.ref m] h = .ok (.ref h.length) (h ++ [.ins 6 [.ref (h.length + 1)], .lst xs]) := by
  unfold newIns F_Keeps_init m_Keeps_init
  have e' : (h ++ [MO.ins 6 []])[m]? = some (.lst xs) := look_app e
  simp only [Mv.mDef, Mv.mSeq, Mv.mSet, Mv.mRet, Mv.mRetN, Mv.mIfS, Mv.mVar, Mv.mC, Mv.mBin, Mv.mChain, Mv.mCall, Mv.mDo, Mv.mCons, Mv.mNil, Mv.mAndV, Mv.mOrV, Mv.mNotV, Mv.mAsB, Mv.mAndT, Mv.mOrT, Mv.mNotT, Mv.mIf, Mv.mTup, Mv.mLst, Mv.mNext, Mv.mBad, Mv.mDrop, Mv.mPar, Mv.mAsg, Mv.mStore, Mv.mNeg, Mv.fNeg, Mv.mYes, Mv.mNoP, Mv.mPart, Mv.mSl, Mv.fI, Mv.fAdd, Mv.fSub, Mv.fMul, Mv.fMod, Mv.fDiv, Mv.fPow, Mv.fLt, Mv.fLe, Mv.fGt, Mv.fGe, Mv.yes2, Mv.fIsN, Mv.fNotN, Mv.isNon, Mv.fIx, Mv.items_tup, Mv.items_new, Mv.list_new, Mv.lstOf_new, Mv.fEq_int, Mv.fNe_int, Mv.fLen_tup, Mv.fMax2, Mv.fMin2, Mv.fInt, Mv.fAbs, Mv.mIsi, Mv.isT, Mv.gN, Mv.gT, Mv.setAll, Mv.wipeM, Mv.R.bind_ok, Mv.R.bind_bad, Mv.R.noX_ok, Mv.R.andS_ok, Mv.R.andS_bad, Mv.S.andS_nx, Mv.S.andS_rt, Mv.S.andS_bad, Mv.S.andS_bk, Mv.S.andS_ct, List.map_cons, List.map_nil, List.cons_append, List.nil_append, List.append_nil, List.replicate_succ, List.replicate_zero, List.length_cons, List.length_nil, List.set_cons_zero, List.set_cons_succ, List.getElem?_cons_zero, List.getElem?_cons_succ, List.getElem?_nil, Nat.reduceAdd, Nat.reduceSub, Nat.reduceEqDiff, Nat.reduceLeDiff, Nat.zero_add, if_true, if_false, Bool.not_true, Bool.not_false, Bool.false_eq_true, decide_true, decide_false, ite_true, ite_false, Option.some.injEq, reduceIte, Mv.mFld, Mv.mIsC, Mv.mMeth, Mv.mMake, Mv.mMakeK, Mv.mEqB, Mv.boolR, Mv.mRev, List.lookup_cons, List.lookup_nil, Nat.reduceBEq, beq_self_eq_true, Mv.ins_new, Mv.set_new, Mv.mStF, fList_at e' hl, ins_mid, Nat.lt_irrefl, set_mid]
  simp
theorem misses_init (h : MH) (t a : Int) : newIns 7 F_Misses_init [.int t, .int a] h = .ok (.ref h.length) (h ++ [.ins 7 [.int t, .int a]]) := by
  unfold newIns F_Misses_init m_Misses_init
  simp only [Mv.mDef, Mv.mSeq, Mv.mSet, Mv.mRet, Mv.mRetN, Mv.mIfS, Mv.mVar, Mv.mC, Mv.mBin, Mv.mChain, Mv.mCall, Mv.mDo, Mv.mCons, Mv.mNil, Mv.mAndV, Mv.mOrV, Mv.mNotV, Mv.mAsB, Mv.mAndT, Mv.mOrT, Mv.mNotT, Mv.mIf, Mv.mTup, Mv.mLst, Mv.mNext, Mv.mBad, Mv.mDrop, Mv.mPar, Mv.mAsg, Mv.mStore, Mv.mNeg, Mv.fNeg, Mv.mYes, Mv.mNoP, Mv.mPart, Mv.mSl, Mv.fI, Mv.fAdd, Mv.fSub, Mv.fMul, Mv.fMod, Mv.fDiv, Mv.fPow, Mv.fLt, Mv.fLe, Mv.fGt, Mv.fGe, Mv.yes2, Mv.fIsN, Mv.fNotN, Mv.isNon, Mv.fIx, Mv.items_tup, Mv.items_new, Mv.list_new, Mv.lstOf_new, Mv.fEq_int, Mv.fNe_int, Mv.fLen_tup, Mv.fMax2, Mv.fMin2, Mv.fInt, Mv.fAbs, Mv.mIsi, Mv.isT, Mv.gN, Mv.gT, Mv.setAll, Mv.wipeM, Mv.R.bind_ok, Mv.R.bind_bad, Mv.R.noX_ok, Mv.R.andS_ok, Mv.R.andS_bad, Mv.S.andS_nx, Mv.S.andS_rt, Mv.S.andS_bad, Mv.S.andS_bk, Mv.S.andS_ct, List.map_cons, List.map_nil, List.cons_append, List.nil_append, List.append_nil, List.replicate_succ, List.replicate_zero, List.length_cons, List.length_nil, List.set_cons_zero, List.set_cons_succ, List.getElem?_cons_zero, List.getElem?_cons_succ, List.getElem?_nil, Nat.reduceAdd, Nat.reduceSub, Nat.reduceEqDiff, Nat.reduceLeDiff, Nat.zero_add, if_true, if_false, Bool.not_true, Bool.not_false, Bool.false_eq_true, decide_true, decide_false, ite_true, ite_false, Option.some.injEq, reduceIte, Mv.mFld, Mv.mIsC, Mv.mMeth, Mv.mMake, Mv.mMakeK, Mv.mEqB, Mv.boolR, Mv.mRev, List.lookup_cons, List.lookup_nil, Nat.reduceBEq, beq_self_eq_true, Mv.ins_new, Mv.set_new, Mv.mStF, Nat.lt_irrefl]
theorem und_rows (n : Nat) (rows : List (List Int)) : MV.unds n (rowsM rows) := unds_of fun x hx => by
  obtain ⟨l, _, rfl⟩ := List.mem_map.mp hx
  exact und_tints n l
/-- what an answer of this kind leaves behind besides is forgotten -/
theorem sim_vd {h g : MH} {n : Nat} {v : Vd} (e : v.At (h ++ g) n) (hn : h.length ≤ n) (hl : ∀ l, (h ++ g)[n]? = some (.ins 6 [.ref l]) → h.length ≤ l) : Sim h (.ok (.ref n) (h ++ g)) (.ok (.ref h.length) (h ++ v.objs h.length)) := by
  cases v with
  | keeps rows =>
    obtain ⟨l, e1, e2⟩ := e
    have hl := hl l e1
    have ne : n ≠ l := fun z => by rw [z, e2] at e1; simp at e1
    have := sim_ren (h := h) (h2 := h) (g := g) (g' := Vd.objs h.length (.keeps rows)) (v' := .ref h.length) [n, l] rfl id rfl (by simp [ne]) (by simp; omega) (fun j m o q1 q2 => by
      match j, q1, q2 with
      | 0, q1, q2 =>
        simp only [List.getElem?_cons_zero, Option.some.injEq, Vd.objs] at q1 q2
        subst q1 q2
        refine ⟨?_, by simp [MO.und, MV.unds, MV.und, Vd.objs]⟩
        rw [e1]
        simp [MO.ren, MV.rens, MV.ren, back]
        try (intros; omega)
      | 1, q1, q2 =>
        simp only [List.getElem?_cons_succ, List.getElem?_cons_zero, Option.some.injEq, Vd.objs] at q1 q2
        subst q1 q2
        refine ⟨?_, und_rows _ _⟩
        rw [e2]
        simp only [MO.ren, rens_id (n := h.length) (fun i hi => back_lt hi) _ (und_rows _ _)]
      | j + 2, q1, q2 => simp at q1) (by simp [MV.und, Vd.objs])
    have q : MV.ren (back h.length [n, l]) (.ref h.length) = .ref n := by simp [MV.ren, back]
    rw [q] at this
    exact this
  | misses t a =>
    have e : (h ++ g)[n]? = some (.ins 7 [.int t, .int a]) := e
    have := sim_ren (h := h) (h2 := h) (g := g) (g' := Vd.objs h.length (.misses t a)) (v' := .ref h.length) [n] rfl id rfl (by simp) (by simp; omega) (fun j m o q1 q2 => by
      match j, q1, q2 with
      | 0, q1, q2 =>
        simp only [List.getElem?_cons_zero, Option.some.injEq, Vd.objs] at q1 q2
        subst q1 q2
        refine ⟨?_, by simp [MO.und, MV.unds, MV.und, Vd.objs]⟩
        rw [e]
        simp [MO.ren, MV.rens, MV.ren, back]
      | j + 1, q1, q2 => simp at q1) (by simp [MV.und, Vd.objs])
    have q : MV.ren (back h.length [n]) (.ref h.length) = .ref n := by simp [MV.ren, back]
    rw [q] at this
    exact this
def pairM (p : Int × List Int) : MV := .tup [.int p.1, .tup (ivs p.2)]
noncomputable def G_times_of : List MV → MH → R MV := F_times_of G_period_of G_settled_of
noncomputable def G_state_at : List MV → MH → R MV := F_state_at G_held_at G_young
theorem times_pos {r : Rule} (v : Valid r) {t : Int} (ht : t ∈ timesL r) : 0 ≤ t := by
  obtain ⟨i, _, e⟩ := List.mem_map.mp ht
  obtain ⟨_, _, s1, _⟩ := settled_spec v
  omega
theorem F_judge_of_sim {h : MH} {n : Nat} {P : Plan} (e : HasP h n P) (k : P.Ok) {r : Rule} (v : Valid r) : Sim h (F_judge_of G_times_of G_state_at G_is_good F_Misses_init G_first_broken F_Keeps_init [.ref n, rv r] h) (.ok (.ref h.length) (h ++ (judgeV P r).objs h.length)) := by
  unfold F_judge_of m_judge_of G_times_of
  simp only [Mv.mDef, Mv.mSeq, Mv.mSet, Mv.mRet, Mv.mRetN, Mv.mIfS, Mv.mVar, Mv.mC, Mv.mBin, Mv.mChain, Mv.mCall, Mv.mDo, Mv.mCons, Mv.mNil, Mv.mAndV, Mv.mOrV, Mv.mNotV, Mv.mAsB, Mv.mAndT, Mv.mOrT, Mv.mNotT, Mv.mIf, Mv.mTup, Mv.mLst, Mv.mNext, Mv.mBad, Mv.mDrop, Mv.mPar, Mv.mAsg, Mv.mStore, Mv.mNeg, Mv.fNeg, Mv.mYes, Mv.mNoP, Mv.mPart, Mv.mSl, Mv.fI, Mv.fAdd, Mv.fSub, Mv.fMul, Mv.fMod, Mv.fDiv, Mv.fPow, Mv.fLt, Mv.fLe, Mv.fGt, Mv.fGe, Mv.yes2, Mv.fIsN, Mv.fNotN, Mv.isNon, Mv.fIx, Mv.items_tup, Mv.items_new, Mv.list_new, Mv.lstOf_new, Mv.fEq_int, Mv.fNe_int, Mv.fLen_tup, Mv.fMax2, Mv.fMin2, Mv.fInt, Mv.fAbs, Mv.mIsi, Mv.isT, Mv.gN, Mv.gT, Mv.setAll, Mv.wipeM, Mv.R.bind_ok, Mv.R.bind_bad, Mv.R.noX_ok, Mv.R.andS_ok, Mv.R.andS_bad, Mv.S.andS_nx, Mv.S.andS_rt, Mv.S.andS_bad, Mv.S.andS_bk, Mv.S.andS_ct, List.map_cons, List.map_nil, List.cons_append, List.nil_append, List.append_nil, List.replicate_succ, List.replicate_zero, List.length_cons, List.length_nil, List.set_cons_zero, List.set_cons_succ, List.getElem?_cons_zero, List.getElem?_cons_succ, List.getElem?_nil, Nat.reduceAdd, Nat.reduceSub, Nat.reduceEqDiff, Nat.reduceLeDiff, Nat.zero_add, if_true, if_false, Bool.not_true, Bool.not_false, Bool.false_eq_true, decide_true, decide_false, ite_true, ite_false, Option.some.injEq, reduceIte, Mv.mFld, Mv.mIsC, Mv.mMeth, Mv.mMake, Mv.mMakeK, Mv.mEqB, Mv.boolR, Mv.mRev, List.lookup_cons, List.lookup_nil, Nat.reduceBEq, beq_self_eq_true, Mv.ins_new, Mv.set_new, mLc, mItV, F_times_of_eq v]
  have tl : (timesL r).length ≤ cap := by
    unfold timesL
    rw [List.length_map, List.length_range]
    have := (period_60 v).2
    unfold cap
    omega
  have jl : (judgeRows P r).length ≤ cap := by unfold judgeRows; rw [List.length_map]; exact tl
  rw [comp_pure (h := h ++ [MO.lst (ivs (timesL r))]) (it := itL h.length) (l := timesL r) (enc := MV.int) (cb := fun _ => true) (f := fun t => pairM (t, stateAt P r t)) (fun i => itL_nx (look_new h _) i) tl]
  · rw [filter_yes]
    have em : (timesL r).map (fun t => pairM (t, stateAt P r t)) = (judgeRows P r).map pairM := by unfold judgeRows; rw [List.map_map]; rfl
    rw [em]
    generalize eh1 : h ++ [MO.lst (ivs (timesL r))] = h1
    have e1 : HasP h1 n P := by rw [← eh1]; exact e.app
    generalize eh2 : h1 ++ [MO.lst ((judgeRows P r).map pairM)] = h2
    have e2 : HasP h2 n P := by rw [← eh2]; exact e1.app
    have hrow : h2[h1.length]? = some (.lst ((judgeRows P r).map pairM)) := by rw [← eh2]; exact look_new _ _
    have hpre : ∃ g, h2 = h ++ g ∧ h.length ≤ h1.length := ⟨[MO.lst (ivs (timesL r))] ++ [MO.lst ((judgeRows P r).map pairM)], by rw [← eh2, ← eh1, List.append_assoc], by rw [← eh1]; simp⟩
    simp only [Mv.mDef, Mv.mSeq, Mv.mSet, Mv.mRet, Mv.mRetN, Mv.mIfS, Mv.mVar, Mv.mC, Mv.mBin, Mv.mChain, Mv.mCall, Mv.mDo, Mv.mCons, Mv.mNil, Mv.mAndV, Mv.mOrV, Mv.mNotV, Mv.mAsB, Mv.mAndT, Mv.mOrT, Mv.mNotT, Mv.mIf, Mv.mTup, Mv.mLst, Mv.mNext, Mv.mBad, Mv.mDrop, Mv.mPar, Mv.mAsg, Mv.mStore, Mv.mNeg, Mv.fNeg, Mv.mYes, Mv.mNoP, Mv.mPart, Mv.mSl, Mv.fI, Mv.fAdd, Mv.fSub, Mv.fMul, Mv.fMod, Mv.fDiv, Mv.fPow, Mv.fLt, Mv.fLe, Mv.fGt, Mv.fGe, Mv.yes2, Mv.fIsN, Mv.fNotN, Mv.isNon, Mv.fIx, Mv.items_tup, Mv.items_new, Mv.list_new, Mv.lstOf_new, Mv.fEq_int, Mv.fNe_int, Mv.fLen_tup, Mv.fMax2, Mv.fMin2, Mv.fInt, Mv.fAbs, Mv.mIsi, Mv.isT, Mv.gN, Mv.gT, Mv.setAll, Mv.wipeM, Mv.R.bind_ok, Mv.R.bind_bad, Mv.R.noX_ok, Mv.R.andS_ok, Mv.R.andS_bad, Mv.S.andS_nx, Mv.S.andS_rt, Mv.S.andS_bad, Mv.S.andS_bk, Mv.S.andS_ct, List.map_cons, List.map_nil, List.cons_append, List.nil_append, List.append_nil, List.replicate_succ, List.replicate_zero, List.length_cons, List.length_nil, List.set_cons_zero, List.set_cons_succ, List.getElem?_cons_zero, List.getElem?_cons_succ, List.getElem?_nil, Nat.reduceAdd, Nat.reduceSub, Nat.reduceEqDiff, Nat.reduceLeDiff, Nat.zero_add, if_true, if_false, Bool.not_true, Bool.not_false, Bool.false_eq_true, decide_true, decide_false, ite_true, ite_false, Option.some.injEq, reduceIte, Mv.mFld, Mv.mIsC, Mv.mMeth, Mv.mMake, Mv.mMakeK, Mv.mEqB, Mv.boolR, Mv.mRev, List.lookup_cons, List.lookup_nil, Nat.reduceBEq, beq_self_eq_true, Mv.ins_new, Mv.set_new, mFor, mItV, items_at hrow]
    -- the loop
    refine for_ind (it := itL h1.length) (xs := (judgeRows P r).map pairM) (P := fun s => Sim h (match s.andS (mRet (mMake 6 2 F_Keeps_init (mCons (mLc (mItV (mVar 2)) (gT [3, 4]) mYes (mVar 4) [3, 4]) mNil))) with
        | .nx _ h' => R.ok MV.non h' | .rt v h' => .ok v h' | .exc x _ h' => .exc x h' | _ => .bad) (.ok (.ref h.length) (h ++ (judgeV P r).objs h.length)))
      (fun i env h' => h' = h2 ∧ (∃ x3 x4, env = [some (.ref n), some (rv r), some (.ref h1.length), x3, x4]) ∧ judgeGo P (judgeRows P r) ((judgeRows P r).drop i) = judgeV P r)
      (fun i env h' hI => by rw [hI.1]; exact itL_nx hrow i) ?_ ?_ fuel 0 _ h2 ⟨rfl, ⟨none, none, rfl⟩, rfl⟩ (Nat.zero_le _) (by have := fuel_ge; rw [List.length_map]; unfold cap at jl; omega)
    · rintro env h' ⟨rfl, ⟨x3, x4, rfl⟩, hv⟩
      rw [List.length_map, List.drop_length] at hv
      simp only [Mv.mDef, Mv.mSeq, Mv.mSet, Mv.mRet, Mv.mRetN, Mv.mIfS, Mv.mVar, Mv.mC, Mv.mBin, Mv.mChain, Mv.mCall, Mv.mDo, Mv.mCons, Mv.mNil, Mv.mAndV, Mv.mOrV, Mv.mNotV, Mv.mAsB, Mv.mAndT, Mv.mOrT, Mv.mNotT, Mv.mIf, Mv.mTup, Mv.mLst, Mv.mNext, Mv.mBad, Mv.mDrop, Mv.mPar, Mv.mAsg, Mv.mStore, Mv.mNeg, Mv.fNeg, Mv.mYes, Mv.mNoP, Mv.mPart, Mv.mSl, Mv.fI, Mv.fAdd, Mv.fSub, Mv.fMul, Mv.fMod, Mv.fDiv, Mv.fPow, Mv.fLt, Mv.fLe, Mv.fGt, Mv.fGe, Mv.yes2, Mv.fIsN, Mv.fNotN, Mv.isNon, Mv.fIx, Mv.items_tup, Mv.items_new, Mv.list_new, Mv.lstOf_new, Mv.fEq_int, Mv.fNe_int, Mv.fLen_tup, Mv.fMax2, Mv.fMin2, Mv.fInt, Mv.fAbs, Mv.mIsi, Mv.isT, Mv.gN, Mv.gT, Mv.setAll, Mv.wipeM, Mv.R.bind_ok, Mv.R.bind_bad, Mv.R.noX_ok, Mv.R.andS_ok, Mv.R.andS_bad, Mv.S.andS_nx, Mv.S.andS_rt, Mv.S.andS_bad, Mv.S.andS_bk, Mv.S.andS_ct, List.map_cons, List.map_nil, List.cons_append, List.nil_append, List.append_nil, List.replicate_succ, List.replicate_zero, List.length_cons, List.length_nil, List.set_cons_zero, List.set_cons_succ, List.getElem?_cons_zero, List.getElem?_cons_succ, List.getElem?_nil, Nat.reduceAdd, Nat.reduceSub, Nat.reduceEqDiff, Nat.reduceLeDiff, Nat.zero_add, if_true, if_false, Bool.not_true, Bool.not_false, Bool.false_eq_true, decide_true, decide_false, ite_true, ite_false, Option.some.injEq, reduceIte, Mv.mFld, Mv.mIsC, Mv.mMeth, Mv.mMake, Mv.mMakeK, Mv.mEqB, Mv.boolR, Mv.mRev, List.lookup_cons, List.lookup_nil, Nat.reduceBEq, beq_self_eq_true, Mv.ins_new, Mv.set_new, mLc, mItV, items_at hrow]
      rw [comp_pure (it := itL h1.length) (l := judgeRows P r) (enc := pairM) (cb := fun _ => true) (f := fun p => .tup (ivs p.2)) (fun i => itL_nx hrow i) jl]
      · rw [filter_yes]
        have er : (judgeRows P r).map (fun p => MV.tup (ivs p.2)) = rowsM ((judgeRows P r).map (·.2)) := by unfold rowsM; rw [List.map_map]; rfl
        rw [er]
        simp only [Mv.mDef, Mv.mSeq, Mv.mSet, Mv.mRet, Mv.mRetN, Mv.mIfS, Mv.mVar, Mv.mC, Mv.mBin, Mv.mChain, Mv.mCall, Mv.mDo, Mv.mCons, Mv.mNil, Mv.mAndV, Mv.mOrV, Mv.mNotV, Mv.mAsB, Mv.mAndT, Mv.mOrT, Mv.mNotT, Mv.mIf, Mv.mTup, Mv.mLst, Mv.mNext, Mv.mBad, Mv.mDrop, Mv.mPar, Mv.mAsg, Mv.mStore, Mv.mNeg, Mv.fNeg, Mv.mYes, Mv.mNoP, Mv.mPart, Mv.mSl, Mv.fI, Mv.fAdd, Mv.fSub, Mv.fMul, Mv.fMod, Mv.fDiv, Mv.fPow, Mv.fLt, Mv.fLe, Mv.fGt, Mv.fGe, Mv.yes2, Mv.fIsN, Mv.fNotN, Mv.isNon, Mv.fIx, Mv.items_tup, Mv.items_new, Mv.list_new, Mv.lstOf_new, Mv.fEq_int, Mv.fNe_int, Mv.fLen_tup, Mv.fMax2, Mv.fMin2, Mv.fInt, Mv.fAbs, Mv.mIsi, Mv.isT, Mv.gN, Mv.gT, Mv.setAll, Mv.wipeM, Mv.R.bind_ok, Mv.R.bind_bad, Mv.R.noX_ok, Mv.R.andS_ok, Mv.R.andS_bad, Mv.S.andS_nx, Mv.S.andS_rt, Mv.S.andS_bad, Mv.S.andS_bk, Mv.S.andS_ct, List.map_cons, List.map_nil, List.cons_append, List.nil_append, List.append_nil, List.replicate_succ, List.replicate_zero, List.length_cons, List.length_nil, List.set_cons_zero, List.set_cons_succ, List.getElem?_cons_zero, List.getElem?_cons_succ, List.getElem?_nil, Nat.reduceAdd, Nat.reduceSub, Nat.reduceEqDiff, Nat.reduceLeDiff, Nat.zero_add, if_true, if_false, Bool.not_true, Bool.not_false, Bool.false_eq_true, decide_true, decide_false, ite_true, ite_false, Option.some.injEq, reduceIte, Mv.mFld, Mv.mIsC, Mv.mMeth, Mv.mMake, Mv.mMakeK, Mv.mEqB, Mv.boolR, Mv.mRev, List.lookup_cons, List.lookup_nil, Nat.reduceBEq, beq_self_eq_true, Mv.ins_new, Mv.set_new, keeps_init (look_new h' _) (show (rowsM ((judgeRows P r).map (·.2))).length ≤ cap by unfold rowsM; rw [List.length_map, List.length_map]; exact jl)]
        obtain ⟨g, eg, hg⟩ := hpre
        have hlen : h.length ≤ h'.length := by rw [eg]; simp
        rw [← hv]
        have at1 := Vd.at_new (h' ++ [MO.lst (rowsM ((judgeRows P r).map (·.2)))]) (.keeps ((judgeRows P r).map (·.2)))
        have eq : h' ++ [MO.lst (rowsM ((judgeRows P r).map (·.2)))] ++ [MO.ins 6 [.ref ((h' ++ [MO.lst (rowsM ((judgeRows P r).map (·.2)))]).length + 1)], MO.lst (rowsM ((judgeRows P r).map (·.2)))] = h ++ (g ++ ([MO.lst (rowsM ((judgeRows P r).map (·.2)))] ++ [MO.ins 6 [.ref ((h' ++ [MO.lst (rowsM ((judgeRows P r).map (·.2)))]).length + 1)], MO.lst (rowsM ((judgeRows P r).map (·.2)))])) := by
          conv => lhs; lhs; lhs; rw [eg]
          simp only [List.append_assoc]
        have at2 : (Vd.keeps ((judgeRows P r).map (·.2))).At (h ++ (g ++ ([MO.lst (rowsM ((judgeRows P r).map (·.2)))] ++ [MO.ins 6 [.ref ((h' ++ [MO.lst (rowsM ((judgeRows P r).map (·.2)))]).length + 1)], MO.lst (rowsM ((judgeRows P r).map (·.2)))]))) (h' ++ [MO.lst (rowsM ((judgeRows P r).map (·.2)))]).length := by
          rw [← eq]; exact at1
        rw [eq]
        refine sim_vd at2 (by rw [List.length_append]; omega) (fun l q => ?_)
        rw [← eq] at q
        simp only [List.getElem?_append_right (Nat.le_refl _), Nat.sub_self, List.getElem?_cons_zero, Option.some.injEq, MO.ins.injEq, List.cons.injEq, MV.ref.injEq, and_true, true_and] at q
        rw [← q, List.length_append]
        omega
      · intro p _
        refine ⟨_, rfl, ?_⟩
        simp only [Mv.mDef, Mv.mSeq, Mv.mSet, Mv.mRet, Mv.mRetN, Mv.mIfS, Mv.mVar, Mv.mC, Mv.mBin, Mv.mChain, Mv.mCall, Mv.mDo, Mv.mCons, Mv.mNil, Mv.mAndV, Mv.mOrV, Mv.mNotV, Mv.mAsB, Mv.mAndT, Mv.mOrT, Mv.mNotT, Mv.mIf, Mv.mTup, Mv.mLst, Mv.mNext, Mv.mBad, Mv.mDrop, Mv.mPar, Mv.mAsg, Mv.mStore, Mv.mNeg, Mv.fNeg, Mv.mYes, Mv.mNoP, Mv.mPart, Mv.mSl, Mv.fI, Mv.fAdd, Mv.fSub, Mv.fMul, Mv.fMod, Mv.fDiv, Mv.fPow, Mv.fLt, Mv.fLe, Mv.fGt, Mv.fGe, Mv.yes2, Mv.fIsN, Mv.fNotN, Mv.isNon, Mv.fIx, Mv.items_tup, Mv.items_new, Mv.list_new, Mv.lstOf_new, Mv.fEq_int, Mv.fNe_int, Mv.fLen_tup, Mv.fMax2, Mv.fMin2, Mv.fInt, Mv.fAbs, Mv.mIsi, Mv.isT, Mv.gN, Mv.gT, Mv.setAll, Mv.wipeM, Mv.R.bind_ok, Mv.R.bind_bad, Mv.R.noX_ok, Mv.R.andS_ok, Mv.R.andS_bad, Mv.S.andS_nx, Mv.S.andS_rt, Mv.S.andS_bad, Mv.S.andS_bk, Mv.S.andS_ct, List.map_cons, List.map_nil, List.cons_append, List.nil_append, List.append_nil, List.replicate_succ, List.replicate_zero, List.length_cons, List.length_nil, List.set_cons_zero, List.set_cons_succ, List.getElem?_cons_zero, List.getElem?_cons_succ, List.getElem?_nil, Nat.reduceAdd, Nat.reduceSub, Nat.reduceEqDiff, Nat.reduceLeDiff, Nat.zero_add, if_true, if_false, Bool.not_true, Bool.not_false, Bool.false_eq_true, decide_true, decide_false, ite_true, ite_false, Option.some.injEq, reduceIte, Mv.mFld, Mv.mIsC, Mv.mMeth, Mv.mMake, Mv.mMakeK, Mv.mEqB, Mv.boolR, Mv.mRev, List.lookup_cons, List.lookup_nil, Nat.reduceBEq, beq_self_eq_true, Mv.ins_new, Mv.set_new]
        exact ⟨trivial, fun _ => trivial⟩
    · rintro i x env h' hx ⟨rfl, ⟨x3, x4, rfl⟩, hv⟩
      rw [List.getElem?_map] at hx
      cases q : (judgeRows P r)[i]? with
      | none => rw [q] at hx; cases hx
      | some p =>
        rw [q] at hx
        cases hx
        obtain ⟨hi, ei⟩ := List.getElem?_eq_some_iff.mp q
        have hc : (p.2).length ≤ cap := by
          have := List.mem_of_getElem? q
          obtain ⟨t, _, rfl⟩ := List.mem_map.mp this
          exact state_cap v t
        rw [List.drop_eq_getElem_cons hi, ei] at hv
        refine ⟨_, rfl, ?_⟩
        cases hg : isGood P p.2 with
        | true =>
          simp only [Mv.mDef, Mv.mSeq, Mv.mSet, Mv.mRet, Mv.mRetN, Mv.mIfS, Mv.mVar, Mv.mC, Mv.mBin, Mv.mChain, Mv.mCall, Mv.mDo, Mv.mCons, Mv.mNil, Mv.mAndV, Mv.mOrV, Mv.mNotV, Mv.mAsB, Mv.mAndT, Mv.mOrT, Mv.mNotT, Mv.mIf, Mv.mTup, Mv.mLst, Mv.mNext, Mv.mBad, Mv.mDrop, Mv.mPar, Mv.mAsg, Mv.mStore, Mv.mNeg, Mv.fNeg, Mv.mYes, Mv.mNoP, Mv.mPart, Mv.mSl, Mv.fI, Mv.fAdd, Mv.fSub, Mv.fMul, Mv.fMod, Mv.fDiv, Mv.fPow, Mv.fLt, Mv.fLe, Mv.fGt, Mv.fGe, Mv.yes2, Mv.fIsN, Mv.fNotN, Mv.isNon, Mv.fIx, Mv.items_tup, Mv.items_new, Mv.list_new, Mv.lstOf_new, Mv.fEq_int, Mv.fNe_int, Mv.fLen_tup, Mv.fMax2, Mv.fMin2, Mv.fInt, Mv.fAbs, Mv.mIsi, Mv.isT, Mv.gN, Mv.gT, Mv.setAll, Mv.wipeM, Mv.R.bind_ok, Mv.R.bind_bad, Mv.R.noX_ok, Mv.R.andS_ok, Mv.R.andS_bad, Mv.S.andS_nx, Mv.S.andS_rt, Mv.S.andS_bad, Mv.S.andS_bk, Mv.S.andS_ct, List.map_cons, List.map_nil, List.cons_append, List.nil_append, List.append_nil, List.replicate_succ, List.replicate_zero, List.length_cons, List.length_nil, List.set_cons_zero, List.set_cons_succ, List.getElem?_cons_zero, List.getElem?_cons_succ, List.getElem?_nil, Nat.reduceAdd, Nat.reduceSub, Nat.reduceEqDiff, Nat.reduceLeDiff, Nat.zero_add, if_true, if_false, Bool.not_true, Bool.not_false, Bool.false_eq_true, decide_true, decide_false, ite_true, ite_false, Option.some.injEq, reduceIte, Mv.mFld, Mv.mIsC, Mv.mMeth, Mv.mMake, Mv.mMakeK, Mv.mEqB, Mv.boolR, Mv.mRev, List.lookup_cons, List.lookup_nil, Nat.reduceBEq, beq_self_eq_true, Mv.ins_new, Mv.set_new, G_is_good_eq e2 k p.2 hc, hg]
          refine ⟨trivial, ⟨_, _, rfl⟩, ?_⟩
          rw [← hv]
          simp only [judgeGo, hg, if_true]
        | false =>
          have hv2 : judgeV P r = .misses p.1 (firstB P p.2) := by rw [← hv]; simp only [judgeGo, hg]; rfl
          simp only [Mv.mDef, Mv.mSeq, Mv.mSet, Mv.mRet, Mv.mRetN, Mv.mIfS, Mv.mVar, Mv.mC, Mv.mBin, Mv.mChain, Mv.mCall, Mv.mDo, Mv.mCons, Mv.mNil, Mv.mAndV, Mv.mOrV, Mv.mNotV, Mv.mAsB, Mv.mAndT, Mv.mOrT, Mv.mNotT, Mv.mIf, Mv.mTup, Mv.mLst, Mv.mNext, Mv.mBad, Mv.mDrop, Mv.mPar, Mv.mAsg, Mv.mStore, Mv.mNeg, Mv.fNeg, Mv.mYes, Mv.mNoP, Mv.mPart, Mv.mSl, Mv.fI, Mv.fAdd, Mv.fSub, Mv.fMul, Mv.fMod, Mv.fDiv, Mv.fPow, Mv.fLt, Mv.fLe, Mv.fGt, Mv.fGe, Mv.yes2, Mv.fIsN, Mv.fNotN, Mv.isNon, Mv.fIx, Mv.items_tup, Mv.items_new, Mv.list_new, Mv.lstOf_new, Mv.fEq_int, Mv.fNe_int, Mv.fLen_tup, Mv.fMax2, Mv.fMin2, Mv.fInt, Mv.fAbs, Mv.mIsi, Mv.isT, Mv.gN, Mv.gT, Mv.setAll, Mv.wipeM, Mv.R.bind_ok, Mv.R.bind_bad, Mv.R.noX_ok, Mv.R.andS_ok, Mv.R.andS_bad, Mv.S.andS_nx, Mv.S.andS_rt, Mv.S.andS_bad, Mv.S.andS_bk, Mv.S.andS_ct, List.map_cons, List.map_nil, List.cons_append, List.nil_append, List.append_nil, List.replicate_succ, List.replicate_zero, List.length_cons, List.length_nil, List.set_cons_zero, List.set_cons_succ, List.getElem?_cons_zero, List.getElem?_cons_succ, List.getElem?_nil, Nat.reduceAdd, Nat.reduceSub, Nat.reduceEqDiff, Nat.reduceLeDiff, Nat.zero_add, if_true, if_false, Bool.not_true, Bool.not_false, Bool.false_eq_true, decide_true, decide_false, ite_true, ite_false, Option.some.injEq, reduceIte, Mv.mFld, Mv.mIsC, Mv.mMeth, Mv.mMake, Mv.mMakeK, Mv.mEqB, Mv.boolR, Mv.mRev, List.lookup_cons, List.lookup_nil, Nat.reduceBEq, beq_self_eq_true, Mv.ins_new, Mv.set_new, G_is_good_eq e2 k p.2 hc, hg, G_first_broken_eq e2 k p.2 hc hg, misses_init]
          obtain ⟨g, eg, hg'⟩ := hpre
          rw [hv2]
          have hlen : h.length ≤ h'.length := by rw [eg]; simp
          have eq : h' ++ [MO.ins 7 [.int p.1, .int (firstB P p.2)]] = h ++ (g ++ [MO.ins 7 [.int p.1, .int (firstB P p.2)]]) := by
            conv => lhs; lhs; rw [eg]
            simp only [List.append_assoc]
          rw [eq]
          refine sim_vd (v := .misses p.1 (firstB P p.2)) ?_ hlen (fun l q => ?_)
          · rw [← eq]; exact look_new _ _
          · rw [← eq, look_new] at q; simp at q
  · intro t ht
    refine ⟨_, rfl, ?_⟩
    unfold G_state_at
    simp only [Mv.mDef, Mv.mSeq, Mv.mSet, Mv.mRet, Mv.mRetN, Mv.mIfS, Mv.mVar, Mv.mC, Mv.mBin, Mv.mChain, Mv.mCall, Mv.mDo, Mv.mCons, Mv.mNil, Mv.mAndV, Mv.mOrV, Mv.mNotV, Mv.mAsB, Mv.mAndT, Mv.mOrT, Mv.mNotT, Mv.mIf, Mv.mTup, Mv.mLst, Mv.mNext, Mv.mBad, Mv.mDrop, Mv.mPar, Mv.mAsg, Mv.mStore, Mv.mNeg, Mv.fNeg, Mv.mYes, Mv.mNoP, Mv.mPart, Mv.mSl, Mv.fI, Mv.fAdd, Mv.fSub, Mv.fMul, Mv.fMod, Mv.fDiv, Mv.fPow, Mv.fLt, Mv.fLe, Mv.fGt, Mv.fGe, Mv.yes2, Mv.fIsN, Mv.fNotN, Mv.isNon, Mv.fIx, Mv.items_tup, Mv.items_new, Mv.list_new, Mv.lstOf_new, Mv.fEq_int, Mv.fNe_int, Mv.fLen_tup, Mv.fMax2, Mv.fMin2, Mv.fInt, Mv.fAbs, Mv.mIsi, Mv.isT, Mv.gN, Mv.gT, Mv.setAll, Mv.wipeM, Mv.R.bind_ok, Mv.R.bind_bad, Mv.R.noX_ok, Mv.R.andS_ok, Mv.R.andS_bad, Mv.S.andS_nx, Mv.S.andS_rt, Mv.S.andS_bad, Mv.S.andS_bk, Mv.S.andS_ct, List.map_cons, List.map_nil, List.cons_append, List.nil_append, List.append_nil, List.replicate_succ, List.replicate_zero, List.length_cons, List.length_nil, List.set_cons_zero, List.set_cons_succ, List.getElem?_cons_zero, List.getElem?_cons_succ, List.getElem?_nil, Nat.reduceAdd, Nat.reduceSub, Nat.reduceEqDiff, Nat.reduceLeDiff, Nat.zero_add, if_true, if_false, Bool.not_true, Bool.not_false, Bool.false_eq_true, decide_true, decide_false, ite_true, ite_false, Option.some.injEq, reduceIte, Mv.mFld, Mv.mIsC, Mv.mMeth, Mv.mMake, Mv.mMakeK, Mv.mEqB, Mv.boolR, Mv.mRev, List.lookup_cons, List.lookup_nil, Nat.reduceBEq, beq_self_eq_true, Mv.ins_new, Mv.set_new, F_state_at_eq (e.app (g := [MO.lst (ivs (timesL r))])) k v (t := t) (by have := times_pos v ht; omega), cap2]
    exact ⟨trivial, fun _ => rfl⟩


/-! ### judge, does_keep, == , shows -/
noncomputable def G_judge_of : List MV → MH → R MV := specH (α := Nat × Plan × Rule) (fun a => [.ref a.1, rv a.2.2]) (fun a h => HasP h a.1 a.2.1 ∧ a.2.1.Ok ∧ Valid a.2.2) fun a h => .ok (.ref h.length) (h ++ (judgeV a.2.1 a.2.2).objs h.length)
theorem G_judge_of_eq {h : MH} {n : Nat} {P : Plan} (e : HasP h n P) (k : P.Ok) {r : Rule} (v : Valid r) : G_judge_of [.ref n, rv r] h = .ok (.ref h.length) (h ++ (judgeV P r).objs h.length) :=
  specH_eq (a := ((n, P, r) : Nat × Plan × Rule)) (fun x y q d1 d2 => by
    obtain ⟨x1, x2, x3⟩ := x
    obtain ⟨y1, y2, y3⟩ := y
    simp only [List.cons.injEq, MV.ref.injEq, and_true] at q
    obtain ⟨rfl, q⟩ := q
    have e1 : x3 = y3 := rv_inj q
    subst e1
    have e2 : x2 = y2 := HasP.uniq d1.1 d2.1
    subst e2
    rfl) ⟨e, k, v⟩
theorem sim_judge_of (xs : List MV) (h : MH) : Sim h (F_judge_of G_times_of G_state_at G_is_good F_Misses_init G_first_broken F_Keeps_init xs h) (G_judge_of xs h) := specH_sim (fun a h d => F_judge_of_sim d.1 d.2.1 d.2.2) xs h
noncomputable def G_judge : List MV → MH → R MV := F_judge F_check_promise G_check_rule G_judge_of
theorem G_judge_eq {h : MH} {n : Nat} {P : Plan} (e : HasP h n P) (k : P.Ok) {r : Rule} (v : Valid r) : G_judge [.ref n, rv r] h = .ok (.ref h.length) (h ++ (judgeV P r).objs h.length) := by
  unfold G_judge F_judge m_judge G_check_rule
  simp only [Mv.mDef, Mv.mSeq, Mv.mSet, Mv.mRet, Mv.mRetN, Mv.mIfS, Mv.mVar, Mv.mC, Mv.mBin, Mv.mChain, Mv.mCall, Mv.mDo, Mv.mCons, Mv.mNil, Mv.mAndV, Mv.mOrV, Mv.mNotV, Mv.mAsB, Mv.mAndT, Mv.mOrT, Mv.mNotT, Mv.mIf, Mv.mTup, Mv.mLst, Mv.mNext, Mv.mBad, Mv.mDrop, Mv.mPar, Mv.mAsg, Mv.mStore, Mv.mNeg, Mv.fNeg, Mv.mYes, Mv.mNoP, Mv.mPart, Mv.mSl, Mv.fI, Mv.fAdd, Mv.fSub, Mv.fMul, Mv.fMod, Mv.fDiv, Mv.fPow, Mv.fLt, Mv.fLe, Mv.fGt, Mv.fGe, Mv.yes2, Mv.fIsN, Mv.fNotN, Mv.isNon, Mv.fIx, Mv.items_tup, Mv.items_new, Mv.list_new, Mv.lstOf_new, Mv.fEq_int, Mv.fNe_int, Mv.fLen_tup, Mv.fMax2, Mv.fMin2, Mv.fInt, Mv.fAbs, Mv.mIsi, Mv.isT, Mv.gN, Mv.gT, Mv.setAll, Mv.wipeM, Mv.R.bind_ok, Mv.R.bind_bad, Mv.R.noX_ok, Mv.R.andS_ok, Mv.R.andS_bad, Mv.S.andS_nx, Mv.S.andS_rt, Mv.S.andS_bad, Mv.S.andS_bk, Mv.S.andS_ct, List.map_cons, List.map_nil, List.cons_append, List.nil_append, List.append_nil, List.replicate_succ, List.replicate_zero, List.length_cons, List.length_nil, List.set_cons_zero, List.set_cons_succ, List.getElem?_cons_zero, List.getElem?_cons_succ, List.getElem?_nil, Nat.reduceAdd, Nat.reduceSub, Nat.reduceEqDiff, Nat.reduceLeDiff, Nat.zero_add, if_true, if_false, Bool.not_true, Bool.not_false, Bool.false_eq_true, decide_true, decide_false, ite_true, ite_false, Option.some.injEq, reduceIte, Mv.mFld, Mv.mIsC, Mv.mMeth, Mv.mMake, Mv.mMakeK, Mv.mEqB, Mv.boolR, Mv.mRev, List.lookup_cons, List.lookup_nil, Nat.reduceBEq, beq_self_eq_true, Mv.ins_new, Mv.set_new, F_check_promise_eq e, F_check_rule_eq v, G_judge_of_eq e k v]
def Vd.isK : Vd → Bool
  | .keeps _ => true
  | .misses _ _ => false
noncomputable def G_does_keep : List MV → MH → R MV := specH (α := Nat × Plan × Rule) (fun a => [.ref a.1, rv a.2.2]) (fun a h => HasP h a.1 a.2.1 ∧ a.2.1.Ok ∧ Valid a.2.2) fun a h => .ok (.bl (judgeV a.2.1 a.2.2).isK) h
theorem G_does_keep_eq {h : MH} {n : Nat} {P : Plan} (e : HasP h n P) (k : P.Ok) {r : Rule} (v : Valid r) : G_does_keep [.ref n, rv r] h = .ok (.bl (judgeV P r).isK) h :=
  specH_eq (a := ((n, P, r) : Nat × Plan × Rule)) (fun x y q d1 d2 => by
    obtain ⟨x1, x2, x3⟩ := x
    obtain ⟨y1, y2, y3⟩ := y
    simp only [List.cons.injEq, MV.ref.injEq, and_true] at q
    obtain ⟨rfl, q⟩ := q
    have e1 : x3 = y3 := rv_inj q
    subst e1
    have e2 : x2 = y2 := HasP.uniq d1.1 d2.1
    subst e2
    rfl) ⟨e, k, v⟩
theorem F_Keeps_eq_eq {h : MH} {a b : Nat} {rows : List (List Int)} {w : Vd} (e : (Vd.keeps rows).At h a) (f : w.At h b) : F_Keeps_eq [.ref a, .ref b] h = .ok (.bl (decide (Vd.keeps rows = w))) h := by
  unfold F_Keeps_eq m_Keeps_eq
  obtain ⟨l, e1, e2⟩ := e
  cases w with
  | keeps rows' =>
    obtain ⟨l', f1, f2⟩ := f
    have q : decide (Vd.keeps rows = Vd.keeps rows') = decide (rows = rows') := decide_eq_decide.mpr ⟨fun z => by cases z; rfl, fun z => by rw [z]⟩
    rw [q]
    simp only [Mv.mDef, Mv.mSeq, Mv.mSet, Mv.mRet, Mv.mRetN, Mv.mIfS, Mv.mVar, Mv.mC, Mv.mBin, Mv.mChain, Mv.mCall, Mv.mDo, Mv.mCons, Mv.mNil, Mv.mAndV, Mv.mOrV, Mv.mNotV, Mv.mAsB, Mv.mAndT, Mv.mOrT, Mv.mNotT, Mv.mIf, Mv.mTup, Mv.mLst, Mv.mNext, Mv.mBad, Mv.mDrop, Mv.mPar, Mv.mAsg, Mv.mStore, Mv.mNeg, Mv.fNeg, Mv.mYes, Mv.mNoP, Mv.mPart, Mv.mSl, Mv.fI, Mv.fAdd, Mv.fSub, Mv.fMul, Mv.fMod, Mv.fDiv, Mv.fPow, Mv.fLt, Mv.fLe, Mv.fGt, Mv.fGe, Mv.yes2, Mv.fIsN, Mv.fNotN, Mv.isNon, Mv.fIx, Mv.items_tup, Mv.items_new, Mv.list_new, Mv.lstOf_new, Mv.fEq_int, Mv.fNe_int, Mv.fLen_tup, Mv.fMax2, Mv.fMin2, Mv.fInt, Mv.fAbs, Mv.mIsi, Mv.isT, Mv.gN, Mv.gT, Mv.setAll, Mv.wipeM, Mv.R.bind_ok, Mv.R.bind_bad, Mv.R.noX_ok, Mv.R.andS_ok, Mv.R.andS_bad, Mv.S.andS_nx, Mv.S.andS_rt, Mv.S.andS_bad, Mv.S.andS_bk, Mv.S.andS_ct, List.map_cons, List.map_nil, List.cons_append, List.nil_append, List.append_nil, List.replicate_succ, List.replicate_zero, List.length_cons, List.length_nil, List.set_cons_zero, List.set_cons_succ, List.getElem?_cons_zero, List.getElem?_cons_succ, List.getElem?_nil, Nat.reduceAdd, Nat.reduceSub, Nat.reduceEqDiff, Nat.reduceLeDiff, Nat.zero_add, if_true, if_false, Bool.not_true, Bool.not_false, Bool.false_eq_true, decide_true, decide_false, ite_true, ite_false, Option.some.injEq, reduceIte, Mv.mFld, Mv.mIsC, Mv.mMeth, Mv.mMake, Mv.mMakeK, Mv.mEqB, Mv.boolR, Mv.mRev, List.lookup_cons, List.lookup_nil, Nat.reduceBEq, beq_self_eq_true, Mv.ins_new, Mv.set_new, ins_at e1, ins_at f1, fEq_rows e2 f2]
  | misses t x =>
    have f : h[b]? = some (.ins 7 [.int t, .int x]) := f
    have q : decide (Vd.keeps rows = Vd.misses t x) = false := decide_eq_false (fun z => by cases z)
    rw [q]
    simp only [Mv.mDef, Mv.mSeq, Mv.mSet, Mv.mRet, Mv.mRetN, Mv.mIfS, Mv.mVar, Mv.mC, Mv.mBin, Mv.mChain, Mv.mCall, Mv.mDo, Mv.mCons, Mv.mNil, Mv.mAndV, Mv.mOrV, Mv.mNotV, Mv.mAsB, Mv.mAndT, Mv.mOrT, Mv.mNotT, Mv.mIf, Mv.mTup, Mv.mLst, Mv.mNext, Mv.mBad, Mv.mDrop, Mv.mPar, Mv.mAsg, Mv.mStore, Mv.mNeg, Mv.fNeg, Mv.mYes, Mv.mNoP, Mv.mPart, Mv.mSl, Mv.fI, Mv.fAdd, Mv.fSub, Mv.fMul, Mv.fMod, Mv.fDiv, Mv.fPow, Mv.fLt, Mv.fLe, Mv.fGt, Mv.fGe, Mv.yes2, Mv.fIsN, Mv.fNotN, Mv.isNon, Mv.fIx, Mv.items_tup, Mv.items_new, Mv.list_new, Mv.lstOf_new, Mv.fEq_int, Mv.fNe_int, Mv.fLen_tup, Mv.fMax2, Mv.fMin2, Mv.fInt, Mv.fAbs, Mv.mIsi, Mv.isT, Mv.gN, Mv.gT, Mv.setAll, Mv.wipeM, Mv.R.bind_ok, Mv.R.bind_bad, Mv.R.noX_ok, Mv.R.andS_ok, Mv.R.andS_bad, Mv.S.andS_nx, Mv.S.andS_rt, Mv.S.andS_bad, Mv.S.andS_bk, Mv.S.andS_ct, List.map_cons, List.map_nil, List.cons_append, List.nil_append, List.append_nil, List.replicate_succ, List.replicate_zero, List.length_cons, List.length_nil, List.set_cons_zero, List.set_cons_succ, List.getElem?_cons_zero, List.getElem?_cons_succ, List.getElem?_nil, Nat.reduceAdd, Nat.reduceSub, Nat.reduceEqDiff, Nat.reduceLeDiff, Nat.zero_add, if_true, if_false, Bool.not_true, Bool.not_false, Bool.false_eq_true, decide_true, decide_false, ite_true, ite_false, Option.some.injEq, reduceIte, Mv.mFld, Mv.mIsC, Mv.mMeth, Mv.mMake, Mv.mMakeK, Mv.mEqB, Mv.boolR, Mv.mRev, List.lookup_cons, List.lookup_nil, Nat.reduceBEq, beq_self_eq_true, Mv.ins_new, Mv.set_new, ins_at e1, ins_at f]
theorem F_Misses_eq_eq {h : MH} {a b : Nat} {t x : Int} {w : Vd} (e : (Vd.misses t x).At h a) (f : w.At h b) : F_Misses_eq [.ref a, .ref b] h = .ok (.bl (decide (Vd.misses t x = w))) h := by
  unfold F_Misses_eq m_Misses_eq
  have e : h[a]? = some (.ins 7 [.int t, .int x]) := e
  cases w with
  | keeps rows' =>
    obtain ⟨l', f1, f2⟩ := f
    have q : decide (Vd.misses t x = Vd.keeps rows') = false := decide_eq_false (fun z => by cases z)
    rw [q]
    simp only [Mv.mDef, Mv.mSeq, Mv.mSet, Mv.mRet, Mv.mRetN, Mv.mIfS, Mv.mVar, Mv.mC, Mv.mBin, Mv.mChain, Mv.mCall, Mv.mDo, Mv.mCons, Mv.mNil, Mv.mAndV, Mv.mOrV, Mv.mNotV, Mv.mAsB, Mv.mAndT, Mv.mOrT, Mv.mNotT, Mv.mIf, Mv.mTup, Mv.mLst, Mv.mNext, Mv.mBad, Mv.mDrop, Mv.mPar, Mv.mAsg, Mv.mStore, Mv.mNeg, Mv.fNeg, Mv.mYes, Mv.mNoP, Mv.mPart, Mv.mSl, Mv.fI, Mv.fAdd, Mv.fSub, Mv.fMul, Mv.fMod, Mv.fDiv, Mv.fPow, Mv.fLt, Mv.fLe, Mv.fGt, Mv.fGe, Mv.yes2, Mv.fIsN, Mv.fNotN, Mv.isNon, Mv.fIx, Mv.items_tup, Mv.items_new, Mv.list_new, Mv.lstOf_new, Mv.fEq_int, Mv.fNe_int, Mv.fLen_tup, Mv.fMax2, Mv.fMin2, Mv.fInt, Mv.fAbs, Mv.mIsi, Mv.isT, Mv.gN, Mv.gT, Mv.setAll, Mv.wipeM, Mv.R.bind_ok, Mv.R.bind_bad, Mv.R.noX_ok, Mv.R.andS_ok, Mv.R.andS_bad, Mv.S.andS_nx, Mv.S.andS_rt, Mv.S.andS_bad, Mv.S.andS_bk, Mv.S.andS_ct, List.map_cons, List.map_nil, List.cons_append, List.nil_append, List.append_nil, List.replicate_succ, List.replicate_zero, List.length_cons, List.length_nil, List.set_cons_zero, List.set_cons_succ, List.getElem?_cons_zero, List.getElem?_cons_succ, List.getElem?_nil, Nat.reduceAdd, Nat.reduceSub, Nat.reduceEqDiff, Nat.reduceLeDiff, Nat.zero_add, if_true, if_false, Bool.not_true, Bool.not_false, Bool.false_eq_true, decide_true, decide_false, ite_true, ite_false, Option.some.injEq, reduceIte, Mv.mFld, Mv.mIsC, Mv.mMeth, Mv.mMake, Mv.mMakeK, Mv.mEqB, Mv.boolR, Mv.mRev, List.lookup_cons, List.lookup_nil, Nat.reduceBEq, beq_self_eq_true, Mv.ins_new, Mv.set_new, ins_at e, ins_at f1]
  | misses t' x' =>
    have f : h[b]? = some (.ins 7 [.int t', .int x']) := f
    simp only [Mv.mDef, Mv.mSeq, Mv.mSet, Mv.mRet, Mv.mRetN, Mv.mIfS, Mv.mVar, Mv.mC, Mv.mBin, Mv.mChain, Mv.mCall, Mv.mDo, Mv.mCons, Mv.mNil, Mv.mAndV, Mv.mOrV, Mv.mNotV, Mv.mAsB, Mv.mAndT, Mv.mOrT, Mv.mNotT, Mv.mIf, Mv.mTup, Mv.mLst, Mv.mNext, Mv.mBad, Mv.mDrop, Mv.mPar, Mv.mAsg, Mv.mStore, Mv.mNeg, Mv.fNeg, Mv.mYes, Mv.mNoP, Mv.mPart, Mv.mSl, Mv.fI, Mv.fAdd, Mv.fSub, Mv.fMul, Mv.fMod, Mv.fDiv, Mv.fPow, Mv.fLt, Mv.fLe, Mv.fGt, Mv.fGe, Mv.yes2, Mv.fIsN, Mv.fNotN, Mv.isNon, Mv.fIx, Mv.items_tup, Mv.items_new, Mv.list_new, Mv.lstOf_new, Mv.fEq_int, Mv.fNe_int, Mv.fLen_tup, Mv.fMax2, Mv.fMin2, Mv.fInt, Mv.fAbs, Mv.mIsi, Mv.isT, Mv.gN, Mv.gT, Mv.setAll, Mv.wipeM, Mv.R.bind_ok, Mv.R.bind_bad, Mv.R.noX_ok, Mv.R.andS_ok, Mv.R.andS_bad, Mv.S.andS_nx, Mv.S.andS_rt, Mv.S.andS_bad, Mv.S.andS_bk, Mv.S.andS_ct, List.map_cons, List.map_nil, List.cons_append, List.nil_append, List.append_nil, List.replicate_succ, List.replicate_zero, List.length_cons, List.length_nil, List.set_cons_zero, List.set_cons_succ, List.getElem?_cons_zero, List.getElem?_cons_succ, List.getElem?_nil, Nat.reduceAdd, Nat.reduceSub, Nat.reduceEqDiff, Nat.reduceLeDiff, Nat.zero_add, if_true, if_false, Bool.not_true, Bool.not_false, Bool.false_eq_true, decide_true, decide_false, ite_true, ite_false, Option.some.injEq, reduceIte, Mv.mFld, Mv.mIsC, Mv.mMeth, Mv.mMake, Mv.mMakeK, Mv.mEqB, Mv.boolR, Mv.mRev, List.lookup_cons, List.lookup_nil, Nat.reduceBEq, beq_self_eq_true, Mv.ins_new, Mv.set_new, ins_at e, ins_at f]
    by_cases h1 : t = t'
    · by_cases h2 : x = x'
      · subst h1 h2; simp
      · simp [h1, h2]
    · simp [h1]
theorem Vd.eqB {h : MH} {a b : Nat} {v w : Vd} (e : v.At h a) (f : w.At h b) : mEqB [(6, F_Keeps_eq), (7, F_Misses_eq)] [6, 7] (fun _ h => .ok (.ref a) h) (fun _ h => .ok (.ref b) h) [] h = .ok (.bl (decide (v = w))) h := by
  cases w with
  | keeps rows' =>
    have f0 := f
    obtain ⟨l', f1, f2⟩ := f
    cases v with
    | keeps rows =>
      have e0 := e
      obtain ⟨l, e1, e2⟩ := e
      simp only [Mv.mDef, Mv.mSeq, Mv.mSet, Mv.mRet, Mv.mRetN, Mv.mIfS, Mv.mVar, Mv.mC, Mv.mBin, Mv.mChain, Mv.mCall, Mv.mDo, Mv.mCons, Mv.mNil, Mv.mAndV, Mv.mOrV, Mv.mNotV, Mv.mAsB, Mv.mAndT, Mv.mOrT, Mv.mNotT, Mv.mIf, Mv.mTup, Mv.mLst, Mv.mNext, Mv.mBad, Mv.mDrop, Mv.mPar, Mv.mAsg, Mv.mStore, Mv.mNeg, Mv.fNeg, Mv.mYes, Mv.mNoP, Mv.mPart, Mv.mSl, Mv.fI, Mv.fAdd, Mv.fSub, Mv.fMul, Mv.fMod, Mv.fDiv, Mv.fPow, Mv.fLt, Mv.fLe, Mv.fGt, Mv.fGe, Mv.yes2, Mv.fIsN, Mv.fNotN, Mv.isNon, Mv.fIx, Mv.items_tup, Mv.items_new, Mv.list_new, Mv.lstOf_new, Mv.fEq_int, Mv.fNe_int, Mv.fLen_tup, Mv.fMax2, Mv.fMin2, Mv.fInt, Mv.fAbs, Mv.mIsi, Mv.isT, Mv.gN, Mv.gT, Mv.setAll, Mv.wipeM, Mv.R.bind_ok, Mv.R.bind_bad, Mv.R.noX_ok, Mv.R.andS_ok, Mv.R.andS_bad, Mv.S.andS_nx, Mv.S.andS_rt, Mv.S.andS_bad, Mv.S.andS_bk, Mv.S.andS_ct, List.map_cons, List.map_nil, List.cons_append, List.nil_append, List.append_nil, List.replicate_succ, List.replicate_zero, List.length_cons, List.length_nil, List.set_cons_zero, List.set_cons_succ, List.getElem?_cons_zero, List.getElem?_cons_succ, List.getElem?_nil, Nat.reduceAdd, Nat.reduceSub, Nat.reduceEqDiff, Nat.reduceLeDiff, Nat.zero_add, if_true, if_false, Bool.not_true, Bool.not_false, Bool.false_eq_true, decide_true, decide_false, ite_true, ite_false, Option.some.injEq, reduceIte, Mv.mFld, Mv.mIsC, Mv.mMeth, Mv.mMake, Mv.mMakeK, Mv.mEqB, Mv.boolR, Mv.mRev, List.lookup_cons, List.lookup_nil, Nat.reduceBEq, beq_self_eq_true, Mv.ins_new, Mv.set_new, ins_at e1, ins_at f1, F_Keeps_eq_eq e0 f0]
      simp
    | misses t x =>
      have e1 : h[a]? = some (.ins 7 [.int t, .int x]) := e
      simp only [Mv.mDef, Mv.mSeq, Mv.mSet, Mv.mRet, Mv.mRetN, Mv.mIfS, Mv.mVar, Mv.mC, Mv.mBin, Mv.mChain, Mv.mCall, Mv.mDo, Mv.mCons, Mv.mNil, Mv.mAndV, Mv.mOrV, Mv.mNotV, Mv.mAsB, Mv.mAndT, Mv.mOrT, Mv.mNotT, Mv.mIf, Mv.mTup, Mv.mLst, Mv.mNext, Mv.mBad, Mv.mDrop, Mv.mPar, Mv.mAsg, Mv.mStore, Mv.mNeg, Mv.fNeg, Mv.mYes, Mv.mNoP, Mv.mPart, Mv.mSl, Mv.fI, Mv.fAdd, Mv.fSub, Mv.fMul, Mv.fMod, Mv.fDiv, Mv.fPow, Mv.fLt, Mv.fLe, Mv.fGt, Mv.fGe, Mv.yes2, Mv.fIsN, Mv.fNotN, Mv.isNon, Mv.fIx, Mv.items_tup, Mv.items_new, Mv.list_new, Mv.lstOf_new, Mv.fEq_int, Mv.fNe_int, Mv.fLen_tup, Mv.fMax2, Mv.fMin2, Mv.fInt, Mv.fAbs, Mv.mIsi, Mv.isT, Mv.gN, Mv.gT, Mv.setAll, Mv.wipeM, Mv.R.bind_ok, Mv.R.bind_bad, Mv.R.noX_ok, Mv.R.andS_ok, Mv.R.andS_bad, Mv.S.andS_nx, Mv.S.andS_rt, Mv.S.andS_bad, Mv.S.andS_bk, Mv.S.andS_ct, List.map_cons, List.map_nil, List.cons_append, List.nil_append, List.append_nil, List.replicate_succ, List.replicate_zero, List.length_cons, List.length_nil, List.set_cons_zero, List.set_cons_succ, List.getElem?_cons_zero, List.getElem?_cons_succ, List.getElem?_nil, Nat.reduceAdd, Nat.reduceSub, Nat.reduceEqDiff, Nat.reduceLeDiff, Nat.zero_add, if_true, if_false, Bool.not_true, Bool.not_false, Bool.false_eq_true, decide_true, decide_false, ite_true, ite_false, Option.some.injEq, reduceIte, Mv.mFld, Mv.mIsC, Mv.mMeth, Mv.mMake, Mv.mMakeK, Mv.mEqB, Mv.boolR, Mv.mRev, List.lookup_cons, List.lookup_nil, Nat.reduceBEq, beq_self_eq_true, Mv.ins_new, Mv.set_new, ins_at e1, ins_at f1, F_Misses_eq_eq e f0]
      simp
  | misses t' x' =>
    have f1 : h[b]? = some (.ins 7 [.int t', .int x']) := f
    cases v with
    | keeps rows =>
      have e0 := e
      obtain ⟨l, e1, e2⟩ := e
      simp only [Mv.mDef, Mv.mSeq, Mv.mSet, Mv.mRet, Mv.mRetN, Mv.mIfS, Mv.mVar, Mv.mC, Mv.mBin, Mv.mChain, Mv.mCall, Mv.mDo, Mv.mCons, Mv.mNil, Mv.mAndV, Mv.mOrV, Mv.mNotV, Mv.mAsB, Mv.mAndT, Mv.mOrT, Mv.mNotT, Mv.mIf, Mv.mTup, Mv.mLst, Mv.mNext, Mv.mBad, Mv.mDrop, Mv.mPar, Mv.mAsg, Mv.mStore, Mv.mNeg, Mv.fNeg, Mv.mYes, Mv.mNoP, Mv.mPart, Mv.mSl, Mv.fI, Mv.fAdd, Mv.fSub, Mv.fMul, Mv.fMod, Mv.fDiv, Mv.fPow, Mv.fLt, Mv.fLe, Mv.fGt, Mv.fGe, Mv.yes2, Mv.fIsN, Mv.fNotN, Mv.isNon, Mv.fIx, Mv.items_tup, Mv.items_new, Mv.list_new, Mv.lstOf_new, Mv.fEq_int, Mv.fNe_int, Mv.fLen_tup, Mv.fMax2, Mv.fMin2, Mv.fInt, Mv.fAbs, Mv.mIsi, Mv.isT, Mv.gN, Mv.gT, Mv.setAll, Mv.wipeM, Mv.R.bind_ok, Mv.R.bind_bad, Mv.R.noX_ok, Mv.R.andS_ok, Mv.R.andS_bad, Mv.S.andS_nx, Mv.S.andS_rt, Mv.S.andS_bad, Mv.S.andS_bk, Mv.S.andS_ct, List.map_cons, List.map_nil, List.cons_append, List.nil_append, List.append_nil, List.replicate_succ, List.replicate_zero, List.length_cons, List.length_nil, List.set_cons_zero, List.set_cons_succ, List.getElem?_cons_zero, List.getElem?_cons_succ, List.getElem?_nil, Nat.reduceAdd, Nat.reduceSub, Nat.reduceEqDiff, Nat.reduceLeDiff, Nat.zero_add, if_true, if_false, Bool.not_true, Bool.not_false, Bool.false_eq_true, decide_true, decide_false, ite_true, ite_false, Option.some.injEq, reduceIte, Mv.mFld, Mv.mIsC, Mv.mMeth, Mv.mMake, Mv.mMakeK, Mv.mEqB, Mv.boolR, Mv.mRev, List.lookup_cons, List.lookup_nil, Nat.reduceBEq, beq_self_eq_true, Mv.ins_new, Mv.set_new, ins_at e1, ins_at f1, F_Keeps_eq_eq e0 f]
      simp
    | misses t x =>
      have e1 : h[a]? = some (.ins 7 [.int t, .int x]) := e
      simp only [Mv.mDef, Mv.mSeq, Mv.mSet, Mv.mRet, Mv.mRetN, Mv.mIfS, Mv.mVar, Mv.mC, Mv.mBin, Mv.mChain, Mv.mCall, Mv.mDo, Mv.mCons, Mv.mNil, Mv.mAndV, Mv.mOrV, Mv.mNotV, Mv.mAsB, Mv.mAndT, Mv.mOrT, Mv.mNotT, Mv.mIf, Mv.mTup, Mv.mLst, Mv.mNext, Mv.mBad, Mv.mDrop, Mv.mPar, Mv.mAsg, Mv.mStore, Mv.mNeg, Mv.fNeg, Mv.mYes, Mv.mNoP, Mv.mPart, Mv.mSl, Mv.fI, Mv.fAdd, Mv.fSub, Mv.fMul, Mv.fMod, Mv.fDiv, Mv.fPow, Mv.fLt, Mv.fLe, Mv.fGt, Mv.fGe, Mv.yes2, Mv.fIsN, Mv.fNotN, Mv.isNon, Mv.fIx, Mv.items_tup, Mv.items_new, Mv.list_new, Mv.lstOf_new, Mv.fEq_int, Mv.fNe_int, Mv.fLen_tup, Mv.fMax2, Mv.fMin2, Mv.fInt, Mv.fAbs, Mv.mIsi, Mv.isT, Mv.gN, Mv.gT, Mv.setAll, Mv.wipeM, Mv.R.bind_ok, Mv.R.bind_bad, Mv.R.noX_ok, Mv.R.andS_ok, Mv.R.andS_bad, Mv.S.andS_nx, Mv.S.andS_rt, Mv.S.andS_bad, Mv.S.andS_bk, Mv.S.andS_ct, List.map_cons, List.map_nil, List.cons_append, List.nil_append, List.append_nil, List.replicate_succ, List.replicate_zero, List.length_cons, List.length_nil, List.set_cons_zero, List.set_cons_succ, List.getElem?_cons_zero, List.getElem?_cons_succ, List.getElem?_nil, Nat.reduceAdd, Nat.reduceSub, Nat.reduceEqDiff, Nat.reduceLeDiff, Nat.zero_add, if_true, if_false, Bool.not_true, Bool.not_false, Bool.false_eq_true, decide_true, decide_false, ite_true, ite_false, Option.some.injEq, reduceIte, Mv.mFld, Mv.mIsC, Mv.mMeth, Mv.mMake, Mv.mMakeK, Mv.mEqB, Mv.boolR, Mv.mRev, List.lookup_cons, List.lookup_nil, Nat.reduceBEq, beq_self_eq_true, Mv.ins_new, Mv.set_new, ins_at e1, ins_at f1, F_Misses_eq_eq e f]
      simp
noncomputable def G_shows : List MV → MH → R MV := specH (α := (Nat × Vd) × Nat × Plan × Rule) (fun a => [.ref a.1.1, .ref a.2.1, rv a.2.2.2]) (fun a h => a.1.2.At h a.1.1 ∧ HasP h a.2.1 a.2.2.1 ∧ a.2.2.1.Ok ∧ Valid a.2.2.2) fun a h => .ok (.bl (decide (judgeV a.2.2.1 a.2.2.2 = a.1.2))) h
theorem G_shows_eq {h : MH} {s n : Nat} {w : Vd} {P : Plan} (f : w.At h s) (e : HasP h n P) (k : P.Ok) {r : Rule} (v : Valid r) : G_shows [.ref s, .ref n, rv r] h = .ok (.bl (decide (judgeV P r = w))) h :=
  specH_eq (a := (((s, w), n, P, r) : (Nat × Vd) × Nat × Plan × Rule)) (fun x y q d1 d2 => by
    obtain ⟨⟨x0, xw⟩, x1, x2, x3⟩ := x
    obtain ⟨⟨y0, yw⟩, y1, y2, y3⟩ := y
    simp only [List.cons.injEq, MV.ref.injEq, and_true] at q
    obtain ⟨rfl, rfl, q⟩ := q
    have e1 : x3 = y3 := rv_inj q
    subst e1
    have e2 : x2 = y2 := HasP.uniq d1.2.1 d2.2.1
    subst e2
    have e3 : xw = yw := Vd.At.uniq d1.1 d2.1
    subst e3
    rfl) ⟨f, e, k, v⟩

/-- up to when two rules are looked at -/
def manyN (a b : Rule) : Nat := (max (settled a) (settled b)).toNat + Nat.lcm (periodN a) (periodN b)
theorem period_dvd {r : Rule} (v : Valid r) : periodN r ∣ 60 := by
  obtain ⟨p1, pc, pm⟩ := periodN_is v
  have h60 : cyc r 60 := by
    obtain ⟨t1, t2, t3, _⟩ := turn_spec v
    obtain ⟨q, e⟩ := t2
    rw [e]
    exact cyc_mul (cyc_turn v) q
  rcases Nat.eq_zero_or_pos (60 % periodN r) with z | z
  · exact Nat.dvd_of_mod_eq_zero z
  · exact absurd (cyc_mod pc h60) (pm _ z (Nat.mod_lt _ p1))
theorem many_le {a b : Rule} (va : Valid a) (vb : Valid b) : manyN a b ≤ 72 := by
  obtain ⟨_, _, s1, s2⟩ := settled_spec va
  obtain ⟨_, _, s3, s4⟩ := settled_spec vb
  have := Nat.le_of_dvd (by decide) (Nat.lcm_dvd (period_dvd va) (period_dvd vb))
  unfold manyN
  omega
theorem max_if (i j : Int) : (if j > i then j else i) = max i j := by
  by_cases h : j > i
  · rw [if_pos h]; omega
  · rw [if_neg h]; omega
theorem two_rv (x y : Rule × Rule) (e : [rv x.1, rv x.2] = [rv y.1, rv y.2]) : x = y := by
  simp only [List.cons.injEq, and_true] at e
  exact Prod.ext (rv_inj e.1) (rv_inj e.2)

/-! ### the law's own: common, young, broken, missed -/
theorem lcm_step {a b j : Nat} (h : a * j ≤ Nat.lcm a b) (hn : (a * j) % b ≠ 0) : a * (j + 1) ≤ Nat.lcm a b := by
  obtain ⟨m, e⟩ := Nat.dvd_lcm_left a b
  rw [e] at h ⊢
  refine Nat.mul_le_mul_left a ?_
  rcases Nat.lt_or_ge j m with q | q
  · exact q
  · have : a * j = a * m := Nat.le_antisymm h (Nat.mul_le_mul_left a q)
    exact absurd (by rw [this, ← e]; exact Nat.mod_eq_zero_of_dvd (Nat.dvd_lcm_right a b)) hn
theorem lcm_stop {a b j : Nat} (h0 : 0 < a * j) (h : a * j ≤ Nat.lcm a b) (hn : (a * j) % b = 0) : a * j = Nat.lcm a b :=
  Nat.le_antisymm h (Nat.le_of_dvd h0 (Nat.lcm_dvd (Nat.dvd_mul_right a j) (Nat.dvd_of_mod_eq_zero hn)))
/-- the promise's properties as asked by o.f -/
theorem gT2 (i j : Nat) (x y : MV) (env : MEnv) : gT [i, j] (.tup [x, y]) env = some (setAll env [i, j] [x, y]) := rfl
theorem F_l_young_eq {h : MH} {n : Nat} {P : Plan} (e : HasP h n P) (k : P.Ok) {x : MV} (l : List Int) (ex : itemsOf h x = some (ivs l)) (hl : l.length ≤ cap) : ∃ g, F_l_young F_Promise_share F_Promise_reach F_Promise_base [.ref n, x] h = .ok (.tup (ivs (youngL P l))) (h ++ g) := by
  unfold F_l_young m_l_young
  have c1 : CMulB P.far P.p = true := by have := k.p0; have := k.p4; have := k.f0; have := k.f6; exact mul_small (by omega) (by omega)
  have c2 : CDivB (P.far * P.p) P.q = true := by have := k.q1; have := k.q4; exact div_small (by omega)
  have hh : P.far + P.least + P.far * P.p / P.q = horizon P := by unfold horizon slack; omega
  obtain ⟨it, ei, hit⟩ := itV_ints (m := mVar 1) (env := [some (.ref n), some x, some (.int P.p), some (.int P.q), some (.int (horizon P)), none]) (h := h) rfl ex
  simp only [Mv.mDef, Mv.mSeq, Mv.mSet, Mv.mRet, Mv.mRetN, Mv.mIfS, Mv.mVar, Mv.mC, Mv.mBin, Mv.mChain, Mv.mCall, Mv.mDo, Mv.mCons, Mv.mNil, Mv.mAndV, Mv.mOrV, Mv.mNotV, Mv.mAsB, Mv.mAndT, Mv.mOrT, Mv.mNotT, Mv.mIf, Mv.mTup, Mv.mLst, Mv.mNext, Mv.mBad, Mv.mDrop, Mv.mPar, Mv.mAsg, Mv.mStore, Mv.mNeg, Mv.fNeg, Mv.mYes, Mv.mNoP, Mv.mPart, Mv.mSl, Mv.fI, Mv.fAdd, Mv.fSub, Mv.fMul, Mv.fMod, Mv.fDiv, Mv.fPow, Mv.fLt, Mv.fLe, Mv.fGt, Mv.fGe, Mv.yes2, Mv.fIsN, Mv.fNotN, Mv.isNon, Mv.fIx, Mv.items_tup, Mv.items_new, Mv.list_new, Mv.lstOf_new, Mv.fEq_int, Mv.fNe_int, Mv.fLen_tup, Mv.fMax2, Mv.fMin2, Mv.fInt, Mv.fAbs, Mv.mIsi, Mv.isT, Mv.gN, Mv.gT, Mv.setAll, Mv.wipeM, Mv.R.bind_ok, Mv.R.bind_bad, Mv.R.noX_ok, Mv.R.andS_ok, Mv.R.andS_bad, Mv.S.andS_nx, Mv.S.andS_rt, Mv.S.andS_bad, Mv.S.andS_bk, Mv.S.andS_ct, List.map_cons, List.map_nil, List.cons_append, List.nil_append, List.append_nil, List.replicate_succ, List.replicate_zero, List.length_cons, List.length_nil, List.set_cons_zero, List.set_cons_succ, List.getElem?_cons_zero, List.getElem?_cons_succ, List.getElem?_nil, Nat.reduceAdd, Nat.reduceSub, Nat.reduceEqDiff, Nat.reduceLeDiff, Nat.zero_add, if_true, if_false, Bool.not_true, Bool.not_false, Bool.false_eq_true, decide_true, decide_false, ite_true, ite_false, Option.some.injEq, reduceIte, Mv.mFld, Mv.mIsC, Mv.mMeth, Mv.mMake, Mv.mMakeK, Mv.mEqB, Mv.boolR, Mv.mRev, List.lookup_cons, List.lookup_nil, Nat.reduceBEq, beq_self_eq_true, Mv.ins_new, Mv.set_new, mAsg, e.ins, F_Promise_share_eq e, F_Promise_reach_eq e, F_Promise_base_eq e, gT2, setAll, c1, c2, hh, mLc, ei]
  rw [comp_pure (it := it) (l := l) (enc := MV.int) (cb := fun a => decide (a ≤ horizon P)) (f := MV.int) hit hl]
  · simp only [Mv.mDef, Mv.mSeq, Mv.mSet, Mv.mRet, Mv.mRetN, Mv.mIfS, Mv.mVar, Mv.mC, Mv.mBin, Mv.mChain, Mv.mCall, Mv.mDo, Mv.mCons, Mv.mNil, Mv.mAndV, Mv.mOrV, Mv.mNotV, Mv.mAsB, Mv.mAndT, Mv.mOrT, Mv.mNotT, Mv.mIf, Mv.mTup, Mv.mLst, Mv.mNext, Mv.mBad, Mv.mDrop, Mv.mPar, Mv.mAsg, Mv.mStore, Mv.mNeg, Mv.fNeg, Mv.mYes, Mv.mNoP, Mv.mPart, Mv.mSl, Mv.fI, Mv.fAdd, Mv.fSub, Mv.fMul, Mv.fMod, Mv.fDiv, Mv.fPow, Mv.fLt, Mv.fLe, Mv.fGt, Mv.fGe, Mv.yes2, Mv.fIsN, Mv.fNotN, Mv.isNon, Mv.fIx, Mv.items_tup, Mv.items_new, Mv.list_new, Mv.lstOf_new, Mv.fEq_int, Mv.fNe_int, Mv.fLen_tup, Mv.fMax2, Mv.fMin2, Mv.fInt, Mv.fAbs, Mv.mIsi, Mv.isT, Mv.gN, Mv.gT, Mv.setAll, Mv.wipeM, Mv.R.bind_ok, Mv.R.bind_bad, Mv.R.noX_ok, Mv.R.andS_ok, Mv.R.andS_bad, Mv.S.andS_nx, Mv.S.andS_rt, Mv.S.andS_bad, Mv.S.andS_bk, Mv.S.andS_ct, List.map_cons, List.map_nil, List.cons_append, List.nil_append, List.append_nil, List.replicate_succ, List.replicate_zero, List.length_cons, List.length_nil, List.set_cons_zero, List.set_cons_succ, List.getElem?_cons_zero, List.getElem?_cons_succ, List.getElem?_nil, Nat.reduceAdd, Nat.reduceSub, Nat.reduceEqDiff, Nat.reduceLeDiff, Nat.zero_add, if_true, if_false, Bool.not_true, Bool.not_false, Bool.false_eq_true, decide_true, decide_false, ite_true, ite_false, Option.some.injEq, reduceIte, fTuple_at (items_new h _)]
    exact ⟨_, rfl⟩
  · intro a _
    refine ⟨_, rfl, ?_⟩
    simp only [Mv.mDef, Mv.mSeq, Mv.mSet, Mv.mRet, Mv.mRetN, Mv.mIfS, Mv.mVar, Mv.mC, Mv.mBin, Mv.mChain, Mv.mCall, Mv.mDo, Mv.mCons, Mv.mNil, Mv.mAndV, Mv.mOrV, Mv.mNotV, Mv.mAsB, Mv.mAndT, Mv.mOrT, Mv.mNotT, Mv.mIf, Mv.mTup, Mv.mLst, Mv.mNext, Mv.mBad, Mv.mDrop, Mv.mPar, Mv.mAsg, Mv.mStore, Mv.mNeg, Mv.fNeg, Mv.mYes, Mv.mNoP, Mv.mPart, Mv.mSl, Mv.fI, Mv.fAdd, Mv.fSub, Mv.fMul, Mv.fMod, Mv.fDiv, Mv.fPow, Mv.fLt, Mv.fLe, Mv.fGt, Mv.fGe, Mv.yes2, Mv.fIsN, Mv.fNotN, Mv.isNon, Mv.fIx, Mv.items_tup, Mv.items_new, Mv.list_new, Mv.lstOf_new, Mv.fEq_int, Mv.fNe_int, Mv.fLen_tup, Mv.fMax2, Mv.fMin2, Mv.fInt, Mv.fAbs, Mv.mIsi, Mv.isT, Mv.gN, Mv.gT, Mv.setAll, Mv.wipeM, Mv.R.bind_ok, Mv.R.bind_bad, Mv.R.noX_ok, Mv.R.andS_ok, Mv.R.andS_bad, Mv.S.andS_nx, Mv.S.andS_rt, Mv.S.andS_bad, Mv.S.andS_bk, Mv.S.andS_ct, List.map_cons, List.map_nil, List.cons_append, List.nil_append, List.append_nil, List.replicate_succ, List.replicate_zero, List.length_cons, List.length_nil, List.set_cons_zero, List.set_cons_succ, List.getElem?_cons_zero, List.getElem?_cons_succ, List.getElem?_nil, Nat.reduceAdd, Nat.reduceSub, Nat.reduceEqDiff, Nat.reduceLeDiff, Nat.zero_add, if_true, if_false, Bool.not_true, Bool.not_false, Bool.false_eq_true, decide_true, decide_false, ite_true, ite_false, Option.some.injEq, reduceIte]
    exact ⟨trivial, fun _ => trivial⟩
theorem sim_l_young (xs : List MV) (h : MH) : Sim h (F_l_young F_Promise_share F_Promise_reach F_Promise_base xs h) (G_young xs h) := specH_sim (fun a h d => by
  obtain ⟨g, e⟩ := F_l_young_eq d.1 d.2.1 a.2.2.2 d.2.2.1 d.2.2.2
  rw [e]
  exact sim_drop0 (und_tints _ _)) xs h
def brokenTo (P : Plan) (st : List Int) (i : Nat) : List Int := ((agesL P).take i).filter fun a => !holdsFor P st a
theorem F_l_broken_sim {h : MH} {n : Nat} {P : Plan} (e : HasP h n P) (k : P.Ok) (st : List Int) (hl : st.length ≤ cap) : Sim h (F_l_broken F_Promise_share F_Promise_reach F_Promise_base F_Promise_copies [.ref n, .tup (ivs st)] h) (.ok (.ref h.length) (h ++ [.lst (ivs (brokenL P st))])) := by
  unfold F_l_broken m_l_broken
  have hc0 : (0 : Nat) ≤ cap := Nat.zero_le _
  simp only [Mv.mDef, Mv.mSeq, Mv.mSet, Mv.mRet, Mv.mRetN, Mv.mIfS, Mv.mVar, Mv.mC, Mv.mBin, Mv.mChain, Mv.mCall, Mv.mDo, Mv.mCons, Mv.mNil, Mv.mAndV, Mv.mOrV, Mv.mNotV, Mv.mAsB, Mv.mAndT, Mv.mOrT, Mv.mNotT, Mv.mIf, Mv.mTup, Mv.mLst, Mv.mNext, Mv.mBad, Mv.mDrop, Mv.mPar, Mv.mAsg, Mv.mStore, Mv.mNeg, Mv.fNeg, Mv.mYes, Mv.mNoP, Mv.mPart, Mv.mSl, Mv.fI, Mv.fAdd, Mv.fSub, Mv.fMul, Mv.fMod, Mv.fDiv, Mv.fPow, Mv.fLt, Mv.fLe, Mv.fGt, Mv.fGe, Mv.yes2, Mv.fIsN, Mv.fNotN, Mv.isNon, Mv.fIx, Mv.items_tup, Mv.items_new, Mv.list_new, Mv.lstOf_new, Mv.fEq_int, Mv.fNe_int, Mv.fLen_tup, Mv.fMax2, Mv.fMin2, Mv.fInt, Mv.fAbs, Mv.mIsi, Mv.isT, Mv.gN, Mv.gT, Mv.setAll, Mv.wipeM, Mv.R.bind_ok, Mv.R.bind_bad, Mv.R.noX_ok, Mv.R.andS_ok, Mv.R.andS_bad, Mv.S.andS_nx, Mv.S.andS_rt, Mv.S.andS_bad, Mv.S.andS_bk, Mv.S.andS_ct, List.map_cons, List.map_nil, List.cons_append, List.nil_append, List.append_nil, List.replicate_succ, List.replicate_zero, List.length_cons, List.length_nil, List.set_cons_zero, List.set_cons_succ, List.getElem?_cons_zero, List.getElem?_cons_succ, List.getElem?_nil, Nat.reduceAdd, Nat.reduceSub, Nat.reduceEqDiff, Nat.reduceLeDiff, Nat.zero_add, if_true, if_false, Bool.not_true, Bool.not_false, Bool.false_eq_true, decide_true, decide_false, ite_true, ite_false, Option.some.injEq, reduceIte, Mv.mFld, Mv.mIsC, Mv.mMeth, Mv.mMake, Mv.mMakeK, Mv.mEqB, Mv.boolR, Mv.mRev, List.lookup_cons, List.lookup_nil, Nat.reduceBEq, beq_self_eq_true, Mv.ins_new, Mv.set_new, mAsg, e.ins, F_Promise_share_eq e, gT2, setAll, hc0, mFor, mRng1, (e.app (g := [MO.lst []])).ins, F_Promise_reach_eq (e.app (g := [MO.lst []])), far_in k]
  refine for_ind (it := itR 0 1 (P.far + 1).toNat) (xs := ivs (agesL P)) (P := fun s => Sim h (match s.andS fun env h => (match env[4]? with | some (some v) => R.ok v h | _ => .bad).andS env fun v h1 => .rt v h1 with
      | .nx _ h' => R.ok MV.non h' | .rt v h' => .ok v h' | .exc x _ h' => .exc x h' | _ => .bad) (.ok (.ref h.length) (h ++ [.lst (ivs (brokenL P st))])))
    (fun i env h' => ∃ g x5 x6, h' = h ++ .lst (ivs (brokenTo P st i)) :: g ∧ env = [some (.ref n), some (.tup (ivs st)), some (.int P.p), some (.int P.q), some (.ref h.length), x5, x6, none])
    (fun i env h' _ => itR_nx _ _ _ i h') ?_ ?_ fuel 0 _ _ ⟨[], none, none, rfl, rfl⟩ (Nat.zero_le _) (by have := fuel_ge; have := ages_cap k; rw [ints_length]; unfold cap at this; omega)
  · rintro env h' ⟨g, x5, x6, rfl, rfl⟩
    rw [ints_length]
    simp only [Mv.mDef, Mv.mSeq, Mv.mSet, Mv.mRet, Mv.mRetN, Mv.mIfS, Mv.mVar, Mv.mC, Mv.mBin, Mv.mChain, Mv.mCall, Mv.mDo, Mv.mCons, Mv.mNil, Mv.mAndV, Mv.mOrV, Mv.mNotV, Mv.mAsB, Mv.mAndT, Mv.mOrT, Mv.mNotT, Mv.mIf, Mv.mTup, Mv.mLst, Mv.mNext, Mv.mBad, Mv.mDrop, Mv.mPar, Mv.mAsg, Mv.mStore, Mv.mNeg, Mv.fNeg, Mv.mYes, Mv.mNoP, Mv.mPart, Mv.mSl, Mv.fI, Mv.fAdd, Mv.fSub, Mv.fMul, Mv.fMod, Mv.fDiv, Mv.fPow, Mv.fLt, Mv.fLe, Mv.fGt, Mv.fGe, Mv.yes2, Mv.fIsN, Mv.fNotN, Mv.isNon, Mv.fIx, Mv.items_tup, Mv.items_new, Mv.list_new, Mv.lstOf_new, Mv.fEq_int, Mv.fNe_int, Mv.fLen_tup, Mv.fMax2, Mv.fMin2, Mv.fInt, Mv.fAbs, Mv.mIsi, Mv.isT, Mv.gN, Mv.gT, Mv.setAll, Mv.wipeM, Mv.R.bind_ok, Mv.R.bind_bad, Mv.R.noX_ok, Mv.R.andS_ok, Mv.R.andS_bad, Mv.S.andS_nx, Mv.S.andS_rt, Mv.S.andS_bad, Mv.S.andS_bk, Mv.S.andS_ct, List.map_cons, List.map_nil, List.cons_append, List.nil_append, List.append_nil, List.replicate_succ, List.replicate_zero, List.length_cons, List.length_nil, List.set_cons_zero, List.set_cons_succ, List.getElem?_cons_zero, List.getElem?_cons_succ, List.getElem?_nil, Nat.reduceAdd, Nat.reduceSub, Nat.reduceEqDiff, Nat.reduceLeDiff, Nat.zero_add, if_true, if_false, Bool.not_true, Bool.not_false, Bool.false_eq_true, decide_true, decide_false, ite_true, ite_false, Option.some.injEq, reduceIte, Mv.mFld, Mv.mIsC, Mv.mMeth, Mv.mMake, Mv.mMakeK, Mv.mEqB, Mv.boolR, Mv.mRev, List.lookup_cons, List.lookup_nil, Nat.reduceBEq, beq_self_eq_true, Mv.ins_new, Mv.set_new]
    have eb : brokenTo P st (agesL P).length = brokenL P st := by unfold brokenTo brokenL; rw [List.take_length]
    rw [eb]
    exact sim_list0 (n := h.length) (xs := ivs (brokenL P st)) (by simp) (Nat.le_refl _) (unds_ints _)
  · rintro i x env h' hx ⟨g, x5, x6, rfl, rfl⟩
    have hi : i < (agesL P).length := by
      have := (List.getElem?_eq_some_iff.mp hx).1
      rwa [ints_length] at this
    have ex : x = .int ((agesL P)[i]) := by
      unfold ivs at hx
      rw [List.getElem?_map, List.getElem?_eq_getElem hi] at hx
      simp at hx
      exact hx.symm
    subst ex
    have ha := mem_ages k (List.getElem_mem hi)
    generalize ea : (agesL P)[i] = a at ha ⊢
    have ep : HasP (h ++ .lst (ivs (brokenTo P st i)) :: g) n P := e.app
    refine ⟨_, rfl, ?_⟩
    have c1 : CMulB a P.p = true := by have := k.p0; have := k.p4; exact mul_small (by omega) (by omega)
    have c2 : CDivB (a * P.p) P.q = true := by have := k.q1; have := k.q4; exact div_small (by omega)
    have hs : a + P.least + a * P.p / P.q = a + slack P a := by unfold slack; omega
    simp only [Mv.mDef, Mv.mSeq, Mv.mSet, Mv.mRet, Mv.mRetN, Mv.mIfS, Mv.mVar, Mv.mC, Mv.mBin, Mv.mChain, Mv.mCall, Mv.mDo, Mv.mCons, Mv.mNil, Mv.mAndV, Mv.mOrV, Mv.mNotV, Mv.mAsB, Mv.mAndT, Mv.mOrT, Mv.mNotT, Mv.mIf, Mv.mTup, Mv.mLst, Mv.mNext, Mv.mBad, Mv.mDrop, Mv.mPar, Mv.mAsg, Mv.mStore, Mv.mNeg, Mv.fNeg, Mv.mYes, Mv.mNoP, Mv.mPart, Mv.mSl, Mv.fI, Mv.fAdd, Mv.fSub, Mv.fMul, Mv.fMod, Mv.fDiv, Mv.fPow, Mv.fLt, Mv.fLe, Mv.fGt, Mv.fGe, Mv.yes2, Mv.fIsN, Mv.fNotN, Mv.isNon, Mv.fIx, Mv.items_tup, Mv.items_new, Mv.list_new, Mv.lstOf_new, Mv.fEq_int, Mv.fNe_int, Mv.fLen_tup, Mv.fMax2, Mv.fMin2, Mv.fInt, Mv.fAbs, Mv.mIsi, Mv.isT, Mv.gN, Mv.gT, Mv.setAll, Mv.wipeM, Mv.R.bind_ok, Mv.R.bind_bad, Mv.R.noX_ok, Mv.R.andS_ok, Mv.R.andS_bad, Mv.S.andS_nx, Mv.S.andS_rt, Mv.S.andS_bad, Mv.S.andS_bk, Mv.S.andS_ct, List.map_cons, List.map_nil, List.cons_append, List.nil_append, List.append_nil, List.replicate_succ, List.replicate_zero, List.length_cons, List.length_nil, List.set_cons_zero, List.set_cons_succ, List.getElem?_cons_zero, List.getElem?_cons_succ, List.getElem?_nil, Nat.reduceAdd, Nat.reduceSub, Nat.reduceEqDiff, Nat.reduceLeDiff, Nat.zero_add, if_true, if_false, Bool.not_true, Bool.not_false, Bool.false_eq_true, decide_true, decide_false, ite_true, ite_false, Option.some.injEq, reduceIte, Mv.mFld, Mv.mIsC, Mv.mMeth, Mv.mMake, Mv.mMakeK, Mv.mEqB, Mv.boolR, Mv.mRev, List.lookup_cons, List.lookup_nil, Nat.reduceBEq, beq_self_eq_true, Mv.ins_new, Mv.set_new, ep.ins, F_Promise_base_eq ep, c1, c2, hs, mLc, mItV]
    rw [comp_pure (it := itT (ivs st)) (l := st) (enc := MV.int) (cb := fun o => decide (a ≤ o) && decide (o ≤ a + slack P a)) (f := MV.int) (fun i => itT_nx _ i _) hl]
    · have hlt : decide (((ableL2 P st a).length : Int) < P.many) = !holdsFor P st a := by
        unfold holdsFor
        rw [← decide_not]
        exact decide_eq_decide.mpr (by omega)
      have eab : (st.filter (fun o => decide (a ≤ o) && decide (o ≤ a + slack P a))) = ableL2 P st a := rfl
      rw [eab]
      have w0 : (h ++ MO.lst (ivs (brokenTo P st i)) :: g ++ [MO.lst (List.map MV.int (ableL2 P st a))])[h.length]? = some (.lst (ivs (brokenTo P st i))) := look_app (at_len h _ _)
      have ep2 : HasP (h ++ MO.lst (ivs (brokenTo P st i)) :: g ++ [MO.lst (List.map MV.int (ableL2 P st a))]) n P := ep.app
      have hbl : (ivs (brokenTo P st i)).length < cap := by
        rw [ints_length]
        unfold brokenTo
        have h1 := List.length_filter_le (fun a => !holdsFor P st a) ((agesL P).take i)
        have h2 := List.length_take_le i (agesL P)
        have h3 : (agesL P).length ≤ 7 := by unfold agesL; rw [prog_length]; have := k.f6; omega
        have h4 : ((agesL P).take i).length ≤ (agesL P).length := List.length_take_le' i (agesL P)
        unfold cap
        omega
      have tk : (agesL P).take (i + 1) = (agesL P).take i ++ [a] := by rw [List.take_succ, List.getElem?_eq_getElem hi, ea]; rfl
      cases hf : holdsFor P st a with
      | true =>
        rw [hf] at hlt
        simp only [Mv.mDef, Mv.mSeq, Mv.mSet, Mv.mRet, Mv.mRetN, Mv.mIfS, Mv.mVar, Mv.mC, Mv.mBin, Mv.mChain, Mv.mCall, Mv.mDo, Mv.mCons, Mv.mNil, Mv.mAndV, Mv.mOrV, Mv.mNotV, Mv.mAsB, Mv.mAndT, Mv.mOrT, Mv.mNotT, Mv.mIf, Mv.mTup, Mv.mLst, Mv.mNext, Mv.mBad, Mv.mDrop, Mv.mPar, Mv.mAsg, Mv.mStore, Mv.mNeg, Mv.fNeg, Mv.mYes, Mv.mNoP, Mv.mPart, Mv.mSl, Mv.fI, Mv.fAdd, Mv.fSub, Mv.fMul, Mv.fMod, Mv.fDiv, Mv.fPow, Mv.fLt, Mv.fLe, Mv.fGt, Mv.fGe, Mv.yes2, Mv.fIsN, Mv.fNotN, Mv.isNon, Mv.fIx, Mv.items_tup, Mv.items_new, Mv.list_new, Mv.lstOf_new, Mv.fEq_int, Mv.fNe_int, Mv.fLen_tup, Mv.fMax2, Mv.fMin2, Mv.fInt, Mv.fAbs, Mv.mIsi, Mv.isT, Mv.gN, Mv.gT, Mv.setAll, Mv.wipeM, Mv.R.bind_ok, Mv.R.bind_bad, Mv.R.noX_ok, Mv.R.andS_ok, Mv.R.andS_bad, Mv.S.andS_nx, Mv.S.andS_rt, Mv.S.andS_bad, Mv.S.andS_bk, Mv.S.andS_ct, List.map_cons, List.map_nil, List.cons_append, List.nil_append, List.append_nil, List.replicate_succ, List.replicate_zero, List.length_cons, List.length_nil, List.set_cons_zero, List.set_cons_succ, List.getElem?_cons_zero, List.getElem?_cons_succ, List.getElem?_nil, Nat.reduceAdd, Nat.reduceSub, Nat.reduceEqDiff, Nat.reduceLeDiff, Nat.zero_add, if_true, if_false, Bool.not_true, Bool.not_false, Bool.false_eq_true, decide_true, decide_false, ite_true, ite_false, Option.some.injEq, reduceIte, Mv.mFld, Mv.mIsC, Mv.mMeth, Mv.mMake, Mv.mMakeK, Mv.mEqB, Mv.boolR, Mv.mRev, List.lookup_cons, List.lookup_nil, Nat.reduceBEq, beq_self_eq_true, Mv.ins_new, Mv.set_new, fLen_new, List.length_map, ep2.ins, F_Promise_copies_eq ep2, hlt]
        refine ⟨g ++ [MO.lst (List.map MV.int (ableL2 P st a))], _, _, ?_, rfl⟩
        have : brokenTo P st (i + 1) = brokenTo P st i := by
          unfold brokenTo
          rw [tk, List.filter_append]
          simp [hf]
        rw [this]
        simp
      | false =>
        rw [hf] at hlt
        simp only [Mv.mDef, Mv.mSeq, Mv.mSet, Mv.mRet, Mv.mRetN, Mv.mIfS, Mv.mVar, Mv.mC, Mv.mBin, Mv.mChain, Mv.mCall, Mv.mDo, Mv.mCons, Mv.mNil, Mv.mAndV, Mv.mOrV, Mv.mNotV, Mv.mAsB, Mv.mAndT, Mv.mOrT, Mv.mNotT, Mv.mIf, Mv.mTup, Mv.mLst, Mv.mNext, Mv.mBad, Mv.mDrop, Mv.mPar, Mv.mAsg, Mv.mStore, Mv.mNeg, Mv.fNeg, Mv.mYes, Mv.mNoP, Mv.mPart, Mv.mSl, Mv.fI, Mv.fAdd, Mv.fSub, Mv.fMul, Mv.fMod, Mv.fDiv, Mv.fPow, Mv.fLt, Mv.fLe, Mv.fGt, Mv.fGe, Mv.yes2, Mv.fIsN, Mv.fNotN, Mv.isNon, Mv.fIx, Mv.items_tup, Mv.items_new, Mv.list_new, Mv.lstOf_new, Mv.fEq_int, Mv.fNe_int, Mv.fLen_tup, Mv.fMax2, Mv.fMin2, Mv.fInt, Mv.fAbs, Mv.mIsi, Mv.isT, Mv.gN, Mv.gT, Mv.setAll, Mv.wipeM, Mv.R.bind_ok, Mv.R.bind_bad, Mv.R.noX_ok, Mv.R.andS_ok, Mv.R.andS_bad, Mv.S.andS_nx, Mv.S.andS_rt, Mv.S.andS_bad, Mv.S.andS_bk, Mv.S.andS_ct, List.map_cons, List.map_nil, List.cons_append, List.nil_append, List.append_nil, List.replicate_succ, List.replicate_zero, List.length_cons, List.length_nil, List.set_cons_zero, List.set_cons_succ, List.getElem?_cons_zero, List.getElem?_cons_succ, List.getElem?_nil, Nat.reduceAdd, Nat.reduceSub, Nat.reduceEqDiff, Nat.reduceLeDiff, Nat.zero_add, if_true, if_false, Bool.not_true, Bool.not_false, Bool.false_eq_true, decide_true, decide_false, ite_true, ite_false, Option.some.injEq, reduceIte, Mv.mFld, Mv.mIsC, Mv.mMeth, Mv.mMake, Mv.mMakeK, Mv.mEqB, Mv.boolR, Mv.mRev, List.lookup_cons, List.lookup_nil, Nat.reduceBEq, beq_self_eq_true, Mv.ins_new, Mv.set_new, fLen_new, List.length_map, ep2.ins, F_Promise_copies_eq ep2, hlt, mLm, list_ref, items_at w0, fAppend, lstOf_at w0, hbl]
        refine ⟨g ++ [MO.lst (List.map MV.int (ableL2 P st a))], _, _, ?_, rfl⟩
        have : brokenTo P st (i + 1) = brokenTo P st i ++ [a] := by
          unfold brokenTo
          rw [tk, List.filter_append]
          simp [hf]
        rw [this]
        unfold ivs
        simp
    · intro o _
      refine ⟨_, rfl, ?_⟩
      simp only [Mv.mDef, Mv.mSeq, Mv.mSet, Mv.mRet, Mv.mRetN, Mv.mIfS, Mv.mVar, Mv.mC, Mv.mBin, Mv.mChain, Mv.mCall, Mv.mDo, Mv.mCons, Mv.mNil, Mv.mAndV, Mv.mOrV, Mv.mNotV, Mv.mAsB, Mv.mAndT, Mv.mOrT, Mv.mNotT, Mv.mIf, Mv.mTup, Mv.mLst, Mv.mNext, Mv.mBad, Mv.mDrop, Mv.mPar, Mv.mAsg, Mv.mStore, Mv.mNeg, Mv.fNeg, Mv.mYes, Mv.mNoP, Mv.mPart, Mv.mSl, Mv.fI, Mv.fAdd, Mv.fSub, Mv.fMul, Mv.fMod, Mv.fDiv, Mv.fPow, Mv.fLt, Mv.fLe, Mv.fGt, Mv.fGe, Mv.yes2, Mv.fIsN, Mv.fNotN, Mv.isNon, Mv.fIx, Mv.items_tup, Mv.items_new, Mv.list_new, Mv.lstOf_new, Mv.fEq_int, Mv.fNe_int, Mv.fLen_tup, Mv.fMax2, Mv.fMin2, Mv.fInt, Mv.fAbs, Mv.mIsi, Mv.isT, Mv.gN, Mv.gT, Mv.setAll, Mv.wipeM, Mv.R.bind_ok, Mv.R.bind_bad, Mv.R.noX_ok, Mv.R.andS_ok, Mv.R.andS_bad, Mv.S.andS_nx, Mv.S.andS_rt, Mv.S.andS_bad, Mv.S.andS_bk, Mv.S.andS_ct, List.map_cons, List.map_nil, List.cons_append, List.nil_append, List.append_nil, List.replicate_succ, List.replicate_zero, List.length_cons, List.length_nil, List.set_cons_zero, List.set_cons_succ, List.getElem?_cons_zero, List.getElem?_cons_succ, List.getElem?_nil, Nat.reduceAdd, Nat.reduceSub, Nat.reduceEqDiff, Nat.reduceLeDiff, Nat.zero_add, if_true, if_false, Bool.not_true, Bool.not_false, Bool.false_eq_true, decide_true, decide_false, ite_true, ite_false, Option.some.injEq, reduceIte]
      cases decide (a ≤ o)
      · exact ⟨rfl, fun _ => trivial⟩
      · exact ⟨rfl, fun _ => trivial⟩
noncomputable def G_l_broken : List MV → MH → R MV := specH (α := Nat × Plan × List Int) (fun a => [.ref a.1, .tup (ivs a.2.2)]) (fun a h => HasP h a.1 a.2.1 ∧ a.2.1.Ok ∧ a.2.2.length ≤ cap) fun a h => .ok (.ref h.length) (h ++ [.lst (ivs (brokenL a.2.1 a.2.2))])
theorem G_l_broken_eq {h : MH} {n : Nat} {P : Plan} (e : HasP h n P) (k : P.Ok) (st : List Int) (hl : st.length ≤ cap) : G_l_broken [.ref n, .tup (ivs st)] h = .ok (.ref h.length) (h ++ [.lst (ivs (brokenL P st))]) :=
  specH_eq (a := ((n, P, st) : Nat × Plan × List Int)) (fun x y q d1 d2 => by
    obtain ⟨x1, x2, x3⟩ := x
    obtain ⟨y1, y2, y3⟩ := y
    simp only [List.cons.injEq, MV.ref.injEq, and_true] at q
    obtain ⟨rfl, q⟩ := q
    have e1 : x3 = y3 := tints_inj _ _ q
    subst e1
    have e2 : x2 = y2 := HasP.uniq d1.1 d2.1
    subst e2
    rfl) ⟨e, k, hl⟩
theorem sim_l_broken (xs : List MV) (h : MH) : Sim h (F_l_broken F_Promise_share F_Promise_reach F_Promise_base F_Promise_copies xs h) (G_l_broken xs h) := specH_sim (fun a h d => F_l_broken_sim d.1 d.2.1 a.2.2 d.2.2) xs h


/-! ### missed -/
def missM (P : Plan) (r : Rule) : MV := match judgeV P r with
  | .keeps _ => .non
  | .misses t a => .tup [.int t, .int a]
theorem fNe_lints {h : MH} {n m : Nat} {a b : List Int} (e : h[n]? = some (.lst (ivs a))) (e' : h[m]? = some (.lst (ivs b))) : fNe (.ref n) (.ref m) h = .ok (.bl (!decide (a = b))) h := by
  have q := fEq_lints e e'
  unfold fEq at q
  unfold fNe
  rw [data_lints e, data_lints e'] at *
  simp only [R.ok.injEq, MV.bl.injEq, and_true] at q ⊢
  rw [q]
theorem judge_at {P : Plan} {r : Rule} {i : Nat} (hi : i < periodN r) : (judgeRows P r)[i]? = some (settled r + (i : Int), youngL P (rowF r i)) := by
  unfold judgeRows timesL
  rw [List.getElem?_map, List.getElem?_map, List.getElem?_range hi]
  rfl
theorem judge_len (P : Plan) (r : Rule) : (judgeRows P r).length = periodN r := by
  unfold judgeRows timesL
  rw [List.length_map, List.length_map, List.length_range]
theorem young_cap {P : Plan} {l : List Int} (h : l.length ≤ cap) : (youngL P l).length ≤ cap := Nat.le_trans (List.length_filter_le _ _) h
theorem row_cap {r : Rule} (v : Valid r) (k : Nat) : (rowF r k).length ≤ cap := Nat.le_trans (rowF_len v k) (by decide)
theorem judgeGo_keeps {P : Plan} {rows : List (Int × List Int)} : judgeGo P rows [] = .keeps (rows.map (·.2)) := rfl
theorem F_l_missed_eq {h : MH} {n : Nat} {P : Plan} (e : HasP h n P) (k : P.Ok) {r : Rule} (v : Valid r) : ∃ g, F_l_missed G_settled_of G_period_of G_l_rows G_young G_l_broken [.ref n, rv r] h = .ok (missM P r) (h ++ g) := by
  unfold F_l_missed m_l_missed G_l_rows
  obtain ⟨p1, p2⟩ := period_60 v
  simp only [Mv.mDef, Mv.mSeq, Mv.mSet, Mv.mRet, Mv.mRetN, Mv.mIfS, Mv.mVar, Mv.mC, Mv.mBin, Mv.mChain, Mv.mCall, Mv.mDo, Mv.mCons, Mv.mNil, Mv.mAndV, Mv.mOrV, Mv.mNotV, Mv.mAsB, Mv.mAndT, Mv.mOrT, Mv.mNotT, Mv.mIf, Mv.mTup, Mv.mLst, Mv.mNext, Mv.mBad, Mv.mDrop, Mv.mPar, Mv.mAsg, Mv.mStore, Mv.mNeg, Mv.fNeg, Mv.mYes, Mv.mNoP, Mv.mPart, Mv.mSl, Mv.fI, Mv.fAdd, Mv.fSub, Mv.fMul, Mv.fMod, Mv.fDiv, Mv.fPow, Mv.fLt, Mv.fLe, Mv.fGt, Mv.fGe, Mv.yes2, Mv.fIsN, Mv.fNotN, Mv.isNon, Mv.fIx, Mv.items_tup, Mv.items_new, Mv.list_new, Mv.lstOf_new, Mv.fEq_int, Mv.fNe_int, Mv.fLen_tup, Mv.fMax2, Mv.fMin2, Mv.fInt, Mv.fAbs, Mv.mIsi, Mv.isT, Mv.gN, Mv.gT, Mv.setAll, Mv.wipeM, Mv.R.bind_ok, Mv.R.bind_bad, Mv.R.noX_ok, Mv.R.andS_ok, Mv.R.andS_bad, Mv.S.andS_nx, Mv.S.andS_rt, Mv.S.andS_bad, Mv.S.andS_bk, Mv.S.andS_ct, List.map_cons, List.map_nil, List.cons_append, List.nil_append, List.append_nil, List.replicate_succ, List.replicate_zero, List.length_cons, List.length_nil, List.set_cons_zero, List.set_cons_succ, List.getElem?_cons_zero, List.getElem?_cons_succ, List.getElem?_nil, Nat.reduceAdd, Nat.reduceSub, Nat.reduceEqDiff, Nat.reduceLeDiff, Nat.zero_add, if_true, if_false, Bool.not_true, Bool.not_false, Bool.false_eq_true, decide_true, decide_false, ite_true, ite_false, Option.some.injEq, reduceIte, Mv.mFld, Mv.mIsC, Mv.mMeth, Mv.mMake, Mv.mMakeK, Mv.mEqB, Mv.boolR, Mv.mRev, List.lookup_cons, List.lookup_nil, Nat.reduceBEq, beq_self_eq_true, Mv.ins_new, Mv.set_new, G_settled_of_eq v, mFor, mEnumV, G_period_of_eq v, F_l_rows_eq v (periodN r) (by omega)]
  generalize er : (List.range (periodN r)).map (rowV r) = rows
  have hrl : rows.length = periodN r := by rw [← er, List.length_map, List.length_range]
  have hrow : (h ++ [MO.lst rows])[h.length]? = some (.lst rows) := look_new _ _
  refine for_ind (it := itE (itL h.length)) (xs := enumL rows) (P := fun s => ∃ g, (match s.andS (mRet (mC .non)) with
      | .nx _ h' => R.ok MV.non h' | .rt v h' => .ok v h' | .exc x _ h' => .exc x h' | _ => .bad) = .ok (missM P r) (h ++ g))
    (fun i env h' => ∃ g x3 x4 x5, h' = h ++ [MO.lst rows] ++ g ∧ env = [some (.ref n), some (rv r), some (.int (settled r)), x3, x4, x5] ∧ judgeGo P (judgeRows P r) ((judgeRows P r).drop i) = judgeV P r)
    ?_ ?_ ?_ fuel 0 _ _ ⟨[], none, none, none, by rw [List.append_nil], rfl, rfl⟩ (Nat.zero_le _) (by have := fuel_ge; rw [enum_len, hrl]; omega)
  · rintro i env h' ⟨g, x3, x4, x5, rfl, rfl, _⟩
    exact itE_nx (fun j => itL_nx (look_app hrow) j) i
  · rintro env h' ⟨g, x3, x4, x5, rfl, rfl, hv⟩
    rw [enum_len, hrl, ← judge_len P r, List.drop_length] at hv
    have hm : missM P r = .non := by unfold missM; rw [← hv, judgeGo_keeps]
    rw [hm]
    simp only [Mv.mDef, Mv.mSeq, Mv.mSet, Mv.mRet, Mv.mRetN, Mv.mIfS, Mv.mVar, Mv.mC, Mv.mBin, Mv.mChain, Mv.mCall, Mv.mDo, Mv.mCons, Mv.mNil, Mv.mAndV, Mv.mOrV, Mv.mNotV, Mv.mAsB, Mv.mAndT, Mv.mOrT, Mv.mNotT, Mv.mIf, Mv.mTup, Mv.mLst, Mv.mNext, Mv.mBad, Mv.mDrop, Mv.mPar, Mv.mAsg, Mv.mStore, Mv.mNeg, Mv.fNeg, Mv.mYes, Mv.mNoP, Mv.mPart, Mv.mSl, Mv.fI, Mv.fAdd, Mv.fSub, Mv.fMul, Mv.fMod, Mv.fDiv, Mv.fPow, Mv.fLt, Mv.fLe, Mv.fGt, Mv.fGe, Mv.yes2, Mv.fIsN, Mv.fNotN, Mv.isNon, Mv.fIx, Mv.items_tup, Mv.items_new, Mv.list_new, Mv.lstOf_new, Mv.fEq_int, Mv.fNe_int, Mv.fLen_tup, Mv.fMax2, Mv.fMin2, Mv.fInt, Mv.fAbs, Mv.mIsi, Mv.isT, Mv.gN, Mv.gT, Mv.setAll, Mv.wipeM, Mv.R.bind_ok, Mv.R.bind_bad, Mv.R.noX_ok, Mv.R.andS_ok, Mv.R.andS_bad, Mv.S.andS_nx, Mv.S.andS_rt, Mv.S.andS_bad, Mv.S.andS_bk, Mv.S.andS_ct, List.map_cons, List.map_nil, List.cons_append, List.nil_append, List.append_nil, List.replicate_succ, List.replicate_zero, List.length_cons, List.length_nil, List.set_cons_zero, List.set_cons_succ, List.getElem?_cons_zero, List.getElem?_cons_succ, List.getElem?_nil, Nat.reduceAdd, Nat.reduceSub, Nat.reduceEqDiff, Nat.reduceLeDiff, Nat.zero_add, if_true, if_false, Bool.not_true, Bool.not_false, Bool.false_eq_true, decide_true, decide_false, ite_true, ite_false, Option.some.injEq, reduceIte]
    exact ⟨_, by rw [List.append_assoc]⟩
  · rintro i x env h' hx ⟨g, x3, x4, x5, rfl, rfl, hv⟩
    have hi : i < periodN r := by
      have := (List.getElem?_eq_some_iff.mp hx).1
      rwa [enum_len, hrl] at this
    have hri : rows[i]? = some (rowV r i) := by rw [← er, List.getElem?_map, List.getElem?_range hi]; rfl
    have ex := enum_at hx hri
    subst ex
    have hjl : i < (judgeRows P r).length := by rw [judge_len]; exact hi
    have ej : (judgeRows P r)[i] = (settled r + (i : Int), youngL P (rowF r i)) := by
      have := judge_at (P := P) hi
      rw [List.getElem?_eq_getElem hjl] at this
      exact Option.some.inj this
    rw [List.drop_eq_getElem_cons hjl, ej] at hv
    have ep : HasP (h ++ [MO.lst rows] ++ g) n P := e.app.app
    have hc := row_cap v i
    have hc0 : (0 : Nat) ≤ cap := Nat.zero_le _
    refine ⟨_, rfl, ?_⟩
    simp only [Mv.mDef, Mv.mSeq, Mv.mSet, Mv.mRet, Mv.mRetN, Mv.mIfS, Mv.mVar, Mv.mC, Mv.mBin, Mv.mChain, Mv.mCall, Mv.mDo, Mv.mCons, Mv.mNil, Mv.mAndV, Mv.mOrV, Mv.mNotV, Mv.mAsB, Mv.mAndT, Mv.mOrT, Mv.mNotT, Mv.mIf, Mv.mTup, Mv.mLst, Mv.mNext, Mv.mBad, Mv.mDrop, Mv.mPar, Mv.mAsg, Mv.mStore, Mv.mNeg, Mv.fNeg, Mv.mYes, Mv.mNoP, Mv.mPart, Mv.mSl, Mv.fI, Mv.fAdd, Mv.fSub, Mv.fMul, Mv.fMod, Mv.fDiv, Mv.fPow, Mv.fLt, Mv.fLe, Mv.fGt, Mv.fGe, Mv.yes2, Mv.fIsN, Mv.fNotN, Mv.isNon, Mv.fIx, Mv.items_tup, Mv.items_new, Mv.list_new, Mv.lstOf_new, Mv.fEq_int, Mv.fNe_int, Mv.fLen_tup, Mv.fMax2, Mv.fMin2, Mv.fInt, Mv.fAbs, Mv.mIsi, Mv.isT, Mv.gN, Mv.gT, Mv.setAll, Mv.wipeM, Mv.R.bind_ok, Mv.R.bind_bad, Mv.R.noX_ok, Mv.R.andS_ok, Mv.R.andS_bad, Mv.S.andS_nx, Mv.S.andS_rt, Mv.S.andS_bad, Mv.S.andS_bk, Mv.S.andS_ct, List.map_cons, List.map_nil, List.cons_append, List.nil_append, List.append_nil, List.replicate_succ, List.replicate_zero, List.length_cons, List.length_nil, List.set_cons_zero, List.set_cons_succ, List.getElem?_cons_zero, List.getElem?_cons_succ, List.getElem?_nil, Nat.reduceAdd, Nat.reduceSub, Nat.reduceEqDiff, Nat.reduceLeDiff, Nat.zero_add, if_true, if_false, Bool.not_true, Bool.not_false, Bool.false_eq_true, decide_true, decide_false, ite_true, ite_false, Option.some.injEq, reduceIte, Mv.mFld, Mv.mIsC, Mv.mMeth, Mv.mMake, Mv.mMakeK, Mv.mEqB, Mv.boolR, Mv.mRev, List.lookup_cons, List.lookup_nil, Nat.reduceBEq, beq_self_eq_true, Mv.ins_new, Mv.set_new, rowV, G_young_eq ep k _ hc, G_l_broken_eq ep k _ (young_cap hc), hc0]
    generalize eh : h ++ [MO.lst rows] ++ g = h2 at ep ⊢
    have w1 : (h2 ++ [MO.lst (ivs (brokenL P (youngL P (rowF r i))))] ++ [MO.lst []])[h2.length]? = some (.lst (ivs (brokenL P (youngL P (rowF r i))))) := look_app (look_new _ _)
    have w2 : (h2 ++ [MO.lst (ivs (brokenL P (youngL P (rowF r i))))] ++ [MO.lst []])[(h2 ++ [MO.lst (ivs (brokenL P (youngL P (rowF r i))))]).length]? = some (.lst (ivs [])) := look_new _ _
    rw [fNe_lints w1 w2]
    cases hg : isGood P (youngL P (rowF r i)) with
    | true =>
      have hb : brokenL P (youngL P (rowF r i)) = [] := by
        cases q : brokenL P (youngL P (rowF r i)) with
        | nil => rfl
        | cons a l => rw [good_iff.mpr ⟨a, l, q⟩] at hg; cases hg
      have hd : decide (brokenL P (youngL P (rowF r i)) = []) = true := decide_eq_true hb
      simp only [Mv.mDef, Mv.mSeq, Mv.mSet, Mv.mRet, Mv.mRetN, Mv.mIfS, Mv.mVar, Mv.mC, Mv.mBin, Mv.mChain, Mv.mCall, Mv.mDo, Mv.mCons, Mv.mNil, Mv.mAndV, Mv.mOrV, Mv.mNotV, Mv.mAsB, Mv.mAndT, Mv.mOrT, Mv.mNotT, Mv.mIf, Mv.mTup, Mv.mLst, Mv.mNext, Mv.mBad, Mv.mDrop, Mv.mPar, Mv.mAsg, Mv.mStore, Mv.mNeg, Mv.fNeg, Mv.mYes, Mv.mNoP, Mv.mPart, Mv.mSl, Mv.fI, Mv.fAdd, Mv.fSub, Mv.fMul, Mv.fMod, Mv.fDiv, Mv.fPow, Mv.fLt, Mv.fLe, Mv.fGt, Mv.fGe, Mv.yes2, Mv.fIsN, Mv.fNotN, Mv.isNon, Mv.fIx, Mv.items_tup, Mv.items_new, Mv.list_new, Mv.lstOf_new, Mv.fEq_int, Mv.fNe_int, Mv.fLen_tup, Mv.fMax2, Mv.fMin2, Mv.fInt, Mv.fAbs, Mv.mIsi, Mv.isT, Mv.gN, Mv.gT, Mv.setAll, Mv.wipeM, Mv.R.bind_ok, Mv.R.bind_bad, Mv.R.noX_ok, Mv.R.andS_ok, Mv.R.andS_bad, Mv.S.andS_nx, Mv.S.andS_rt, Mv.S.andS_bad, Mv.S.andS_bk, Mv.S.andS_ct, List.map_cons, List.map_nil, List.cons_append, List.nil_append, List.append_nil, List.replicate_succ, List.replicate_zero, List.length_cons, List.length_nil, List.set_cons_zero, List.set_cons_succ, List.getElem?_cons_zero, List.getElem?_cons_succ, List.getElem?_nil, Nat.reduceAdd, Nat.reduceSub, Nat.reduceEqDiff, Nat.reduceLeDiff, Nat.zero_add, if_true, if_false, Bool.not_true, Bool.not_false, Bool.false_eq_true, decide_true, decide_false, ite_true, ite_false, Option.some.injEq, reduceIte, Mv.mFld, Mv.mIsC, Mv.mMeth, Mv.mMake, Mv.mMakeK, Mv.mEqB, Mv.boolR, Mv.mRev, List.lookup_cons, List.lookup_nil, Nat.reduceBEq, beq_self_eq_true, Mv.ins_new, Mv.set_new, hd]
      refine ⟨g ++ ([MO.lst (ivs (brokenL P (youngL P (rowF r i))))] ++ [MO.lst []]), _, _, _, ?_, rfl, ?_⟩
      · rw [← eh]; simp only [List.append_assoc]
      · rw [← hv]
        simp only [judgeGo, hg, if_true]
    | false =>
      obtain ⟨a, l, q⟩ := good_iff.mp hg
      have hd : decide (brokenL P (youngL P (rowF r i)) = []) = false := decide_eq_false (by rw [q]; simp)
      rw [q] at w1
      have hm : missM P r = .tup [.int (settled r + (i : Int)), .int a] := by
        unfold missM
        rw [← hv]
        simp only [judgeGo, hg]
        show MV.tup [.int (settled r + (i : Int)), .int (firstB P (youngL P (rowF r i)))] = _
        unfold firstB
        rw [q]
        rfl
      have az : atI (ivs (a :: l)) 0 = some (.int a) := at_zero _ _
      rw [hm]
      rw [q] at hd
      simp only [Mv.mDef, Mv.mSeq, Mv.mSet, Mv.mRet, Mv.mRetN, Mv.mIfS, Mv.mVar, Mv.mC, Mv.mBin, Mv.mChain, Mv.mCall, Mv.mDo, Mv.mCons, Mv.mNil, Mv.mAndV, Mv.mOrV, Mv.mNotV, Mv.mAsB, Mv.mAndT, Mv.mOrT, Mv.mNotT, Mv.mIf, Mv.mTup, Mv.mLst, Mv.mNext, Mv.mBad, Mv.mDrop, Mv.mPar, Mv.mAsg, Mv.mStore, Mv.mNeg, Mv.fNeg, Mv.mYes, Mv.mNoP, Mv.mPart, Mv.mSl, Mv.fI, Mv.fAdd, Mv.fSub, Mv.fMul, Mv.fMod, Mv.fDiv, Mv.fPow, Mv.fLt, Mv.fLe, Mv.fGt, Mv.fGe, Mv.yes2, Mv.fIsN, Mv.fNotN, Mv.isNon, Mv.fIx, Mv.items_tup, Mv.items_new, Mv.list_new, Mv.lstOf_new, Mv.fEq_int, Mv.fNe_int, Mv.fLen_tup, Mv.fMax2, Mv.fMin2, Mv.fInt, Mv.fAbs, Mv.mIsi, Mv.isT, Mv.gN, Mv.gT, Mv.setAll, Mv.wipeM, Mv.R.bind_ok, Mv.R.bind_bad, Mv.R.noX_ok, Mv.R.andS_ok, Mv.R.andS_bad, Mv.S.andS_nx, Mv.S.andS_rt, Mv.S.andS_bad, Mv.S.andS_bk, Mv.S.andS_ct, List.map_cons, List.map_nil, List.cons_append, List.nil_append, List.append_nil, List.replicate_succ, List.replicate_zero, List.length_cons, List.length_nil, List.set_cons_zero, List.set_cons_succ, List.getElem?_cons_zero, List.getElem?_cons_succ, List.getElem?_nil, Nat.reduceAdd, Nat.reduceSub, Nat.reduceEqDiff, Nat.reduceLeDiff, Nat.zero_add, if_true, if_false, Bool.not_true, Bool.not_false, Bool.false_eq_true, decide_true, decide_false, ite_true, ite_false, Option.some.injEq, reduceIte, Mv.mFld, Mv.mIsC, Mv.mMeth, Mv.mMake, Mv.mMakeK, Mv.mEqB, Mv.boolR, Mv.mRev, List.lookup_cons, List.lookup_nil, Nat.reduceBEq, beq_self_eq_true, Mv.ins_new, Mv.set_new, q, hd, items_at w1, az, cap2]
      refine ⟨[MO.lst rows] ++ g ++ ([MO.lst (ivs (a :: l))] ++ [MO.lst []]), ?_⟩
      rw [← eh]
      simp only [List.append_assoc]
noncomputable def G_l_missed : List MV → MH → R MV := specH (α := Nat × Plan × Rule) (fun a => [.ref a.1, rv a.2.2]) (fun a h => HasP h a.1 a.2.1 ∧ a.2.1.Ok ∧ Valid a.2.2) fun a h => .ok (missM a.2.1 a.2.2) h
theorem G_l_missed_eq {h : MH} {n : Nat} {P : Plan} (e : HasP h n P) (k : P.Ok) {r : Rule} (v : Valid r) : G_l_missed [.ref n, rv r] h = .ok (missM P r) h :=
  specH_eq (a := ((n, P, r) : Nat × Plan × Rule)) (fun x y q d1 d2 => by
    obtain ⟨x1, x2, x3⟩ := x
    obtain ⟨y1, y2, y3⟩ := y
    simp only [List.cons.injEq, MV.ref.injEq, and_true] at q
    obtain ⟨rfl, q⟩ := q
    have e1 : x3 = y3 := rv_inj q
    subst e1
    have e2 : x2 = y2 := HasP.uniq d1.1 d2.1
    subst e2
    rfl) ⟨e, k, v⟩
theorem und_missM (n : Nat) (P : Plan) (r : Rule) : MV.und n (missM P r) := by
  unfold missM
  split <;> simp [MV.und, MV.unds]
theorem sim_l_missed (xs : List MV) (h : MH) : Sim h (F_l_missed G_settled_of G_period_of G_l_rows G_young G_l_broken xs h) (G_l_missed xs h) := specH_sim (fun a h d => by
  obtain ⟨g, e⟩ := F_l_missed_eq d.1 d.2.1 d.2.2
  rw [e]
  exact sim_drop0 (und_missM _ _ _)) xs h

/-! ### a promise is drawn -/
theorem HasP.ext {n m : Nat} {h h' : MH} {P : Plan} (e : Ext n h h') (q : HasP h m P) (hn : m ≠ n) : HasP h' m P := e.look q hn
theorem F_l_promise_eq {ns : List Int} {s n k : Nat} {h : MH} (d : Draw ns s n h k) (hk : k ≤ 50000) :
    ∃ (m : Nat) (P : Plan) (h' : MH) (k' : Nat), F_l_promise G_l_next G_Promise_init [.ref n] h = .ok (.ref m) h' ∧ HasP h' m P ∧ P.Ok ∧ m ≠ n ∧ Ext n h h' ∧ Draw ns s n h' k' ∧ k' ≤ k + 5 := by
  unfold F_l_promise m_l_promise
  have hnl := d.lt
  obtain ⟨z1, o1, e1, a1, b1, d1⟩ := next_step d (by omega) (b := 6) (by decide)
  obtain ⟨z2, o2, e2, a2, b2, d2⟩ := next_step d1 (by omega) (b := 4) (by decide)
  obtain ⟨z3, o3, e3, a3, b3, d3⟩ := next_step d2 (by omega) (b := 5) (by decide)
  obtain ⟨z4, o4, e4, a4, b4, d4⟩ := next_step d3 (by omega) (b := 4) (by decide)
  obtain ⟨z5, o5, e5, a5, b5, d5⟩ := next_step d4 (by omega) (b := 5) (by decide)
  have c1 : CMulB z1 z3 = true := mul_small (by omega) (by omega)
  have c2 : CDivB (z1 * z3) (1 + z4) = true := div_small (by omega)
  have c3 : CDivB z5 4 = true := div_small (by omega)
  generalize eh : (((((h.set n o1).set n o2).set n o3).set n o4).set n o5) = h2 at e5 d5
  have ex : Ext n h h2 := by rw [← eh]; exact (((((Ext.refl).set).set).set).set).set
  have hl : h2.length = h.length := by rw [← eh]; simp
  have hq : 0 ≤ z5 / 4 ∧ z5 / 4 ≤ 1 := by omega
  simp only [Mv.mDef, Mv.mSeq, Mv.mSet, Mv.mRet, Mv.mRetN, Mv.mIfS, Mv.mVar, Mv.mC, Mv.mBin, Mv.mChain, Mv.mCall, Mv.mDo, Mv.mCons, Mv.mNil, Mv.mAndV, Mv.mOrV, Mv.mNotV, Mv.mAsB, Mv.mAndT, Mv.mOrT, Mv.mNotT, Mv.mIf, Mv.mTup, Mv.mLst, Mv.mNext, Mv.mBad, Mv.mDrop, Mv.mPar, Mv.mAsg, Mv.mStore, Mv.mNeg, Mv.fNeg, Mv.mYes, Mv.mNoP, Mv.mPart, Mv.mSl, Mv.fI, Mv.fAdd, Mv.fSub, Mv.fMul, Mv.fMod, Mv.fDiv, Mv.fPow, Mv.fLt, Mv.fLe, Mv.fGt, Mv.fGe, Mv.yes2, Mv.fIsN, Mv.fNotN, Mv.isNon, Mv.fIx, Mv.items_tup, Mv.items_new, Mv.list_new, Mv.lstOf_new, Mv.fEq_int, Mv.fNe_int, Mv.fLen_tup, Mv.fMax2, Mv.fMin2, Mv.fInt, Mv.fAbs, Mv.mIsi, Mv.isT, Mv.gN, Mv.gT, Mv.setAll, Mv.wipeM, Mv.R.bind_ok, Mv.R.bind_bad, Mv.R.noX_ok, Mv.R.andS_ok, Mv.R.andS_bad, Mv.S.andS_nx, Mv.S.andS_rt, Mv.S.andS_bad, Mv.S.andS_bk, Mv.S.andS_ct, List.map_cons, List.map_nil, List.cons_append, List.nil_append, List.append_nil, List.replicate_succ, List.replicate_zero, List.length_cons, List.length_nil, List.set_cons_zero, List.set_cons_succ, List.getElem?_cons_zero, List.getElem?_cons_succ, List.getElem?_nil, Nat.reduceAdd, Nat.reduceSub, Nat.reduceEqDiff, Nat.reduceLeDiff, Nat.zero_add, if_true, if_false, Bool.not_true, Bool.not_false, Bool.false_eq_true, decide_true, decide_false, ite_true, ite_false, Option.some.injEq, reduceIte, e1, e2, e3, e4, c1, c2]
  by_cases hh : 9 < z1 + z2 + z1 * z3 / (1 + z4)
  · have hd : decide (9 < z1 + z2 + z1 * z3 / (1 + z4)) = true := decide_eq_true hh
    have k1 : Plan.Ok ⟨z1, z2, 0, 1, 1 + z5 / 4⟩ := ⟨a1, by simp only; omega, a2, by simp only; omega, by simp, by simp, by simp, by simp, by simp only [Int.mul_zero, Int.zero_ediv]; omega, by simp only; omega, by simp only; omega⟩
    simp only [Mv.mDef, Mv.mSeq, Mv.mSet, Mv.mRet, Mv.mRetN, Mv.mIfS, Mv.mVar, Mv.mC, Mv.mBin, Mv.mChain, Mv.mCall, Mv.mDo, Mv.mCons, Mv.mNil, Mv.mAndV, Mv.mOrV, Mv.mNotV, Mv.mAsB, Mv.mAndT, Mv.mOrT, Mv.mNotT, Mv.mIf, Mv.mTup, Mv.mLst, Mv.mNext, Mv.mBad, Mv.mDrop, Mv.mPar, Mv.mAsg, Mv.mStore, Mv.mNeg, Mv.fNeg, Mv.mYes, Mv.mNoP, Mv.mPart, Mv.mSl, Mv.fI, Mv.fAdd, Mv.fSub, Mv.fMul, Mv.fMod, Mv.fDiv, Mv.fPow, Mv.fLt, Mv.fLe, Mv.fGt, Mv.fGe, Mv.yes2, Mv.fIsN, Mv.fNotN, Mv.isNon, Mv.fIx, Mv.items_tup, Mv.items_new, Mv.list_new, Mv.lstOf_new, Mv.fEq_int, Mv.fNe_int, Mv.fLen_tup, Mv.fMax2, Mv.fMin2, Mv.fInt, Mv.fAbs, Mv.mIsi, Mv.isT, Mv.gN, Mv.gT, Mv.setAll, Mv.wipeM, Mv.R.bind_ok, Mv.R.bind_bad, Mv.R.noX_ok, Mv.R.andS_ok, Mv.R.andS_bad, Mv.S.andS_nx, Mv.S.andS_rt, Mv.S.andS_bad, Mv.S.andS_bk, Mv.S.andS_ct, List.map_cons, List.map_nil, List.cons_append, List.nil_append, List.append_nil, List.replicate_succ, List.replicate_zero, List.length_cons, List.length_nil, List.set_cons_zero, List.set_cons_succ, List.getElem?_cons_zero, List.getElem?_cons_succ, List.getElem?_nil, Nat.reduceAdd, Nat.reduceSub, Nat.reduceEqDiff, Nat.reduceLeDiff, Nat.zero_add, if_true, if_false, Bool.not_true, Bool.not_false, Bool.false_eq_true, decide_true, decide_false, ite_true, ite_false, Option.some.injEq, reduceIte, Mv.mFld, Mv.mIsC, Mv.mMeth, Mv.mMake, Mv.mMakeK, Mv.mEqB, Mv.boolR, Mv.mRev, List.lookup_cons, List.lookup_nil, Nat.reduceBEq, beq_self_eq_true, Mv.ins_new, Mv.set_new, hd, mAsg, gT2, setAll, cap2, e5, c3, and_self]
    rw [new_promise k1 h2]
    simp only [Mv.mDef, Mv.mSeq, Mv.mSet, Mv.mRet, Mv.mRetN, Mv.mIfS, Mv.mVar, Mv.mC, Mv.mBin, Mv.mChain, Mv.mCall, Mv.mDo, Mv.mCons, Mv.mNil, Mv.mAndV, Mv.mOrV, Mv.mNotV, Mv.mAsB, Mv.mAndT, Mv.mOrT, Mv.mNotT, Mv.mIf, Mv.mTup, Mv.mLst, Mv.mNext, Mv.mBad, Mv.mDrop, Mv.mPar, Mv.mAsg, Mv.mStore, Mv.mNeg, Mv.fNeg, Mv.mYes, Mv.mNoP, Mv.mPart, Mv.mSl, Mv.fI, Mv.fAdd, Mv.fSub, Mv.fMul, Mv.fMod, Mv.fDiv, Mv.fPow, Mv.fLt, Mv.fLe, Mv.fGt, Mv.fGe, Mv.yes2, Mv.fIsN, Mv.fNotN, Mv.isNon, Mv.fIx, Mv.items_tup, Mv.items_new, Mv.list_new, Mv.lstOf_new, Mv.fEq_int, Mv.fNe_int, Mv.fLen_tup, Mv.fMax2, Mv.fMin2, Mv.fInt, Mv.fAbs, Mv.mIsi, Mv.isT, Mv.gN, Mv.gT, Mv.setAll, Mv.wipeM, Mv.R.bind_ok, Mv.R.bind_bad, Mv.R.noX_ok, Mv.R.andS_ok, Mv.R.andS_bad, Mv.S.andS_nx, Mv.S.andS_rt, Mv.S.andS_bad, Mv.S.andS_bk, Mv.S.andS_ct, List.map_cons, List.map_nil, List.cons_append, List.nil_append, List.append_nil, List.replicate_succ, List.replicate_zero, List.length_cons, List.length_nil, List.set_cons_zero, List.set_cons_succ, List.getElem?_cons_zero, List.getElem?_cons_succ, List.getElem?_nil, Nat.reduceAdd, Nat.reduceSub, Nat.reduceEqDiff, Nat.reduceLeDiff, Nat.zero_add, if_true, if_false, Bool.not_true, Bool.not_false, Bool.false_eq_true, decide_true, decide_false, ite_true, ite_false, Option.some.injEq, reduceIte]
    exact ⟨h2.length, _, _, _, rfl, look_new _ _, k1, by omega, ex.app, d5.app, Nat.le_refl _⟩
  · have hd : decide (9 < z1 + z2 + z1 * z3 / (1 + z4)) = false := decide_eq_false hh
    have k1 : Plan.Ok ⟨z1, z2, z3, 1 + z4, 1 + z5 / 4⟩ := ⟨a1, by simp only; omega, a2, by simp only; omega, a3, by simp only; omega, by simp only; omega, by simp only; omega, by simp only; omega, by simp only; omega, by simp only; omega⟩
    simp only [Mv.mDef, Mv.mSeq, Mv.mSet, Mv.mRet, Mv.mRetN, Mv.mIfS, Mv.mVar, Mv.mC, Mv.mBin, Mv.mChain, Mv.mCall, Mv.mDo, Mv.mCons, Mv.mNil, Mv.mAndV, Mv.mOrV, Mv.mNotV, Mv.mAsB, Mv.mAndT, Mv.mOrT, Mv.mNotT, Mv.mIf, Mv.mTup, Mv.mLst, Mv.mNext, Mv.mBad, Mv.mDrop, Mv.mPar, Mv.mAsg, Mv.mStore, Mv.mNeg, Mv.fNeg, Mv.mYes, Mv.mNoP, Mv.mPart, Mv.mSl, Mv.fI, Mv.fAdd, Mv.fSub, Mv.fMul, Mv.fMod, Mv.fDiv, Mv.fPow, Mv.fLt, Mv.fLe, Mv.fGt, Mv.fGe, Mv.yes2, Mv.fIsN, Mv.fNotN, Mv.isNon, Mv.fIx, Mv.items_tup, Mv.items_new, Mv.list_new, Mv.lstOf_new, Mv.fEq_int, Mv.fNe_int, Mv.fLen_tup, Mv.fMax2, Mv.fMin2, Mv.fInt, Mv.fAbs, Mv.mIsi, Mv.isT, Mv.gN, Mv.gT, Mv.setAll, Mv.wipeM, Mv.R.bind_ok, Mv.R.bind_bad, Mv.R.noX_ok, Mv.R.andS_ok, Mv.R.andS_bad, Mv.S.andS_nx, Mv.S.andS_rt, Mv.S.andS_bad, Mv.S.andS_bk, Mv.S.andS_ct, List.map_cons, List.map_nil, List.cons_append, List.nil_append, List.append_nil, List.replicate_succ, List.replicate_zero, List.length_cons, List.length_nil, List.set_cons_zero, List.set_cons_succ, List.getElem?_cons_zero, List.getElem?_cons_succ, List.getElem?_nil, Nat.reduceAdd, Nat.reduceSub, Nat.reduceEqDiff, Nat.reduceLeDiff, Nat.zero_add, if_true, if_false, Bool.not_true, Bool.not_false, Bool.false_eq_true, decide_true, decide_false, ite_true, ite_false, Option.some.injEq, reduceIte, Mv.mFld, Mv.mIsC, Mv.mMeth, Mv.mMake, Mv.mMakeK, Mv.mEqB, Mv.boolR, Mv.mRev, List.lookup_cons, List.lookup_nil, Nat.reduceBEq, beq_self_eq_true, Mv.ins_new, Mv.set_new, hd, cap2, e5, c3, and_self]
    rw [new_promise k1 h2]
    simp only [Mv.mDef, Mv.mSeq, Mv.mSet, Mv.mRet, Mv.mRetN, Mv.mIfS, Mv.mVar, Mv.mC, Mv.mBin, Mv.mChain, Mv.mCall, Mv.mDo, Mv.mCons, Mv.mNil, Mv.mAndV, Mv.mOrV, Mv.mNotV, Mv.mAsB, Mv.mAndT, Mv.mOrT, Mv.mNotT, Mv.mIf, Mv.mTup, Mv.mLst, Mv.mNext, Mv.mBad, Mv.mDrop, Mv.mPar, Mv.mAsg, Mv.mStore, Mv.mNeg, Mv.fNeg, Mv.mYes, Mv.mNoP, Mv.mPart, Mv.mSl, Mv.fI, Mv.fAdd, Mv.fSub, Mv.fMul, Mv.fMod, Mv.fDiv, Mv.fPow, Mv.fLt, Mv.fLe, Mv.fGt, Mv.fGe, Mv.yes2, Mv.fIsN, Mv.fNotN, Mv.isNon, Mv.fIx, Mv.items_tup, Mv.items_new, Mv.list_new, Mv.lstOf_new, Mv.fEq_int, Mv.fNe_int, Mv.fLen_tup, Mv.fMax2, Mv.fMin2, Mv.fInt, Mv.fAbs, Mv.mIsi, Mv.isT, Mv.gN, Mv.gT, Mv.setAll, Mv.wipeM, Mv.R.bind_ok, Mv.R.bind_bad, Mv.R.noX_ok, Mv.R.andS_ok, Mv.R.andS_bad, Mv.S.andS_nx, Mv.S.andS_rt, Mv.S.andS_bad, Mv.S.andS_bk, Mv.S.andS_ct, List.map_cons, List.map_nil, List.cons_append, List.nil_append, List.append_nil, List.replicate_succ, List.replicate_zero, List.length_cons, List.length_nil, List.set_cons_zero, List.set_cons_succ, List.getElem?_cons_zero, List.getElem?_cons_succ, List.getElem?_nil, Nat.reduceAdd, Nat.reduceSub, Nat.reduceEqDiff, Nat.reduceLeDiff, Nat.zero_add, if_true, if_false, Bool.not_true, Bool.not_false, Bool.false_eq_true, decide_true, decide_false, ite_true, ite_false, Option.some.injEq, reduceIte]
    exact ⟨h2.length, _, _, _, rfl, look_new _ _, k1, by omega, ex.app, d5.app, Nat.le_refl _⟩


/-! ### rules put together -/
theorem Valid.mem {r q : Rule} (h1 : 1 ≤ q.length) (h3 : q.length ≤ 3) (hm : ∀ p ∈ q, p ∈ r ∨ (1 ≤ p.1 ∧ p.1 ≤ 6 ∧ 0 ≤ p.2 ∧ p.2 ≤ 12)) (v : Valid r) : Valid q := ⟨h1, h3, fun p hp => (hm p hp).elim (fun z => v.ok p z) id⟩
theorem tup_add (a b : List MV) (h : MH) (hl : a.length + b.length ≤ cap) : fAdd (.tup a) (.tup b) h = .ok (.tup (a ++ b)) h := by
  unfold fAdd
  simp only [if_pos hl]
theorem fSl_tup (xs : List MV) (lo hi : Option Int) (h : MH) : fSl (.tup xs) lo hi h = .ok (.tup (cutM xs lo hi)) h := rfl
noncomputable def G_l_rule' : List MV → MH → R MV := F_l_rule G_l_next
/-- .. which keeps a promise, if one is found -/
theorem F_l_keeping_eq {ns : List Int} {s n k m : Nat} {h : MH} {P : Plan} (d : Draw ns s n h k) (hk : k ≤ 40000) (e : HasP h m P) (hP : P.Ok) (hm : m ≠ n) {most : Int} (m0 : 4 ≤ most) (m1 : most ≤ 12) :
    ∃ r h' k', F_l_keeping G_l_rule' G_l_missed G_l_next [.ref n, .ref m, .int most] h = .ok (rv r) h' ∧ Valid r ∧ Ext n h h' ∧ Draw ns s n h' k' ∧ k' ≤ k + 200 := by
  unfold F_l_keeping m_l_keeping G_l_rule'
  obtain ⟨r0, h0, k0, e0, v0, x0, d0, b0⟩ := F_l_rule_eq d (by omega) (most := most) (by omega) m1
  have hb : inR 6 = true := inR_of (by omega)
  simp only [Mv.mDef, Mv.mSeq, Mv.mSet, Mv.mRet, Mv.mRetN, Mv.mIfS, Mv.mVar, Mv.mC, Mv.mBin, Mv.mChain, Mv.mCall, Mv.mDo, Mv.mCons, Mv.mNil, Mv.mAndV, Mv.mOrV, Mv.mNotV, Mv.mAsB, Mv.mAndT, Mv.mOrT, Mv.mNotT, Mv.mIf, Mv.mTup, Mv.mLst, Mv.mNext, Mv.mBad, Mv.mDrop, Mv.mPar, Mv.mAsg, Mv.mStore, Mv.mNeg, Mv.fNeg, Mv.mYes, Mv.mNoP, Mv.mPart, Mv.mSl, Mv.fI, Mv.fAdd, Mv.fSub, Mv.fMul, Mv.fMod, Mv.fDiv, Mv.fPow, Mv.fLt, Mv.fLe, Mv.fGt, Mv.fGe, Mv.yes2, Mv.fIsN, Mv.fNotN, Mv.isNon, Mv.fIx, Mv.items_tup, Mv.items_new, Mv.list_new, Mv.lstOf_new, Mv.fEq_int, Mv.fNe_int, Mv.fLen_tup, Mv.fMax2, Mv.fMin2, Mv.fInt, Mv.fAbs, Mv.mIsi, Mv.isT, Mv.gN, Mv.gT, Mv.setAll, Mv.wipeM, Mv.R.bind_ok, Mv.R.bind_bad, Mv.R.noX_ok, Mv.R.andS_ok, Mv.R.andS_bad, Mv.S.andS_nx, Mv.S.andS_rt, Mv.S.andS_bad, Mv.S.andS_bk, Mv.S.andS_ct, List.map_cons, List.map_nil, List.cons_append, List.nil_append, List.append_nil, List.replicate_succ, List.replicate_zero, List.length_cons, List.length_nil, List.set_cons_zero, List.set_cons_succ, List.getElem?_cons_zero, List.getElem?_cons_succ, List.getElem?_nil, Nat.reduceAdd, Nat.reduceSub, Nat.reduceEqDiff, Nat.reduceLeDiff, Nat.zero_add, if_true, if_false, Bool.not_true, Bool.not_false, Bool.false_eq_true, decide_true, decide_false, ite_true, ite_false, Option.some.injEq, reduceIte, e0, mFor, mRng1, hb]
  generalize hF : forGo _ _ _ _ _ _ _ = t
  revert hF
  refine for_ind (it := itR 0 1 (6 : Int).toNat) (xs := ivs (prog 0 1 (6 : Int).toNat)) (P := fun u => u = t → ∃ r h' k', (match t.andS (mRet (mTup (mCons (mTup (mCons (mC (.int 1)) (mCons (mVar 2) mNil))) mNil))) with
      | .nx _ h' => R.ok MV.non h' | .rt v h' => .ok v h' | .exc x _ h' => .exc x h' | _ => .bad) = .ok (rv r) h' ∧ Valid r ∧ Ext n h h' ∧ Draw ns s n h' k' ∧ k' ≤ k + 200)
    (fun i env h' => ∃ (r : Rule) (k' : Nat) (x4 : Option MV), Valid r ∧ Ext n h h' ∧ Draw ns s n h' k' ∧ k' ≤ k + 20 + 25 * i ∧ env = [some (.ref n), some (.ref m), some (.int most), some (rv r), x4])
    ?_ ?_ ?_ fuel 0 _ _ ⟨r0, k0, none, v0, x0, d0, by omega, rfl⟩ (Nat.zero_le _) (by have := fuel_ge; simp only [ints_length, prog_length]; omega)
  · rintro i env h' _
    exact itR_nx _ _ _ i h'
  · rintro env h' ⟨r, k', x4, v, ex, dr, hk', rfl⟩ rfl
    rw [ints_length, prog_length] at hk'
    have c1 : (1 : Nat) ≤ cap := by decide
    simp only [Mv.mDef, Mv.mSeq, Mv.mSet, Mv.mRet, Mv.mRetN, Mv.mIfS, Mv.mVar, Mv.mC, Mv.mBin, Mv.mChain, Mv.mCall, Mv.mDo, Mv.mCons, Mv.mNil, Mv.mAndV, Mv.mOrV, Mv.mNotV, Mv.mAsB, Mv.mAndT, Mv.mOrT, Mv.mNotT, Mv.mIf, Mv.mTup, Mv.mLst, Mv.mNext, Mv.mBad, Mv.mDrop, Mv.mPar, Mv.mAsg, Mv.mStore, Mv.mNeg, Mv.fNeg, Mv.mYes, Mv.mNoP, Mv.mPart, Mv.mSl, Mv.fI, Mv.fAdd, Mv.fSub, Mv.fMul, Mv.fMod, Mv.fDiv, Mv.fPow, Mv.fLt, Mv.fLe, Mv.fGt, Mv.fGe, Mv.yes2, Mv.fIsN, Mv.fNotN, Mv.isNon, Mv.fIx, Mv.items_tup, Mv.items_new, Mv.list_new, Mv.lstOf_new, Mv.fEq_int, Mv.fNe_int, Mv.fLen_tup, Mv.fMax2, Mv.fMin2, Mv.fInt, Mv.fAbs, Mv.mIsi, Mv.isT, Mv.gN, Mv.gT, Mv.setAll, Mv.wipeM, Mv.R.bind_ok, Mv.R.bind_bad, Mv.R.noX_ok, Mv.R.andS_ok, Mv.R.andS_bad, Mv.S.andS_nx, Mv.S.andS_rt, Mv.S.andS_bad, Mv.S.andS_bk, Mv.S.andS_ct, List.map_cons, List.map_nil, List.cons_append, List.nil_append, List.append_nil, List.replicate_succ, List.replicate_zero, List.length_cons, List.length_nil, List.set_cons_zero, List.set_cons_succ, List.getElem?_cons_zero, List.getElem?_cons_succ, List.getElem?_nil, Nat.reduceAdd, Nat.reduceSub, Nat.reduceEqDiff, Nat.reduceLeDiff, Nat.zero_add, if_true, if_false, Bool.not_true, Bool.not_false, Bool.false_eq_true, decide_true, decide_false, ite_true, ite_false, Option.some.injEq, reduceIte, cap2, c1]
    refine ⟨[(1, most)], h', k', rfl, ⟨by simp, by simp, fun p hp => ?_⟩, ex, dr, by omega⟩
    have := List.mem_singleton.mp hp
    subst this
    simp only
    omega
  · rintro i x env h' hx ⟨r, k', x4, v, ex, dr, hk', rfl⟩
    have hi : i < 6 := by
      have := (List.getElem?_eq_some_iff.mp hx).1
      rw [ints_length, prog_length] at this
      exact this
    obtain ⟨y, _, rfl⟩ := mem_ints.mp (List.mem_of_getElem? hx)
    have ep : HasP h' m P := e.ext ex hm
    refine ⟨_, rfl, ?_⟩
    simp only [Mv.mDef, Mv.mSeq, Mv.mSet, Mv.mRet, Mv.mRetN, Mv.mIfS, Mv.mVar, Mv.mC, Mv.mBin, Mv.mChain, Mv.mCall, Mv.mDo, Mv.mCons, Mv.mNil, Mv.mAndV, Mv.mOrV, Mv.mNotV, Mv.mAsB, Mv.mAndT, Mv.mOrT, Mv.mNotT, Mv.mIf, Mv.mTup, Mv.mLst, Mv.mNext, Mv.mBad, Mv.mDrop, Mv.mPar, Mv.mAsg, Mv.mStore, Mv.mNeg, Mv.fNeg, Mv.mYes, Mv.mNoP, Mv.mPart, Mv.mSl, Mv.fI, Mv.fAdd, Mv.fSub, Mv.fMul, Mv.fMod, Mv.fDiv, Mv.fPow, Mv.fLt, Mv.fLe, Mv.fGt, Mv.fGe, Mv.yes2, Mv.fIsN, Mv.fNotN, Mv.isNon, Mv.fIx, Mv.items_tup, Mv.items_new, Mv.list_new, Mv.lstOf_new, Mv.fEq_int, Mv.fNe_int, Mv.fLen_tup, Mv.fMax2, Mv.fMin2, Mv.fInt, Mv.fAbs, Mv.mIsi, Mv.isT, Mv.gN, Mv.gT, Mv.setAll, Mv.wipeM, Mv.R.bind_ok, Mv.R.bind_bad, Mv.R.noX_ok, Mv.R.andS_ok, Mv.R.andS_bad, Mv.S.andS_nx, Mv.S.andS_rt, Mv.S.andS_bad, Mv.S.andS_bk, Mv.S.andS_ct, List.map_cons, List.map_nil, List.cons_append, List.nil_append, List.append_nil, List.replicate_succ, List.replicate_zero, List.length_cons, List.length_nil, List.set_cons_zero, List.set_cons_succ, List.getElem?_cons_zero, List.getElem?_cons_succ, List.getElem?_nil, Nat.reduceAdd, Nat.reduceSub, Nat.reduceEqDiff, Nat.reduceLeDiff, Nat.zero_add, if_true, if_false, Bool.not_true, Bool.not_false, Bool.false_eq_true, decide_true, decide_false, ite_true, ite_false, Option.some.injEq, reduceIte, G_l_missed_eq ep hP v]
    cases q : judgeV P r with
    | keeps rows =>
      have hmv : missM P r = .non := by unfold missM; rw [q]
      simp only [Mv.mDef, Mv.mSeq, Mv.mSet, Mv.mRet, Mv.mRetN, Mv.mIfS, Mv.mVar, Mv.mC, Mv.mBin, Mv.mChain, Mv.mCall, Mv.mDo, Mv.mCons, Mv.mNil, Mv.mAndV, Mv.mOrV, Mv.mNotV, Mv.mAsB, Mv.mAndT, Mv.mOrT, Mv.mNotT, Mv.mIf, Mv.mTup, Mv.mLst, Mv.mNext, Mv.mBad, Mv.mDrop, Mv.mPar, Mv.mAsg, Mv.mStore, Mv.mNeg, Mv.fNeg, Mv.mYes, Mv.mNoP, Mv.mPart, Mv.mSl, Mv.fI, Mv.fAdd, Mv.fSub, Mv.fMul, Mv.fMod, Mv.fDiv, Mv.fPow, Mv.fLt, Mv.fLe, Mv.fGt, Mv.fGe, Mv.yes2, Mv.fIsN, Mv.fNotN, Mv.isNon, Mv.fIx, Mv.items_tup, Mv.items_new, Mv.list_new, Mv.lstOf_new, Mv.fEq_int, Mv.fNe_int, Mv.fLen_tup, Mv.fMax2, Mv.fMin2, Mv.fInt, Mv.fAbs, Mv.mIsi, Mv.isT, Mv.gN, Mv.gT, Mv.setAll, Mv.wipeM, Mv.R.bind_ok, Mv.R.bind_bad, Mv.R.noX_ok, Mv.R.andS_ok, Mv.R.andS_bad, Mv.S.andS_nx, Mv.S.andS_rt, Mv.S.andS_bad, Mv.S.andS_bk, Mv.S.andS_ct, List.map_cons, List.map_nil, List.cons_append, List.nil_append, List.append_nil, List.replicate_succ, List.replicate_zero, List.length_cons, List.length_nil, List.set_cons_zero, List.set_cons_succ, List.getElem?_cons_zero, List.getElem?_cons_succ, List.getElem?_nil, Nat.reduceAdd, Nat.reduceSub, Nat.reduceEqDiff, Nat.reduceLeDiff, Nat.zero_add, if_true, if_false, Bool.not_true, Bool.not_false, Bool.false_eq_true, decide_true, decide_false, ite_true, ite_false, Option.some.injEq, reduceIte, hmv]
      rintro rfl
      simp only [Mv.mDef, Mv.mSeq, Mv.mSet, Mv.mRet, Mv.mRetN, Mv.mIfS, Mv.mVar, Mv.mC, Mv.mBin, Mv.mChain, Mv.mCall, Mv.mDo, Mv.mCons, Mv.mNil, Mv.mAndV, Mv.mOrV, Mv.mNotV, Mv.mAsB, Mv.mAndT, Mv.mOrT, Mv.mNotT, Mv.mIf, Mv.mTup, Mv.mLst, Mv.mNext, Mv.mBad, Mv.mDrop, Mv.mPar, Mv.mAsg, Mv.mStore, Mv.mNeg, Mv.fNeg, Mv.mYes, Mv.mNoP, Mv.mPart, Mv.mSl, Mv.fI, Mv.fAdd, Mv.fSub, Mv.fMul, Mv.fMod, Mv.fDiv, Mv.fPow, Mv.fLt, Mv.fLe, Mv.fGt, Mv.fGe, Mv.yes2, Mv.fIsN, Mv.fNotN, Mv.isNon, Mv.fIx, Mv.items_tup, Mv.items_new, Mv.list_new, Mv.lstOf_new, Mv.fEq_int, Mv.fNe_int, Mv.fLen_tup, Mv.fMax2, Mv.fMin2, Mv.fInt, Mv.fAbs, Mv.mIsi, Mv.isT, Mv.gN, Mv.gT, Mv.setAll, Mv.wipeM, Mv.R.bind_ok, Mv.R.bind_bad, Mv.R.noX_ok, Mv.R.andS_ok, Mv.R.andS_bad, Mv.S.andS_nx, Mv.S.andS_rt, Mv.S.andS_bad, Mv.S.andS_bk, Mv.S.andS_ct, List.map_cons, List.map_nil, List.cons_append, List.nil_append, List.append_nil, List.replicate_succ, List.replicate_zero, List.length_cons, List.length_nil, List.set_cons_zero, List.set_cons_succ, List.getElem?_cons_zero, List.getElem?_cons_succ, List.getElem?_nil, Nat.reduceAdd, Nat.reduceSub, Nat.reduceEqDiff, Nat.reduceLeDiff, Nat.zero_add, if_true, if_false, Bool.not_true, Bool.not_false, Bool.false_eq_true, decide_true, decide_false, ite_true, ite_false, Option.some.injEq, reduceIte]
      exact ⟨r, h', k', rfl, v, ex, dr, by omega⟩
    | misses a b =>
      have hmv : missM P r = .tup [.int a, .int b] := by unfold missM; rw [q]
      obtain ⟨z, o, e1, z0, z1, d1⟩ := next_step dr (by omega) (b := most - 3) (by omega)
      obtain ⟨r2, h2, k2, e2, v2, x2, d2, b2⟩ := F_l_rule_eq d1 (by omega) (most := most) (by omega) m1
      have c1 : (1 : Nat) ≤ cap := by decide
      have hcut : cutM (r2.map pv2) none (some 2) = (r2.map pv2).take 2 := by
        unfold cutM
        have : HT.sIx (r2.map pv2).length (r2.map pv2).length (some 2) = min 2 (r2.map pv2).length := HT.sIx_nat _ _ 2
        rw [HT.sIx_none, this, List.drop_zero, Nat.sub_zero]
        rcases Nat.le_total 2 (r2.map pv2).length with w | w
        · rw [Nat.min_eq_left w]
        · rw [Nat.min_eq_right w, List.take_of_length_le (Nat.le_refl _), List.take_of_length_le w]
      have hlen : ((r2.map pv2).take 2).length + 1 ≤ 3 := by have := List.length_take_le 2 (r2.map pv2); omega
      have hadd : ∀ h, fAdd (.tup [.tup [.int 1, .int (4 + z)]]) (.tup ((r2.map pv2).take 2)) h = .ok (.tup ([.tup [.int 1, .int (4 + z)]] ++ (r2.map pv2).take 2)) h := fun h => tup_add _ _ h (by simp only [List.length_singleton]; unfold cap; omega)
      simp only [Mv.mDef, Mv.mSeq, Mv.mSet, Mv.mRet, Mv.mRetN, Mv.mIfS, Mv.mVar, Mv.mC, Mv.mBin, Mv.mChain, Mv.mCall, Mv.mDo, Mv.mCons, Mv.mNil, Mv.mAndV, Mv.mOrV, Mv.mNotV, Mv.mAsB, Mv.mAndT, Mv.mOrT, Mv.mNotT, Mv.mIf, Mv.mTup, Mv.mLst, Mv.mNext, Mv.mBad, Mv.mDrop, Mv.mPar, Mv.mAsg, Mv.mStore, Mv.mNeg, Mv.fNeg, Mv.mYes, Mv.mNoP, Mv.mPart, Mv.mSl, Mv.fI, Mv.fSub, Mv.fMul, Mv.fMod, Mv.fDiv, Mv.fPow, Mv.fLt, Mv.fLe, Mv.fGt, Mv.fGe, Mv.yes2, Mv.fIsN, Mv.fNotN, Mv.isNon, Mv.fIx, Mv.items_tup, Mv.items_new, Mv.list_new, Mv.lstOf_new, Mv.fEq_int, Mv.fNe_int, Mv.fLen_tup, Mv.fMax2, Mv.fMin2, Mv.fInt, Mv.fAbs, Mv.mIsi, Mv.isT, Mv.gN, Mv.gT, Mv.setAll, Mv.wipeM, Mv.R.bind_ok, Mv.R.bind_bad, Mv.R.noX_ok, Mv.R.andS_ok, Mv.R.andS_bad, Mv.S.andS_nx, Mv.S.andS_rt, Mv.S.andS_bad, Mv.S.andS_bk, Mv.S.andS_ct, List.map_cons, List.map_nil, List.cons_append, List.nil_append, List.append_nil, List.replicate_succ, List.replicate_zero, List.length_cons, List.length_nil, List.set_cons_zero, List.set_cons_succ, List.getElem?_cons_zero, List.getElem?_cons_succ, List.getElem?_nil, Nat.reduceAdd, Nat.reduceSub, Nat.reduceEqDiff, Nat.reduceLeDiff, Nat.zero_add, if_true, if_false, Bool.not_true, Bool.not_false, Bool.false_eq_true, decide_true, decide_false, ite_true, ite_false, Option.some.injEq, reduceIte, hmv, e1, e2, cap2, c1]
      have f1 : fAdd (.int 4) (.int z) (h'.set n o) = .ok (.int (4 + z)) (h'.set n o) := rfl
      simp only [Mv.mDef, Mv.mSeq, Mv.mSet, Mv.mRet, Mv.mRetN, Mv.mIfS, Mv.mVar, Mv.mC, Mv.mBin, Mv.mChain, Mv.mCall, Mv.mDo, Mv.mCons, Mv.mNil, Mv.mAndV, Mv.mOrV, Mv.mNotV, Mv.mAsB, Mv.mAndT, Mv.mOrT, Mv.mNotT, Mv.mIf, Mv.mTup, Mv.mLst, Mv.mNext, Mv.mBad, Mv.mDrop, Mv.mPar, Mv.mAsg, Mv.mStore, Mv.mNeg, Mv.fNeg, Mv.mYes, Mv.mNoP, Mv.mPart, Mv.mSl, Mv.fI, Mv.fSub, Mv.fMul, Mv.fMod, Mv.fDiv, Mv.fPow, Mv.fLt, Mv.fLe, Mv.fGt, Mv.fGe, Mv.yes2, Mv.fIsN, Mv.fNotN, Mv.isNon, Mv.fIx, Mv.items_tup, Mv.items_new, Mv.list_new, Mv.lstOf_new, Mv.fEq_int, Mv.fNe_int, Mv.fLen_tup, Mv.fMax2, Mv.fMin2, Mv.fInt, Mv.fAbs, Mv.mIsi, Mv.isT, Mv.gN, Mv.gT, Mv.setAll, Mv.wipeM, Mv.R.bind_ok, Mv.R.bind_bad, Mv.R.noX_ok, Mv.R.andS_ok, Mv.R.andS_bad, Mv.S.andS_nx, Mv.S.andS_rt, Mv.S.andS_bad, Mv.S.andS_bk, Mv.S.andS_ct, List.map_cons, List.map_nil, List.cons_append, List.nil_append, List.append_nil, List.replicate_succ, List.replicate_zero, List.length_cons, List.length_nil, List.set_cons_zero, List.set_cons_succ, List.getElem?_cons_zero, List.getElem?_cons_succ, List.getElem?_nil, Nat.reduceAdd, Nat.reduceSub, Nat.reduceEqDiff, Nat.reduceLeDiff, Nat.zero_add, if_true, if_false, Bool.not_true, Bool.not_false, Bool.false_eq_true, decide_true, decide_false, ite_true, ite_false, Option.some.injEq, reduceIte, f1, e2, cap2, c1, rv, fSl_tup, hcut, hadd]
      refine ⟨(1, 4 + z) :: r2.take 2, k2, some (.int y), ?_, ex.trans ((Ext.refl.set).trans x2), d2, by omega, ?_⟩
      · refine Valid.mem (r := r2) (by simp) (by simp; omega) (fun p hp => ?_) v2
        rcases List.mem_cons.mp hp with rfl | hp
        · right; simp only; omega
        · left; exact List.mem_of_mem_take hp
      · simp [pv2, List.map_take]

theorem fNe_bl (a b : Bool) (h : MH) : fNe (.bl a) (.bl b) h = .ok (.bl (!(a == b))) h := rfl
theorem fNe_pair (a b c d : Int) (h : MH) : fNe (.tup [.int a, .int b]) (.tup [.int c, .int d]) h = .ok (.bl (!decide ([a, b] = [c, d]))) h := fNe_tints [a, b] [c, d] h
theorem judge_rows {P : Plan} {rows : List (Int × List Int)} : ∀ {rs : List (Int × List Int)} {xs : List (List Int)}, judgeGo P rows rs = .keeps xs → xs = rows.map (·.2)
  | [], xs, e => by simp only [judgeGo, Vd.keeps.injEq] at e; exact e.symm
  | p :: rs, xs, e => by
    simp only [judgeGo] at e
    split at e
    · exact judge_rows e
    · cases e
theorem rows_append (a b : List (List Int)) : rowsM (a ++ b) = rowsM a ++ rowsM b := by unfold rowsM; rw [List.map_append]

/-! ### two rules compared -/
def unlike (a b : Rule) (t : Nat) : Bool := !decide (heldAt a (t : Int) = heldAt b (t : Int))
def unlikeL (a b : Rule) (n : Nat) : List Nat := (List.range n).filter (unlike a b)
theorem held_row (r : Rule) {s : Nat} (hs : settled r ≤ (s : Int)) : heldAt r (s : Int) = rowF r ((s : Int) - settled r).toNat := by
  unfold rowF
  congr 1
  omega
theorem held_cyc {r : Rule} {L : Nat} (c : cyc r L) {s : Nat} (hs : settled r ≤ (s : Int)) (j : Nat) : heldAt r ((s + L * j : Nat) : Int) = heldAt r (s : Int) := by
  have h2 : settled r ≤ ((s + L * j : Nat) : Int) := by push_cast; have : (0 : Int) ≤ (L : Int) * (j : Int) := Int.mul_nonneg (by omega) (by omega); omega
  rw [held_row r h2, held_row r hs]
  have : (((s + L * j : Nat) : Int) - settled r).toNat = ((s : Int) - settled r).toNat + L * j := by push_cast; have : ((L * j : Nat) : Int) = (L : Int) * (j : Int) := by push_cast; rfl
                                                                                                     omega
  rw [this]
  exact cyc_mul c j _
theorem cyc_of_dvd {r : Rule} (v : Valid r) {L : Nat} (h : periodN r ∣ L) : cyc r L := by
  obtain ⟨q, e⟩ := h
  rw [e]
  exact cyc_mul (periodN_is v).2.1 q
/-- the greater of the settled times -/
def firstN (a b : Rule) : Nat := (max (settled a) (settled b)).toNat
theorem unlike_all {a b : Rule} (va : Valid a) (vb : Valid b) (h : unlikeL a b (manyN a b) = []) (t : Nat) : heldAt a (t : Int) = heldAt b (t : Int) := by
  have low : ∀ t, t < manyN a b → heldAt a (t : Int) = heldAt b (t : Int) := fun t ht => by
    have := List.filter_eq_nil_iff.mp h t (List.mem_range.mpr ht)
    unfold unlike at this
    simpa using this
  obtain ⟨_, _, s1, s2⟩ := settled_spec va
  obtain ⟨_, _, s3, s4⟩ := settled_spec vb
  have hL : 0 < Nat.lcm (periodN a) (periodN b) := Nat.lcm_pos (period_60 va).1 (period_60 vb).1
  rcases Nat.lt_or_ge t (manyN a b) with q | q
  · exact low t q
  · have hf : (max (settled a) (settled b)).toNat ≤ t := by unfold manyN at q; omega
    have key := Nat.div_add_mod (t - (max (settled a) (settled b)).toNat) (Nat.lcm (periodN a) (periodN b))
    have hm := Nat.mod_lt (t - (max (settled a) (settled b)).toNat) hL
    generalize (t - (max (settled a) (settled b)).toNat) / Nat.lcm (periodN a) (periodN b) = j at key
    generalize (t - (max (settled a) (settled b)).toNat) % Nat.lcm (periodN a) (periodN b) = i at key hm
    have et : t = ((max (settled a) (settled b)).toNat + i) + Nat.lcm (periodN a) (periodN b) * j := by omega
    rw [et, held_cyc (cyc_of_dvd va (Nat.dvd_lcm_left _ _)) (by omega) j, held_cyc (cyc_of_dvd vb (Nat.dvd_lcm_right _ _)) (by omega) j]
    exact low _ (by unfold manyN; omega)
theorem unlike_more {a b : Rule} (va : Valid a) (vb : Valid b) : manyN a b ≤ firstN a b + 60 := by
  have := Nat.le_of_dvd (by decide) (Nat.lcm_dvd (period_dvd va) (period_dvd vb))
  unfold manyN firstN
  omega
theorem many_pos {a b : Rule} (va : Valid a) (vb : Valid b) : 1 ≤ manyN a b := by
  have hL : 0 < Nat.lcm (periodN a) (periodN b) := Nat.lcm_pos (period_60 va).1 (period_60 vb).1
  unfold manyN
  omega
def unI (l : List Nat) : List Int := l.map fun (t : Nat) => (t : Int)
end Mv

set_option maxHeartbeats 4000000
/-! V: pauses and losses -/
namespace Mv
open PySem PySem.Spec L2

theorem prog_app (lo : Int) (n m : Nat) : prog lo 1 (n + m) = prog lo 1 n ++ prog (lo + n) 1 m := by
  unfold prog
  rw [List.range_add, List.map_append, List.map_map]
  congr 1
  apply List.map_congr_left
  intro i _
  show lo + ((n + i : Nat) : Int) * 1 = lo + (n : Int) + (i : Int) * 1
  push_cast
  omega
theorem eqv_any (x : Int) (l : List Int) : ((l.map PyData.int).any fun z => PyData.eqv z (PyData.int x)) = decide (x ∈ l) := by
  induction l with
  | nil => simp
  | cons y l ih =>
    rw [List.map_cons, List.any_cons, ih]
    show ((y == x) || decide (x ∈ l)) = decide (x ∈ y :: l)
    by_cases h : y = x
    · subst h; simp
    · have : (y == x) = false := by simpa using h
      rw [this]
      have h2 : ¬ x = y := fun q => h q.symm
      simp [h2]
theorem fNotIn_ints {h : MH} {g : Nat} {l : List Int} (e : h[g]? = some (.lst (ivs l))) (x : Int) : fNotIn (.int x) (.ref g) h = .ok (.bl (!decide (x ∈ l))) h := by
  unfold fNotIn
  rw [data_lints e]
  show R.ok (MV.bl (!((l.map PyData.int).any fun z => PyData.eqv z (PyData.int x)))) h = _
  rw [eqv_any]
/-! ### what a rule that keeps a promise holds, all its time -/
theorem go_good {P : Plan} {rows : List (Int × List Int)} : ∀ {rs : List (Int × List Int)}, (judgeGo P rows rs).isK = true → ∀ p ∈ rs, isGood P p.2 = true
  | [], _, p, hp => by cases hp
  | q :: rs, e, p, hp => by
    by_cases hg : isGood P q.2 = true
    · rw [judgeGo, if_pos hg] at e
      rcases List.mem_cons.mp hp with rfl | hp
      · exact hg
      · exact go_good e p hp
    · rw [judgeGo, if_neg hg] at e
      cases e
theorem kept_good {P : Plan} {r : Rule} (v : Valid r) (hK : (judgeV P r).isK = true) {t : Int} (ht : settled r ≤ t) : isGood P (youngL P (heldAt r t)) = true := by
  obtain ⟨p1, pc, _⟩ := periodN_is v
  obtain ⟨_, _, s0, _⟩ := settled_spec v
  have hm : (t - settled r).toNat % periodN r < periodN r := Nat.mod_lt _ p1
  have hrow : rowF r (t - settled r).toNat = rowF r ((t - settled r).toNat % periodN r) := by
    have := cyc_mul pc ((t - settled r).toNat / periodN r) ((t - settled r).toNat % periodN r)
    rw [Nat.mod_add_div] at this
    exact this
  have e : heldAt r t = rowF r ((t - settled r).toNat % periodN r) := by
    rw [← hrow]
    unfold rowF
    congr 1
    omega
  have := go_good (show (judgeGo P (judgeRows P r) (judgeRows P r)).isK = true from hK) _ (List.mem_of_getElem? (judge_at (P := P) hm))
  rw [e]
  exact this
theorem held_le {r : Rule} {t a : Int} (h : a ∈ heldAt r t) : 0 ≤ a ∧ a ≤ settled r ∧ a ≤ t := by
  unfold heldAt at h
  obtain ⟨i, hi, e⟩ := mem_prog.mp (List.mem_filter.mp h).1
  split at hi <;> omega
/-! ### what is left, what is hurt -/
def leftL (r : Rule) (t : Int) (gone : List Int) : List Int := (heldAt r t).filter fun a => !decide (t - a ∈ gone)
def hurtAt (P : Plan) (r : Rule) (gone : List Int) (t : Int) : Bool := !isGood P (youngL P (leftL r t gone))
def lowT (r : Rule) (first : Int) : Int := max first (settled r)
def lastT (first : Int) (gone : List Int) : Int := maxOf (first :: gone)
def hurtTo (P : Plan) (r : Rule) (first : Int) (gone : List Int) (n : Nat) : List Int := (prog (lowT r first) 1 n).filter (hurtAt P r gone)
def hurtL (P : Plan) (r : Rule) (first : Int) (gone : List Int) : List Int := hurtTo P r first gone (lastT first gone + settled r + 1 - lowT r first).toNat
structure GoneOk (first : Int) (gone : List Int) : Prop where
  f0 : 0 ≤ first
  f1 : first ≤ 1000
  len : gone.length ≤ 100
  le : ∀ x ∈ gone, x ≤ 1100
theorem GoneOk.last {first : Int} {gone : List Int} (k : GoneOk first gone) : first ≤ lastT first gone ∧ lastT first gone ≤ 1100 ∧ ∀ x ∈ gone, x ≤ lastT first gone := by
  obtain ⟨h1, h2⟩ := maxOf_spec (l := first :: gone) (by simp)
  refine ⟨h2 _ (List.mem_cons_self ..), ?_, fun x hx => h2 _ (List.mem_cons_of_mem _ hx)⟩
  unfold lastT
  rcases List.mem_cons.mp h1 with e | e
  · rw [e]; have := k.f1; omega
  · exact k.le _ e
theorem late_well {P : Plan} {r : Rule} (v : Valid r) (hK : (judgeV P r).isK = true) {first : Int} {gone : List Int} (k : GoneOk first gone) {t : Int} (h1 : lowT r first ≤ t) (h2 : lastT first gone + settled r < t) : hurtAt P r gone t = false := by
  have e : leftL r t gone = heldAt r t := by
    unfold leftL
    refine List.filter_eq_self.mpr fun a ha => ?_
    have := held_le ha
    have hn : ¬ (t - a ∈ gone) := fun z => by have := k.last.2.2 _ z; omega
    simp [hn]
  unfold hurtAt
  rw [e, kept_good v hK (by unfold lowT at h1; omega)]
  rfl
theorem hurt_more {P : Plan} {r : Rule} (v : Valid r) (hK : (judgeV P r).isK = true) {first : Int} {gone : List Int} (k : GoneOk first gone) : hurtTo P r first gone (lastT first gone + 30 - lowT r first).toNat = hurtL P r first gone := by
  obtain ⟨_, _, s0, s1⟩ := settled_spec v
  have kl := k.last
  have f0 := k.f0
  have hlow : lowT r first ≤ lastT first gone + settled r := by unfold lowT; omega
  unfold hurtL hurtTo
  obtain ⟨d, hd⟩ : ∃ d, (lastT first gone + 30 - lowT r first).toNat = (lastT first gone + settled r + 1 - lowT r first).toNat + d := ⟨(lastT first gone + 30 - lowT r first).toNat - (lastT first gone + settled r + 1 - lowT r first).toNat, by omega⟩
  rw [hd, prog_app, List.filter_append]
  have : (prog (lowT r first + ((lastT first gone + settled r + 1 - lowT r first).toNat : Nat)) 1 d).filter (hurtAt P r gone) = [] := by
    refine List.filter_eq_nil_iff.mpr fun t ht => ?_
    obtain ⟨i, hi, e⟩ := mem_prog.mp ht
    have : hurtAt P r gone t = false := late_well v hK k (by omega) (by omega)
    simp [this]
  rw [this, List.append_nil]
theorem left_cap {r : Rule} (v : Valid r) (t : Int) (gone : List Int) : (leftL r t gone).length ≤ cap := Nat.le_trans (List.length_filter_le _ _) (held_cap v t)
theorem max_low (r : Rule) (first : Int) : (if settled r > first then settled r else first) = lowT r first := by rw [max_if]; rfl
theorem hurt_len (P : Plan) (r : Rule) (first : Int) (gone : List Int) (n : Nat) : (hurtTo P r first gone n).length ≤ n := by
  unfold hurtTo
  refine Nat.le_trans (List.length_filter_le _ _) ?_
  rw [prog_length]
  exact Nat.le_refl _
theorem hurt_succ (P : Plan) (r : Rule) (first : Int) (gone : List Int) (n : Nat) : hurtTo P r first gone (n + 1) = hurtTo P r first gone n ++ (if hurtAt P r gone (lowT r first + n) = true then [lowT r first + n] else []) := by
  unfold hurtTo
  rw [prog_app, List.filter_append]
  have : prog (lowT r first + (n : Int)) 1 1 = [lowT r first + n] := by unfold prog; simp
  rw [this]
  by_cases q : hurtAt P r gone (lowT r first + n) = true
  · rw [if_pos q]; simp [q]
  · rw [if_neg q]; simp [q]
theorem prog_at {lo : Int} {n i : Nat} (hi : i < n) : (ivs (prog lo 1 n))[i]? = some (.int (lo + (i : Int))) := by
  unfold ivs prog
  rw [List.map_map, List.getElem?_map, List.getElem?_range hi]
  show some (MV.int (lo + (i : Int) * 1)) = _
  rw [Int.mul_one]
theorem F_broken_without_sim {h : MH} {n g : Nat} {P : Plan} (e : HasP h n P) (kP : P.Ok) {r : Rule} (v : Valid r) {first : Int} {gone : List Int} (k : GoneOk first gone) (eg : h[g]? = some (.lst (ivs gone))) :
    Sim h (F_broken_without G_settled_of G_held_at G_young G_is_good [.ref n, rv r, .int first, .ref g] h) (.ok (.ref h.length) (h ++ [.lst (ivs (hurtL P r first gone))])) := by
  unfold F_broken_without m_broken_without
  obtain ⟨_, _, s0, s1⟩ := settled_spec v
  have kl := k.last
  have c0 : (0 : Nat) ≤ cap := by decide
  have eg1 : (h ++ [MO.lst []])[g]? = some (.lst (ivs gone)) := look_app eg
  have hcg : (ivs gone).length + 1 ≤ cap := by rw [ints_length]; have := k.len; unfold cap; omega
  have hmx : fMax [.ref (h ++ [MO.lst []]).length] (h ++ [MO.lst []] ++ [MO.lst (.int first :: ivs gone)]) = .ok (.int (lastT first gone)) (h ++ [MO.lst []] ++ [MO.lst (.int first :: ivs gone)]) :=
    fMax_ns (ns := first :: gone) (items_new _ _) (asInts_ivs (first :: gone)) (by simp)
  have b1 : inR (lowT r first) = true := inR_of (by have := k.f0; have := k.f1; unfold lowT; omega)
  have b2 : inR (lastT first gone + settled r + 1) = true := inR_of (by have := k.f0; omega)
  simp only [Mv.mDef, Mv.mSeq, Mv.mSet, Mv.mRet, Mv.mRetN, Mv.mIfS, Mv.mVar, Mv.mC, Mv.mBin, Mv.mChain, Mv.mCall, Mv.mDo, Mv.mCons, Mv.mNil, Mv.mAndV, Mv.mOrV, Mv.mNotV, Mv.mAsB, Mv.mAndT, Mv.mOrT, Mv.mNotT, Mv.mIf, Mv.mTup, Mv.mLst, Mv.mNext, Mv.mBad, Mv.mDrop, Mv.mPar, Mv.mAsg, Mv.mStore, Mv.mNeg, Mv.fNeg, Mv.mYes, Mv.mNoP, Mv.mPart, Mv.mSl, Mv.fI, Mv.fAdd, Mv.fSub, Mv.fMul, Mv.fMod, Mv.fDiv, Mv.fPow, Mv.fLt, Mv.fLe, Mv.fGt, Mv.fGe, Mv.yes2, Mv.fIsN, Mv.fNotN, Mv.isNon, Mv.fIx, Mv.items_tup, Mv.items_new, Mv.list_new, Mv.lstOf_new, Mv.fEq_int, Mv.fNe_int, Mv.fLen_tup, Mv.fMax2, Mv.fMin2, Mv.fInt, Mv.fAbs, Mv.mIsi, Mv.isT, Mv.gN, Mv.gT, Mv.setAll, Mv.wipeM, Mv.R.bind_ok, Mv.R.bind_bad, Mv.R.noX_ok, Mv.R.andS_ok, Mv.R.andS_bad, Mv.S.andS_nx, Mv.S.andS_rt, Mv.S.andS_bad, Mv.S.andS_bk, Mv.S.andS_ct, List.map_cons, List.map_nil, List.cons_append, List.nil_append, List.append_nil, List.replicate_succ, List.replicate_zero, List.length_cons, List.length_nil, List.set_cons_zero, List.set_cons_succ, List.getElem?_cons_zero, List.getElem?_cons_succ, List.getElem?_nil, Nat.reduceAdd, Nat.reduceSub, Nat.reduceEqDiff, Nat.reduceLeDiff, Nat.zero_add, if_true, if_false, Bool.not_true, Bool.not_false, Bool.false_eq_true, decide_true, decide_false, ite_true, ite_false, Option.some.injEq, reduceIte, Mv.mFld, Mv.mIsC, Mv.mMeth, Mv.mMake, Mv.mMakeK, Mv.mEqB, Mv.boolR, Mv.mRev, List.lookup_cons, List.lookup_nil, Nat.reduceBEq, beq_self_eq_true, Mv.ins_new, Mv.set_new, c0, mFor, mRng2, Mv.mStar, G_settled_of_eq v, max_low, items_at eg1, hcg, hmx, b1, b2, and_self]
  generalize hN : (lastT first gone + settled r + 1 - lowT r first).toNat = N
  have hN2 : N ≤ 2000 := by have := k.f0; unfold lowT at hN; omega
  have hlow : -1000 ≤ lowT r first := by have := k.f0; unfold lowT; omega
  refine for_ind (it := itR (lowT r first) 1 N) (xs := ivs (prog (lowT r first) 1 N)) (P := fun s => Sim h (match s.andS fun env h => (match env[4]? with | some (some v) => R.ok v h | _ => .bad).andS env fun v h1 => .rt v h1 with
      | .nx _ h' => R.ok MV.non h' | .rt v h' => .ok v h' | .exc x _ h' => .exc x h' | _ => .bad) (.ok (.ref h.length) (h ++ [.lst (ivs (hurtL P r first gone))])))
    (fun i env h' => ∃ g' x5 x6, h' = h ++ .lst (ivs (hurtTo P r first gone i)) :: g' ∧ env = [some (.ref n), some (rv r), some (.int first), some (.ref g), some (.ref h.length), x5, x6, none])
    (fun i env h' _ => itR_nx _ _ _ i h') ?_ ?_ fuel 0 _ (h ++ [MO.lst []] ++ [MO.lst (.int first :: ivs gone)]) ⟨[MO.lst (.int first :: ivs gone)], none, none, by simp [hurtTo, prog, ivs], rfl⟩ (Nat.zero_le _) (by have := fuel_ge; rw [ints_length, prog_length]; omega)
  · rintro env h' ⟨g', x5, x6, rfl, rfl⟩
    rw [ints_length, prog_length]
    simp only [Mv.mDef, Mv.mSeq, Mv.mSet, Mv.mRet, Mv.mRetN, Mv.mIfS, Mv.mVar, Mv.mC, Mv.mBin, Mv.mChain, Mv.mCall, Mv.mDo, Mv.mCons, Mv.mNil, Mv.mAndV, Mv.mOrV, Mv.mNotV, Mv.mAsB, Mv.mAndT, Mv.mOrT, Mv.mNotT, Mv.mIf, Mv.mTup, Mv.mLst, Mv.mNext, Mv.mBad, Mv.mDrop, Mv.mPar, Mv.mAsg, Mv.mStore, Mv.mNeg, Mv.fNeg, Mv.mYes, Mv.mNoP, Mv.mPart, Mv.mSl, Mv.fI, Mv.fAdd, Mv.fSub, Mv.fMul, Mv.fMod, Mv.fDiv, Mv.fPow, Mv.fLt, Mv.fLe, Mv.fGt, Mv.fGe, Mv.yes2, Mv.fIsN, Mv.fNotN, Mv.isNon, Mv.fIx, Mv.items_tup, Mv.items_new, Mv.list_new, Mv.lstOf_new, Mv.fEq_int, Mv.fNe_int, Mv.fLen_tup, Mv.fMax2, Mv.fMin2, Mv.fInt, Mv.fAbs, Mv.mIsi, Mv.isT, Mv.gN, Mv.gT, Mv.setAll, Mv.wipeM, Mv.R.bind_ok, Mv.R.bind_bad, Mv.R.noX_ok, Mv.R.andS_ok, Mv.R.andS_bad, Mv.S.andS_nx, Mv.S.andS_rt, Mv.S.andS_bad, Mv.S.andS_bk, Mv.S.andS_ct, List.map_cons, List.map_nil, List.cons_append, List.nil_append, List.append_nil, List.replicate_succ, List.replicate_zero, List.length_cons, List.length_nil, List.set_cons_zero, List.set_cons_succ, List.getElem?_cons_zero, List.getElem?_cons_succ, List.getElem?_nil, Nat.reduceAdd, Nat.reduceSub, Nat.reduceEqDiff, Nat.reduceLeDiff, Nat.zero_add, if_true, if_false, Bool.not_true, Bool.not_false, Bool.false_eq_true, decide_true, decide_false, ite_true, ite_false, Option.some.injEq, reduceIte, Mv.mFld, Mv.mIsC, Mv.mMeth, Mv.mMake, Mv.mMakeK, Mv.mEqB, Mv.boolR, Mv.mRev, List.lookup_cons, List.lookup_nil, Nat.reduceBEq, beq_self_eq_true, Mv.ins_new, Mv.set_new]
    have eb : hurtTo P r first gone N = hurtL P r first gone := by unfold hurtL; rw [hN]
    rw [eb]
    exact sim_list0 (n := h.length) (xs := ivs (hurtL P r first gone)) (by simp) (Nat.le_refl _) (unds_ints _)
  · rintro i x env h' hx ⟨g', x5, x6, rfl, rfl⟩
    have hi : i < N := by
      have := (List.getElem?_eq_some_iff.mp hx).1
      rwa [ints_length, prog_length] at this
    rw [prog_at hi] at hx
    cases hx
    generalize ht : lowT r first + (i : Int) = t
    have ht0 : -1000 ≤ t := by omega
    refine ⟨_, rfl, ?_⟩
    have eg2 : (h ++ MO.lst (ivs (hurtTo P r first gone i)) :: g')[g]? = some (.lst (ivs gone)) := look_app eg
    simp only [Mv.mDef, Mv.mSeq, Mv.mSet, Mv.mRet, Mv.mRetN, Mv.mIfS, Mv.mVar, Mv.mC, Mv.mBin, Mv.mChain, Mv.mCall, Mv.mDo, Mv.mCons, Mv.mNil, Mv.mAndV, Mv.mOrV, Mv.mNotV, Mv.mAsB, Mv.mAndT, Mv.mOrT, Mv.mNotT, Mv.mIf, Mv.mTup, Mv.mLst, Mv.mNext, Mv.mBad, Mv.mDrop, Mv.mPar, Mv.mAsg, Mv.mStore, Mv.mNeg, Mv.fNeg, Mv.mYes, Mv.mNoP, Mv.mPart, Mv.mSl, Mv.fI, Mv.fAdd, Mv.fSub, Mv.fMul, Mv.fMod, Mv.fDiv, Mv.fPow, Mv.fLt, Mv.fLe, Mv.fGt, Mv.fGe, Mv.yes2, Mv.fIsN, Mv.fNotN, Mv.isNon, Mv.fIx, Mv.items_tup, Mv.items_new, Mv.list_new, Mv.lstOf_new, Mv.fEq_int, Mv.fNe_int, Mv.fLen_tup, Mv.fMax2, Mv.fMin2, Mv.fInt, Mv.fAbs, Mv.mIsi, Mv.isT, Mv.gN, Mv.gT, Mv.setAll, Mv.wipeM, Mv.R.bind_ok, Mv.R.bind_bad, Mv.R.noX_ok, Mv.R.andS_ok, Mv.R.andS_bad, Mv.S.andS_nx, Mv.S.andS_rt, Mv.S.andS_bad, Mv.S.andS_bk, Mv.S.andS_ct, List.map_cons, List.map_nil, List.cons_append, List.nil_append, List.append_nil, List.replicate_succ, List.replicate_zero, List.length_cons, List.length_nil, List.set_cons_zero, List.set_cons_succ, List.getElem?_cons_zero, List.getElem?_cons_succ, List.getElem?_nil, Nat.reduceAdd, Nat.reduceSub, Nat.reduceEqDiff, Nat.reduceLeDiff, Nat.zero_add, if_true, if_false, Bool.not_true, Bool.not_false, Bool.false_eq_true, decide_true, decide_false, ite_true, ite_false, Option.some.injEq, reduceIte, Mv.mFld, Mv.mIsC, Mv.mMeth, Mv.mMake, Mv.mMakeK, Mv.mEqB, Mv.boolR, Mv.mRev, List.lookup_cons, List.lookup_nil, Nat.reduceBEq, beq_self_eq_true, Mv.ins_new, Mv.set_new, mLc, mItV, G_held_at_eq v ht0]
    rw [comp_pure (it := itT (ivs (heldAt r t))) (l := heldAt r t) (enc := MV.int) (cb := fun a => !decide (t - a ∈ gone)) (f := MV.int) (fun i => itT_nx _ i _) (held_cap v t)]
    · have el : ((heldAt r t).filter (fun a => !decide (t - a ∈ gone))) = leftL r t gone := rfl
      rw [el]
      have ep2 : HasP (h ++ MO.lst (ivs (hurtTo P r first gone i)) :: g' ++ [MO.lst (List.map MV.int (leftL r t gone))]) n P := (e.app (g := MO.lst (ivs (hurtTo P r first gone i)) :: g')).app
      have w0 : (h ++ MO.lst (ivs (hurtTo P r first gone i)) :: g' ++ [MO.lst (List.map MV.int (leftL r t gone))])[h.length]? = some (.lst (ivs (hurtTo P r first gone i))) := look_app (at_len h _ _)
      have w1 : (h ++ MO.lst (ivs (hurtTo P r first gone i)) :: g' ++ [MO.lst (List.map MV.int (leftL r t gone))])[(h ++ MO.lst (ivs (hurtTo P r first gone i)) :: g').length]? = some (.lst (ivs (leftL r t gone))) := look_new _ _
      have yl := G_youngL_eq ep2 kP w1 (left_cap v t gone)
      have gl := G_is_good_eq ep2 kP (youngL P (leftL r t gone)) (young_cap (left_cap v t gone))
      have hbl : (ivs (hurtTo P r first gone i)).length < cap := by
        rw [ints_length]
        have := hurt_len P r first gone i
        unfold cap
        omega
      have hs := hurt_succ P r first gone i
      rw [ht] at hs
      cases hg : isGood P (youngL P (leftL r t gone)) with
      | true =>
        have hh : hurtAt P r gone t = false := by unfold hurtAt; rw [hg]; rfl
        simp only [Mv.mDef, Mv.mSeq, Mv.mSet, Mv.mRet, Mv.mRetN, Mv.mIfS, Mv.mVar, Mv.mC, Mv.mBin, Mv.mChain, Mv.mCall, Mv.mDo, Mv.mCons, Mv.mNil, Mv.mAndV, Mv.mOrV, Mv.mNotV, Mv.mAsB, Mv.mAndT, Mv.mOrT, Mv.mNotT, Mv.mIf, Mv.mTup, Mv.mLst, Mv.mNext, Mv.mBad, Mv.mDrop, Mv.mPar, Mv.mAsg, Mv.mStore, Mv.mNeg, Mv.fNeg, Mv.mYes, Mv.mNoP, Mv.mPart, Mv.mSl, Mv.fI, Mv.fAdd, Mv.fSub, Mv.fMul, Mv.fMod, Mv.fDiv, Mv.fPow, Mv.fLt, Mv.fLe, Mv.fGt, Mv.fGe, Mv.yes2, Mv.fIsN, Mv.fNotN, Mv.isNon, Mv.fIx, Mv.items_tup, Mv.items_new, Mv.list_new, Mv.lstOf_new, Mv.fEq_int, Mv.fNe_int, Mv.fLen_tup, Mv.fMax2, Mv.fMin2, Mv.fInt, Mv.fAbs, Mv.mIsi, Mv.isT, Mv.gN, Mv.gT, Mv.setAll, Mv.wipeM, Mv.R.bind_ok, Mv.R.bind_bad, Mv.R.noX_ok, Mv.R.andS_ok, Mv.R.andS_bad, Mv.S.andS_nx, Mv.S.andS_rt, Mv.S.andS_bad, Mv.S.andS_bk, Mv.S.andS_ct, List.map_cons, List.map_nil, List.cons_append, List.nil_append, List.append_nil, List.replicate_succ, List.replicate_zero, List.length_cons, List.length_nil, List.set_cons_zero, List.set_cons_succ, List.getElem?_cons_zero, List.getElem?_cons_succ, List.getElem?_nil, Nat.reduceAdd, Nat.reduceSub, Nat.reduceEqDiff, Nat.reduceLeDiff, Nat.zero_add, if_true, if_false, Bool.not_true, Bool.not_false, Bool.false_eq_true, decide_true, decide_false, ite_true, ite_false, Option.some.injEq, reduceIte, Mv.mFld, Mv.mIsC, Mv.mMeth, Mv.mMake, Mv.mMakeK, Mv.mEqB, Mv.boolR, Mv.mRev, List.lookup_cons, List.lookup_nil, Nat.reduceBEq, beq_self_eq_true, Mv.ins_new, Mv.set_new, yl, gl, hg]
        refine ⟨g' ++ [MO.lst (List.map MV.int (leftL r t gone))], _, _, ?_, rfl⟩
        rw [hs, hh]
        simp
      | false =>
        have hh : hurtAt P r gone t = true := by unfold hurtAt; rw [hg]; rfl
        simp only [Mv.mDef, Mv.mSeq, Mv.mSet, Mv.mRet, Mv.mRetN, Mv.mIfS, Mv.mVar, Mv.mC, Mv.mBin, Mv.mChain, Mv.mCall, Mv.mDo, Mv.mCons, Mv.mNil, Mv.mAndV, Mv.mOrV, Mv.mNotV, Mv.mAsB, Mv.mAndT, Mv.mOrT, Mv.mNotT, Mv.mIf, Mv.mTup, Mv.mLst, Mv.mNext, Mv.mBad, Mv.mDrop, Mv.mPar, Mv.mAsg, Mv.mStore, Mv.mNeg, Mv.fNeg, Mv.mYes, Mv.mNoP, Mv.mPart, Mv.mSl, Mv.fI, Mv.fAdd, Mv.fSub, Mv.fMul, Mv.fMod, Mv.fDiv, Mv.fPow, Mv.fLt, Mv.fLe, Mv.fGt, Mv.fGe, Mv.yes2, Mv.fIsN, Mv.fNotN, Mv.isNon, Mv.fIx, Mv.items_tup, Mv.items_new, Mv.list_new, Mv.lstOf_new, Mv.fEq_int, Mv.fNe_int, Mv.fLen_tup, Mv.fMax2, Mv.fMin2, Mv.fInt, Mv.fAbs, Mv.mIsi, Mv.isT, Mv.gN, Mv.gT, Mv.setAll, Mv.wipeM, Mv.R.bind_ok, Mv.R.bind_bad, Mv.R.noX_ok, Mv.R.andS_ok, Mv.R.andS_bad, Mv.S.andS_nx, Mv.S.andS_rt, Mv.S.andS_bad, Mv.S.andS_bk, Mv.S.andS_ct, List.map_cons, List.map_nil, List.cons_append, List.nil_append, List.append_nil, List.replicate_succ, List.replicate_zero, List.length_cons, List.length_nil, List.set_cons_zero, List.set_cons_succ, List.getElem?_cons_zero, List.getElem?_cons_succ, List.getElem?_nil, Nat.reduceAdd, Nat.reduceSub, Nat.reduceEqDiff, Nat.reduceLeDiff, Nat.zero_add, if_true, if_false, Bool.not_true, Bool.not_false, Bool.false_eq_true, decide_true, decide_false, ite_true, ite_false, Option.some.injEq, reduceIte, Mv.mFld, Mv.mIsC, Mv.mMeth, Mv.mMake, Mv.mMakeK, Mv.mEqB, Mv.boolR, Mv.mRev, List.lookup_cons, List.lookup_nil, Nat.reduceBEq, beq_self_eq_true, Mv.ins_new, Mv.set_new, yl, gl, hg, mLm, list_ref, items_at w0, fAppend, lstOf_at w0, hbl]
        refine ⟨g' ++ [MO.lst (List.map MV.int (leftL r t gone))], _, _, ?_, rfl⟩
        rw [hs, hh]
        unfold ivs
        simp
    · intro a _
      refine ⟨_, rfl, ?_⟩
      simp only [Mv.mDef, Mv.mSeq, Mv.mSet, Mv.mRet, Mv.mRetN, Mv.mIfS, Mv.mVar, Mv.mC, Mv.mBin, Mv.mChain, Mv.mCall, Mv.mDo, Mv.mCons, Mv.mNil, Mv.mAndV, Mv.mOrV, Mv.mNotV, Mv.mAsB, Mv.mAndT, Mv.mOrT, Mv.mNotT, Mv.mIf, Mv.mTup, Mv.mLst, Mv.mNext, Mv.mBad, Mv.mDrop, Mv.mPar, Mv.mAsg, Mv.mStore, Mv.mNeg, Mv.fNeg, Mv.mYes, Mv.mNoP, Mv.mPart, Mv.mSl, Mv.fI, Mv.fAdd, Mv.fSub, Mv.fMul, Mv.fMod, Mv.fDiv, Mv.fPow, Mv.fLt, Mv.fLe, Mv.fGt, Mv.fGe, Mv.yes2, Mv.fIsN, Mv.fNotN, Mv.isNon, Mv.fIx, Mv.items_tup, Mv.items_new, Mv.list_new, Mv.lstOf_new, Mv.fEq_int, Mv.fNe_int, Mv.fLen_tup, Mv.fMax2, Mv.fMin2, Mv.fInt, Mv.fAbs, Mv.mIsi, Mv.isT, Mv.gN, Mv.gT, Mv.setAll, Mv.wipeM, Mv.R.bind_ok, Mv.R.bind_bad, Mv.R.noX_ok, Mv.R.andS_ok, Mv.R.andS_bad, Mv.S.andS_nx, Mv.S.andS_rt, Mv.S.andS_bad, Mv.S.andS_bk, Mv.S.andS_ct, List.map_cons, List.map_nil, List.cons_append, List.nil_append, List.append_nil, List.replicate_succ, List.replicate_zero, List.length_cons, List.length_nil, List.set_cons_zero, List.set_cons_succ, List.getElem?_cons_zero, List.getElem?_cons_succ, List.getElem?_nil, Nat.reduceAdd, Nat.reduceSub, Nat.reduceEqDiff, Nat.reduceLeDiff, Nat.zero_add, if_true, if_false, Bool.not_true, Bool.not_false, Bool.false_eq_true, decide_true, decide_false, ite_true, ite_false, Option.some.injEq, reduceIte, Mv.mFld, Mv.mIsC, Mv.mMeth, Mv.mMake, Mv.mMakeK, Mv.mEqB, Mv.boolR, Mv.mRev, List.lookup_cons, List.lookup_nil, Nat.reduceBEq, beq_self_eq_true, Mv.ins_new, Mv.set_new, fNotIn_ints eg2]
      exact ⟨trivial, fun _ => trivial⟩
end Mv

set_option maxHeartbeats 4000000
namespace Mv
open PySem PySem.Spec L2

/-- what is asked with a rule that keeps its promise -/
structure KeptAt (h : MH) (n : Nat) (P : Plan) (r : Rule) : Prop where
  at' : HasP h n P
  ok : P.Ok
  v : Valid r
  kept : (judgeV P r).isK = true
theorem KeptAt.app {h g : MH} {n : Nat} {P : Plan} {r : Rule} (k : KeptAt h n P r) : KeptAt (h ++ g) n P r := ⟨k.at'.app, k.ok, k.v, k.kept⟩
theorem KeptAt.uniq {h : MH} {n : Nat} {P Q : Plan} {r s : Rule} (k : KeptAt h n P r) (k' : KeptAt h n Q s) : P = Q := HasP.uniq k.at' k'.at'
noncomputable def G_hurt : List MV → MH → R MV := specH (α := Nat × Plan × Rule × Int × Nat × List Int) (fun a => [.ref a.1, rv a.2.2.1, .int a.2.2.2.1, .ref a.2.2.2.2.1])
  (fun a h => KeptAt h a.1 a.2.1 a.2.2.1 ∧ GoneOk a.2.2.2.1 a.2.2.2.2.2 ∧ h[a.2.2.2.2.1]? = some (.lst (ivs a.2.2.2.2.2))) fun a h => .ok (.ref h.length) (h ++ [.lst (ivs (hurtL a.2.1 a.2.2.1 a.2.2.2.1 a.2.2.2.2.2))])
theorem G_hurt_eq {h : MH} {n g : Nat} {P : Plan} {r : Rule} (k : KeptAt h n P r) {first : Int} {gone : List Int} (kg : GoneOk first gone) (eg : h[g]? = some (.lst (ivs gone))) :
    G_hurt [.ref n, rv r, .int first, .ref g] h = .ok (.ref h.length) (h ++ [.lst (ivs (hurtL P r first gone))]) :=
  specH_eq (a := ((n, P, r, first, g, gone) : Nat × Plan × Rule × Int × Nat × List Int)) (fun x y q d1 d2 => by
    obtain ⟨x1, x2, x3, x4, x5, x6⟩ := x
    obtain ⟨y1, y2, y3, y4, y5, y6⟩ := y
    simp only [List.cons.injEq, MV.ref.injEq, MV.int.injEq, and_true] at q
    obtain ⟨rfl, q3, rfl, rfl⟩ := q
    have e3 : x3 = y3 := rv_inj q3
    subst e3
    have e2 : x2 = y2 := KeptAt.uniq d1.1 d2.1
    subst e2
    have q6 := d1.2.2.symm.trans d2.2.2
    simp only [Option.some.injEq, MO.lst.injEq] at q6
    have e6 : x6 = y6 := ivs_inj q6
    subst e6
    rfl) ⟨k, kg, eg⟩
theorem sim_broken_without (xs : List MV) (h : MH) : Sim h (F_broken_without G_settled_of G_held_at G_young G_is_good xs h) (G_hurt xs h) := specH_sim (fun a h d => F_broken_without_sim d.1.at' d.1.ok d.1.v d.2.1 d.2.2) xs h
theorem good_nil {P : Plan} {st : List Int} : brokenL P st = [] ↔ isGood P st = true := by
  constructor
  · intro q
    cases hg : isGood P st with
    | true => rfl
    | false => obtain ⟨a, l, e⟩ := good_iff.mp hg; rw [e] at q; cases q
  · intro q
    cases e : brokenL P st with
    | nil => rfl
    | cons a l => rw [good_iff.mpr ⟨a, l, e⟩] at q; cases q
theorem F_l_hurt_sim {h : MH} {n g : Nat} {P : Plan} {r : Rule} (kp : KeptAt h n P r) {first : Int} {gone : List Int} (k : GoneOk first gone) (eg : h[g]? = some (.lst (ivs gone))) :
    Sim h (F_l_hurt G_settled_of G_l_held G_young G_l_broken [.ref n, rv r, .int first, .ref g] h) (.ok (.ref h.length) (h ++ [.lst (ivs (hurtL P r first gone))])) := by
  unfold F_l_hurt m_l_hurt
  have v := kp.v
  have e := kp.at'
  have kP := kp.ok
  obtain ⟨_, _, s0, s1⟩ := settled_spec v
  have kl := k.last
  have c0 : (0 : Nat) ≤ cap := by decide
  have c1 : (1 : Nat) ≤ cap := by decide
  have eg1 : (h ++ [MO.lst []])[g]? = some (.lst (ivs gone)) := look_app eg
  have eg1' : (h ++ [MO.lst []] ++ [MO.lst [.int first]])[g]? = some (.lst (ivs gone)) := look_app eg1
  have ew : (h ++ [MO.lst []] ++ [MO.lst [.int first]])[(h ++ [MO.lst []]).length]? = some (.lst [.int first]) := look_new _ _
  have hcg : 1 + (ivs gone).length ≤ cap := by rw [ints_length]; have := k.len; unfold cap; omega
  have hmx : fMax [.ref (h ++ [MO.lst []] ++ [MO.lst [.int first]]).length] (h ++ [MO.lst []] ++ [MO.lst [.int first]] ++ [MO.lst (.int first :: ivs gone)]) = .ok (.int (lastT first gone)) (h ++ [MO.lst []] ++ [MO.lst [.int first]] ++ [MO.lst (.int first :: ivs gone)]) :=
    fMax_ns (ns := first :: gone) (items_new _ _) (asInts_ivs (first :: gone)) (by simp)
  have b1 : inR (lowT r first) = true := inR_of (by have := k.f0; have := k.f1; unfold lowT; omega)
  have b2 : inR (lastT first gone + 30) = true := inR_of (by have := k.f0; omega)
  simp only [Mv.mDef, Mv.mSeq, Mv.mSet, Mv.mRet, Mv.mRetN, Mv.mIfS, Mv.mVar, Mv.mC, Mv.mBin, Mv.mChain, Mv.mCall, Mv.mDo, Mv.mCons, Mv.mNil, Mv.mAndV, Mv.mOrV, Mv.mNotV, Mv.mAsB, Mv.mAndT, Mv.mOrT, Mv.mNotT, Mv.mIf, Mv.mTup, Mv.mLst, Mv.mNext, Mv.mBad, Mv.mDrop, Mv.mPar, Mv.mAsg, Mv.mStore, Mv.mNeg, Mv.fNeg, Mv.mYes, Mv.mNoP, Mv.mPart, Mv.mSl, Mv.fI, Mv.fAdd, Mv.fSub, Mv.fMul, Mv.fMod, Mv.fDiv, Mv.fPow, Mv.fLt, Mv.fLe, Mv.fGt, Mv.fGe, Mv.yes2, Mv.fIsN, Mv.fNotN, Mv.isNon, Mv.fIx, Mv.items_tup, Mv.items_new, Mv.list_new, Mv.lstOf_new, Mv.fEq_int, Mv.fNe_int, Mv.fLen_tup, Mv.fMax2, Mv.fMin2, Mv.fInt, Mv.fAbs, Mv.mIsi, Mv.isT, Mv.gN, Mv.gT, Mv.setAll, Mv.wipeM, Mv.R.bind_ok, Mv.R.bind_bad, Mv.R.noX_ok, Mv.R.andS_ok, Mv.R.andS_bad, Mv.S.andS_nx, Mv.S.andS_rt, Mv.S.andS_bad, Mv.S.andS_bk, Mv.S.andS_ct, List.map_cons, List.map_nil, List.cons_append, List.nil_append, List.append_nil, List.replicate_succ, List.replicate_zero, List.length_cons, List.length_nil, List.set_cons_zero, List.set_cons_succ, List.getElem?_cons_zero, List.getElem?_cons_succ, List.getElem?_nil, Nat.reduceAdd, Nat.reduceSub, Nat.reduceEqDiff, Nat.reduceLeDiff, Nat.zero_add, if_true, if_false, Bool.not_true, Bool.not_false, Bool.false_eq_true, decide_true, decide_false, ite_true, ite_false, Option.some.injEq, reduceIte, Mv.mFld, Mv.mIsC, Mv.mMeth, Mv.mMake, Mv.mMakeK, Mv.mEqB, Mv.boolR, Mv.mRev, List.lookup_cons, List.lookup_nil, Nat.reduceBEq, beq_self_eq_true, Mv.ins_new, Mv.set_new, c0, c1, mFor, mRng2, G_settled_of_eq v, max_low, lstOf_at ew, lstOf_at eg1', hcg, hmx, b1, b2, and_self]
  generalize hN : (lastT first gone + 30 - lowT r first).toNat = N
  have hN2 : N ≤ 2000 := by have := k.f0; unfold lowT at hN; omega
  have hlow : 0 ≤ lowT r first := by have := k.f0; unfold lowT; omega
  have hhi : lowT r first + N ≤ 3000 := by have := k.f0; have := k.f1; unfold lowT at hN ⊢; omega
  refine for_ind (it := itR (lowT r first) 1 N) (xs := ivs (prog (lowT r first) 1 N)) (P := fun s => Sim h (match s.andS fun env h => (match env[4]? with | some (some v) => R.ok v h | _ => .bad).andS env fun v h1 => .rt v h1 with
      | .nx _ h' => R.ok MV.non h' | .rt v h' => .ok v h' | .exc x _ h' => .exc x h' | _ => .bad) (.ok (.ref h.length) (h ++ [.lst (ivs (hurtL P r first gone))])))
    (fun i env h' => ∃ g' x5 x6, h' = h ++ .lst (ivs (hurtTo P r first gone i)) :: g' ∧ env = [some (.ref n), some (rv r), some (.int first), some (.ref g), some (.ref h.length), x5, x6, none])
    (fun i env h' _ => itR_nx _ _ _ i h') ?_ ?_ fuel 0 _ (h ++ [MO.lst []] ++ [MO.lst [.int first]] ++ [MO.lst (.int first :: ivs gone)]) ⟨[MO.lst [.int first]] ++ [MO.lst (.int first :: ivs gone)], none, none, by simp [hurtTo, prog, ivs], rfl⟩ (Nat.zero_le _) (by have := fuel_ge; rw [ints_length, prog_length]; omega)
  · rintro env h' ⟨g', x5, x6, rfl, rfl⟩
    rw [ints_length, prog_length]
    simp only [Mv.mDef, Mv.mSeq, Mv.mSet, Mv.mRet, Mv.mRetN, Mv.mIfS, Mv.mVar, Mv.mC, Mv.mBin, Mv.mChain, Mv.mCall, Mv.mDo, Mv.mCons, Mv.mNil, Mv.mAndV, Mv.mOrV, Mv.mNotV, Mv.mAsB, Mv.mAndT, Mv.mOrT, Mv.mNotT, Mv.mIf, Mv.mTup, Mv.mLst, Mv.mNext, Mv.mBad, Mv.mDrop, Mv.mPar, Mv.mAsg, Mv.mStore, Mv.mNeg, Mv.fNeg, Mv.mYes, Mv.mNoP, Mv.mPart, Mv.mSl, Mv.fI, Mv.fAdd, Mv.fSub, Mv.fMul, Mv.fMod, Mv.fDiv, Mv.fPow, Mv.fLt, Mv.fLe, Mv.fGt, Mv.fGe, Mv.yes2, Mv.fIsN, Mv.fNotN, Mv.isNon, Mv.fIx, Mv.items_tup, Mv.items_new, Mv.list_new, Mv.lstOf_new, Mv.fEq_int, Mv.fNe_int, Mv.fLen_tup, Mv.fMax2, Mv.fMin2, Mv.fInt, Mv.fAbs, Mv.mIsi, Mv.isT, Mv.gN, Mv.gT, Mv.setAll, Mv.wipeM, Mv.R.bind_ok, Mv.R.bind_bad, Mv.R.noX_ok, Mv.R.andS_ok, Mv.R.andS_bad, Mv.S.andS_nx, Mv.S.andS_rt, Mv.S.andS_bad, Mv.S.andS_bk, Mv.S.andS_ct, List.map_cons, List.map_nil, List.cons_append, List.nil_append, List.append_nil, List.replicate_succ, List.replicate_zero, List.length_cons, List.length_nil, List.set_cons_zero, List.set_cons_succ, List.getElem?_cons_zero, List.getElem?_cons_succ, List.getElem?_nil, Nat.reduceAdd, Nat.reduceSub, Nat.reduceEqDiff, Nat.reduceLeDiff, Nat.zero_add, if_true, if_false, Bool.not_true, Bool.not_false, Bool.false_eq_true, decide_true, decide_false, ite_true, ite_false, Option.some.injEq, reduceIte, Mv.mFld, Mv.mIsC, Mv.mMeth, Mv.mMake, Mv.mMakeK, Mv.mEqB, Mv.boolR, Mv.mRev, List.lookup_cons, List.lookup_nil, Nat.reduceBEq, beq_self_eq_true, Mv.ins_new, Mv.set_new]
    have eb : hurtTo P r first gone N = hurtL P r first gone := by rw [← hN]; exact hurt_more v kp.kept k
    rw [eb]
    exact sim_list0 (n := h.length) (xs := ivs (hurtL P r first gone)) (by simp) (Nat.le_refl _) (unds_ints _)
  · rintro i x env h' hx ⟨g', x5, x6, rfl, rfl⟩
    have hi : i < N := by
      have := (List.getElem?_eq_some_iff.mp hx).1
      rwa [ints_length, prog_length] at this
    rw [prog_at hi] at hx
    cases hx
    generalize ht : lowT r first + (i : Int) = t
    have ht0 : 0 ≤ t := by omega
    have ht1 : t ≤ 100000 := by omega
    refine ⟨_, rfl, ?_⟩
    have eg2 : (h ++ MO.lst (ivs (hurtTo P r first gone i)) :: g')[g]? = some (.lst (ivs gone)) := look_app eg
    simp only [Mv.mDef, Mv.mSeq, Mv.mSet, Mv.mRet, Mv.mRetN, Mv.mIfS, Mv.mVar, Mv.mC, Mv.mBin, Mv.mChain, Mv.mCall, Mv.mDo, Mv.mCons, Mv.mNil, Mv.mAndV, Mv.mOrV, Mv.mNotV, Mv.mAsB, Mv.mAndT, Mv.mOrT, Mv.mNotT, Mv.mIf, Mv.mTup, Mv.mLst, Mv.mNext, Mv.mBad, Mv.mDrop, Mv.mPar, Mv.mAsg, Mv.mStore, Mv.mNeg, Mv.fNeg, Mv.mYes, Mv.mNoP, Mv.mPart, Mv.mSl, Mv.fI, Mv.fAdd, Mv.fSub, Mv.fMul, Mv.fMod, Mv.fDiv, Mv.fPow, Mv.fLt, Mv.fLe, Mv.fGt, Mv.fGe, Mv.yes2, Mv.fIsN, Mv.fNotN, Mv.isNon, Mv.fIx, Mv.items_tup, Mv.items_new, Mv.list_new, Mv.lstOf_new, Mv.fEq_int, Mv.fNe_int, Mv.fLen_tup, Mv.fMax2, Mv.fMin2, Mv.fInt, Mv.fAbs, Mv.mIsi, Mv.isT, Mv.gN, Mv.gT, Mv.setAll, Mv.wipeM, Mv.R.bind_ok, Mv.R.bind_bad, Mv.R.noX_ok, Mv.R.andS_ok, Mv.R.andS_bad, Mv.S.andS_nx, Mv.S.andS_rt, Mv.S.andS_bad, Mv.S.andS_bk, Mv.S.andS_ct, List.map_cons, List.map_nil, List.cons_append, List.nil_append, List.append_nil, List.replicate_succ, List.replicate_zero, List.length_cons, List.length_nil, List.set_cons_zero, List.set_cons_succ, List.getElem?_cons_zero, List.getElem?_cons_succ, List.getElem?_nil, Nat.reduceAdd, Nat.reduceSub, Nat.reduceEqDiff, Nat.reduceLeDiff, Nat.zero_add, if_true, if_false, Bool.not_true, Bool.not_false, Bool.false_eq_true, decide_true, decide_false, ite_true, ite_false, Option.some.injEq, reduceIte, Mv.mFld, Mv.mIsC, Mv.mMeth, Mv.mMake, Mv.mMakeK, Mv.mEqB, Mv.boolR, Mv.mRev, List.lookup_cons, List.lookup_nil, Nat.reduceBEq, beq_self_eq_true, Mv.ins_new, Mv.set_new, mLc, mItV, G_l_held_eq v ht0 ht1]
    rw [comp_pure (it := itT (ivs (heldAt r t))) (l := heldAt r t) (enc := MV.int) (cb := fun a => !decide (t - a ∈ gone)) (f := MV.int) (fun i => itT_nx _ i _) (held_cap v t)]
    · have el : ((heldAt r t).filter (fun a => !decide (t - a ∈ gone))) = leftL r t gone := rfl
      rw [el]
      generalize eh2 : h ++ MO.lst (ivs (hurtTo P r first gone i)) :: g' ++ [MO.lst (List.map MV.int (leftL r t gone))] = h2
      have ep2 : HasP h2 n P := by rw [← eh2]; exact (e.app (g := MO.lst (ivs (hurtTo P r first gone i)) :: g')).app
      have w0 : h2[h.length]? = some (.lst (ivs (hurtTo P r first gone i))) := by rw [← eh2]; exact look_app (at_len h _ _)
      have w1 : h2[(h ++ MO.lst (ivs (hurtTo P r first gone i)) :: g').length]? = some (.lst (ivs (leftL r t gone))) := by rw [← eh2]; exact look_new _ _
      have yl := G_youngL_eq ep2 kP w1 (left_cap v t gone)
      have bl := G_l_broken_eq ep2 kP (youngL P (leftL r t gone)) (young_cap (left_cap v t gone))
      have hbl : (ivs (hurtTo P r first gone i)).length < cap := by
        rw [ints_length]
        have := hurt_len P r first gone i
        unfold cap
        omega
      have hs := hurt_succ P r first gone i
      rw [ht] at hs
      have u1 : (h2 ++ [MO.lst (ivs (brokenL P (youngL P (leftL r t gone))))] ++ [MO.lst []])[h2.length]? = some (.lst (ivs (brokenL P (youngL P (leftL r t gone))))) := look_app (look_new _ _)
      have u2 : (h2 ++ [MO.lst (ivs (brokenL P (youngL P (leftL r t gone))))] ++ [MO.lst []])[(h2 ++ [MO.lst (ivs (brokenL P (youngL P (leftL r t gone))))]).length]? = some (.lst (ivs [])) := look_new _ _
      have ne := fNe_lints u1 u2
      have w3 : (h2 ++ [MO.lst (ivs (brokenL P (youngL P (leftL r t gone))))] ++ [MO.lst []])[h.length]? = some (.lst (ivs (hurtTo P r first gone i))) := look_app (look_app w0)
      have hh : (!decide (brokenL P (youngL P (leftL r t gone)) = [])) = hurtAt P r gone t := by
        unfold hurtAt
        cases hg : isGood P (youngL P (leftL r t gone)) with
        | true => simp [good_nil.mpr hg]
        | false =>
          obtain ⟨a, l, q⟩ := good_iff.mp hg
          simp [q]
      rw [hh] at ne
      cases hg : hurtAt P r gone t with
      | false =>
        rw [hg] at ne
        simp only [Mv.mDef, Mv.mSeq, Mv.mSet, Mv.mRet, Mv.mRetN, Mv.mIfS, Mv.mVar, Mv.mC, Mv.mBin, Mv.mChain, Mv.mCall, Mv.mDo, Mv.mCons, Mv.mNil, Mv.mAndV, Mv.mOrV, Mv.mNotV, Mv.mAsB, Mv.mAndT, Mv.mOrT, Mv.mNotT, Mv.mIf, Mv.mTup, Mv.mLst, Mv.mNext, Mv.mBad, Mv.mDrop, Mv.mPar, Mv.mAsg, Mv.mStore, Mv.mNeg, Mv.fNeg, Mv.mYes, Mv.mNoP, Mv.mPart, Mv.mSl, Mv.fI, Mv.fAdd, Mv.fSub, Mv.fMul, Mv.fMod, Mv.fDiv, Mv.fPow, Mv.fLt, Mv.fLe, Mv.fGt, Mv.fGe, Mv.yes2, Mv.fIsN, Mv.fNotN, Mv.isNon, Mv.fIx, Mv.items_tup, Mv.items_new, Mv.list_new, Mv.lstOf_new, Mv.fEq_int, Mv.fNe_int, Mv.fLen_tup, Mv.fMax2, Mv.fMin2, Mv.fInt, Mv.fAbs, Mv.mIsi, Mv.isT, Mv.gN, Mv.gT, Mv.setAll, Mv.wipeM, Mv.R.bind_ok, Mv.R.bind_bad, Mv.R.noX_ok, Mv.R.andS_ok, Mv.R.andS_bad, Mv.S.andS_nx, Mv.S.andS_rt, Mv.S.andS_bad, Mv.S.andS_bk, Mv.S.andS_ct, List.map_cons, List.map_nil, List.cons_append, List.nil_append, List.append_nil, List.replicate_succ, List.replicate_zero, List.length_cons, List.length_nil, List.set_cons_zero, List.set_cons_succ, List.getElem?_cons_zero, List.getElem?_cons_succ, List.getElem?_nil, Nat.reduceAdd, Nat.reduceSub, Nat.reduceEqDiff, Nat.reduceLeDiff, Nat.zero_add, if_true, if_false, Bool.not_true, Bool.not_false, Bool.false_eq_true, decide_true, decide_false, ite_true, ite_false, Option.some.injEq, reduceIte, Mv.mFld, Mv.mIsC, Mv.mMeth, Mv.mMake, Mv.mMakeK, Mv.mEqB, Mv.boolR, Mv.mRev, List.lookup_cons, List.lookup_nil, Nat.reduceBEq, beq_self_eq_true, Mv.ins_new, Mv.set_new, yl, bl, c0, ne]
        refine ⟨g' ++ ([MO.lst (List.map MV.int (leftL r t gone))] ++ ([MO.lst (ivs (brokenL P (youngL P (leftL r t gone))))] ++ [MO.lst []])), _, _, ?_, rfl⟩
        rw [hs, hg, ← eh2]
        simp
      | true =>
        rw [hg] at ne
        simp only [Mv.mDef, Mv.mSeq, Mv.mSet, Mv.mRet, Mv.mRetN, Mv.mIfS, Mv.mVar, Mv.mC, Mv.mBin, Mv.mChain, Mv.mCall, Mv.mDo, Mv.mCons, Mv.mNil, Mv.mAndV, Mv.mOrV, Mv.mNotV, Mv.mAsB, Mv.mAndT, Mv.mOrT, Mv.mNotT, Mv.mIf, Mv.mTup, Mv.mLst, Mv.mNext, Mv.mBad, Mv.mDrop, Mv.mPar, Mv.mAsg, Mv.mStore, Mv.mNeg, Mv.fNeg, Mv.mYes, Mv.mNoP, Mv.mPart, Mv.mSl, Mv.fI, Mv.fAdd, Mv.fSub, Mv.fMul, Mv.fMod, Mv.fDiv, Mv.fPow, Mv.fLt, Mv.fLe, Mv.fGt, Mv.fGe, Mv.yes2, Mv.fIsN, Mv.fNotN, Mv.isNon, Mv.fIx, Mv.items_tup, Mv.items_new, Mv.list_new, Mv.lstOf_new, Mv.fEq_int, Mv.fNe_int, Mv.fLen_tup, Mv.fMax2, Mv.fMin2, Mv.fInt, Mv.fAbs, Mv.mIsi, Mv.isT, Mv.gN, Mv.gT, Mv.setAll, Mv.wipeM, Mv.R.bind_ok, Mv.R.bind_bad, Mv.R.noX_ok, Mv.R.andS_ok, Mv.R.andS_bad, Mv.S.andS_nx, Mv.S.andS_rt, Mv.S.andS_bad, Mv.S.andS_bk, Mv.S.andS_ct, List.map_cons, List.map_nil, List.cons_append, List.nil_append, List.append_nil, List.replicate_succ, List.replicate_zero, List.length_cons, List.length_nil, List.set_cons_zero, List.set_cons_succ, List.getElem?_cons_zero, List.getElem?_cons_succ, List.getElem?_nil, Nat.reduceAdd, Nat.reduceSub, Nat.reduceEqDiff, Nat.reduceLeDiff, Nat.zero_add, if_true, if_false, Bool.not_true, Bool.not_false, Bool.false_eq_true, decide_true, decide_false, ite_true, ite_false, Option.some.injEq, reduceIte, Mv.mFld, Mv.mIsC, Mv.mMeth, Mv.mMake, Mv.mMakeK, Mv.mEqB, Mv.boolR, Mv.mRev, List.lookup_cons, List.lookup_nil, Nat.reduceBEq, beq_self_eq_true, Mv.ins_new, Mv.set_new, yl, bl, c0, ne, mLm, list_ref, items_at w3, fAppend, lstOf_at w3, hbl]
        refine ⟨g' ++ ([MO.lst (List.map MV.int (leftL r t gone))] ++ ([MO.lst (ivs (brokenL P (youngL P (leftL r t gone))))] ++ [MO.lst []])), _, _, ?_, rfl⟩
        rw [hs, hg, ← eh2]
        unfold ivs
        simp
    · intro a _
      refine ⟨_, rfl, ?_⟩
      simp only [Mv.mDef, Mv.mSeq, Mv.mSet, Mv.mRet, Mv.mRetN, Mv.mIfS, Mv.mVar, Mv.mC, Mv.mBin, Mv.mChain, Mv.mCall, Mv.mDo, Mv.mCons, Mv.mNil, Mv.mAndV, Mv.mOrV, Mv.mNotV, Mv.mAsB, Mv.mAndT, Mv.mOrT, Mv.mNotT, Mv.mIf, Mv.mTup, Mv.mLst, Mv.mNext, Mv.mBad, Mv.mDrop, Mv.mPar, Mv.mAsg, Mv.mStore, Mv.mNeg, Mv.fNeg, Mv.mYes, Mv.mNoP, Mv.mPart, Mv.mSl, Mv.fI, Mv.fAdd, Mv.fSub, Mv.fMul, Mv.fMod, Mv.fDiv, Mv.fPow, Mv.fLt, Mv.fLe, Mv.fGt, Mv.fGe, Mv.yes2, Mv.fIsN, Mv.fNotN, Mv.isNon, Mv.fIx, Mv.items_tup, Mv.items_new, Mv.list_new, Mv.lstOf_new, Mv.fEq_int, Mv.fNe_int, Mv.fLen_tup, Mv.fMax2, Mv.fMin2, Mv.fInt, Mv.fAbs, Mv.mIsi, Mv.isT, Mv.gN, Mv.gT, Mv.setAll, Mv.wipeM, Mv.R.bind_ok, Mv.R.bind_bad, Mv.R.noX_ok, Mv.R.andS_ok, Mv.R.andS_bad, Mv.S.andS_nx, Mv.S.andS_rt, Mv.S.andS_bad, Mv.S.andS_bk, Mv.S.andS_ct, List.map_cons, List.map_nil, List.cons_append, List.nil_append, List.append_nil, List.replicate_succ, List.replicate_zero, List.length_cons, List.length_nil, List.set_cons_zero, List.set_cons_succ, List.getElem?_cons_zero, List.getElem?_cons_succ, List.getElem?_nil, Nat.reduceAdd, Nat.reduceSub, Nat.reduceEqDiff, Nat.reduceLeDiff, Nat.zero_add, if_true, if_false, Bool.not_true, Bool.not_false, Bool.false_eq_true, decide_true, decide_false, ite_true, ite_false, Option.some.injEq, reduceIte, Mv.mFld, Mv.mIsC, Mv.mMeth, Mv.mMake, Mv.mMakeK, Mv.mEqB, Mv.boolR, Mv.mRev, List.lookup_cons, List.lookup_nil, Nat.reduceBEq, beq_self_eq_true, Mv.ins_new, Mv.set_new, fNotIn_ints eg2]
      exact ⟨trivial, fun _ => trivial⟩
theorem sim_l_hurt (xs : List MV) (h : MH) : Sim h (F_l_hurt G_settled_of G_l_held G_young G_l_broken xs h) (G_hurt xs h) := specH_sim (fun a h d => F_l_hurt_sim d.1 d.2.1 d.2.2) xs h
end Mv

set_option maxHeartbeats 4000000
namespace Mv
open PySem PySem.Spec L2

/-! ### when all is healed -/
def healedV (r : Rule) (first : Int) (ts : List Int) : Int := maxOf (first :: settled r :: ts.map (· + 1))
theorem F_healed_from_eq {h : MH} {g : Nat} {r : Rule} (v : Valid r) {first : Int} {ts : List Int} (hl : ts.length ≤ 5000) (eg : h[g]? = some (.lst (ivs ts))) : ∃ g', F_healed_from G_settled_of [rv r, .int first, .ref g] h = .ok (.int (healedV r first ts)) (h ++ g') := by
  unfold F_healed_from m_healed_from
  simp only [Mv.mDef, Mv.mSeq, Mv.mSet, Mv.mRet, Mv.mRetN, Mv.mIfS, Mv.mVar, Mv.mC, Mv.mBin, Mv.mChain, Mv.mCall, Mv.mDo, Mv.mCons, Mv.mNil, Mv.mAndV, Mv.mOrV, Mv.mNotV, Mv.mAsB, Mv.mAndT, Mv.mOrT, Mv.mNotT, Mv.mIf, Mv.mTup, Mv.mLst, Mv.mNext, Mv.mBad, Mv.mDrop, Mv.mPar, Mv.mAsg, Mv.mStore, Mv.mNeg, Mv.fNeg, Mv.mYes, Mv.mNoP, Mv.mPart, Mv.mSl, Mv.fI, Mv.fAdd, Mv.fSub, Mv.fMul, Mv.fMod, Mv.fDiv, Mv.fPow, Mv.fLt, Mv.fLe, Mv.fGt, Mv.fGe, Mv.yes2, Mv.fIsN, Mv.fNotN, Mv.isNon, Mv.fIx, Mv.items_tup, Mv.items_new, Mv.list_new, Mv.lstOf_new, Mv.fEq_int, Mv.fNe_int, Mv.fLen_tup, Mv.fMax2, Mv.fMin2, Mv.fInt, Mv.fAbs, Mv.mIsi, Mv.isT, Mv.gN, Mv.gT, Mv.setAll, Mv.wipeM, Mv.R.bind_ok, Mv.R.bind_bad, Mv.R.noX_ok, Mv.R.andS_ok, Mv.R.andS_bad, Mv.S.andS_nx, Mv.S.andS_rt, Mv.S.andS_bad, Mv.S.andS_bk, Mv.S.andS_ct, List.map_cons, List.map_nil, List.cons_append, List.nil_append, List.append_nil, List.replicate_succ, List.replicate_zero, List.length_cons, List.length_nil, List.set_cons_zero, List.set_cons_succ, List.getElem?_cons_zero, List.getElem?_cons_succ, List.getElem?_nil, Nat.reduceAdd, Nat.reduceSub, Nat.reduceEqDiff, Nat.reduceLeDiff, Nat.zero_add, if_true, if_false, Bool.not_true, Bool.not_false, Bool.false_eq_true, decide_true, decide_false, ite_true, ite_false, Option.some.injEq, reduceIte, Mv.mFld, Mv.mIsC, Mv.mMeth, Mv.mMake, Mv.mMakeK, Mv.mEqB, Mv.boolR, Mv.mRev, List.lookup_cons, List.lookup_nil, Nat.reduceBEq, beq_self_eq_true, Mv.ins_new, Mv.set_new, G_settled_of_eq v, Mv.mStar, mLc, mItV, items_at eg]
  rw [comp_pure (it := itL g) (l := ts) (enc := MV.int) (cb := fun _ => true) (f := fun t => MV.int (t + 1)) (fun i => itL_nx eg i) (by unfold cap; omega)]
  · rw [filter_yes]
    have er : ts.map (fun t => MV.int (t + 1)) = ivs (ts.map (· + 1)) := by unfold ivs; rw [List.map_map]; rfl
    rw [er]
    have hc : (ivs (ts.map (· + 1))).length + 1 + 1 ≤ cap := by rw [ints_length, List.length_map]; unfold cap; omega
    simp only [Mv.mDef, Mv.mSeq, Mv.mSet, Mv.mRet, Mv.mRetN, Mv.mIfS, Mv.mVar, Mv.mC, Mv.mBin, Mv.mChain, Mv.mCall, Mv.mDo, Mv.mCons, Mv.mNil, Mv.mAndV, Mv.mOrV, Mv.mNotV, Mv.mAsB, Mv.mAndT, Mv.mOrT, Mv.mNotT, Mv.mIf, Mv.mTup, Mv.mLst, Mv.mNext, Mv.mBad, Mv.mDrop, Mv.mPar, Mv.mAsg, Mv.mStore, Mv.mNeg, Mv.fNeg, Mv.mYes, Mv.mNoP, Mv.mPart, Mv.mSl, Mv.fI, Mv.fAdd, Mv.fSub, Mv.fMul, Mv.fMod, Mv.fDiv, Mv.fPow, Mv.fLt, Mv.fLe, Mv.fGt, Mv.fGe, Mv.yes2, Mv.fIsN, Mv.fNotN, Mv.isNon, Mv.fIx, Mv.items_tup, Mv.items_new, Mv.list_new, Mv.lstOf_new, Mv.fEq_int, Mv.fNe_int, Mv.fLen_tup, Mv.fMax2, Mv.fMin2, Mv.fInt, Mv.fAbs, Mv.mIsi, Mv.isT, Mv.gN, Mv.gT, Mv.setAll, Mv.wipeM, Mv.R.bind_ok, Mv.R.bind_bad, Mv.R.noX_ok, Mv.R.andS_ok, Mv.R.andS_bad, Mv.S.andS_nx, Mv.S.andS_rt, Mv.S.andS_bad, Mv.S.andS_bk, Mv.S.andS_ct, List.map_cons, List.map_nil, List.cons_append, List.nil_append, List.append_nil, List.replicate_succ, List.replicate_zero, List.length_cons, List.length_nil, List.set_cons_zero, List.set_cons_succ, List.getElem?_cons_zero, List.getElem?_cons_succ, List.getElem?_nil, Nat.reduceAdd, Nat.reduceSub, Nat.reduceEqDiff, Nat.reduceLeDiff, Nat.zero_add, if_true, if_false, Bool.not_true, Bool.not_false, Bool.false_eq_true, decide_true, decide_false, ite_true, ite_false, Option.some.injEq, reduceIte, Mv.mFld, Mv.mIsC, Mv.mMeth, Mv.mMake, Mv.mMakeK, Mv.mEqB, Mv.boolR, Mv.mRev, List.lookup_cons, List.lookup_nil, Nat.reduceBEq, beq_self_eq_true, Mv.ins_new, Mv.set_new, hc]
    have hmx : fMax [.ref (h ++ [MO.lst (ivs (ts.map (· + 1)))]).length] (h ++ [MO.lst (ivs (ts.map (· + 1)))] ++ [MO.lst (.int first :: .int (settled r) :: ivs (ts.map (· + 1)))]) = .ok (.int (healedV r first ts)) (h ++ [MO.lst (ivs (ts.map (· + 1)))] ++ [MO.lst (.int first :: .int (settled r) :: ivs (ts.map (· + 1)))]) :=
      fMax_ns (ns := first :: settled r :: ts.map (· + 1)) (items_new _ _) (asInts_ivs (first :: settled r :: ts.map (· + 1))) (by simp)
    simp only [Mv.mDef, Mv.mSeq, Mv.mSet, Mv.mRet, Mv.mRetN, Mv.mIfS, Mv.mVar, Mv.mC, Mv.mBin, Mv.mChain, Mv.mCall, Mv.mDo, Mv.mCons, Mv.mNil, Mv.mAndV, Mv.mOrV, Mv.mNotV, Mv.mAsB, Mv.mAndT, Mv.mOrT, Mv.mNotT, Mv.mIf, Mv.mTup, Mv.mLst, Mv.mNext, Mv.mBad, Mv.mDrop, Mv.mPar, Mv.mAsg, Mv.mStore, Mv.mNeg, Mv.fNeg, Mv.mYes, Mv.mNoP, Mv.mPart, Mv.mSl, Mv.fI, Mv.fAdd, Mv.fSub, Mv.fMul, Mv.fMod, Mv.fDiv, Mv.fPow, Mv.fLt, Mv.fLe, Mv.fGt, Mv.fGe, Mv.yes2, Mv.fIsN, Mv.fNotN, Mv.isNon, Mv.fIx, Mv.items_tup, Mv.items_new, Mv.list_new, Mv.lstOf_new, Mv.fEq_int, Mv.fNe_int, Mv.fLen_tup, Mv.fMax2, Mv.fMin2, Mv.fInt, Mv.fAbs, Mv.mIsi, Mv.isT, Mv.gN, Mv.gT, Mv.setAll, Mv.wipeM, Mv.R.bind_ok, Mv.R.bind_bad, Mv.R.noX_ok, Mv.R.andS_ok, Mv.R.andS_bad, Mv.S.andS_nx, Mv.S.andS_rt, Mv.S.andS_bad, Mv.S.andS_bk, Mv.S.andS_ct, List.map_cons, List.map_nil, List.cons_append, List.nil_append, List.append_nil, List.replicate_succ, List.replicate_zero, List.length_cons, List.length_nil, List.set_cons_zero, List.set_cons_succ, List.getElem?_cons_zero, List.getElem?_cons_succ, List.getElem?_nil, Nat.reduceAdd, Nat.reduceSub, Nat.reduceEqDiff, Nat.reduceLeDiff, Nat.zero_add, if_true, if_false, Bool.not_true, Bool.not_false, Bool.false_eq_true, decide_true, decide_false, ite_true, ite_false, Option.some.injEq, reduceIte, Mv.mFld, Mv.mIsC, Mv.mMeth, Mv.mMake, Mv.mMakeK, Mv.mEqB, Mv.boolR, Mv.mRev, List.lookup_cons, List.lookup_nil, Nat.reduceBEq, beq_self_eq_true, Mv.ins_new, Mv.set_new, hmx]
    exact ⟨_, by rw [List.append_assoc]⟩
  · intro t _
    refine ⟨_, rfl, ?_⟩
    simp only [Mv.mDef, Mv.mSeq, Mv.mSet, Mv.mRet, Mv.mRetN, Mv.mIfS, Mv.mVar, Mv.mC, Mv.mBin, Mv.mChain, Mv.mCall, Mv.mDo, Mv.mCons, Mv.mNil, Mv.mAndV, Mv.mOrV, Mv.mNotV, Mv.mAsB, Mv.mAndT, Mv.mOrT, Mv.mNotT, Mv.mIf, Mv.mTup, Mv.mLst, Mv.mNext, Mv.mBad, Mv.mDrop, Mv.mPar, Mv.mAsg, Mv.mStore, Mv.mNeg, Mv.fNeg, Mv.mYes, Mv.mNoP, Mv.mPart, Mv.mSl, Mv.fI, Mv.fAdd, Mv.fSub, Mv.fMul, Mv.fMod, Mv.fDiv, Mv.fPow, Mv.fLt, Mv.fLe, Mv.fGt, Mv.fGe, Mv.yes2, Mv.fIsN, Mv.fNotN, Mv.isNon, Mv.fIx, Mv.items_tup, Mv.items_new, Mv.list_new, Mv.lstOf_new, Mv.fEq_int, Mv.fNe_int, Mv.fLen_tup, Mv.fMax2, Mv.fMin2, Mv.fInt, Mv.fAbs, Mv.mIsi, Mv.isT, Mv.gN, Mv.gT, Mv.setAll, Mv.wipeM, Mv.R.bind_ok, Mv.R.bind_bad, Mv.R.noX_ok, Mv.R.andS_ok, Mv.R.andS_bad, Mv.S.andS_nx, Mv.S.andS_rt, Mv.S.andS_bad, Mv.S.andS_bk, Mv.S.andS_ct, List.map_cons, List.map_nil, List.cons_append, List.nil_append, List.append_nil, List.replicate_succ, List.replicate_zero, List.length_cons, List.length_nil, List.set_cons_zero, List.set_cons_succ, List.getElem?_cons_zero, List.getElem?_cons_succ, List.getElem?_nil, Nat.reduceAdd, Nat.reduceSub, Nat.reduceEqDiff, Nat.reduceLeDiff, Nat.zero_add, if_true, if_false, Bool.not_true, Bool.not_false, Bool.false_eq_true, decide_true, decide_false, ite_true, ite_false, Option.some.injEq, reduceIte, Mv.mFld, Mv.mIsC, Mv.mMeth, Mv.mMake, Mv.mMakeK, Mv.mEqB, Mv.boolR, Mv.mRev, List.lookup_cons, List.lookup_nil, Nat.reduceBEq, beq_self_eq_true, Mv.ins_new, Mv.set_new]
    exact ⟨trivial, fun _ => trivial⟩
theorem F_l_healed_eq {h : MH} {g : Nat} {r : Rule} (v : Valid r) {first : Int} {ts : List Int} (hl : ts.length ≤ 5000) (eg : h[g]? = some (.lst (ivs ts))) : ∃ g', F_l_healed G_settled_of [rv r, .int first, .ref g] h = .ok (.int (healedV r first ts)) (h ++ g') := by
  unfold F_l_healed m_l_healed
  have eg1 : (h ++ [MO.lst [.int first, .int (settled r)]])[g]? = some (.lst (ivs ts)) := look_app eg
  have hc2 : (2 : Nat) ≤ cap := by decide
  simp only [Mv.mDef, Mv.mSeq, Mv.mSet, Mv.mRet, Mv.mRetN, Mv.mIfS, Mv.mVar, Mv.mC, Mv.mBin, Mv.mChain, Mv.mCall, Mv.mDo, Mv.mCons, Mv.mNil, Mv.mAndV, Mv.mOrV, Mv.mNotV, Mv.mAsB, Mv.mAndT, Mv.mOrT, Mv.mNotT, Mv.mIf, Mv.mTup, Mv.mLst, Mv.mNext, Mv.mBad, Mv.mDrop, Mv.mPar, Mv.mAsg, Mv.mStore, Mv.mNeg, Mv.fNeg, Mv.mYes, Mv.mNoP, Mv.mPart, Mv.mSl, Mv.fI, Mv.fAdd, Mv.fSub, Mv.fMul, Mv.fMod, Mv.fDiv, Mv.fPow, Mv.fLt, Mv.fLe, Mv.fGt, Mv.fGe, Mv.yes2, Mv.fIsN, Mv.fNotN, Mv.isNon, Mv.fIx, Mv.items_tup, Mv.items_new, Mv.list_new, Mv.lstOf_new, Mv.fEq_int, Mv.fNe_int, Mv.fLen_tup, Mv.fMax2, Mv.fMin2, Mv.fInt, Mv.fAbs, Mv.mIsi, Mv.isT, Mv.gN, Mv.gT, Mv.setAll, Mv.wipeM, Mv.R.bind_ok, Mv.R.bind_bad, Mv.R.noX_ok, Mv.R.andS_ok, Mv.R.andS_bad, Mv.S.andS_nx, Mv.S.andS_rt, Mv.S.andS_bad, Mv.S.andS_bk, Mv.S.andS_ct, List.map_cons, List.map_nil, List.cons_append, List.nil_append, List.append_nil, List.replicate_succ, List.replicate_zero, List.length_cons, List.length_nil, List.set_cons_zero, List.set_cons_succ, List.getElem?_cons_zero, List.getElem?_cons_succ, List.getElem?_nil, Nat.reduceAdd, Nat.reduceSub, Nat.reduceEqDiff, Nat.reduceLeDiff, Nat.zero_add, if_true, if_false, Bool.not_true, Bool.not_false, Bool.false_eq_true, decide_true, decide_false, ite_true, ite_false, Option.some.injEq, reduceIte, Mv.mFld, Mv.mIsC, Mv.mMeth, Mv.mMake, Mv.mMakeK, Mv.mEqB, Mv.boolR, Mv.mRev, List.lookup_cons, List.lookup_nil, Nat.reduceBEq, beq_self_eq_true, Mv.ins_new, Mv.set_new, G_settled_of_eq v, mLc, mItV, items_at eg1, hc2]
  rw [comp_pure (it := itL g) (l := ts) (enc := MV.int) (cb := fun _ => true) (f := fun t => MV.int (t + 1)) (fun i => itL_nx eg1 i) (by unfold cap; omega)]
  · rw [filter_yes]
    have er : ts.map (fun t => MV.int (t + 1)) = ivs (ts.map (· + 1)) := by unfold ivs; rw [List.map_map]; rfl
    rw [er]
    generalize eh2 : h ++ [MO.lst [.int first, .int (settled r)]] = h2
    have w1 : (h2 ++ [MO.lst (ivs (ts.map (· + 1)))])[h.length]? = some (.lst [.int first, .int (settled r)]) := by rw [← eh2]; exact look_app (look_new _ _)
    have w2 : (h2 ++ [MO.lst (ivs (ts.map (· + 1)))])[h2.length]? = some (.lst (ivs (ts.map (· + 1)))) := look_new _ _
    have hc : 1 + 1 + (ivs (ts.map (· + 1))).length ≤ cap := by rw [ints_length, List.length_map]; unfold cap; omega
    have hmx : ∀ h3 : MH, fMax [.ref h3.length] (h3 ++ [MO.lst (.int first :: .int (settled r) :: ivs (ts.map (· + 1)))]) = .ok (.int (healedV r first ts)) (h3 ++ [MO.lst (.int first :: .int (settled r) :: ivs (ts.map (· + 1)))]) := fun h3 =>
      fMax_ns (ns := first :: settled r :: ts.map (· + 1)) (items_new _ _) (asInts_ivs (first :: settled r :: ts.map (· + 1))) (by simp)
    simp only [Mv.mDef, Mv.mSeq, Mv.mSet, Mv.mRet, Mv.mRetN, Mv.mIfS, Mv.mVar, Mv.mC, Mv.mBin, Mv.mChain, Mv.mCall, Mv.mDo, Mv.mCons, Mv.mNil, Mv.mAndV, Mv.mOrV, Mv.mNotV, Mv.mAsB, Mv.mAndT, Mv.mOrT, Mv.mNotT, Mv.mIf, Mv.mTup, Mv.mLst, Mv.mNext, Mv.mBad, Mv.mDrop, Mv.mPar, Mv.mAsg, Mv.mStore, Mv.mNeg, Mv.fNeg, Mv.mYes, Mv.mNoP, Mv.mPart, Mv.mSl, Mv.fI, Mv.fAdd, Mv.fSub, Mv.fMul, Mv.fMod, Mv.fDiv, Mv.fPow, Mv.fLt, Mv.fLe, Mv.fGt, Mv.fGe, Mv.yes2, Mv.fIsN, Mv.fNotN, Mv.isNon, Mv.fIx, Mv.items_tup, Mv.items_new, Mv.list_new, Mv.lstOf_new, Mv.fEq_int, Mv.fNe_int, Mv.fLen_tup, Mv.fMax2, Mv.fMin2, Mv.fInt, Mv.fAbs, Mv.mIsi, Mv.isT, Mv.gN, Mv.gT, Mv.setAll, Mv.wipeM, Mv.R.bind_ok, Mv.R.bind_bad, Mv.R.noX_ok, Mv.R.andS_ok, Mv.R.andS_bad, Mv.S.andS_nx, Mv.S.andS_rt, Mv.S.andS_bad, Mv.S.andS_bk, Mv.S.andS_ct, List.map_cons, List.map_nil, List.cons_append, List.nil_append, List.append_nil, List.replicate_succ, List.replicate_zero, List.length_cons, List.length_nil, List.set_cons_zero, List.set_cons_succ, List.getElem?_cons_zero, List.getElem?_cons_succ, List.getElem?_nil, Nat.reduceAdd, Nat.reduceSub, Nat.reduceEqDiff, Nat.reduceLeDiff, Nat.zero_add, if_true, if_false, Bool.not_true, Bool.not_false, Bool.false_eq_true, decide_true, decide_false, ite_true, ite_false, Option.some.injEq, reduceIte, Mv.mFld, Mv.mIsC, Mv.mMeth, Mv.mMake, Mv.mMakeK, Mv.mEqB, Mv.boolR, Mv.mRev, List.lookup_cons, List.lookup_nil, Nat.reduceBEq, beq_self_eq_true, Mv.ins_new, Mv.set_new, lstOf_at w1, lstOf_at w2, hc, hmx]
    rw [← eh2]
    refine ok_ex ?_
    simp only [List.append_assoc]
    exact List.prefix_append _ _
  · intro t _
    refine ⟨_, rfl, ?_⟩
    simp only [Mv.mDef, Mv.mSeq, Mv.mSet, Mv.mRet, Mv.mRetN, Mv.mIfS, Mv.mVar, Mv.mC, Mv.mBin, Mv.mChain, Mv.mCall, Mv.mDo, Mv.mCons, Mv.mNil, Mv.mAndV, Mv.mOrV, Mv.mNotV, Mv.mAsB, Mv.mAndT, Mv.mOrT, Mv.mNotT, Mv.mIf, Mv.mTup, Mv.mLst, Mv.mNext, Mv.mBad, Mv.mDrop, Mv.mPar, Mv.mAsg, Mv.mStore, Mv.mNeg, Mv.fNeg, Mv.mYes, Mv.mNoP, Mv.mPart, Mv.mSl, Mv.fI, Mv.fAdd, Mv.fSub, Mv.fMul, Mv.fMod, Mv.fDiv, Mv.fPow, Mv.fLt, Mv.fLe, Mv.fGt, Mv.fGe, Mv.yes2, Mv.fIsN, Mv.fNotN, Mv.isNon, Mv.fIx, Mv.items_tup, Mv.items_new, Mv.list_new, Mv.lstOf_new, Mv.fEq_int, Mv.fNe_int, Mv.fLen_tup, Mv.fMax2, Mv.fMin2, Mv.fInt, Mv.fAbs, Mv.mIsi, Mv.isT, Mv.gN, Mv.gT, Mv.setAll, Mv.wipeM, Mv.R.bind_ok, Mv.R.bind_bad, Mv.R.noX_ok, Mv.R.andS_ok, Mv.R.andS_bad, Mv.S.andS_nx, Mv.S.andS_rt, Mv.S.andS_bad, Mv.S.andS_bk, Mv.S.andS_ct, List.map_cons, List.map_nil, List.cons_append, List.nil_append, List.append_nil, List.replicate_succ, List.replicate_zero, List.length_cons, List.length_nil, List.set_cons_zero, List.set_cons_succ, List.getElem?_cons_zero, List.getElem?_cons_succ, List.getElem?_nil, Nat.reduceAdd, Nat.reduceSub, Nat.reduceEqDiff, Nat.reduceLeDiff, Nat.zero_add, if_true, if_false, Bool.not_true, Bool.not_false, Bool.false_eq_true, decide_true, decide_false, ite_true, ite_false, Option.some.injEq, reduceIte, Mv.mFld, Mv.mIsC, Mv.mMeth, Mv.mMake, Mv.mMakeK, Mv.mEqB, Mv.boolR, Mv.mRev, List.lookup_cons, List.lookup_nil, Nat.reduceBEq, beq_self_eq_true, Mv.ins_new, Mv.set_new]
    exact ⟨trivial, fun _ => trivial⟩
noncomputable def G_healed : List MV → MH → R MV := specH (α := Rule × Int × Nat × List Int) (fun a => [rv a.1, .int a.2.1, .ref a.2.2.1]) (fun a h => Valid a.1 ∧ a.2.2.2.length ≤ 5000 ∧ h[a.2.2.1]? = some (.lst (ivs a.2.2.2))) fun a h => .ok (.int (healedV a.1 a.2.1 a.2.2.2)) h
theorem G_healed_eq {h : MH} {g : Nat} {r : Rule} (v : Valid r) {first : Int} {ts : List Int} (hl : ts.length ≤ 5000) (eg : h[g]? = some (.lst (ivs ts))) : G_healed [rv r, .int first, .ref g] h = .ok (.int (healedV r first ts)) h :=
  specH_eq (a := ((r, first, g, ts) : Rule × Int × Nat × List Int)) (fun x y q d1 d2 => by
    obtain ⟨x1, x2, x3, x4⟩ := x
    obtain ⟨y1, y2, y3, y4⟩ := y
    simp only [List.cons.injEq, MV.ref.injEq, MV.int.injEq, and_true] at q
    obtain ⟨q1, rfl, rfl⟩ := q
    have e1 : x1 = y1 := rv_inj q1
    subst e1
    have q4 := d1.2.2.symm.trans d2.2.2
    simp only [Option.some.injEq, MO.lst.injEq] at q4
    have e4 : x4 = y4 := ivs_inj q4
    subst e4
    rfl) ⟨v, hl, eg⟩
theorem sim_healed_from (xs : List MV) (h : MH) : Sim h (F_healed_from G_settled_of xs h) (G_healed xs h) := specH_sim (fun a h d => by
  obtain ⟨g, e⟩ := F_healed_from_eq d.1 (first := a.2.1) d.2.1 d.2.2
  rw [e]
  exact sim_drop0 (und_int _ _)) xs h
theorem sim_l_healed (xs : List MV) (h : MH) : Sim h (F_l_healed G_settled_of xs h) (G_healed xs h) := specH_sim (fun a h d => by
  obtain ⟨g, e⟩ := F_l_healed_eq d.1 (first := a.2.1) d.2.1 d.2.2
  rw [e]
  exact sim_drop0 (und_int _ _)) xs h

/-! ### checks -/
theorem F_check_kept_eq {h : MH} {n : Nat} {P : Plan} {r : Rule} (k : KeptAt h n P r) : ∃ g, F_check_kept G_judge [.ref n, rv r] h = .ok .non (h ++ g) := by
  unfold F_check_kept m_check_kept
  have a := Vd.at_new h (judgeV P r)
  have kk := k.kept
  cases q : judgeV P r with
  | keeps rows =>
    have je := G_judge_eq k.at' k.ok k.v
    rw [q] at a je
    obtain ⟨l, e1, e2⟩ := a
    simp only [Mv.mDef, Mv.mSeq, Mv.mSet, Mv.mRet, Mv.mRetN, Mv.mIfS, Mv.mVar, Mv.mC, Mv.mBin, Mv.mChain, Mv.mCall, Mv.mDo, Mv.mCons, Mv.mNil, Mv.mAndV, Mv.mOrV, Mv.mNotV, Mv.mAsB, Mv.mAndT, Mv.mOrT, Mv.mNotT, Mv.mIf, Mv.mTup, Mv.mLst, Mv.mNext, Mv.mBad, Mv.mDrop, Mv.mPar, Mv.mAsg, Mv.mStore, Mv.mNeg, Mv.fNeg, Mv.mYes, Mv.mNoP, Mv.mPart, Mv.mSl, Mv.fI, Mv.fAdd, Mv.fSub, Mv.fMul, Mv.fMod, Mv.fDiv, Mv.fPow, Mv.fLt, Mv.fLe, Mv.fGt, Mv.fGe, Mv.yes2, Mv.fIsN, Mv.fNotN, Mv.isNon, Mv.fIx, Mv.items_tup, Mv.items_new, Mv.list_new, Mv.lstOf_new, Mv.fEq_int, Mv.fNe_int, Mv.fLen_tup, Mv.fMax2, Mv.fMin2, Mv.fInt, Mv.fAbs, Mv.mIsi, Mv.isT, Mv.gN, Mv.gT, Mv.setAll, Mv.wipeM, Mv.R.bind_ok, Mv.R.bind_bad, Mv.R.noX_ok, Mv.R.andS_ok, Mv.R.andS_bad, Mv.S.andS_nx, Mv.S.andS_rt, Mv.S.andS_bad, Mv.S.andS_bk, Mv.S.andS_ct, List.map_cons, List.map_nil, List.cons_append, List.nil_append, List.append_nil, List.replicate_succ, List.replicate_zero, List.length_cons, List.length_nil, List.set_cons_zero, List.set_cons_succ, List.getElem?_cons_zero, List.getElem?_cons_succ, List.getElem?_nil, Nat.reduceAdd, Nat.reduceSub, Nat.reduceEqDiff, Nat.reduceLeDiff, Nat.zero_add, if_true, if_false, Bool.not_true, Bool.not_false, Bool.false_eq_true, decide_true, decide_false, ite_true, ite_false, Option.some.injEq, reduceIte, Mv.mFld, Mv.mIsC, Mv.mMeth, Mv.mMake, Mv.mMakeK, Mv.mEqB, Mv.boolR, Mv.mRev, List.lookup_cons, List.lookup_nil, Nat.reduceBEq, beq_self_eq_true, Mv.ins_new, Mv.set_new, je, ins_at e1]
    exact ⟨_, rfl⟩
  | misses t x => rw [q] at kk; cases kk
noncomputable def G_check_kept : List MV → MH → R MV := specH (α := Nat × Plan × Rule) (fun a => [.ref a.1, rv a.2.2]) (fun a h => KeptAt h a.1 a.2.1 a.2.2) fun _ h => .ok .non h
theorem G_check_kept_eq {h : MH} {n : Nat} {P : Plan} {r : Rule} (k : KeptAt h n P r) : G_check_kept [.ref n, rv r] h = .ok .non h := specH_eq (a := ((n, P, r) : Nat × Plan × Rule)) (fun _ _ _ _ _ => rfl) k
theorem sim_check_kept (xs : List MV) (h : MH) : Sim h (F_check_kept G_judge xs h) (G_check_kept xs h) := specH_sim (fun a h d => by
  obtain ⟨g, e⟩ := F_check_kept_eq d
  rw [e]
  exact sim_drop0 (und_non _)) xs h
theorem F_check_pause_eq {h : MH} {n : Nat} {P : Plan} {r : Rule} (k : KeptAt h n P r) {b t : Int} (b0 : 0 ≤ b) (b1 : b ≤ 1000) (t0 : 0 ≤ t) (t1 : t ≤ 12) : F_check_pause G_check_kept F_is_integer [.ref n, rv r, .int b, .int t] h = .ok .non h := by
  unfold F_check_pause m_check_pause
  have d1 : decide (0 ≤ b ∧ b ≤ 1000) = true := decide_eq_true ⟨b0, b1⟩
  have d2 : decide (0 ≤ t ∧ t ≤ 12) = true := decide_eq_true ⟨t0, t1⟩
  simp only [Mv.mDef, Mv.mSeq, Mv.mSet, Mv.mRet, Mv.mRetN, Mv.mIfS, Mv.mVar, Mv.mC, Mv.mBin, Mv.mChain, Mv.mCall, Mv.mDo, Mv.mCons, Mv.mNil, Mv.mAndV, Mv.mOrV, Mv.mNotV, Mv.mAsB, Mv.mAndT, Mv.mOrT, Mv.mNotT, Mv.mIf, Mv.mTup, Mv.mLst, Mv.mNext, Mv.mBad, Mv.mDrop, Mv.mPar, Mv.mAsg, Mv.mStore, Mv.mNeg, Mv.fNeg, Mv.mYes, Mv.mNoP, Mv.mPart, Mv.mSl, Mv.fI, Mv.fAdd, Mv.fSub, Mv.fMul, Mv.fMod, Mv.fDiv, Mv.fPow, Mv.fLt, Mv.fLe, Mv.fGt, Mv.fGe, Mv.yes2, Mv.fIsN, Mv.fNotN, Mv.isNon, Mv.fIx, Mv.items_tup, Mv.items_new, Mv.list_new, Mv.lstOf_new, Mv.fEq_int, Mv.fNe_int, Mv.fLen_tup, Mv.fMax2, Mv.fMin2, Mv.fInt, Mv.fAbs, Mv.mIsi, Mv.isT, Mv.gN, Mv.gT, Mv.setAll, Mv.wipeM, Mv.R.bind_ok, Mv.R.bind_bad, Mv.R.noX_ok, Mv.R.andS_ok, Mv.R.andS_bad, Mv.S.andS_nx, Mv.S.andS_rt, Mv.S.andS_bad, Mv.S.andS_bk, Mv.S.andS_ct, List.map_cons, List.map_nil, List.cons_append, List.nil_append, List.append_nil, List.replicate_succ, List.replicate_zero, List.length_cons, List.length_nil, List.set_cons_zero, List.set_cons_succ, List.getElem?_cons_zero, List.getElem?_cons_succ, List.getElem?_nil, Nat.reduceAdd, Nat.reduceSub, Nat.reduceEqDiff, Nat.reduceLeDiff, Nat.zero_add, if_true, if_false, Bool.not_true, Bool.not_false, Bool.false_eq_true, decide_true, decide_false, ite_true, ite_false, Option.some.injEq, reduceIte, Mv.mFld, Mv.mIsC, Mv.mMeth, Mv.mMake, Mv.mMakeK, Mv.mEqB, Mv.boolR, Mv.mRev, List.lookup_cons, List.lookup_nil, Nat.reduceBEq, beq_self_eq_true, Mv.ins_new, Mv.set_new, G_check_kept_eq k, F_is_integer_eq, d1, d2]
theorem F_check_loss_eq {h : MH} {n : Nat} {P : Plan} {r : Rule} (k : KeptAt h n P r) {a b : Int} (a0 : 0 ≤ a) (a1 : a ≤ 1000) (b0 : 0 ≤ b) (b1 : b ≤ 1000) (hh : isHeld r a b = true) : F_check_loss G_check_kept F_is_integer G_is_held [.ref n, rv r, .int a, .int b] h = .ok .non h := by
  unfold F_check_loss m_check_loss
  have d1 : decide (0 ≤ a ∧ a ≤ 1000) = true := decide_eq_true ⟨a0, a1⟩
  have d2 : decide (0 ≤ b ∧ b ≤ 1000) = true := decide_eq_true ⟨b0, b1⟩
  simp only [Mv.mDef, Mv.mSeq, Mv.mSet, Mv.mRet, Mv.mRetN, Mv.mIfS, Mv.mVar, Mv.mC, Mv.mBin, Mv.mChain, Mv.mCall, Mv.mDo, Mv.mCons, Mv.mNil, Mv.mAndV, Mv.mOrV, Mv.mNotV, Mv.mAsB, Mv.mAndT, Mv.mOrT, Mv.mNotT, Mv.mIf, Mv.mTup, Mv.mLst, Mv.mNext, Mv.mBad, Mv.mDrop, Mv.mPar, Mv.mAsg, Mv.mStore, Mv.mNeg, Mv.fNeg, Mv.mYes, Mv.mNoP, Mv.mPart, Mv.mSl, Mv.fI, Mv.fAdd, Mv.fSub, Mv.fMul, Mv.fMod, Mv.fDiv, Mv.fPow, Mv.fLt, Mv.fLe, Mv.fGt, Mv.fGe, Mv.yes2, Mv.fIsN, Mv.fNotN, Mv.isNon, Mv.fIx, Mv.items_tup, Mv.items_new, Mv.list_new, Mv.lstOf_new, Mv.fEq_int, Mv.fNe_int, Mv.fLen_tup, Mv.fMax2, Mv.fMin2, Mv.fInt, Mv.fAbs, Mv.mIsi, Mv.isT, Mv.gN, Mv.gT, Mv.setAll, Mv.wipeM, Mv.R.bind_ok, Mv.R.bind_bad, Mv.R.noX_ok, Mv.R.andS_ok, Mv.R.andS_bad, Mv.S.andS_nx, Mv.S.andS_rt, Mv.S.andS_bad, Mv.S.andS_bk, Mv.S.andS_ct, List.map_cons, List.map_nil, List.cons_append, List.nil_append, List.append_nil, List.replicate_succ, List.replicate_zero, List.length_cons, List.length_nil, List.set_cons_zero, List.set_cons_succ, List.getElem?_cons_zero, List.getElem?_cons_succ, List.getElem?_nil, Nat.reduceAdd, Nat.reduceSub, Nat.reduceEqDiff, Nat.reduceLeDiff, Nat.zero_add, if_true, if_false, Bool.not_true, Bool.not_false, Bool.false_eq_true, decide_true, decide_false, ite_true, ite_false, Option.some.injEq, reduceIte, Mv.mFld, Mv.mIsC, Mv.mMeth, Mv.mMake, Mv.mMakeK, Mv.mEqB, Mv.boolR, Mv.mRev, List.lookup_cons, List.lookup_nil, Nat.reduceBEq, beq_self_eq_true, Mv.ins_new, Mv.set_new, G_check_kept_eq k, F_is_integer_eq, d1, d2, G_is_held_eq k.v, hh]

/-! ### pauses, losses -/
noncomputable def G_check_pause : List MV → MH → R MV := F_check_pause G_check_kept F_is_integer
noncomputable def G_check_loss : List MV → MH → R MV := F_check_loss G_check_kept F_is_integer G_is_held
def pauseL (b t : Int) : List Int := prog b 1 t.toNat
theorem lrg_eq {b t : Int} (b0 : 0 ≤ b) (b1 : b ≤ 1000) (t0 : 0 ≤ t) (t1 : t ≤ 12) (h : MH) : lrg b (b + t) h = .ok (.ref h.length) (h ++ [.lst (ivs (pauseL b t))]) := by
  unfold lrg pauseL
  have i1 : inR b = true := inR_of (by omega)
  have i2 : inR (b + t) = true := inR_of (by omega)
  have hn : (b + t - b).toNat = t.toNat := by omega
  rw [hn, if_pos ⟨i1, i2, by unfold cap; omega⟩]
theorem F_pause_times_eq {b t : Int} (b0 : 0 ≤ b) (b1 : b ≤ 1000) (t0 : 0 ≤ t) (t1 : t ≤ 12) (h : MH) : F_pause_times [.int b, .int t] h = .ok (.ref h.length) (h ++ [.lst (ivs (pauseL b t))]) := by
  unfold F_pause_times m_pause_times
  simp only [Mv.mDef, Mv.mSeq, Mv.mSet, Mv.mRet, Mv.mRetN, Mv.mIfS, Mv.mVar, Mv.mC, Mv.mBin, Mv.mChain, Mv.mCall, Mv.mDo, Mv.mCons, Mv.mNil, Mv.mAndV, Mv.mOrV, Mv.mNotV, Mv.mAsB, Mv.mAndT, Mv.mOrT, Mv.mNotT, Mv.mIf, Mv.mTup, Mv.mLst, Mv.mNext, Mv.mBad, Mv.mDrop, Mv.mPar, Mv.mAsg, Mv.mStore, Mv.mNeg, Mv.fNeg, Mv.mYes, Mv.mNoP, Mv.mPart, Mv.mSl, Mv.fI, Mv.fAdd, Mv.fSub, Mv.fMul, Mv.fMod, Mv.fDiv, Mv.fPow, Mv.fLt, Mv.fLe, Mv.fGt, Mv.fGe, Mv.yes2, Mv.fIsN, Mv.fNotN, Mv.isNon, Mv.fIx, Mv.items_tup, Mv.items_new, Mv.list_new, Mv.lstOf_new, Mv.fEq_int, Mv.fNe_int, Mv.fLen_tup, Mv.fMax2, Mv.fMin2, Mv.fInt, Mv.fAbs, Mv.mIsi, Mv.isT, Mv.gN, Mv.gT, Mv.setAll, Mv.wipeM, Mv.R.bind_ok, Mv.R.bind_bad, Mv.R.noX_ok, Mv.R.andS_ok, Mv.R.andS_bad, Mv.S.andS_nx, Mv.S.andS_rt, Mv.S.andS_bad, Mv.S.andS_bk, Mv.S.andS_ct, List.map_cons, List.map_nil, List.cons_append, List.nil_append, List.append_nil, List.replicate_succ, List.replicate_zero, List.length_cons, List.length_nil, List.set_cons_zero, List.set_cons_succ, List.getElem?_cons_zero, List.getElem?_cons_succ, List.getElem?_nil, Nat.reduceAdd, Nat.reduceSub, Nat.reduceEqDiff, Nat.reduceLeDiff, Nat.zero_add, if_true, if_false, Bool.not_true, Bool.not_false, Bool.false_eq_true, decide_true, decide_false, ite_true, ite_false, Option.some.injEq, reduceIte, Mv.mFld, Mv.mIsC, Mv.mMeth, Mv.mMake, Mv.mMakeK, Mv.mEqB, Mv.boolR, Mv.mRev, List.lookup_cons, List.lookup_nil, Nat.reduceBEq, beq_self_eq_true, Mv.ins_new, Mv.set_new, Mv.mLRg2, lrg_eq b0 b1 t0 t1]
theorem pause_ok {b t : Int} (b0 : 0 ≤ b) (b1 : b ≤ 1000) (t0 : 0 ≤ t) (t1 : t ≤ 12) : GoneOk b (pauseL b t) := ⟨b0, b1, by unfold pauseL; rw [prog_length]; omega, fun x hx => by
  obtain ⟨i, hi, e⟩ := mem_prog.mp hx
  omega⟩
theorem F_broken_by_pause_sim {h : MH} {n : Nat} {P : Plan} {r : Rule} (k : KeptAt h n P r) {b t : Int} (b0 : 0 ≤ b) (b1 : b ≤ 1000) (t0 : 0 ≤ t) (t1 : t ≤ 12) : Sim h (F_broken_by_pause G_check_pause F_pause_times G_hurt [.ref n, rv r, .int b, .int t] h) (.ok (.ref h.length) (h ++ [.lst (ivs (hurtL P r b (pauseL b t)))])) := by
  unfold F_broken_by_pause m_broken_by_pause G_check_pause
  simp only [Mv.mDef, Mv.mSeq, Mv.mSet, Mv.mRet, Mv.mRetN, Mv.mIfS, Mv.mVar, Mv.mC, Mv.mBin, Mv.mChain, Mv.mCall, Mv.mDo, Mv.mCons, Mv.mNil, Mv.mAndV, Mv.mOrV, Mv.mNotV, Mv.mAsB, Mv.mAndT, Mv.mOrT, Mv.mNotT, Mv.mIf, Mv.mTup, Mv.mLst, Mv.mNext, Mv.mBad, Mv.mDrop, Mv.mPar, Mv.mAsg, Mv.mStore, Mv.mNeg, Mv.fNeg, Mv.mYes, Mv.mNoP, Mv.mPart, Mv.mSl, Mv.fI, Mv.fAdd, Mv.fSub, Mv.fMul, Mv.fMod, Mv.fDiv, Mv.fPow, Mv.fLt, Mv.fLe, Mv.fGt, Mv.fGe, Mv.yes2, Mv.fIsN, Mv.fNotN, Mv.isNon, Mv.fIx, Mv.items_tup, Mv.items_new, Mv.list_new, Mv.lstOf_new, Mv.fEq_int, Mv.fNe_int, Mv.fLen_tup, Mv.fMax2, Mv.fMin2, Mv.fInt, Mv.fAbs, Mv.mIsi, Mv.isT, Mv.gN, Mv.gT, Mv.setAll, Mv.wipeM, Mv.R.bind_ok, Mv.R.bind_bad, Mv.R.noX_ok, Mv.R.andS_ok, Mv.R.andS_bad, Mv.S.andS_nx, Mv.S.andS_rt, Mv.S.andS_bad, Mv.S.andS_bk, Mv.S.andS_ct, List.map_cons, List.map_nil, List.cons_append, List.nil_append, List.append_nil, List.replicate_succ, List.replicate_zero, List.length_cons, List.length_nil, List.set_cons_zero, List.set_cons_succ, List.getElem?_cons_zero, List.getElem?_cons_succ, List.getElem?_nil, Nat.reduceAdd, Nat.reduceSub, Nat.reduceEqDiff, Nat.reduceLeDiff, Nat.zero_add, if_true, if_false, Bool.not_true, Bool.not_false, Bool.false_eq_true, decide_true, decide_false, ite_true, ite_false, Option.some.injEq, reduceIte, Mv.mFld, Mv.mIsC, Mv.mMeth, Mv.mMake, Mv.mMakeK, Mv.mEqB, Mv.boolR, Mv.mRev, List.lookup_cons, List.lookup_nil, Nat.reduceBEq, beq_self_eq_true, Mv.ins_new, Mv.set_new, F_check_pause_eq k b0 b1 t0 t1, F_pause_times_eq b0 b1 t0 t1, G_hurt_eq (k.app (g := [MO.lst (ivs (pauseL b t))])) (pause_ok b0 b1 t0 t1) (look_new h _)]
  rw [List.append_assoc]
  refine sim_list0 ?_ (by simp) (unds_ints _)
  rw [← List.append_assoc]
  exact look_new _ _
noncomputable def G_bp : List MV → MH → R MV := specH (α := Nat × Plan × Rule × Int × Int) (fun a => [.ref a.1, rv a.2.2.1, .int a.2.2.2.1, .int a.2.2.2.2]) (fun a h => KeptAt h a.1 a.2.1 a.2.2.1 ∧ 0 ≤ a.2.2.2.1 ∧ a.2.2.2.1 ≤ 1000 ∧ 0 ≤ a.2.2.2.2 ∧ a.2.2.2.2 ≤ 12)
  fun a h => .ok (.ref h.length) (h ++ [.lst (ivs (hurtL a.2.1 a.2.2.1 a.2.2.2.1 (pauseL a.2.2.2.1 a.2.2.2.2)))])
theorem kept_inj {h : MH} {x y : Nat × Plan × Rule × Int × Int} (q : [MV.ref x.1, rv x.2.2.1, .int x.2.2.2.1, .int x.2.2.2.2] = [MV.ref y.1, rv y.2.2.1, .int y.2.2.2.1, .int y.2.2.2.2]) (d1 : KeptAt h x.1 x.2.1 x.2.2.1) (d2 : KeptAt h y.1 y.2.1 y.2.2.1) : x = y := by
  obtain ⟨x1, x2, x3, x4, x5⟩ := x
  obtain ⟨y1, y2, y3, y4, y5⟩ := y
  simp only [List.cons.injEq, MV.ref.injEq, MV.int.injEq, and_true] at q
  obtain ⟨rfl, q3, rfl, rfl⟩ := q
  have e3 : x3 = y3 := rv_inj q3
  subst e3
  have e2 : x2 = y2 := KeptAt.uniq d1 d2
  subst e2
  rfl
theorem G_bp_eq {h : MH} {n : Nat} {P : Plan} {r : Rule} (k : KeptAt h n P r) {b t : Int} (b0 : 0 ≤ b) (b1 : b ≤ 1000) (t0 : 0 ≤ t) (t1 : t ≤ 12) : G_bp [.ref n, rv r, .int b, .int t] h = .ok (.ref h.length) (h ++ [.lst (ivs (hurtL P r b (pauseL b t)))]) :=
  specH_eq (a := ((n, P, r, b, t) : Nat × Plan × Rule × Int × Int)) (fun x y q d1 d2 => by rw [kept_inj q d1.1 d2.1]) ⟨k, b0, b1, t0, t1⟩
theorem sim_broken_by_pause (xs : List MV) (h : MH) : Sim h (F_broken_by_pause G_check_pause F_pause_times G_hurt xs h) (G_bp xs h) := specH_sim (fun a h d => F_broken_by_pause_sim d.1 d.2.1 d.2.2.1 d.2.2.2.1 d.2.2.2.2) xs h
theorem hurt_cap {P : Plan} {r : Rule} (v : Valid r) {first : Int} {gone : List Int} (k : GoneOk first gone) : (hurtL P r first gone).length ≤ 5000 := by
  obtain ⟨_, _, s0, s1⟩ := settled_spec v
  have kl := k.last
  have f0 := k.f0
  refine Nat.le_trans (hurt_len P r first gone _) ?_
  unfold lowT
  omega
theorem F_healed_after_pause_eq {h : MH} {n : Nat} {P : Plan} {r : Rule} (k : KeptAt h n P r) {b t : Int} (b0 : 0 ≤ b) (b1 : b ≤ 1000) (t0 : 0 ≤ t) (t1 : t ≤ 12) : ∃ g, F_healed_after_pause G_bp G_healed [.ref n, rv r, .int b, .int t] h = .ok (.int (healedV r b (hurtL P r b (pauseL b t)))) (h ++ g) := by
  unfold F_healed_after_pause m_healed_after_pause
  simp only [Mv.mDef, Mv.mSeq, Mv.mSet, Mv.mRet, Mv.mRetN, Mv.mIfS, Mv.mVar, Mv.mC, Mv.mBin, Mv.mChain, Mv.mCall, Mv.mDo, Mv.mCons, Mv.mNil, Mv.mAndV, Mv.mOrV, Mv.mNotV, Mv.mAsB, Mv.mAndT, Mv.mOrT, Mv.mNotT, Mv.mIf, Mv.mTup, Mv.mLst, Mv.mNext, Mv.mBad, Mv.mDrop, Mv.mPar, Mv.mAsg, Mv.mStore, Mv.mNeg, Mv.fNeg, Mv.mYes, Mv.mNoP, Mv.mPart, Mv.mSl, Mv.fI, Mv.fAdd, Mv.fSub, Mv.fMul, Mv.fMod, Mv.fDiv, Mv.fPow, Mv.fLt, Mv.fLe, Mv.fGt, Mv.fGe, Mv.yes2, Mv.fIsN, Mv.fNotN, Mv.isNon, Mv.fIx, Mv.items_tup, Mv.items_new, Mv.list_new, Mv.lstOf_new, Mv.fEq_int, Mv.fNe_int, Mv.fLen_tup, Mv.fMax2, Mv.fMin2, Mv.fInt, Mv.fAbs, Mv.mIsi, Mv.isT, Mv.gN, Mv.gT, Mv.setAll, Mv.wipeM, Mv.R.bind_ok, Mv.R.bind_bad, Mv.R.noX_ok, Mv.R.andS_ok, Mv.R.andS_bad, Mv.S.andS_nx, Mv.S.andS_rt, Mv.S.andS_bad, Mv.S.andS_bk, Mv.S.andS_ct, List.map_cons, List.map_nil, List.cons_append, List.nil_append, List.append_nil, List.replicate_succ, List.replicate_zero, List.length_cons, List.length_nil, List.set_cons_zero, List.set_cons_succ, List.getElem?_cons_zero, List.getElem?_cons_succ, List.getElem?_nil, Nat.reduceAdd, Nat.reduceSub, Nat.reduceEqDiff, Nat.reduceLeDiff, Nat.zero_add, if_true, if_false, Bool.not_true, Bool.not_false, Bool.false_eq_true, decide_true, decide_false, ite_true, ite_false, Option.some.injEq, reduceIte, Mv.mFld, Mv.mIsC, Mv.mMeth, Mv.mMake, Mv.mMakeK, Mv.mEqB, Mv.boolR, Mv.mRev, List.lookup_cons, List.lookup_nil, Nat.reduceBEq, beq_self_eq_true, Mv.ins_new, Mv.set_new, G_bp_eq k b0 b1 t0 t1, G_healed_eq k.v (hurt_cap k.v (pause_ok b0 b1 t0 t1)) (look_new h _)]
  exact ⟨_, rfl⟩
theorem loss_ok {a b : Int} (a1 : a ≤ 1000) (b0 : 0 ≤ b) (b1 : b ≤ 1000) : GoneOk b [a] := ⟨b0, b1, by simp, fun x hx => by
  have := List.mem_singleton.mp hx
  omega⟩
theorem F_broken_by_loss_sim {h : MH} {n : Nat} {P : Plan} {r : Rule} (k : KeptAt h n P r) {a b : Int} (a0 : 0 ≤ a) (a1 : a ≤ 1000) (b0 : 0 ≤ b) (b1 : b ≤ 1000) (hh : isHeld r a b = true) : Sim h (F_broken_by_loss G_check_loss G_hurt [.ref n, rv r, .int a, .int b] h) (.ok (.ref h.length) (h ++ [.lst (ivs (hurtL P r b [a]))])) := by
  unfold F_broken_by_loss m_broken_by_loss G_check_loss
  have c1 : (1 : Nat) ≤ cap := by decide
  have gh := G_hurt_eq (k.app (g := [MO.lst (ivs [a])])) (loss_ok a1 b0 b1) (look_new h (MO.lst (ivs [a])))
  have gh' : G_hurt [.ref n, rv r, .int b, .ref h.length] (h ++ [MO.lst [.int a]]) = .ok (.ref (h ++ [MO.lst [.int a]]).length) (h ++ [MO.lst [.int a]] ++ [.lst (ivs (hurtL P r b [a]))]) := gh
  simp only [Mv.mDef, Mv.mSeq, Mv.mSet, Mv.mRet, Mv.mRetN, Mv.mIfS, Mv.mVar, Mv.mC, Mv.mBin, Mv.mChain, Mv.mCall, Mv.mDo, Mv.mCons, Mv.mNil, Mv.mAndV, Mv.mOrV, Mv.mNotV, Mv.mAsB, Mv.mAndT, Mv.mOrT, Mv.mNotT, Mv.mIf, Mv.mTup, Mv.mLst, Mv.mNext, Mv.mBad, Mv.mDrop, Mv.mPar, Mv.mAsg, Mv.mStore, Mv.mNeg, Mv.fNeg, Mv.mYes, Mv.mNoP, Mv.mPart, Mv.mSl, Mv.fI, Mv.fAdd, Mv.fSub, Mv.fMul, Mv.fMod, Mv.fDiv, Mv.fPow, Mv.fLt, Mv.fLe, Mv.fGt, Mv.fGe, Mv.yes2, Mv.fIsN, Mv.fNotN, Mv.isNon, Mv.fIx, Mv.items_tup, Mv.items_new, Mv.list_new, Mv.lstOf_new, Mv.fEq_int, Mv.fNe_int, Mv.fLen_tup, Mv.fMax2, Mv.fMin2, Mv.fInt, Mv.fAbs, Mv.mIsi, Mv.isT, Mv.gN, Mv.gT, Mv.setAll, Mv.wipeM, Mv.R.bind_ok, Mv.R.bind_bad, Mv.R.noX_ok, Mv.R.andS_ok, Mv.R.andS_bad, Mv.S.andS_nx, Mv.S.andS_rt, Mv.S.andS_bad, Mv.S.andS_bk, Mv.S.andS_ct, List.map_cons, List.map_nil, List.cons_append, List.nil_append, List.append_nil, List.replicate_succ, List.replicate_zero, List.length_cons, List.length_nil, List.set_cons_zero, List.set_cons_succ, List.getElem?_cons_zero, List.getElem?_cons_succ, List.getElem?_nil, Nat.reduceAdd, Nat.reduceSub, Nat.reduceEqDiff, Nat.reduceLeDiff, Nat.zero_add, if_true, if_false, Bool.not_true, Bool.not_false, Bool.false_eq_true, decide_true, decide_false, ite_true, ite_false, Option.some.injEq, reduceIte, Mv.mFld, Mv.mIsC, Mv.mMeth, Mv.mMake, Mv.mMakeK, Mv.mEqB, Mv.boolR, Mv.mRev, List.lookup_cons, List.lookup_nil, Nat.reduceBEq, beq_self_eq_true, Mv.ins_new, Mv.set_new, F_check_loss_eq k a0 a1 b0 b1 hh, c1, gh']
  rw [List.append_assoc]
  refine sim_list0 ?_ (by simp) (unds_ints _)
  rw [← List.append_assoc]
  exact look_new _ _
noncomputable def G_bl : List MV → MH → R MV := specH (α := Nat × Plan × Rule × Int × Int) (fun a => [.ref a.1, rv a.2.2.1, .int a.2.2.2.1, .int a.2.2.2.2]) (fun a h => KeptAt h a.1 a.2.1 a.2.2.1 ∧ 0 ≤ a.2.2.2.1 ∧ a.2.2.2.1 ≤ 1000 ∧ 0 ≤ a.2.2.2.2 ∧ a.2.2.2.2 ≤ 1000 ∧ isHeld a.2.2.1 a.2.2.2.1 a.2.2.2.2 = true)
  fun a h => .ok (.ref h.length) (h ++ [.lst (ivs (hurtL a.2.1 a.2.2.1 a.2.2.2.2 [a.2.2.2.1]))])
theorem G_bl_eq {h : MH} {n : Nat} {P : Plan} {r : Rule} (k : KeptAt h n P r) {a b : Int} (a0 : 0 ≤ a) (a1 : a ≤ 1000) (b0 : 0 ≤ b) (b1 : b ≤ 1000) (hh : isHeld r a b = true) : G_bl [.ref n, rv r, .int a, .int b] h = .ok (.ref h.length) (h ++ [.lst (ivs (hurtL P r b [a]))]) :=
  specH_eq (a := ((n, P, r, a, b) : Nat × Plan × Rule × Int × Int)) (fun x y q d1 d2 => by rw [kept_inj q d1.1 d2.1]) ⟨k, a0, a1, b0, b1, hh⟩
theorem sim_broken_by_loss (xs : List MV) (h : MH) : Sim h (F_broken_by_loss G_check_loss G_hurt xs h) (G_bl xs h) := specH_sim (fun a h d => F_broken_by_loss_sim d.1 d.2.1 d.2.2.1 d.2.2.2.1 d.2.2.2.2.1 d.2.2.2.2.2) xs h
theorem F_healed_after_loss_eq {h : MH} {n : Nat} {P : Plan} {r : Rule} (k : KeptAt h n P r) {a b : Int} (a0 : 0 ≤ a) (a1 : a ≤ 1000) (b0 : 0 ≤ b) (b1 : b ≤ 1000) (hh : isHeld r a b = true) : ∃ g, F_healed_after_loss G_bl G_healed [.ref n, rv r, .int a, .int b] h = .ok (.int (healedV r b (hurtL P r b [a]))) (h ++ g) := by
  unfold F_healed_after_loss m_healed_after_loss
  simp only [Mv.mDef, Mv.mSeq, Mv.mSet, Mv.mRet, Mv.mRetN, Mv.mIfS, Mv.mVar, Mv.mC, Mv.mBin, Mv.mChain, Mv.mCall, Mv.mDo, Mv.mCons, Mv.mNil, Mv.mAndV, Mv.mOrV, Mv.mNotV, Mv.mAsB, Mv.mAndT, Mv.mOrT, Mv.mNotT, Mv.mIf, Mv.mTup, Mv.mLst, Mv.mNext, Mv.mBad, Mv.mDrop, Mv.mPar, Mv.mAsg, Mv.mStore, Mv.mNeg, Mv.fNeg, Mv.mYes, Mv.mNoP, Mv.mPart, Mv.mSl, Mv.fI, Mv.fAdd, Mv.fSub, Mv.fMul, Mv.fMod, Mv.fDiv, Mv.fPow, Mv.fLt, Mv.fLe, Mv.fGt, Mv.fGe, Mv.yes2, Mv.fIsN, Mv.fNotN, Mv.isNon, Mv.fIx, Mv.items_tup, Mv.items_new, Mv.list_new, Mv.lstOf_new, Mv.fEq_int, Mv.fNe_int, Mv.fLen_tup, Mv.fMax2, Mv.fMin2, Mv.fInt, Mv.fAbs, Mv.mIsi, Mv.isT, Mv.gN, Mv.gT, Mv.setAll, Mv.wipeM, Mv.R.bind_ok, Mv.R.bind_bad, Mv.R.noX_ok, Mv.R.andS_ok, Mv.R.andS_bad, Mv.S.andS_nx, Mv.S.andS_rt, Mv.S.andS_bad, Mv.S.andS_bk, Mv.S.andS_ct, List.map_cons, List.map_nil, List.cons_append, List.nil_append, List.append_nil, List.replicate_succ, List.replicate_zero, List.length_cons, List.length_nil, List.set_cons_zero, List.set_cons_succ, List.getElem?_cons_zero, List.getElem?_cons_succ, List.getElem?_nil, Nat.reduceAdd, Nat.reduceSub, Nat.reduceEqDiff, Nat.reduceLeDiff, Nat.zero_add, if_true, if_false, Bool.not_true, Bool.not_false, Bool.false_eq_true, decide_true, decide_false, ite_true, ite_false, Option.some.injEq, reduceIte, Mv.mFld, Mv.mIsC, Mv.mMeth, Mv.mMake, Mv.mMakeK, Mv.mEqB, Mv.boolR, Mv.mRev, List.lookup_cons, List.lookup_nil, Nat.reduceBEq, beq_self_eq_true, Mv.ins_new, Mv.set_new, G_bl_eq k a0 a1 b0 b1 hh, G_healed_eq k.v (hurt_cap k.v (loss_ok a1 b0 b1)) (look_new h _)]
  exact ⟨_, rfl⟩
end Mv

set_option maxHeartbeats 4000000
namespace Mv
open PySem PySem.Spec L2

/-! ### the worst loss -/
theorem for_nx {it : MIt} {tg : MG} {body : MS} {xs : List MV} (I : Nat → MEnv → MH → Prop) (hit : ∀ i env h, I i env h → it i h = nxOf xs[i]?)
    (step : ∀ i x env h, xs[i]? = some x → I i env h → ∃ env' e h', tg x env = some env' ∧ body env' h = .nx e h' ∧ I (i + 1) e h') (hl : xs.length ≤ cap) {env : MEnv} {h : MH} (h0 : I 0 env h) :
    ∃ e h', forGo it tg body fuel 0 env h = .nx e h' ∧ I xs.length e h' := by
  refine for_ind (P := fun s => ∃ e h', s = .nx e h' ∧ I xs.length e h') I hit (fun env h q => ⟨env, h, rfl, q⟩) (fun i x env h hx q => ?_) fuel 0 env h h0 (Nat.zero_le _) (by have := fuel_ge; unfold cap at hl; omega)
  obtain ⟨env', e, h', e1, e2, q2⟩ := step i x env h hx q
  refine ⟨env', e1, ?_⟩
  rw [e2]
  exact q2
abbrev Row3 := Int × Int × Int
def row3 (x : Row3) : MV := .tup [.int x.1, .int x.2.1, .int x.2.2]
structure IsBest (l : List Row3) (y : Row3) : Prop where
  ex : ∃ pre post, l = pre ++ y :: post ∧ (∀ z ∈ pre, z.2.2 < y.2.2) ∧ ∀ z ∈ post, z.2.2 ≤ y.2.2
theorem IsBest.le {l : List Row3} {y z : Row3} (b : IsBest l y) (h : z ∈ l) : z.2.2 ≤ y.2.2 := by
  obtain ⟨pre, post, rfl, h1, h2⟩ := b.ex
  rcases List.mem_append.mp h with h | h
  · exact Int.le_of_lt (h1 z h)
  · rcases List.mem_cons.mp h with rfl | h
    · exact Int.le_refl _
    · exact h2 z h
theorem IsBest.max {l : List Row3} {y : Row3} (b : IsBest l y) : maxOf (l.map (·.2.2)) = y.2.2 := by
  refine maxOf_eq ?_ fun v hv => ?_
  · obtain ⟨pre, post, rfl, _, _⟩ := b.ex
    simp
  · obtain ⟨z, hz, rfl⟩ := List.mem_map.mp hv
    exact b.le hz
theorem IsBest.first {l : List Row3} {y : Row3} (b : IsBest l y) : ∃ rest, l.filter (fun z => decide (z.2.2 = y.2.2)) = y :: rest := by
  obtain ⟨pre, post, rfl, h1, h2⟩ := b.ex
  refine ⟨post.filter (fun z => decide (z.2.2 = y.2.2)), ?_⟩
  have : pre.filter (fun z => decide (z.2.2 = y.2.2)) = [] := List.filter_eq_nil_iff.mpr fun z hz => by
    have := h1 z hz
    simp
    omega
  rw [List.filter_append, this]
  simp
theorem IsBest.keep {l : List Row3} {y x : Row3} (b : IsBest l y) (h : ¬ y.2.2 < x.2.2) : IsBest (l ++ [x]) y := by
  obtain ⟨pre, post, rfl, h1, h2⟩ := b.ex
  refine ⟨pre, post ++ [x], by simp, h1, fun z hz => ?_⟩
  rcases List.mem_append.mp hz with hz | hz
  · exact h2 z hz
  · have := List.mem_singleton.mp hz
    subst this
    omega
theorem IsBest.new {l : List Row3} {y x : Row3} (b : IsBest l y) (h : y.2.2 < x.2.2) : IsBest (l ++ [x]) x := ⟨l, [], rfl, fun z hz => by have := b.le hz; omega, fun z hz => by cases hz⟩
theorem IsBest.one (x : Row3) : IsBest ([] ++ [x]) x := ⟨[], [], rfl, (fun z hz => nomatch hz), (fun z hz => nomatch hz)⟩
/-- what the law holds for the best so far -/
def BestM (l : List Row3) (b : MV) : Prop := (l = [] ∧ b = .non) ∨ ∃ y, b = row3 y ∧ IsBest l y
def candRow (P : Plan) (r : Rule) (i : Nat) (a : Int) : Row3 := (settled r + (i : Int), a, ((hurtL P r (settled r + (i : Int)) [settled r + (i : Int) - a]).length : Int))
def candAt (P : Plan) (r : Rule) (i n : Nat) : List Row3 := ((rowF r i).take n).map (candRow P r i)
def candL (P : Plan) (r : Rule) (n : Nat) : List Row3 := (List.range n).flatMap fun i => (rowF r i).map (candRow P r i)
theorem candL_succ (P : Plan) (r : Rule) (n : Nat) : candL P r (n + 1) = candL P r n ++ (rowF r n).map (candRow P r n) := by
  unfold candL
  rw [List.range_succ, List.flatMap_append]
  simp
theorem candAt_succ {P : Plan} {r : Rule} {i n : Nat} {a : Int} (e : (rowF r i)[n]? = some a) : candAt P r i (n + 1) = candAt P r i n ++ [candRow P r i a] := by
  unfold candAt
  rw [List.take_succ, e, List.map_append]
  rfl
theorem candAt_all (P : Plan) (r : Rule) (i : Nat) : candAt P r i (rowF r i).length = (rowF r i).map (candRow P r i) := by
  unfold candAt
  rw [List.take_length]
theorem candL_len {P : Plan} {r : Rule} (v : Valid r) : ∀ n, (candL P r n).length ≤ 13 * n
  | 0 => by simp [candL]
  | n + 1 => by
    rw [candL_succ, List.length_append, List.length_map]
    have := candL_len (P := P) v n
    have := rowF_len v n
    omega
theorem kept_row {P : Plan} {r : Rule} (v : Valid r) (hP : P.Ok) (hK : (judgeV P r).isK = true) (i : Nat) : rowF r i ≠ [] := fun z => by
  have g := kept_good v hK (t := settled r + (i : Int)) (by omega)
  have e : heldAt r (settled r + (i : Int)) = [] := z
  rw [e] at g
  unfold isGood at g
  have m0 : (0 : Int) ∈ agesL P := mem_prog.mpr ⟨0, by have := hP.f0; omega, by simp⟩
  have := List.all_eq_true.mp g 0 m0
  unfold holdsFor ableL2 youngL at this
  simp at this
  have := hP.m1
  omega
theorem loss_row {r : Rule} (v : Valid r) {i : Nat} (hi : i < 60) {a : Int} (ha : a ∈ rowF r i) : GoneOk (settled r + (i : Int)) [settled r + (i : Int) - a] := by
  obtain ⟨_, _, s0, s1⟩ := settled_spec v
  have := held_le (show a ∈ heldAt r (settled r + (i : Int)) from ha)
  exact ⟨by omega, by omega, by simp, fun x hx => by
    have := List.mem_singleton.mp hx
    omega⟩
theorem hurt_one {H : MH} {n : Nat} {P : Plan} {r : Rule} (k1 : KeptAt H n P r) {t x : Int} (ok : GoneOk t [x]) : G_hurt [.ref n, rv r, .int t, .ref H.length] (H ++ [MO.lst [.int x]]) = .ok (.ref (H ++ [MO.lst [.int x]]).length) (H ++ [MO.lst [.int x]] ++ [MO.lst (ivs (hurtL P r t [x]))]) := G_hurt_eq k1.app ok (look_new H (MO.lst [.int x]))
theorem F_worst_loss_eq {h : MH} {n : Nat} {P : Plan} {r : Rule} (k : KeptAt h n P r) : ∃ y g, IsBest (candL P r (periodN r)) y ∧ F_worst_loss G_check_kept G_settled_of G_period_of G_held_at G_hurt [.ref n, rv r] h = .ok (row3 y) (h ++ g) := by
  unfold F_worst_loss m_worst_loss
  have v := k.v
  obtain ⟨p1, p2⟩ := period_60 v
  obtain ⟨_, _, s0, s1⟩ := settled_spec v
  have c0 : (0 : Nat) ≤ cap := by decide
  have c1 : (1 : Nat) ≤ cap := by decide
  have c3 : (3 : Nat) ≤ cap := by decide
  have b1 : inR (settled r) = true := inR_of (by omega)
  have b2 : inR (settled r + (periodN r : Nat)) = true := inR_of (by omega)
  have hn : (settled r + (periodN r : Nat) - settled r).toNat = periodN r := by omega
  simp only [Mv.mDef, Mv.mSeq, Mv.mSet, Mv.mRet, Mv.mRetN, Mv.mIfS, Mv.mVar, Mv.mC, Mv.mBin, Mv.mChain, Mv.mCall, Mv.mDo, Mv.mCons, Mv.mNil, Mv.mAndV, Mv.mOrV, Mv.mNotV, Mv.mAsB, Mv.mAndT, Mv.mOrT, Mv.mNotT, Mv.mIf, Mv.mTup, Mv.mLst, Mv.mNext, Mv.mBad, Mv.mDrop, Mv.mPar, Mv.mAsg, Mv.mStore, Mv.mNeg, Mv.fNeg, Mv.mYes, Mv.mNoP, Mv.mPart, Mv.mSl, Mv.fI, Mv.fAdd, Mv.fSub, Mv.fMul, Mv.fMod, Mv.fDiv, Mv.fPow, Mv.fLt, Mv.fLe, Mv.fGt, Mv.fGe, Mv.yes2, Mv.fIsN, Mv.fNotN, Mv.isNon, Mv.fIx, Mv.items_tup, Mv.items_new, Mv.list_new, Mv.lstOf_new, Mv.fEq_int, Mv.fNe_int, Mv.fLen_tup, Mv.fMax2, Mv.fMin2, Mv.fInt, Mv.fAbs, Mv.mIsi, Mv.isT, Mv.gN, Mv.gT, Mv.setAll, Mv.wipeM, Mv.R.bind_ok, Mv.R.bind_bad, Mv.R.noX_ok, Mv.R.andS_ok, Mv.R.andS_bad, Mv.S.andS_nx, Mv.S.andS_rt, Mv.S.andS_bad, Mv.S.andS_bk, Mv.S.andS_ct, List.map_cons, List.map_nil, List.cons_append, List.nil_append, List.append_nil, List.replicate_succ, List.replicate_zero, List.length_cons, List.length_nil, List.set_cons_zero, List.set_cons_succ, List.getElem?_cons_zero, List.getElem?_cons_succ, List.getElem?_nil, Nat.reduceAdd, Nat.reduceSub, Nat.reduceEqDiff, Nat.reduceLeDiff, Nat.zero_add, if_true, if_false, Bool.not_true, Bool.not_false, Bool.false_eq_true, decide_true, decide_false, ite_true, ite_false, Option.some.injEq, reduceIte, Mv.mFld, Mv.mIsC, Mv.mMeth, Mv.mMake, Mv.mMakeK, Mv.mEqB, Mv.boolR, Mv.mRev, List.lookup_cons, List.lookup_nil, Nat.reduceBEq, beq_self_eq_true, Mv.ins_new, Mv.set_new, G_check_kept_eq k, c0, mFor, mRng2, G_settled_of_eq v, G_period_of_eq v, b1, b2, hn, and_self]
  generalize hF : forGo _ _ _ _ _ _ _ = w
  have loop : ∃ e h', w = .nx e h' ∧ ∃ g x3 x4, h' = h ++ .lst ((candL P r (periodN r)).map row3) :: g ∧ e = [some (.ref n), some (rv r), some (.ref h.length), x3, x4, none, none, none] := by
    rw [← hF]
    have := for_nx (it := itR (settled r) 1 (periodN r)) (xs := ivs (prog (settled r) 1 (periodN r))) (tg := gN 3)
      (body := mFor (mItV (mDo 2 G_held_at (mCons (mVar 1) (mCons (mVar 3) mNil)))) (gN 4) (mDrop (mLm fAppend (mVar 2) (mCons (mTup (mCons (mVar 3) (mCons (mVar 4) (mCons (mCall fLen (mCons (mDo 4 G_hurt (mCons (mVar 0) (mCons (mVar 1) (mCons (mVar 3) (mCons (mLst (mCons (mBin fSub (mVar 3) (mVar 4)) mNil)) mNil))))) mNil)) mNil)))) mNil))))
      (fun i env h' => ∃ g x3 x4, h' = h ++ .lst ((candL P r i).map row3) :: g ∧ env = [some (.ref n), some (rv r), some (.ref h.length), x3, x4, none, none, none])
      (fun i env h' _ => itR_nx _ _ _ i h') (fun i x env h' hx ⟨g, x3, x4, eh, ee⟩ => by
        subst eh ee
        have hi : i < periodN r := by
          have := (List.getElem?_eq_some_iff.mp hx).1
          rwa [ints_length, prog_length] at this
        rw [prog_at hi] at hx
        cases hx
        have inner := for_nx (it := itT (ivs (rowF r i))) (xs := ivs (rowF r i)) (tg := gN 4)
          (body := mDrop (mLm fAppend (mVar 2) (mCons (mTup (mCons (mVar 3) (mCons (mVar 4) (mCons (mCall fLen (mCons (mDo 4 G_hurt (mCons (mVar 0) (mCons (mVar 1) (mCons (mVar 3) (mCons (mLst (mCons (mBin fSub (mVar 3) (mVar 4)) mNil)) mNil))))) mNil)) mNil)))) mNil)))
          (fun j env h' => ∃ g x4, h' = h ++ .lst ((candL P r i ++ candAt P r i j).map row3) :: g ∧ env = [some (.ref n), some (rv r), some (.ref h.length), some (.int (settled r + (i : Int))), x4, none, none, none])
          (fun j env h' _ => itT_nx _ j h') (fun j x env h' hx ⟨g, x4, eh, ee⟩ => by
            subst eh ee
            unfold ivs at hx
            rw [List.getElem?_map] at hx
            cases q : (rowF r i)[j]? with
            | none => rw [q] at hx; cases hx
            | some a =>
              rw [q] at hx
              cases hx
              have ham := List.mem_of_getElem? q
              have k1 : KeptAt (h ++ .lst ((candL P r i ++ candAt P r i j).map row3) :: g) n P r := k.app
              have gh' := hurt_one k1 (loss_row v (by omega) ham)
              have w0 : (h ++ MO.lst ((candL P r i ++ candAt P r i j).map row3) :: g)[h.length]? = some (.lst ((candL P r i ++ candAt P r i j).map row3)) := at_len h _ _
              have w1 := look_app (g := [MO.lst (ivs (hurtL P r (settled r + (i : Int)) [settled r + (i : Int) - a]))]) (look_app (g := [MO.lst (ivs [settled r + (i : Int) - a])]) w0)
              have w1' : (h ++ MO.lst ((candL P r i ++ candAt P r i j).map row3) :: g ++ [MO.lst [.int (settled r + (i : Int) - a)]] ++ [MO.lst (ivs (hurtL P r (settled r + (i : Int)) [settled r + (i : Int) - a]))])[h.length]? = some (.lst ((candL P r i ++ candAt P r i j).map row3)) := w1
              have hcl : ((candL P r i ++ candAt P r i j).map row3).length < cap := by
                rw [List.length_map, List.length_append]
                have := candL_len (P := P) v i
                have h2 : (candAt P r i j).length ≤ 13 := by
                  unfold candAt
                  rw [List.length_map]
                  have := List.length_take_le' j (rowF r i)
                  have := rowF_len v i
                  omega
                unfold cap
                omega
              refine ⟨_, [some (.ref n), some (rv r), some (.ref h.length), some (.int (settled r + (i : Int))), some (.int a), none, none, none], _, rfl, ?_, g ++ ([MO.lst [.int (settled r + (i : Int) - a)]] ++ [MO.lst (ivs (hurtL P r (settled r + (i : Int)) [settled r + (i : Int) - a]))]), _, rfl, rfl⟩
              simp only [Mv.mDef, Mv.mSeq, Mv.mSet, Mv.mRet, Mv.mRetN, Mv.mIfS, Mv.mVar, Mv.mC, Mv.mBin, Mv.mChain, Mv.mCall, Mv.mDo, Mv.mCons, Mv.mNil, Mv.mAndV, Mv.mOrV, Mv.mNotV, Mv.mAsB, Mv.mAndT, Mv.mOrT, Mv.mNotT, Mv.mIf, Mv.mTup, Mv.mLst, Mv.mNext, Mv.mBad, Mv.mDrop, Mv.mPar, Mv.mAsg, Mv.mStore, Mv.mNeg, Mv.fNeg, Mv.mYes, Mv.mNoP, Mv.mPart, Mv.mSl, Mv.fI, Mv.fAdd, Mv.fSub, Mv.fMul, Mv.fMod, Mv.fDiv, Mv.fPow, Mv.fLt, Mv.fLe, Mv.fGt, Mv.fGe, Mv.yes2, Mv.fIsN, Mv.fNotN, Mv.isNon, Mv.fIx, Mv.items_tup, Mv.items_new, Mv.list_new, Mv.lstOf_new, Mv.fEq_int, Mv.fNe_int, Mv.fLen_tup, Mv.fMax2, Mv.fMin2, Mv.fInt, Mv.fAbs, Mv.mIsi, Mv.isT, Mv.gN, Mv.gT, Mv.setAll, Mv.wipeM, Mv.R.bind_ok, Mv.R.bind_bad, Mv.R.noX_ok, Mv.R.andS_ok, Mv.R.andS_bad, Mv.S.andS_nx, Mv.S.andS_rt, Mv.S.andS_bad, Mv.S.andS_bk, Mv.S.andS_ct, List.map_cons, List.map_nil, List.cons_append, List.nil_append, List.append_nil, List.replicate_succ, List.replicate_zero, List.length_cons, List.length_nil, List.set_cons_zero, List.set_cons_succ, List.getElem?_cons_zero, List.getElem?_cons_succ, List.getElem?_nil, Nat.reduceAdd, Nat.reduceSub, Nat.reduceEqDiff, Nat.reduceLeDiff, Nat.zero_add, if_true, if_false, Bool.not_true, Bool.not_false, Bool.false_eq_true, decide_true, decide_false, ite_true, ite_false, Option.some.injEq, reduceIte, Mv.mFld, Mv.mIsC, Mv.mMeth, Mv.mMake, Mv.mMakeK, Mv.mEqB, Mv.boolR, Mv.mRev, List.lookup_cons, List.lookup_nil, Nat.reduceBEq, beq_self_eq_true, Mv.ins_new, Mv.set_new, mLm, list_ref, items_at w0, c1, c3, gh', fLen_new, ints_length, fAppend, lstOf_at w1', hcl]
              have em : (candL P r i ++ candAt P r i (j + 1)).map row3 = (candL P r i ++ candAt P r i j).map row3 ++ [.tup [.int (settled r + (i : Int)), .int a, .int ((hurtL P r (settled r + (i : Int)) [settled r + (i : Int) - a]).length : Int)]] := by
                rw [candAt_succ q]
                simp [row3, candRow]
              rw [em]
              simp) (by rw [ints_length]; exact row_cap v i) (env := [some (.ref n), some (rv r), some (.ref h.length), some (.int (settled r + (i : Int))), x4, none, none, none]) (h := h ++ .lst ((candL P r i).map row3) :: g) ⟨g, x4, by simp [candAt], rfl⟩
        obtain ⟨e2, h2, q1, g2, y4, q2, q3⟩ := inner
        rw [ints_length, candAt_all, ← candL_succ] at q2
        refine ⟨_, e2, h2, rfl, ?_, g2, _, y4, q2, q3⟩
        have hd : G_held_at [rv r, .int (settled r + (i : Int))] (h ++ .lst ((candL P r i).map row3) :: g) = .ok (.tup (ivs (rowF r i))) (h ++ .lst ((candL P r i).map row3) :: g) := G_held_at_eq v (by omega) _
        simp only [Mv.mDef, Mv.mSeq, Mv.mSet, Mv.mRet, Mv.mRetN, Mv.mIfS, Mv.mVar, Mv.mC, Mv.mBin, Mv.mChain, Mv.mCall, Mv.mDo, Mv.mCons, Mv.mNil, Mv.mAndV, Mv.mOrV, Mv.mNotV, Mv.mAsB, Mv.mAndT, Mv.mOrT, Mv.mNotT, Mv.mIf, Mv.mTup, Mv.mLst, Mv.mNext, Mv.mBad, Mv.mDrop, Mv.mPar, Mv.mAsg, Mv.mStore, Mv.mNeg, Mv.fNeg, Mv.mYes, Mv.mNoP, Mv.mPart, Mv.mSl, Mv.fI, Mv.fAdd, Mv.fSub, Mv.fMul, Mv.fMod, Mv.fDiv, Mv.fPow, Mv.fLt, Mv.fLe, Mv.fGt, Mv.fGe, Mv.yes2, Mv.fIsN, Mv.fNotN, Mv.isNon, Mv.fIx, Mv.items_tup, Mv.items_new, Mv.list_new, Mv.lstOf_new, Mv.fEq_int, Mv.fNe_int, Mv.fLen_tup, Mv.fMax2, Mv.fMin2, Mv.fInt, Mv.fAbs, Mv.mIsi, Mv.isT, Mv.gN, Mv.gT, Mv.setAll, Mv.wipeM, Mv.R.bind_ok, Mv.R.bind_bad, Mv.R.noX_ok, Mv.R.andS_ok, Mv.R.andS_bad, Mv.S.andS_nx, Mv.S.andS_rt, Mv.S.andS_bad, Mv.S.andS_bk, Mv.S.andS_ct, List.map_cons, List.map_nil, List.cons_append, List.nil_append, List.append_nil, List.replicate_succ, List.replicate_zero, List.length_cons, List.length_nil, List.set_cons_zero, List.set_cons_succ, List.getElem?_cons_zero, List.getElem?_cons_succ, List.getElem?_nil, Nat.reduceAdd, Nat.reduceSub, Nat.reduceEqDiff, Nat.reduceLeDiff, Nat.zero_add, if_true, if_false, Bool.not_true, Bool.not_false, Bool.false_eq_true, decide_true, decide_false, ite_true, ite_false, Option.some.injEq, reduceIte, Mv.mFld, Mv.mIsC, Mv.mMeth, Mv.mMake, Mv.mMakeK, Mv.mEqB, Mv.boolR, Mv.mRev, List.lookup_cons, List.lookup_nil, Nat.reduceBEq, beq_self_eq_true, Mv.ins_new, Mv.set_new, mFor, mItV, hd]
        exact q1) (by rw [ints_length, prog_length]; unfold cap; omega) (env := [some (.ref n), some (rv r), some (.ref h.length), none, none, none, none, none]) (h := h ++ [MO.lst []]) ⟨[], none, none, rfl, rfl⟩
    rw [ints_length, prog_length] at this
    obtain ⟨e, h', q, g, x3, x4, q1, q2⟩ := this
    exact ⟨e, h', q, g, x3, x4, q1, q2⟩
  obtain ⟨e, h', rfl, g, x3, x4, rfl, rfl⟩ := loop
  have w0 : (h ++ MO.lst ((candL P r (periodN r)).map row3) :: g)[h.length]? = some (.lst ((candL P r (periodN r)).map row3)) := at_len h _ _
  have ne : candL P r (periodN r) ≠ [] := fun z => by
    obtain ⟨a, l, ea⟩ := List.exists_cons_of_ne_nil (kept_row v k.ok k.kept 0)
    have : candRow P r 0 a ∈ candL P r (periodN r) := List.mem_flatMap.mpr ⟨0, List.mem_range.mpr p1, List.mem_map_of_mem (by rw [ea]; exact List.mem_cons_self ..)⟩
    rw [z] at this
    cases this
  have hcl : (candL P r (periodN r)).length ≤ cap := by have := candL_len (P := P) v (periodN r); unfold cap; omega
  -- a best one
  have hbest : ∀ l : List Row3, l ≠ [] → ∃ y, IsBest l y := by
    have : ∀ m (l : List Row3), l.length = m → l ≠ [] → ∃ y, IsBest l y := by
      intro m
      induction m with
      | zero => intro l hl hn; exact absurd (List.length_eq_zero_iff.mp hl) hn
      | succ m ih =>
        intro l hl hn
        obtain ⟨l', x, rfl⟩ : ∃ l' x, l = l' ++ [x] := ⟨l.dropLast, l.getLast hn, (List.dropLast_concat_getLast hn).symm⟩
        by_cases hn' : l' = []
        · subst hn'; exact ⟨x, IsBest.one x⟩
        · obtain ⟨y, hy⟩ := ih l' (by simp at hl; omega) hn'
          by_cases q : y.2.2 < x.2.2
          · exact ⟨x, hy.new q⟩
          · exact ⟨y, hy.keep q⟩
    exact fun l => this _ l rfl
  obtain ⟨y, hy⟩ := hbest _ ne
  refine ⟨y, ?_⟩
  simp only [Mv.mDef, Mv.mSeq, Mv.mSet, Mv.mRet, Mv.mRetN, Mv.mIfS, Mv.mVar, Mv.mC, Mv.mBin, Mv.mChain, Mv.mCall, Mv.mDo, Mv.mCons, Mv.mNil, Mv.mAndV, Mv.mOrV, Mv.mNotV, Mv.mAsB, Mv.mAndT, Mv.mOrT, Mv.mNotT, Mv.mIf, Mv.mTup, Mv.mLst, Mv.mNext, Mv.mBad, Mv.mDrop, Mv.mPar, Mv.mAsg, Mv.mStore, Mv.mNeg, Mv.fNeg, Mv.mYes, Mv.mNoP, Mv.mPart, Mv.mSl, Mv.fI, Mv.fAdd, Mv.fSub, Mv.fMul, Mv.fMod, Mv.fDiv, Mv.fPow, Mv.fLt, Mv.fLe, Mv.fGt, Mv.fGe, Mv.yes2, Mv.fIsN, Mv.fNotN, Mv.isNon, Mv.fIx, Mv.items_tup, Mv.items_new, Mv.list_new, Mv.lstOf_new, Mv.fEq_int, Mv.fNe_int, Mv.fLen_tup, Mv.fMax2, Mv.fMin2, Mv.fInt, Mv.fAbs, Mv.mIsi, Mv.isT, Mv.gN, Mv.gT, Mv.setAll, Mv.wipeM, Mv.R.bind_ok, Mv.R.bind_bad, Mv.R.noX_ok, Mv.R.andS_ok, Mv.R.andS_bad, Mv.S.andS_nx, Mv.S.andS_rt, Mv.S.andS_bad, Mv.S.andS_bk, Mv.S.andS_ct, List.map_cons, List.map_nil, List.cons_append, List.nil_append, List.append_nil, List.replicate_succ, List.replicate_zero, List.length_cons, List.length_nil, List.set_cons_zero, List.set_cons_succ, List.getElem?_cons_zero, List.getElem?_cons_succ, List.getElem?_nil, Nat.reduceAdd, Nat.reduceSub, Nat.reduceEqDiff, Nat.reduceLeDiff, Nat.zero_add, if_true, if_false, Bool.not_true, Bool.not_false, Bool.false_eq_true, decide_true, decide_false, ite_true, ite_false, Option.some.injEq, reduceIte, Mv.mFld, Mv.mIsC, Mv.mMeth, Mv.mMake, Mv.mMakeK, Mv.mEqB, Mv.boolR, Mv.mRev, List.lookup_cons, List.lookup_nil, Nat.reduceBEq, beq_self_eq_true, Mv.ins_new, Mv.set_new, mLc, mItV, items_at w0]
  rw [comp_pure (it := itL h.length) (l := candL P r (periodN r)) (enc := row3) (cb := fun _ => true) (f := fun x => MV.int x.2.2) (fun i => itL_nx w0 i) hcl]
  · rw [filter_yes]
    have hmx : ∀ h3 : MH, fMax [.ref h3.length] (h3 ++ [MO.lst ((candL P r (periodN r)).map fun x => MV.int x.2.2)]) = .ok (.int y.2.2) (h3 ++ [MO.lst ((candL P r (periodN r)).map fun x => MV.int x.2.2)]) := fun h3 => by
      rw [← hy.max]
      exact fMax_ns (items_new _ _) (ints_map (candL P r (periodN r)) (·.2.2)) (by simpa using ne)
    simp only [Mv.mDef, Mv.mSeq, Mv.mSet, Mv.mRet, Mv.mRetN, Mv.mIfS, Mv.mVar, Mv.mC, Mv.mBin, Mv.mChain, Mv.mCall, Mv.mDo, Mv.mCons, Mv.mNil, Mv.mAndV, Mv.mOrV, Mv.mNotV, Mv.mAsB, Mv.mAndT, Mv.mOrT, Mv.mNotT, Mv.mIf, Mv.mTup, Mv.mLst, Mv.mNext, Mv.mBad, Mv.mDrop, Mv.mPar, Mv.mAsg, Mv.mStore, Mv.mNeg, Mv.fNeg, Mv.mYes, Mv.mNoP, Mv.mPart, Mv.mSl, Mv.fI, Mv.fAdd, Mv.fSub, Mv.fMul, Mv.fMod, Mv.fDiv, Mv.fPow, Mv.fLt, Mv.fLe, Mv.fGt, Mv.fGe, Mv.yes2, Mv.fIsN, Mv.fNotN, Mv.isNon, Mv.fIx, Mv.items_tup, Mv.items_new, Mv.list_new, Mv.lstOf_new, Mv.fEq_int, Mv.fNe_int, Mv.fLen_tup, Mv.fMax2, Mv.fMin2, Mv.fInt, Mv.fAbs, Mv.mIsi, Mv.isT, Mv.gN, Mv.gT, Mv.setAll, Mv.wipeM, Mv.R.bind_ok, Mv.R.bind_bad, Mv.R.noX_ok, Mv.R.andS_ok, Mv.R.andS_bad, Mv.S.andS_nx, Mv.S.andS_rt, Mv.S.andS_bad, Mv.S.andS_bk, Mv.S.andS_ct, List.map_cons, List.map_nil, List.cons_append, List.nil_append, List.append_nil, List.replicate_succ, List.replicate_zero, List.length_cons, List.length_nil, List.set_cons_zero, List.set_cons_succ, List.getElem?_cons_zero, List.getElem?_cons_succ, List.getElem?_nil, Nat.reduceAdd, Nat.reduceSub, Nat.reduceEqDiff, Nat.reduceLeDiff, Nat.zero_add, if_true, if_false, Bool.not_true, Bool.not_false, Bool.false_eq_true, decide_true, decide_false, ite_true, ite_false, Option.some.injEq, reduceIte, Mv.mFld, Mv.mIsC, Mv.mMeth, Mv.mMake, Mv.mMakeK, Mv.mEqB, Mv.boolR, Mv.mRev, List.lookup_cons, List.lookup_nil, Nat.reduceBEq, beq_self_eq_true, Mv.ins_new, Mv.set_new, hmx, mLc, mItV]
    have w1 := look_app (g := [MO.lst ((candL P r (periodN r)).map fun x => MV.int x.2.2)]) w0
    simp only [Mv.mDef, Mv.mSeq, Mv.mSet, Mv.mRet, Mv.mRetN, Mv.mIfS, Mv.mVar, Mv.mC, Mv.mBin, Mv.mChain, Mv.mCall, Mv.mDo, Mv.mCons, Mv.mNil, Mv.mAndV, Mv.mOrV, Mv.mNotV, Mv.mAsB, Mv.mAndT, Mv.mOrT, Mv.mNotT, Mv.mIf, Mv.mTup, Mv.mLst, Mv.mNext, Mv.mBad, Mv.mDrop, Mv.mPar, Mv.mAsg, Mv.mStore, Mv.mNeg, Mv.fNeg, Mv.mYes, Mv.mNoP, Mv.mPart, Mv.mSl, Mv.fI, Mv.fAdd, Mv.fSub, Mv.fMul, Mv.fMod, Mv.fDiv, Mv.fPow, Mv.fLt, Mv.fLe, Mv.fGt, Mv.fGe, Mv.yes2, Mv.fIsN, Mv.fNotN, Mv.isNon, Mv.fIx, Mv.items_tup, Mv.items_new, Mv.list_new, Mv.lstOf_new, Mv.fEq_int, Mv.fNe_int, Mv.fLen_tup, Mv.fMax2, Mv.fMin2, Mv.fInt, Mv.fAbs, Mv.mIsi, Mv.isT, Mv.gN, Mv.gT, Mv.setAll, Mv.wipeM, Mv.R.bind_ok, Mv.R.bind_bad, Mv.R.noX_ok, Mv.R.andS_ok, Mv.R.andS_bad, Mv.S.andS_nx, Mv.S.andS_rt, Mv.S.andS_bad, Mv.S.andS_bk, Mv.S.andS_ct, List.map_cons, List.map_nil, List.cons_append, List.nil_append, List.append_nil, List.replicate_succ, List.replicate_zero, List.length_cons, List.length_nil, List.set_cons_zero, List.set_cons_succ, List.getElem?_cons_zero, List.getElem?_cons_succ, List.getElem?_nil, Nat.reduceAdd, Nat.reduceSub, Nat.reduceEqDiff, Nat.reduceLeDiff, Nat.zero_add, if_true, if_false, Bool.not_true, Bool.not_false, Bool.false_eq_true, decide_true, decide_false, ite_true, ite_false, Option.some.injEq, reduceIte, Mv.mFld, Mv.mIsC, Mv.mMeth, Mv.mMake, Mv.mMakeK, Mv.mEqB, Mv.boolR, Mv.mRev, List.lookup_cons, List.lookup_nil, Nat.reduceBEq, beq_self_eq_true, Mv.ins_new, Mv.set_new, items_at w1]
    rw [comp_pure (it := itL h.length) (l := candL P r (periodN r)) (enc := row3) (cb := fun x => decide (x.2.2 = y.2.2)) (f := row3) (fun i => itL_nx w1 i) hcl]
    · obtain ⟨rest, hr⟩ := hy.first
      rw [hr]
      have az : atI (List.map row3 (y :: rest)) 0 = some (row3 y) := at_zero _ _
      simp only [Mv.mDef, Mv.mSeq, Mv.mSet, Mv.mRet, Mv.mRetN, Mv.mIfS, Mv.mVar, Mv.mC, Mv.mBin, Mv.mChain, Mv.mCall, Mv.mDo, Mv.mCons, Mv.mNil, Mv.mAndV, Mv.mOrV, Mv.mNotV, Mv.mAsB, Mv.mAndT, Mv.mOrT, Mv.mNotT, Mv.mIf, Mv.mTup, Mv.mLst, Mv.mNext, Mv.mBad, Mv.mDrop, Mv.mPar, Mv.mAsg, Mv.mStore, Mv.mNeg, Mv.fNeg, Mv.mYes, Mv.mNoP, Mv.mPart, Mv.mSl, Mv.fI, Mv.fAdd, Mv.fSub, Mv.fMul, Mv.fMod, Mv.fDiv, Mv.fPow, Mv.fLt, Mv.fLe, Mv.fGt, Mv.fGe, Mv.yes2, Mv.fIsN, Mv.fNotN, Mv.isNon, Mv.fIx, Mv.items_tup, Mv.items_new, Mv.list_new, Mv.lstOf_new, Mv.fEq_int, Mv.fNe_int, Mv.fLen_tup, Mv.fMax2, Mv.fMin2, Mv.fInt, Mv.fAbs, Mv.mIsi, Mv.isT, Mv.gN, Mv.gT, Mv.setAll, Mv.wipeM, Mv.R.bind_ok, Mv.R.bind_bad, Mv.R.noX_ok, Mv.R.andS_ok, Mv.R.andS_bad, Mv.S.andS_nx, Mv.S.andS_rt, Mv.S.andS_bad, Mv.S.andS_bk, Mv.S.andS_ct, List.map_cons, List.map_nil, List.cons_append, List.nil_append, List.append_nil, List.replicate_succ, List.replicate_zero, List.length_cons, List.length_nil, List.set_cons_zero, List.set_cons_succ, List.getElem?_cons_zero, List.getElem?_cons_succ, List.getElem?_nil, Nat.reduceAdd, Nat.reduceSub, Nat.reduceEqDiff, Nat.reduceLeDiff, Nat.zero_add, if_true, if_false, Bool.not_true, Bool.not_false, Bool.false_eq_true, decide_true, decide_false, ite_true, ite_false, Option.some.injEq, reduceIte, Mv.mFld, Mv.mIsC, Mv.mMeth, Mv.mMake, Mv.mMakeK, Mv.mEqB, Mv.boolR, Mv.mRev, List.lookup_cons, List.lookup_nil, Nat.reduceBEq, beq_self_eq_true, Mv.ins_new, Mv.set_new, items_new, az]
      have az' : atI (row3 y :: List.map row3 rest) 0 = some (row3 y) := at_zero _ _
      simp only [Mv.mDef, Mv.mSeq, Mv.mSet, Mv.mRet, Mv.mRetN, Mv.mIfS, Mv.mVar, Mv.mC, Mv.mBin, Mv.mChain, Mv.mCall, Mv.mDo, Mv.mCons, Mv.mNil, Mv.mAndV, Mv.mOrV, Mv.mNotV, Mv.mAsB, Mv.mAndT, Mv.mOrT, Mv.mNotT, Mv.mIf, Mv.mTup, Mv.mLst, Mv.mNext, Mv.mBad, Mv.mDrop, Mv.mPar, Mv.mAsg, Mv.mStore, Mv.mNeg, Mv.fNeg, Mv.mYes, Mv.mNoP, Mv.mPart, Mv.mSl, Mv.fI, Mv.fAdd, Mv.fSub, Mv.fMul, Mv.fMod, Mv.fDiv, Mv.fPow, Mv.fLt, Mv.fLe, Mv.fGt, Mv.fGe, Mv.yes2, Mv.fIsN, Mv.fNotN, Mv.isNon, Mv.fIx, Mv.items_tup, Mv.items_new, Mv.list_new, Mv.lstOf_new, Mv.fEq_int, Mv.fNe_int, Mv.fLen_tup, Mv.fMax2, Mv.fMin2, Mv.fInt, Mv.fAbs, Mv.mIsi, Mv.isT, Mv.gN, Mv.gT, Mv.setAll, Mv.wipeM, Mv.R.bind_ok, Mv.R.bind_bad, Mv.R.noX_ok, Mv.R.andS_ok, Mv.R.andS_bad, Mv.S.andS_nx, Mv.S.andS_rt, Mv.S.andS_bad, Mv.S.andS_bk, Mv.S.andS_ct, List.map_cons, List.map_nil, List.cons_append, List.nil_append, List.append_nil, List.replicate_succ, List.replicate_zero, List.length_cons, List.length_nil, List.set_cons_zero, List.set_cons_succ, List.getElem?_cons_zero, List.getElem?_cons_succ, List.getElem?_nil, Nat.reduceAdd, Nat.reduceSub, Nat.reduceEqDiff, Nat.reduceLeDiff, Nat.zero_add, if_true, if_false, Bool.not_true, Bool.not_false, Bool.false_eq_true, decide_true, decide_false, ite_true, ite_false, Option.some.injEq, reduceIte, Mv.mFld, Mv.mIsC, Mv.mMeth, Mv.mMake, Mv.mMakeK, Mv.mEqB, Mv.boolR, Mv.mRev, List.lookup_cons, List.lookup_nil, Nat.reduceBEq, beq_self_eq_true, Mv.ins_new, Mv.set_new, az']
      refine exists_and_left.mpr ⟨hy, ok_ex ?_⟩
      simp only [List.append_assoc]
      exact List.prefix_append _ _
    · intro x _
      have i2 : atI [MV.int x.1, MV.int x.2.1, MV.int x.2.2] 2 = some (.int x.2.2) := rfl
      refine ⟨_, rfl, ?_⟩
      simp only [Mv.mDef, Mv.mSeq, Mv.mSet, Mv.mRet, Mv.mRetN, Mv.mIfS, Mv.mVar, Mv.mC, Mv.mBin, Mv.mChain, Mv.mCall, Mv.mDo, Mv.mCons, Mv.mNil, Mv.mAndV, Mv.mOrV, Mv.mNotV, Mv.mAsB, Mv.mAndT, Mv.mOrT, Mv.mNotT, Mv.mIf, Mv.mTup, Mv.mLst, Mv.mNext, Mv.mBad, Mv.mDrop, Mv.mPar, Mv.mAsg, Mv.mStore, Mv.mNeg, Mv.fNeg, Mv.mYes, Mv.mNoP, Mv.mPart, Mv.mSl, Mv.fI, Mv.fAdd, Mv.fSub, Mv.fMul, Mv.fMod, Mv.fDiv, Mv.fPow, Mv.fLt, Mv.fLe, Mv.fGt, Mv.fGe, Mv.yes2, Mv.fIsN, Mv.fNotN, Mv.isNon, Mv.fIx, Mv.items_tup, Mv.items_new, Mv.list_new, Mv.lstOf_new, Mv.fEq_int, Mv.fNe_int, Mv.fLen_tup, Mv.fMax2, Mv.fMin2, Mv.fInt, Mv.fAbs, Mv.mIsi, Mv.isT, Mv.gN, Mv.gT, Mv.setAll, Mv.wipeM, Mv.R.bind_ok, Mv.R.bind_bad, Mv.R.noX_ok, Mv.R.andS_ok, Mv.R.andS_bad, Mv.S.andS_nx, Mv.S.andS_rt, Mv.S.andS_bad, Mv.S.andS_bk, Mv.S.andS_ct, List.map_cons, List.map_nil, List.cons_append, List.nil_append, List.append_nil, List.replicate_succ, List.replicate_zero, List.length_cons, List.length_nil, List.set_cons_zero, List.set_cons_succ, List.getElem?_cons_zero, List.getElem?_cons_succ, List.getElem?_nil, Nat.reduceAdd, Nat.reduceSub, Nat.reduceEqDiff, Nat.reduceLeDiff, Nat.zero_add, if_true, if_false, Bool.not_true, Bool.not_false, Bool.false_eq_true, decide_true, decide_false, ite_true, ite_false, Option.some.injEq, reduceIte, Mv.mFld, Mv.mIsC, Mv.mMeth, Mv.mMake, Mv.mMakeK, Mv.mEqB, Mv.boolR, Mv.mRev, List.lookup_cons, List.lookup_nil, Nat.reduceBEq, beq_self_eq_true, Mv.ins_new, Mv.set_new, row3, i2]
      exact ⟨trivial, fun _ => trivial⟩
  · intro x _
    refine ⟨_, rfl, ?_⟩
    simp only [Mv.mDef, Mv.mSeq, Mv.mSet, Mv.mRet, Mv.mRetN, Mv.mIfS, Mv.mVar, Mv.mC, Mv.mBin, Mv.mChain, Mv.mCall, Mv.mDo, Mv.mCons, Mv.mNil, Mv.mAndV, Mv.mOrV, Mv.mNotV, Mv.mAsB, Mv.mAndT, Mv.mOrT, Mv.mNotT, Mv.mIf, Mv.mTup, Mv.mLst, Mv.mNext, Mv.mBad, Mv.mDrop, Mv.mPar, Mv.mAsg, Mv.mStore, Mv.mNeg, Mv.fNeg, Mv.mYes, Mv.mNoP, Mv.mPart, Mv.mSl, Mv.fI, Mv.fAdd, Mv.fSub, Mv.fMul, Mv.fMod, Mv.fDiv, Mv.fPow, Mv.fLt, Mv.fLe, Mv.fGt, Mv.fGe, Mv.yes2, Mv.fIsN, Mv.fNotN, Mv.isNon, Mv.fIx, Mv.items_tup, Mv.items_new, Mv.list_new, Mv.lstOf_new, Mv.fEq_int, Mv.fNe_int, Mv.fLen_tup, Mv.fMax2, Mv.fMin2, Mv.fInt, Mv.fAbs, Mv.mIsi, Mv.isT, Mv.gN, Mv.gT, Mv.setAll, Mv.wipeM, Mv.R.bind_ok, Mv.R.bind_bad, Mv.R.noX_ok, Mv.R.andS_ok, Mv.R.andS_bad, Mv.S.andS_nx, Mv.S.andS_rt, Mv.S.andS_bad, Mv.S.andS_bk, Mv.S.andS_ct, List.map_cons, List.map_nil, List.cons_append, List.nil_append, List.append_nil, List.replicate_succ, List.replicate_zero, List.length_cons, List.length_nil, List.set_cons_zero, List.set_cons_succ, List.getElem?_cons_zero, List.getElem?_cons_succ, List.getElem?_nil, Nat.reduceAdd, Nat.reduceSub, Nat.reduceEqDiff, Nat.reduceLeDiff, Nat.zero_add, if_true, if_false, Bool.not_true, Bool.not_false, Bool.false_eq_true, decide_true, decide_false, ite_true, ite_false, Option.some.injEq, reduceIte, Mv.mFld, Mv.mIsC, Mv.mMeth, Mv.mMake, Mv.mMakeK, Mv.mEqB, Mv.boolR, Mv.mRev, List.lookup_cons, List.lookup_nil, Nat.reduceBEq, beq_self_eq_true, Mv.ins_new, Mv.set_new, row3]
    exact ⟨trivial, fun _ => trivial⟩
end Mv

set_option maxHeartbeats 4000000
namespace Mv
open PySem PySem.Spec L2

theorem IsBest.uniq {l : List Row3} {y z : Row3} (b : IsBest l y) (c : IsBest l z) : y = z := by
  have e : y.2.2 = z.2.2 := b.max.symm.trans c.max
  obtain ⟨r1, h1⟩ := b.first
  obtain ⟨r2, h2⟩ := c.first
  rw [e] at h1
  rw [h1] at h2
  exact (List.cons.inj h2).1
theorem row3_ne (y : Row3) (h : MH) : fEq (row3 y) (row3 y) h = .ok (.bl true) h := by
  have := fEq_tints [y.1, y.2.1, y.2.2] [y.1, y.2.1, y.2.2] h
  rw [decide_eq_true rfl] at this
  exact this
noncomputable def G_worst_loss : List MV → MH → R MV := F_worst_loss G_check_kept G_settled_of G_period_of G_held_at G_hurt
theorem KeptAt.ext {n m : Nat} {h h' : MH} {P : Plan} {r : Rule} (k : KeptAt h m P r) (e : Ext n h h') (hn : m ≠ n) : KeptAt h' m P r := ⟨k.at'.ext e hn, k.ok, k.v, k.kept⟩
theorem F_l_worst_right_eq {h : MH} {n : Nat} {P : Plan} {r : Rule} (k : KeptAt h n P r) : ∃ g, F_l_worst_right G_settled_of G_period_of G_l_rows G_hurt G_worst_loss [.ref n, rv r] h = .ok (.bl true) (h ++ g) := by
  unfold F_l_worst_right m_l_worst_right G_l_rows
  have v := k.v
  obtain ⟨p1, p2⟩ := period_60 v
  obtain ⟨_, _, s0, s1⟩ := settled_spec v
  have c1 : (1 : Nat) ≤ cap := by decide
  have c3 : (3 : Nat) ≤ cap := by decide
  simp only [Mv.mDef, Mv.mSeq, Mv.mSet, Mv.mRet, Mv.mRetN, Mv.mIfS, Mv.mVar, Mv.mC, Mv.mBin, Mv.mChain, Mv.mCall, Mv.mDo, Mv.mCons, Mv.mNil, Mv.mAndV, Mv.mOrV, Mv.mNotV, Mv.mAsB, Mv.mAndT, Mv.mOrT, Mv.mNotT, Mv.mIf, Mv.mTup, Mv.mLst, Mv.mNext, Mv.mBad, Mv.mDrop, Mv.mPar, Mv.mAsg, Mv.mStore, Mv.mNeg, Mv.fNeg, Mv.mYes, Mv.mNoP, Mv.mPart, Mv.mSl, Mv.fI, Mv.fAdd, Mv.fSub, Mv.fMul, Mv.fMod, Mv.fDiv, Mv.fPow, Mv.fLt, Mv.fLe, Mv.fGt, Mv.fGe, Mv.yes2, Mv.fIsN, Mv.fNotN, Mv.isNon, Mv.fIx, Mv.items_tup, Mv.items_new, Mv.list_new, Mv.lstOf_new, Mv.fEq_int, Mv.fNe_int, Mv.fLen_tup, Mv.fMax2, Mv.fMin2, Mv.fInt, Mv.fAbs, Mv.mIsi, Mv.isT, Mv.gN, Mv.gT, Mv.setAll, Mv.wipeM, Mv.R.bind_ok, Mv.R.bind_bad, Mv.R.noX_ok, Mv.R.andS_ok, Mv.R.andS_bad, Mv.S.andS_nx, Mv.S.andS_rt, Mv.S.andS_bad, Mv.S.andS_bk, Mv.S.andS_ct, List.map_cons, List.map_nil, List.cons_append, List.nil_append, List.append_nil, List.replicate_succ, List.replicate_zero, List.length_cons, List.length_nil, List.set_cons_zero, List.set_cons_succ, List.getElem?_cons_zero, List.getElem?_cons_succ, List.getElem?_nil, Nat.reduceAdd, Nat.reduceSub, Nat.reduceEqDiff, Nat.reduceLeDiff, Nat.zero_add, if_true, if_false, Bool.not_true, Bool.not_false, Bool.false_eq_true, decide_true, decide_false, ite_true, ite_false, Option.some.injEq, reduceIte, Mv.mFld, Mv.mIsC, Mv.mMeth, Mv.mMake, Mv.mMakeK, Mv.mEqB, Mv.boolR, Mv.mRev, List.lookup_cons, List.lookup_nil, Nat.reduceBEq, beq_self_eq_true, Mv.ins_new, Mv.set_new, G_settled_of_eq v, mFor, mEnumV, G_period_of_eq v, F_l_rows_eq v (periodN r) (show periodN r ≤ 1000 by omega)]
  generalize er : (List.range (periodN r)).map (rowV r) = rows
  have hrl : rows.length = periodN r := by rw [← er, List.length_map, List.length_range]
  have hrow : (h ++ [MO.lst rows])[h.length]? = some (.lst rows) := look_new _ _
  generalize hF : forGo _ _ _ _ _ _ _ = w
  have loop : ∃ e h', w = .nx e h' ∧ ∃ g b x4 x5 x6 x7, h' = h ++ [MO.lst rows] ++ g ∧ e = [some (.ref n), some (rv r), some b, some (.int (settled r)), x4, x5, x6, x7] ∧ BestM (candL P r (periodN r)) b := by
    rw [← hF]
    have := for_nx (it := itE (itL h.length)) (xs := enumL rows) (tg := gT [4, 5])
      (body := mFor (mItV (mVar 5)) (gN 6) (mSeq (mSet 7 (mCall fLen (mCons (mDo 4 G_hurt (mCons (mVar 0) (mCons (mVar 1) (mCons (mBin fAdd (mVar 3) (mVar 4)) (mCons (mLst (mCons (mBin fSub (mBin fAdd (mVar 3) (mVar 4)) (mVar 6)) mNil)) mNil))))) mNil)))
        (mIfS (mOrT (mAsB (mBin fIsN (mVar 2) (mC .non))) (mAsB (mBin fGt (mVar 7) (mBin fIx (mVar 2) (mC (.int 2)))))) (mSet 2 (mTup (mCons (mBin fAdd (mVar 3) (mVar 4)) (mCons (mVar 6) (mCons (mVar 7) mNil))))) mNext)))
      (fun i env h' => ∃ g b x4 x5 x6 x7, h' = h ++ [MO.lst rows] ++ g ∧ env = [some (.ref n), some (rv r), some b, some (.int (settled r)), x4, x5, x6, x7] ∧ BestM (candL P r i) b)
      (fun i env h' ⟨g, b, x4, x5, x6, x7, eh, _, _⟩ => by rw [eh]; exact itE_nx (fun j => itL_nx (look_app hrow) j) i) (fun i x env h' hx ⟨g, b, x4, x5, x6, x7, eh, ee, bb⟩ => by
        subst eh ee
        have hi : i < periodN r := by
          have := (List.getElem?_eq_some_iff.mp hx).1
          rwa [enum_len, hrl] at this
        have hri : rows[i]? = some (rowV r i) := by rw [← er, List.getElem?_map, List.getElem?_range hi]; rfl
        have ex := enum_at hx hri
        subst ex
        have inner := for_nx (it := itT (ivs (rowF r i))) (xs := ivs (rowF r i)) (tg := gN 6)
          (body := mSeq (mSet 7 (mCall fLen (mCons (mDo 4 G_hurt (mCons (mVar 0) (mCons (mVar 1) (mCons (mBin fAdd (mVar 3) (mVar 4)) (mCons (mLst (mCons (mBin fSub (mBin fAdd (mVar 3) (mVar 4)) (mVar 6)) mNil)) mNil))))) mNil)))
            (mIfS (mOrT (mAsB (mBin fIsN (mVar 2) (mC .non))) (mAsB (mBin fGt (mVar 7) (mBin fIx (mVar 2) (mC (.int 2)))))) (mSet 2 (mTup (mCons (mBin fAdd (mVar 3) (mVar 4)) (mCons (mVar 6) (mCons (mVar 7) mNil))))) mNext))
          (fun j env h' => ∃ g b x6 x7, h' = h ++ [MO.lst rows] ++ g ∧ env = [some (.ref n), some (rv r), some b, some (.int (settled r)), some (.int (i : Int)), some (.tup (ivs (rowF r i))), x6, x7] ∧ BestM (candL P r i ++ candAt P r i j) b)
          (fun j env h' _ => itT_nx _ j h') (fun j x env h' hx ⟨g, b, x6, x7, eh, ee, bb⟩ => by
            subst eh ee
            unfold ivs at hx
            rw [List.getElem?_map] at hx
            cases q : (rowF r i)[j]? with
            | none => rw [q] at hx; cases hx
            | some a =>
              rw [q] at hx
              cases hx
              have ham := List.mem_of_getElem? q
              have k1 : KeptAt (h ++ [MO.lst rows] ++ g) n P r := k.app.app
              have gh' := hurt_one k1 (loss_row v (by omega) ham)
              generalize eh1 : h ++ [MO.lst rows] ++ g = h1 at gh' ⊢
              have hs : candRow P r i a = (settled r + (i : Int), a, ((hurtL P r (settled r + (i : Int)) [settled r + (i : Int) - a]).length : Int)) := rfl
              generalize ((hurtL P r (settled r + (i : Int)) [settled r + (i : Int) - a])) = ht at gh' hs
              have es := candAt_succ (P := P) q
              have eg3 : ∃ g', h1 ++ [MO.lst [.int (settled r + (i : Int) - a)]] ++ [MO.lst (ivs ht)] = h ++ [MO.lst rows] ++ g' := ⟨g ++ ([MO.lst [.int (settled r + (i : Int) - a)]] ++ [MO.lst (ivs ht)]), by rw [← eh1]; simp only [List.append_assoc]⟩
              obtain ⟨g', eg'⟩ := eg3
              rcases bb with ⟨bl, rfl⟩ | ⟨y, rfl, by'⟩
              · refine ⟨_, [some (.ref n), some (rv r), some (row3 (candRow P r i a)), some (.int (settled r)), some (.int (i : Int)), some (.tup (ivs (rowF r i))), some (.int a), some (.int (ht.length : Int))], _, rfl, ?_, g', _, _, _, eg', rfl, .inr ⟨_, rfl, ?_⟩⟩
                · simp only [Mv.mDef, Mv.mSeq, Mv.mSet, Mv.mRet, Mv.mRetN, Mv.mIfS, Mv.mVar, Mv.mC, Mv.mBin, Mv.mChain, Mv.mCall, Mv.mDo, Mv.mCons, Mv.mNil, Mv.mAndV, Mv.mOrV, Mv.mNotV, Mv.mAsB, Mv.mAndT, Mv.mOrT, Mv.mNotT, Mv.mIf, Mv.mTup, Mv.mLst, Mv.mNext, Mv.mBad, Mv.mDrop, Mv.mPar, Mv.mAsg, Mv.mStore, Mv.mNeg, Mv.fNeg, Mv.mYes, Mv.mNoP, Mv.mPart, Mv.mSl, Mv.fI, Mv.fAdd, Mv.fSub, Mv.fMul, Mv.fMod, Mv.fDiv, Mv.fPow, Mv.fLt, Mv.fLe, Mv.fGt, Mv.fGe, Mv.yes2, Mv.fIsN, Mv.fNotN, Mv.isNon, Mv.fIx, Mv.items_tup, Mv.items_new, Mv.list_new, Mv.lstOf_new, Mv.fEq_int, Mv.fNe_int, Mv.fLen_tup, Mv.fMax2, Mv.fMin2, Mv.fInt, Mv.fAbs, Mv.mIsi, Mv.isT, Mv.gN, Mv.gT, Mv.setAll, Mv.wipeM, Mv.R.bind_ok, Mv.R.bind_bad, Mv.R.noX_ok, Mv.R.andS_ok, Mv.R.andS_bad, Mv.S.andS_nx, Mv.S.andS_rt, Mv.S.andS_bad, Mv.S.andS_bk, Mv.S.andS_ct, List.map_cons, List.map_nil, List.cons_append, List.nil_append, List.append_nil, List.replicate_succ, List.replicate_zero, List.length_cons, List.length_nil, List.set_cons_zero, List.set_cons_succ, List.getElem?_cons_zero, List.getElem?_cons_succ, List.getElem?_nil, Nat.reduceAdd, Nat.reduceSub, Nat.reduceEqDiff, Nat.reduceLeDiff, Nat.zero_add, if_true, if_false, Bool.not_true, Bool.not_false, Bool.false_eq_true, decide_true, decide_false, ite_true, ite_false, Option.some.injEq, reduceIte, Mv.mFld, Mv.mIsC, Mv.mMeth, Mv.mMake, Mv.mMakeK, Mv.mEqB, Mv.boolR, Mv.mRev, List.lookup_cons, List.lookup_nil, Nat.reduceBEq, beq_self_eq_true, Mv.ins_new, Mv.set_new, c1, c3, gh', fLen_new, ints_length]
                  rw [hs]
                  rfl
                · rw [es, ← List.append_assoc, bl]
                  exact IsBest.one _
              · have i2 : atI [MV.int y.1, MV.int y.2.1, MV.int y.2.2] 2 = some (.int y.2.2) := rfl
                by_cases hq : y.2.2 < (ht.length : Int)
                · have hd : decide (y.2.2 < (ht.length : Int)) = true := decide_eq_true hq
                  refine ⟨_, [some (.ref n), some (rv r), some (row3 (candRow P r i a)), some (.int (settled r)), some (.int (i : Int)), some (.tup (ivs (rowF r i))), some (.int a), some (.int (ht.length : Int))], _, rfl, ?_, g', _, _, _, eg', rfl, .inr ⟨_, rfl, ?_⟩⟩
                  · simp only [Mv.mDef, Mv.mSeq, Mv.mSet, Mv.mRet, Mv.mRetN, Mv.mIfS, Mv.mVar, Mv.mC, Mv.mBin, Mv.mChain, Mv.mCall, Mv.mDo, Mv.mCons, Mv.mNil, Mv.mAndV, Mv.mOrV, Mv.mNotV, Mv.mAsB, Mv.mAndT, Mv.mOrT, Mv.mNotT, Mv.mIf, Mv.mTup, Mv.mLst, Mv.mNext, Mv.mBad, Mv.mDrop, Mv.mPar, Mv.mAsg, Mv.mStore, Mv.mNeg, Mv.fNeg, Mv.mYes, Mv.mNoP, Mv.mPart, Mv.mSl, Mv.fI, Mv.fAdd, Mv.fSub, Mv.fMul, Mv.fMod, Mv.fDiv, Mv.fPow, Mv.fLt, Mv.fLe, Mv.fGt, Mv.fGe, Mv.yes2, Mv.fIsN, Mv.fNotN, Mv.isNon, Mv.fIx, Mv.items_tup, Mv.items_new, Mv.list_new, Mv.lstOf_new, Mv.fEq_int, Mv.fNe_int, Mv.fLen_tup, Mv.fMax2, Mv.fMin2, Mv.fInt, Mv.fAbs, Mv.mIsi, Mv.isT, Mv.gN, Mv.gT, Mv.setAll, Mv.wipeM, Mv.R.bind_ok, Mv.R.bind_bad, Mv.R.noX_ok, Mv.R.andS_ok, Mv.R.andS_bad, Mv.S.andS_nx, Mv.S.andS_rt, Mv.S.andS_bad, Mv.S.andS_bk, Mv.S.andS_ct, List.map_cons, List.map_nil, List.cons_append, List.nil_append, List.append_nil, List.replicate_succ, List.replicate_zero, List.length_cons, List.length_nil, List.set_cons_zero, List.set_cons_succ, List.getElem?_cons_zero, List.getElem?_cons_succ, List.getElem?_nil, Nat.reduceAdd, Nat.reduceSub, Nat.reduceEqDiff, Nat.reduceLeDiff, Nat.zero_add, if_true, if_false, Bool.not_true, Bool.not_false, Bool.false_eq_true, decide_true, decide_false, ite_true, ite_false, Option.some.injEq, reduceIte, Mv.mFld, Mv.mIsC, Mv.mMeth, Mv.mMake, Mv.mMakeK, Mv.mEqB, Mv.boolR, Mv.mRev, List.lookup_cons, List.lookup_nil, Nat.reduceBEq, beq_self_eq_true, Mv.ins_new, Mv.set_new, c1, c3, gh', fLen_new, ints_length, row3, i2, hd]
                    rw [hs]
                  · rw [es, ← List.append_assoc]
                    exact by'.new (by rw [hs]; exact hq)
                · have hd : decide (y.2.2 < (ht.length : Int)) = false := decide_eq_false hq
                  refine ⟨_, [some (.ref n), some (rv r), some (row3 y), some (.int (settled r)), some (.int (i : Int)), some (.tup (ivs (rowF r i))), some (.int a), some (.int (ht.length : Int))], _, rfl, ?_, g', _, _, _, eg', rfl, .inr ⟨_, rfl, ?_⟩⟩
                  · simp only [Mv.mDef, Mv.mSeq, Mv.mSet, Mv.mRet, Mv.mRetN, Mv.mIfS, Mv.mVar, Mv.mC, Mv.mBin, Mv.mChain, Mv.mCall, Mv.mDo, Mv.mCons, Mv.mNil, Mv.mAndV, Mv.mOrV, Mv.mNotV, Mv.mAsB, Mv.mAndT, Mv.mOrT, Mv.mNotT, Mv.mIf, Mv.mTup, Mv.mLst, Mv.mNext, Mv.mBad, Mv.mDrop, Mv.mPar, Mv.mAsg, Mv.mStore, Mv.mNeg, Mv.fNeg, Mv.mYes, Mv.mNoP, Mv.mPart, Mv.mSl, Mv.fI, Mv.fAdd, Mv.fSub, Mv.fMul, Mv.fMod, Mv.fDiv, Mv.fPow, Mv.fLt, Mv.fLe, Mv.fGt, Mv.fGe, Mv.yes2, Mv.fIsN, Mv.fNotN, Mv.isNon, Mv.fIx, Mv.items_tup, Mv.items_new, Mv.list_new, Mv.lstOf_new, Mv.fEq_int, Mv.fNe_int, Mv.fLen_tup, Mv.fMax2, Mv.fMin2, Mv.fInt, Mv.fAbs, Mv.mIsi, Mv.isT, Mv.gN, Mv.gT, Mv.setAll, Mv.wipeM, Mv.R.bind_ok, Mv.R.bind_bad, Mv.R.noX_ok, Mv.R.andS_ok, Mv.R.andS_bad, Mv.S.andS_nx, Mv.S.andS_rt, Mv.S.andS_bad, Mv.S.andS_bk, Mv.S.andS_ct, List.map_cons, List.map_nil, List.cons_append, List.nil_append, List.append_nil, List.replicate_succ, List.replicate_zero, List.length_cons, List.length_nil, List.set_cons_zero, List.set_cons_succ, List.getElem?_cons_zero, List.getElem?_cons_succ, List.getElem?_nil, Nat.reduceAdd, Nat.reduceSub, Nat.reduceEqDiff, Nat.reduceLeDiff, Nat.zero_add, if_true, if_false, Bool.not_true, Bool.not_false, Bool.false_eq_true, decide_true, decide_false, ite_true, ite_false, Option.some.injEq, reduceIte, Mv.mFld, Mv.mIsC, Mv.mMeth, Mv.mMake, Mv.mMakeK, Mv.mEqB, Mv.boolR, Mv.mRev, List.lookup_cons, List.lookup_nil, Nat.reduceBEq, beq_self_eq_true, Mv.ins_new, Mv.set_new, c1, c3, gh', fLen_new, ints_length, row3, i2, hd]
                  · rw [es, ← List.append_assoc]
                    exact by'.keep (by rw [hs]; exact hq)) (by rw [ints_length]; exact row_cap v i) (env := [some (.ref n), some (rv r), some b, some (.int (settled r)), some (.int (i : Int)), some (.tup (ivs (rowF r i))), x6, x7]) (h := h ++ [MO.lst rows] ++ g) ⟨g, b, x6, x7, rfl, rfl, by simpa [candAt] using bb⟩
        obtain ⟨e2, h2, q1, g2, b2, y6, y7, q2, q3, q4⟩ := inner
        rw [ints_length, candAt_all, ← candL_succ] at q4
        refine ⟨_, e2, h2, rfl, ?_, g2, b2, _, _, y6, y7, q2, q3, q4⟩
        simp only [Mv.mDef, Mv.mSeq, Mv.mSet, Mv.mRet, Mv.mRetN, Mv.mIfS, Mv.mVar, Mv.mC, Mv.mBin, Mv.mChain, Mv.mCall, Mv.mDo, Mv.mCons, Mv.mNil, Mv.mAndV, Mv.mOrV, Mv.mNotV, Mv.mAsB, Mv.mAndT, Mv.mOrT, Mv.mNotT, Mv.mIf, Mv.mTup, Mv.mLst, Mv.mNext, Mv.mBad, Mv.mDrop, Mv.mPar, Mv.mAsg, Mv.mStore, Mv.mNeg, Mv.fNeg, Mv.mYes, Mv.mNoP, Mv.mPart, Mv.mSl, Mv.fI, Mv.fAdd, Mv.fSub, Mv.fMul, Mv.fMod, Mv.fDiv, Mv.fPow, Mv.fLt, Mv.fLe, Mv.fGt, Mv.fGe, Mv.yes2, Mv.fIsN, Mv.fNotN, Mv.isNon, Mv.fIx, Mv.items_tup, Mv.items_new, Mv.list_new, Mv.lstOf_new, Mv.fEq_int, Mv.fNe_int, Mv.fLen_tup, Mv.fMax2, Mv.fMin2, Mv.fInt, Mv.fAbs, Mv.mIsi, Mv.isT, Mv.gN, Mv.gT, Mv.setAll, Mv.wipeM, Mv.R.bind_ok, Mv.R.bind_bad, Mv.R.noX_ok, Mv.R.andS_ok, Mv.R.andS_bad, Mv.S.andS_nx, Mv.S.andS_rt, Mv.S.andS_bad, Mv.S.andS_bk, Mv.S.andS_ct, List.map_cons, List.map_nil, List.cons_append, List.nil_append, List.append_nil, List.replicate_succ, List.replicate_zero, List.length_cons, List.length_nil, List.set_cons_zero, List.set_cons_succ, List.getElem?_cons_zero, List.getElem?_cons_succ, List.getElem?_nil, Nat.reduceAdd, Nat.reduceSub, Nat.reduceEqDiff, Nat.reduceLeDiff, Nat.zero_add, if_true, if_false, Bool.not_true, Bool.not_false, Bool.false_eq_true, decide_true, decide_false, ite_true, ite_false, Option.some.injEq, reduceIte, Mv.mFld, Mv.mIsC, Mv.mMeth, Mv.mMake, Mv.mMakeK, Mv.mEqB, Mv.boolR, Mv.mRev, List.lookup_cons, List.lookup_nil, Nat.reduceBEq, beq_self_eq_true, Mv.ins_new, Mv.set_new, mFor, mItV, rowV]
        exact q1) (by rw [enum_len, hrl]; unfold cap; omega) (env := [some (.ref n), some (rv r), some .non, some (.int (settled r)), none, none, none, none]) (h := h ++ [MO.lst rows]) ⟨[], .non, none, none, none, none, by rw [List.append_nil], rfl, .inl ⟨by simp [candL], rfl⟩⟩
    rw [enum_len, hrl] at this
    exact this
  obtain ⟨e, h', rfl, g, b, x4, x5, x6, x7, rfl, rfl, bb⟩ := loop
  obtain ⟨y, g2, hy, ew⟩ := F_worst_loss_eq (k.app (g := [MO.lst rows]) |>.app (g := g))
  rcases bb with ⟨bl, _⟩ | ⟨z, rfl, hz⟩
  · obtain ⟨pre, post, e1, _⟩ := hy.ex
    rw [bl] at e1
    simp at e1
  · have : y = z := hy.uniq hz
    subst this
    have ew' : G_worst_loss [.ref n, rv r] (h ++ [MO.lst rows] ++ g) = .ok (row3 y) (h ++ [MO.lst rows] ++ g ++ g2) := ew
    simp only [Mv.mDef, Mv.mSeq, Mv.mSet, Mv.mRet, Mv.mRetN, Mv.mIfS, Mv.mVar, Mv.mC, Mv.mBin, Mv.mChain, Mv.mCall, Mv.mDo, Mv.mCons, Mv.mNil, Mv.mAndV, Mv.mOrV, Mv.mNotV, Mv.mAsB, Mv.mAndT, Mv.mOrT, Mv.mNotT, Mv.mIf, Mv.mTup, Mv.mLst, Mv.mNext, Mv.mBad, Mv.mDrop, Mv.mPar, Mv.mAsg, Mv.mStore, Mv.mNeg, Mv.fNeg, Mv.mYes, Mv.mNoP, Mv.mPart, Mv.mSl, Mv.fI, Mv.fAdd, Mv.fSub, Mv.fMul, Mv.fMod, Mv.fDiv, Mv.fPow, Mv.fLt, Mv.fLe, Mv.fGt, Mv.fGe, Mv.yes2, Mv.fIsN, Mv.fNotN, Mv.isNon, Mv.fIx, Mv.items_tup, Mv.items_new, Mv.list_new, Mv.lstOf_new, Mv.fEq_int, Mv.fNe_int, Mv.fLen_tup, Mv.fMax2, Mv.fMin2, Mv.fInt, Mv.fAbs, Mv.mIsi, Mv.isT, Mv.gN, Mv.gT, Mv.setAll, Mv.wipeM, Mv.R.bind_ok, Mv.R.bind_bad, Mv.R.noX_ok, Mv.R.andS_ok, Mv.R.andS_bad, Mv.S.andS_nx, Mv.S.andS_rt, Mv.S.andS_bad, Mv.S.andS_bk, Mv.S.andS_ct, List.map_cons, List.map_nil, List.cons_append, List.nil_append, List.append_nil, List.replicate_succ, List.replicate_zero, List.length_cons, List.length_nil, List.set_cons_zero, List.set_cons_succ, List.getElem?_cons_zero, List.getElem?_cons_succ, List.getElem?_nil, Nat.reduceAdd, Nat.reduceSub, Nat.reduceEqDiff, Nat.reduceLeDiff, Nat.zero_add, if_true, if_false, Bool.not_true, Bool.not_false, Bool.false_eq_true, decide_true, decide_false, ite_true, ite_false, Option.some.injEq, reduceIte, Mv.mFld, Mv.mIsC, Mv.mMeth, Mv.mMake, Mv.mMakeK, Mv.mEqB, Mv.boolR, Mv.mRev, List.lookup_cons, List.lookup_nil, Nat.reduceBEq, beq_self_eq_true, Mv.ins_new, Mv.set_new, ew', row3_ne]
    refine ok_ex ?_
    simp only [List.append_assoc]
    exact List.prefix_append _ _
end Mv

set_option maxHeartbeats 4000000
namespace Mv
open PySem PySem.Spec L2

noncomputable def G_hp : List MV → MH → R MV := F_healed_after_pause G_bp G_healed
noncomputable def G_hl : List MV → MH → R MV := F_healed_after_loss G_bl G_healed
theorem F_l_pause_right_eq {ns : List Int} {s n k m : Nat} {h : MH} {P : Plan} {r : Rule} (d : Draw ns s n h k) (hk : k ≤ 50000) (kp : KeptAt h m P r) (hm : m ≠ n) :
    ∃ h' k', F_l_pause_right G_l_next G_hurt G_bp G_hp G_healed [.ref n, .ref m, rv r] h = .ok (.bl true) h' ∧ Ext n h h' ∧ Draw ns s n h' k' ∧ k' ≤ k + 2 := by
  unfold F_l_pause_right m_l_pause_right
  obtain ⟨b, o1, e1, b0, b1, d1⟩ := next_step d (by omega) (b := 20) (by decide)
  obtain ⟨t, o2, e2, t0, t1, d2⟩ := next_step d1 (by omega) (b := 9) (by decide)
  have ex : Ext n h ((h.set n o1).set n o2) := (Ext.refl.set).set
  generalize eh : (h.set n o1).set n o2 = h2 at e2 d2 ex
  have k2 := kp.ext ex hm
  have q0 : b ≤ 1000 := by omega
  have q1 : t ≤ 12 := by omega
  have k3 : KeptAt (h2 ++ [MO.lst (ivs (pauseL b t))]) m P r := k2.app
  have g1 := G_hurt_eq k3 (pause_ok b0 q0 t0 q1) (look_new h2 (MO.lst (ivs (pauseL b t))))
  simp only [Mv.mDef, Mv.mSeq, Mv.mSet, Mv.mRet, Mv.mRetN, Mv.mIfS, Mv.mVar, Mv.mC, Mv.mBin, Mv.mChain, Mv.mCall, Mv.mDo, Mv.mCons, Mv.mNil, Mv.mAndV, Mv.mOrV, Mv.mNotV, Mv.mAsB, Mv.mAndT, Mv.mOrT, Mv.mNotT, Mv.mIf, Mv.mTup, Mv.mLst, Mv.mNext, Mv.mBad, Mv.mDrop, Mv.mPar, Mv.mAsg, Mv.mStore, Mv.mNeg, Mv.fNeg, Mv.mYes, Mv.mNoP, Mv.mPart, Mv.mSl, Mv.fI, Mv.fAdd, Mv.fSub, Mv.fMul, Mv.fMod, Mv.fDiv, Mv.fPow, Mv.fLt, Mv.fLe, Mv.fGt, Mv.fGe, Mv.yes2, Mv.fIsN, Mv.fNotN, Mv.isNon, Mv.fIx, Mv.items_tup, Mv.items_new, Mv.list_new, Mv.lstOf_new, Mv.fEq_int, Mv.fNe_int, Mv.fLen_tup, Mv.fMax2, Mv.fMin2, Mv.fInt, Mv.fAbs, Mv.mIsi, Mv.isT, Mv.gN, Mv.gT, Mv.setAll, Mv.wipeM, Mv.R.bind_ok, Mv.R.bind_bad, Mv.R.noX_ok, Mv.R.andS_ok, Mv.R.andS_bad, Mv.S.andS_nx, Mv.S.andS_rt, Mv.S.andS_bad, Mv.S.andS_bk, Mv.S.andS_ct, List.map_cons, List.map_nil, List.cons_append, List.nil_append, List.append_nil, List.replicate_succ, List.replicate_zero, List.length_cons, List.length_nil, List.set_cons_zero, List.set_cons_succ, List.getElem?_cons_zero, List.getElem?_cons_succ, List.getElem?_nil, Nat.reduceAdd, Nat.reduceSub, Nat.reduceEqDiff, Nat.reduceLeDiff, Nat.zero_add, if_true, if_false, Bool.not_true, Bool.not_false, Bool.false_eq_true, decide_true, decide_false, ite_true, ite_false, Option.some.injEq, reduceIte, Mv.mFld, Mv.mIsC, Mv.mMeth, Mv.mMake, Mv.mMakeK, Mv.mEqB, Mv.boolR, Mv.mRev, List.lookup_cons, List.lookup_nil, Nat.reduceBEq, beq_self_eq_true, Mv.ins_new, Mv.set_new, e1, e2, Mv.mLRg2, lrg_eq b0 q0 t0 q1, g1]
  generalize eh4 : h2 ++ [MO.lst (ivs (pauseL b t))] = h4 at k3 ⊢
  generalize ehl : hurtL P r b (pauseL b t) = hl
  have k5 : KeptAt (h4 ++ [MO.lst (ivs hl)]) m P r := k3.app
  have g2 := G_bp_eq k5 b0 q0 t0 q1
  rw [ehl] at g2
  have w1 : (h4 ++ [MO.lst (ivs hl)] ++ [MO.lst (ivs hl)])[h4.length]? = some (.lst (ivs hl)) := look_app (look_new _ _)
  have w2 : (h4 ++ [MO.lst (ivs hl)] ++ [MO.lst (ivs hl)])[(h4 ++ [MO.lst (ivs hl)]).length]? = some (.lst (ivs hl)) := look_new _ _
  have ne := fNe_lints w2 w1
  rw [decide_eq_true rfl] at ne
  obtain ⟨g6, e6⟩ := F_healed_after_pause_eq (k5.app (g := [MO.lst (ivs hl)])) b0 q0 t0 q1
  rw [ehl] at e6
  have e6' : G_hp [.ref m, rv r, .int b, .int t] (h4 ++ [MO.lst (ivs hl)] ++ [MO.lst (ivs hl)]) = .ok (.int (healedV r b hl)) (h4 ++ [MO.lst (ivs hl)] ++ [MO.lst (ivs hl)] ++ g6) := e6
  have hcap : hl.length ≤ 5000 := by rw [← ehl]; exact hurt_cap kp.v (pause_ok b0 q0 t0 q1)
  have e7 := G_healed_eq kp.v (first := b) hcap (look_app (g := g6) w1)
  have dt : decide (healedV r b hl = healedV r b hl) = true := decide_eq_true rfl
  simp only [Mv.mDef, Mv.mSeq, Mv.mSet, Mv.mRet, Mv.mRetN, Mv.mIfS, Mv.mVar, Mv.mC, Mv.mBin, Mv.mChain, Mv.mCall, Mv.mDo, Mv.mCons, Mv.mNil, Mv.mAndV, Mv.mOrV, Mv.mNotV, Mv.mAsB, Mv.mAndT, Mv.mOrT, Mv.mNotT, Mv.mIf, Mv.mTup, Mv.mLst, Mv.mNext, Mv.mBad, Mv.mDrop, Mv.mPar, Mv.mAsg, Mv.mStore, Mv.mNeg, Mv.fNeg, Mv.mYes, Mv.mNoP, Mv.mPart, Mv.mSl, Mv.fI, Mv.fAdd, Mv.fSub, Mv.fMul, Mv.fMod, Mv.fDiv, Mv.fPow, Mv.fLt, Mv.fLe, Mv.fGt, Mv.fGe, Mv.yes2, Mv.fIsN, Mv.fNotN, Mv.isNon, Mv.fIx, Mv.items_tup, Mv.items_new, Mv.list_new, Mv.lstOf_new, Mv.fEq_int, Mv.fNe_int, Mv.fLen_tup, Mv.fMax2, Mv.fMin2, Mv.fInt, Mv.fAbs, Mv.mIsi, Mv.isT, Mv.gN, Mv.gT, Mv.setAll, Mv.wipeM, Mv.R.bind_ok, Mv.R.bind_bad, Mv.R.noX_ok, Mv.R.andS_ok, Mv.R.andS_bad, Mv.S.andS_nx, Mv.S.andS_rt, Mv.S.andS_bad, Mv.S.andS_bk, Mv.S.andS_ct, List.map_cons, List.map_nil, List.cons_append, List.nil_append, List.append_nil, List.replicate_succ, List.replicate_zero, List.length_cons, List.length_nil, List.set_cons_zero, List.set_cons_succ, List.getElem?_cons_zero, List.getElem?_cons_succ, List.getElem?_nil, Nat.reduceAdd, Nat.reduceSub, Nat.reduceEqDiff, Nat.reduceLeDiff, Nat.zero_add, if_true, if_false, Bool.not_true, Bool.not_false, Bool.false_eq_true, decide_true, decide_false, ite_true, ite_false, Option.some.injEq, reduceIte, Mv.mFld, Mv.mIsC, Mv.mMeth, Mv.mMake, Mv.mMakeK, Mv.mEqB, Mv.boolR, Mv.mRev, List.lookup_cons, List.lookup_nil, Nat.reduceBEq, beq_self_eq_true, Mv.ins_new, Mv.set_new, g2, ne, e6', e7, dt]
  refine ⟨_, k + 2, rfl, ?_, ?_, by omega⟩
  · rw [← eh4]
    exact ((((ex.app).app).app).app)
  · rw [← eh4]
    exact ((((d2.app).app).app).app)
theorem held_isHeld {r : Rule} {t a : Int} (h : a ∈ heldAt r t) : isHeld r (t - a) t = true := by
  unfold heldAt at h
  exact (List.mem_filter.mp h).2
theorem F_l_loss_right_eq {ns : List Int} {s n k m : Nat} {h : MH} {P : Plan} {r : Rule} (d : Draw ns s n h k) (hk : k ≤ 50000) (kp : KeptAt h m P r) (hm : m ≠ n) :
    ∃ h' k', F_l_loss_right G_l_next G_l_held (F_l_pick G_l_next) G_hurt G_bl G_hl G_healed [.ref n, .ref m, rv r] h = .ok (.bl true) h' ∧ Ext n h h' ∧ Draw ns s n h' k' ∧ k' ≤ k + 2 := by
  unfold F_l_loss_right m_l_loss_right
  have v := kp.v
  obtain ⟨b, o1, e1, b0, b1, d1⟩ := next_step d (by omega) (b := 24) (by decide)
  have ex1 : Ext n h (h.set n o1) := Ext.refl.set
  have hb := G_l_held_eq v b0 (show b ≤ 100000 by omega) (h.set n o1)
  have c0 : (0 : Nat) ≤ cap := by decide
  have c1 : (1 : Nat) ≤ cap := by decide
  have fe := fEq_tints (heldAt r b) [] (h.set n o1)
  have fe' : fEq (.tup (ivs (heldAt r b))) (.tup []) (h.set n o1) = .ok (.bl (decide (heldAt r b = []))) (h.set n o1) := fe
  cases q : heldAt r b with
  | nil =>
    rw [q] at hb fe'
    rw [decide_eq_true rfl] at fe'
    simp only [Mv.mDef, Mv.mSeq, Mv.mSet, Mv.mRet, Mv.mRetN, Mv.mIfS, Mv.mVar, Mv.mC, Mv.mBin, Mv.mChain, Mv.mCall, Mv.mDo, Mv.mCons, Mv.mNil, Mv.mAndV, Mv.mOrV, Mv.mNotV, Mv.mAsB, Mv.mAndT, Mv.mOrT, Mv.mNotT, Mv.mIf, Mv.mTup, Mv.mLst, Mv.mNext, Mv.mBad, Mv.mDrop, Mv.mPar, Mv.mAsg, Mv.mStore, Mv.mNeg, Mv.fNeg, Mv.mYes, Mv.mNoP, Mv.mPart, Mv.mSl, Mv.fI, Mv.fAdd, Mv.fSub, Mv.fMul, Mv.fMod, Mv.fDiv, Mv.fPow, Mv.fLt, Mv.fLe, Mv.fGt, Mv.fGe, Mv.yes2, Mv.fIsN, Mv.fNotN, Mv.isNon, Mv.fIx, Mv.items_tup, Mv.items_new, Mv.list_new, Mv.lstOf_new, Mv.fEq_int, Mv.fNe_int, Mv.fLen_tup, Mv.fMax2, Mv.fMin2, Mv.fInt, Mv.fAbs, Mv.mIsi, Mv.isT, Mv.gN, Mv.gT, Mv.setAll, Mv.wipeM, Mv.R.bind_ok, Mv.R.bind_bad, Mv.R.noX_ok, Mv.R.andS_ok, Mv.R.andS_bad, Mv.S.andS_nx, Mv.S.andS_rt, Mv.S.andS_bad, Mv.S.andS_bk, Mv.S.andS_ct, List.map_cons, List.map_nil, List.cons_append, List.nil_append, List.append_nil, List.replicate_succ, List.replicate_zero, List.length_cons, List.length_nil, List.set_cons_zero, List.set_cons_succ, List.getElem?_cons_zero, List.getElem?_cons_succ, List.getElem?_nil, Nat.reduceAdd, Nat.reduceSub, Nat.reduceEqDiff, Nat.reduceLeDiff, Nat.zero_add, if_true, if_false, Bool.not_true, Bool.not_false, Bool.false_eq_true, decide_true, decide_false, ite_true, ite_false, Option.some.injEq, reduceIte, Mv.mFld, Mv.mIsC, Mv.mMeth, Mv.mMake, Mv.mMakeK, Mv.mEqB, Mv.boolR, Mv.mRev, List.lookup_cons, List.lookup_nil, Nat.reduceBEq, beq_self_eq_true, Mv.ins_new, Mv.set_new, e1, hb, c0, fe']
    exact ⟨_, k + 1, rfl, ex1, d1, by omega⟩
  | cons x l =>
    rw [q] at hb fe'
    rw [decide_eq_false (by simp)] at fe'
    have hlen : (heldAt r b).length ≤ 13 := heldAt_len v b
    rw [q] at hlen
    obtain ⟨z, o2, e2, z0, z1, d2⟩ := next_step d1 (by omega) (b := ((ivs (x :: l)).length : Int)) (by rw [ints_length]; simp only [List.length_cons]; omega)
    rw [ints_length] at z1
    have hz : z = ((z.toNat : Nat) : Int) := by omega
    have hlt : z.toNat < (x :: l).length := by omega
    obtain ⟨a, ha⟩ : ∃ a, (x :: l)[z.toNat]? = some a := ⟨_, List.getElem?_eq_getElem hlt⟩
    have hat : atI (ivs (x :: l)) z = some (.int a) := by
      rw [hz]
      exact at_nat (by unfold ivs; rw [List.getElem?_map, ha]; rfl)
    have ham : a ∈ heldAt r b := by rw [q]; exact List.mem_of_getElem? ha
    have hle := held_le ham
    have hih := held_isHeld ham
    have ex : Ext n h ((h.set n o1).set n o2) := ex1.set
    generalize eh : (h.set n o1).set n o2 = h2 at e2 d2 ex
    have k2 := kp.ext ex hm
    have pk : F_l_pick G_l_next [.ref n, .tup (ivs (x :: l))] (h.set n o1) = .ok (.int a) h2 := by
      unfold F_l_pick m_l_pick
      simp only [Mv.mDef, Mv.mSeq, Mv.mSet, Mv.mRet, Mv.mRetN, Mv.mIfS, Mv.mVar, Mv.mC, Mv.mBin, Mv.mChain, Mv.mCall, Mv.mDo, Mv.mCons, Mv.mNil, Mv.mAndV, Mv.mOrV, Mv.mNotV, Mv.mAsB, Mv.mAndT, Mv.mOrT, Mv.mNotT, Mv.mIf, Mv.mTup, Mv.mLst, Mv.mNext, Mv.mBad, Mv.mDrop, Mv.mPar, Mv.mAsg, Mv.mStore, Mv.mNeg, Mv.fNeg, Mv.mYes, Mv.mNoP, Mv.mPart, Mv.mSl, Mv.fI, Mv.fAdd, Mv.fSub, Mv.fMul, Mv.fMod, Mv.fDiv, Mv.fPow, Mv.fLt, Mv.fLe, Mv.fGt, Mv.fGe, Mv.yes2, Mv.fIsN, Mv.fNotN, Mv.isNon, Mv.fIx, Mv.items_tup, Mv.items_new, Mv.list_new, Mv.lstOf_new, Mv.fEq_int, Mv.fNe_int, Mv.fLen_tup, Mv.fMax2, Mv.fMin2, Mv.fInt, Mv.fAbs, Mv.mIsi, Mv.isT, Mv.gN, Mv.gT, Mv.setAll, Mv.wipeM, Mv.R.bind_ok, Mv.R.bind_bad, Mv.R.noX_ok, Mv.R.andS_ok, Mv.R.andS_bad, Mv.S.andS_nx, Mv.S.andS_rt, Mv.S.andS_bad, Mv.S.andS_bk, Mv.S.andS_ct, List.map_cons, List.map_nil, List.cons_append, List.nil_append, List.append_nil, List.replicate_succ, List.replicate_zero, List.length_cons, List.length_nil, List.set_cons_zero, List.set_cons_succ, List.getElem?_cons_zero, List.getElem?_cons_succ, List.getElem?_nil, Nat.reduceAdd, Nat.reduceSub, Nat.reduceEqDiff, Nat.reduceLeDiff, Nat.zero_add, if_true, if_false, Bool.not_true, Bool.not_false, Bool.false_eq_true, decide_true, decide_false, ite_true, ite_false, Option.some.injEq, reduceIte, Mv.mFld, Mv.mIsC, Mv.mMeth, Mv.mMake, Mv.mMakeK, Mv.mEqB, Mv.boolR, Mv.mRev, List.lookup_cons, List.lookup_nil, Nat.reduceBEq, beq_self_eq_true, Mv.ins_new, Mv.set_new, e2, hat]
    have a0 : 0 ≤ b - a := by omega
    have a1 : b - a ≤ 1000 := by omega
    have q0 : b ≤ 1000 := by omega
    have g1 := hurt_one k2 (loss_ok a1 b0 q0)
    simp only [Mv.mDef, Mv.mSeq, Mv.mSet, Mv.mRet, Mv.mRetN, Mv.mIfS, Mv.mVar, Mv.mC, Mv.mBin, Mv.mChain, Mv.mCall, Mv.mDo, Mv.mCons, Mv.mNil, Mv.mAndV, Mv.mOrV, Mv.mNotV, Mv.mAsB, Mv.mAndT, Mv.mOrT, Mv.mNotT, Mv.mIf, Mv.mTup, Mv.mLst, Mv.mNext, Mv.mBad, Mv.mDrop, Mv.mPar, Mv.mAsg, Mv.mStore, Mv.mNeg, Mv.fNeg, Mv.mYes, Mv.mNoP, Mv.mPart, Mv.mSl, Mv.fI, Mv.fAdd, Mv.fSub, Mv.fMul, Mv.fMod, Mv.fDiv, Mv.fPow, Mv.fLt, Mv.fLe, Mv.fGt, Mv.fGe, Mv.yes2, Mv.fIsN, Mv.fNotN, Mv.isNon, Mv.fIx, Mv.items_tup, Mv.items_new, Mv.list_new, Mv.lstOf_new, Mv.fEq_int, Mv.fNe_int, Mv.fLen_tup, Mv.fMax2, Mv.fMin2, Mv.fInt, Mv.fAbs, Mv.mIsi, Mv.isT, Mv.gN, Mv.gT, Mv.setAll, Mv.wipeM, Mv.R.bind_ok, Mv.R.bind_bad, Mv.R.noX_ok, Mv.R.andS_ok, Mv.R.andS_bad, Mv.S.andS_nx, Mv.S.andS_rt, Mv.S.andS_bad, Mv.S.andS_bk, Mv.S.andS_ct, List.map_cons, List.map_nil, List.cons_append, List.nil_append, List.append_nil, List.replicate_succ, List.replicate_zero, List.length_cons, List.length_nil, List.set_cons_zero, List.set_cons_succ, List.getElem?_cons_zero, List.getElem?_cons_succ, List.getElem?_nil, Nat.reduceAdd, Nat.reduceSub, Nat.reduceEqDiff, Nat.reduceLeDiff, Nat.zero_add, if_true, if_false, Bool.not_true, Bool.not_false, Bool.false_eq_true, decide_true, decide_false, ite_true, ite_false, Option.some.injEq, reduceIte, Mv.mFld, Mv.mIsC, Mv.mMeth, Mv.mMake, Mv.mMakeK, Mv.mEqB, Mv.boolR, Mv.mRev, List.lookup_cons, List.lookup_nil, Nat.reduceBEq, beq_self_eq_true, Mv.ins_new, Mv.set_new, e1, hb, c0, fe', pk, c1, g1]
    have k3 : KeptAt (h2 ++ [MO.lst [.int (b - a)]]) m P r := k2.app
    generalize eh4 : h2 ++ [MO.lst [.int (b - a)]] = h4 at k3 ⊢
    generalize ehl : hurtL P r b [b - a] = hl
    have k5 : KeptAt (h4 ++ [MO.lst (ivs hl)]) m P r := k3.app
    have g2 := G_bl_eq k5 a0 a1 b0 q0 hih
    rw [ehl] at g2
    have w1 : (h4 ++ [MO.lst (ivs hl)] ++ [MO.lst (ivs hl)])[h4.length]? = some (.lst (ivs hl)) := look_app (look_new _ _)
    have w2 : (h4 ++ [MO.lst (ivs hl)] ++ [MO.lst (ivs hl)])[(h4 ++ [MO.lst (ivs hl)]).length]? = some (.lst (ivs hl)) := look_new _ _
    have ne := fNe_lints w2 w1
    rw [decide_eq_true rfl] at ne
    obtain ⟨g6, e6⟩ := F_healed_after_loss_eq (k5.app (g := [MO.lst (ivs hl)])) a0 a1 b0 q0 hih
    rw [ehl] at e6
    have e6' : G_hl [.ref m, rv r, .int (b - a), .int b] (h4 ++ [MO.lst (ivs hl)] ++ [MO.lst (ivs hl)]) = .ok (.int (healedV r b hl)) (h4 ++ [MO.lst (ivs hl)] ++ [MO.lst (ivs hl)] ++ g6) := e6
    have hcap : hl.length ≤ 5000 := by rw [← ehl]; exact hurt_cap v (loss_ok a1 b0 q0)
    have e7 := G_healed_eq v (first := b) hcap (look_app (g := g6) w1)
    have dt : decide (healedV r b hl = healedV r b hl) = true := decide_eq_true rfl
    simp only [Mv.mDef, Mv.mSeq, Mv.mSet, Mv.mRet, Mv.mRetN, Mv.mIfS, Mv.mVar, Mv.mC, Mv.mBin, Mv.mChain, Mv.mCall, Mv.mDo, Mv.mCons, Mv.mNil, Mv.mAndV, Mv.mOrV, Mv.mNotV, Mv.mAsB, Mv.mAndT, Mv.mOrT, Mv.mNotT, Mv.mIf, Mv.mTup, Mv.mLst, Mv.mNext, Mv.mBad, Mv.mDrop, Mv.mPar, Mv.mAsg, Mv.mStore, Mv.mNeg, Mv.fNeg, Mv.mYes, Mv.mNoP, Mv.mPart, Mv.mSl, Mv.fI, Mv.fAdd, Mv.fSub, Mv.fMul, Mv.fMod, Mv.fDiv, Mv.fPow, Mv.fLt, Mv.fLe, Mv.fGt, Mv.fGe, Mv.yes2, Mv.fIsN, Mv.fNotN, Mv.isNon, Mv.fIx, Mv.items_tup, Mv.items_new, Mv.list_new, Mv.lstOf_new, Mv.fEq_int, Mv.fNe_int, Mv.fLen_tup, Mv.fMax2, Mv.fMin2, Mv.fInt, Mv.fAbs, Mv.mIsi, Mv.isT, Mv.gN, Mv.gT, Mv.setAll, Mv.wipeM, Mv.R.bind_ok, Mv.R.bind_bad, Mv.R.noX_ok, Mv.R.andS_ok, Mv.R.andS_bad, Mv.S.andS_nx, Mv.S.andS_rt, Mv.S.andS_bad, Mv.S.andS_bk, Mv.S.andS_ct, List.map_cons, List.map_nil, List.cons_append, List.nil_append, List.append_nil, List.replicate_succ, List.replicate_zero, List.length_cons, List.length_nil, List.set_cons_zero, List.set_cons_succ, List.getElem?_cons_zero, List.getElem?_cons_succ, List.getElem?_nil, Nat.reduceAdd, Nat.reduceSub, Nat.reduceEqDiff, Nat.reduceLeDiff, Nat.zero_add, if_true, if_false, Bool.not_true, Bool.not_false, Bool.false_eq_true, decide_true, decide_false, ite_true, ite_false, Option.some.injEq, reduceIte, Mv.mFld, Mv.mIsC, Mv.mMeth, Mv.mMake, Mv.mMakeK, Mv.mEqB, Mv.boolR, Mv.mRev, List.lookup_cons, List.lookup_nil, Nat.reduceBEq, beq_self_eq_true, Mv.ins_new, Mv.set_new, g2, ne, e6', e7, dt]
    refine ⟨_, k + 2, rfl, ?_, ?_, by omega⟩
    · rw [← eh4]
      exact ((((ex.app).app).app).app)
    · rw [← eh4]
      exact ((((d2.app).app).app).app)
noncomputable def G_l_pause_right : List MV → MH → R MV := F_l_pause_right G_l_next G_hurt G_bp G_hp G_healed
noncomputable def G_l_loss_right : List MV → MH → R MV := F_l_loss_right G_l_next G_l_held (F_l_pick G_l_next) G_hurt G_bl G_hl G_healed
noncomputable def G_l_worst_right : List MV → MH → R MV := F_l_worst_right G_settled_of G_period_of G_l_rows G_hurt G_worst_loss
noncomputable def G_l_promise : List MV → MH → R MV := F_l_promise G_l_next G_Promise_init
noncomputable def G_l_keeping : List MV → MH → R MV := F_l_keeping G_l_rule' G_l_missed G_l_next
theorem F_law_eq {ns : List Int} {s : Nat} {h : MH} (q : HasScript h s ns) : ∃ h', F_law G_l_promise G_l_keeping G_l_missed G_l_pause_right G_l_loss_right G_period_of G_l_worst_right [.ref s] h = .ok (.bl true) h' := by
  unfold F_law m_law G_l_promise G_l_keeping G_l_pause_right G_l_loss_right G_l_worst_right
  generalize em : (if (if (ns.length : Int) < 8 then (ns.length : Int) else 8) > 1 then (if (ns.length : Int) < 8 then (ns.length : Int) else 8) else 1) = m
  have hm : 1 ≤ m ∧ m ≤ 8 := by rw [← em]; split <;> split <;> omega
  have b0 : inR 0 = true := inR_of (by omega)
  have bm : inR m = true := inR_of (by omega)
  have b2 : inR 2 = true := inR_of (by omega)
  have b4 : (0 : Int) < 4 ∧ (4 : Int) < 1000000 := by decide
  simp only [Mv.mDef, Mv.mSeq, Mv.mSet, Mv.mRet, Mv.mRetN, Mv.mIfS, Mv.mVar, Mv.mC, Mv.mBin, Mv.mChain, Mv.mCall, Mv.mDo, Mv.mCons, Mv.mNil, Mv.mAndV, Mv.mOrV, Mv.mNotV, Mv.mAsB, Mv.mAndT, Mv.mOrT, Mv.mNotT, Mv.mIf, Mv.mTup, Mv.mLst, Mv.mNext, Mv.mBad, Mv.mDrop, Mv.mPar, Mv.mAsg, Mv.mStore, Mv.mNeg, Mv.fNeg, Mv.mYes, Mv.mNoP, Mv.mPart, Mv.mSl, Mv.fI, Mv.fAdd, Mv.fSub, Mv.fMul, Mv.fMod, Mv.fDiv, Mv.fPow, Mv.fLt, Mv.fLe, Mv.fGt, Mv.fGe, Mv.yes2, Mv.fIsN, Mv.fNotN, Mv.isNon, Mv.fIx, Mv.items_tup, Mv.items_new, Mv.list_new, Mv.lstOf_new, Mv.fEq_int, Mv.fNe_int, Mv.fLen_tup, Mv.fMax2, Mv.fMin2, Mv.fInt, Mv.fAbs, Mv.mIsi, Mv.isT, Mv.gN, Mv.gT, Mv.setAll, Mv.wipeM, Mv.R.bind_ok, Mv.R.bind_bad, Mv.R.noX_ok, Mv.R.andS_ok, Mv.R.andS_bad, Mv.S.andS_nx, Mv.S.andS_rt, Mv.S.andS_bad, Mv.S.andS_bk, Mv.S.andS_ct, List.map_cons, List.map_nil, List.cons_append, List.nil_append, List.append_nil, List.replicate_succ, List.replicate_zero, List.length_cons, List.length_nil, List.set_cons_zero, List.set_cons_succ, List.getElem?_cons_zero, List.getElem?_cons_succ, List.getElem?_nil, Nat.reduceAdd, Nat.reduceSub, Nat.reduceEqDiff, Nat.reduceLeDiff, Nat.zero_add, if_true, if_false, Bool.not_true, Bool.not_false, Bool.false_eq_true, decide_true, decide_false, ite_true, ite_false, Option.some.injEq, reduceIte, fLen_items q.items, ints_length, mFor, mRng3, em, b0, bm, b4, and_self]
  have hr : rngN 0 m 4 ≤ 8 := by
    unfold rngN
    split
    · have : (m - 0 - 1) / 4 ≤ m - 0 - 1 := Int.ediv_le_self _ (by omega)
      omega
    · omega
  generalize hF : forGo _ _ _ _ _ _ _ = t
  revert hF
  refine for_ind (xs := ivs (prog 0 4 (rngN 0 m 4))) (P := fun u => u = t → _)
    (fun i env h' => ∃ (x1 x2 x3 x4 x5 : Option MV), HasScript h' s ns ∧ env = [some (.ref s), x1, x2, x3, x4, x5])
    ?_ ?_ ?_ fuel 0 _ _ ?_ (Nat.zero_le _) (by have := fuel_ge; simp only [ints_length, prog_length]; omega)
  · rintro i env h' _
    exact itR_nx _ _ _ i h'
  · rintro env h' ⟨x1, x2, x3, x4, x5, q, rfl⟩ rfl
    simp only [Mv.mDef, Mv.mSeq, Mv.mSet, Mv.mRet, Mv.mRetN, Mv.mIfS, Mv.mVar, Mv.mC, Mv.mBin, Mv.mChain, Mv.mCall, Mv.mDo, Mv.mCons, Mv.mNil, Mv.mAndV, Mv.mOrV, Mv.mNotV, Mv.mAsB, Mv.mAndT, Mv.mOrT, Mv.mNotT, Mv.mIf, Mv.mTup, Mv.mLst, Mv.mNext, Mv.mBad, Mv.mDrop, Mv.mPar, Mv.mAsg, Mv.mStore, Mv.mNeg, Mv.fNeg, Mv.mYes, Mv.mNoP, Mv.mPart, Mv.mSl, Mv.fI, Mv.fAdd, Mv.fSub, Mv.fMul, Mv.fMod, Mv.fDiv, Mv.fPow, Mv.fLt, Mv.fLe, Mv.fGt, Mv.fGe, Mv.yes2, Mv.fIsN, Mv.fNotN, Mv.isNon, Mv.fIx, Mv.items_tup, Mv.items_new, Mv.list_new, Mv.lstOf_new, Mv.fEq_int, Mv.fNe_int, Mv.fLen_tup, Mv.fMax2, Mv.fMin2, Mv.fInt, Mv.fAbs, Mv.mIsi, Mv.isT, Mv.gN, Mv.gT, Mv.setAll, Mv.wipeM, Mv.R.bind_ok, Mv.R.bind_bad, Mv.R.noX_ok, Mv.R.andS_ok, Mv.R.andS_bad, Mv.S.andS_nx, Mv.S.andS_rt, Mv.S.andS_bad, Mv.S.andS_bk, Mv.S.andS_ct, List.map_cons, List.map_nil, List.cons_append, List.nil_append, List.append_nil, List.replicate_succ, List.replicate_zero, List.length_cons, List.length_nil, List.set_cons_zero, List.set_cons_succ, List.getElem?_cons_zero, List.getElem?_cons_succ, List.getElem?_nil, Nat.reduceAdd, Nat.reduceSub, Nat.reduceEqDiff, Nat.reduceLeDiff, Nat.zero_add, if_true, if_false, Bool.not_true, Bool.not_false, Bool.false_eq_true, decide_true, decide_false, ite_true, ite_false, Option.some.injEq, reduceIte]
    exact ⟨_, rfl⟩
  · rintro i x env h' hx ⟨x1, x2, x3, x4, x5, q, rfl⟩
    obtain ⟨y, hy, rfl⟩ := mem_ints.mp (List.mem_of_getElem? hx)
    obtain ⟨j, _, ey⟩ := mem_prog.mp hy
    have hn : s ≠ h'.length := fun z => by have := q.lt; omega
    have d : Draw ns s h'.length (h' ++ [.lst [.ref s, .int y, .int 0]]) 0 := ⟨q.app, hn, y.toNat, by
      have : ((y.toNat : Nat) : Int) = y := by omega
      unfold drawO
      rw [this]
      exact look_new _ _⟩
    obtain ⟨pm, P, h2, k2, e1, hP, ok, pn, ex2, d2, hk2⟩ := F_l_promise_eq d (by omega)
    obtain ⟨r, h4, k4, e4, v, ex4, d4, hk4⟩ := F_l_keeping_eq d2 (by omega) hP ok pn (most := 10) (by decide) (by decide)
    have hP4 := hP.ext ex4 pn
    have hc3 : ∀ m, m ≤ 3 → m ≤ cap := fun m hm => by unfold cap; omega
    have em := G_l_missed_eq hP4 ok v
    refine ⟨_, rfl, ?_⟩
    cases qv : judgeV P r with
    | misses a b =>
      have hmv : missM P r = .tup [.int a, .int b] := by unfold missM; rw [qv]
      rw [hmv] at em
      simp only [Mv.mDef, Mv.mSeq, Mv.mSet, Mv.mRet, Mv.mRetN, Mv.mIfS, Mv.mVar, Mv.mC, Mv.mBin, Mv.mChain, Mv.mCall, Mv.mDo, Mv.mCons, Mv.mNil, Mv.mAndV, Mv.mOrV, Mv.mNotV, Mv.mAsB, Mv.mAndT, Mv.mOrT, Mv.mNotT, Mv.mIf, Mv.mTup, Mv.mLst, Mv.mNext, Mv.mBad, Mv.mDrop, Mv.mPar, Mv.mAsg, Mv.mStore, Mv.mNeg, Mv.fNeg, Mv.mYes, Mv.mNoP, Mv.mPart, Mv.mSl, Mv.fI, Mv.fAdd, Mv.fSub, Mv.fMul, Mv.fMod, Mv.fDiv, Mv.fPow, Mv.fLt, Mv.fLe, Mv.fGt, Mv.fGe, Mv.yes2, Mv.fIsN, Mv.fNotN, Mv.isNon, Mv.fIx, Mv.items_tup, Mv.items_new, Mv.list_new, Mv.lstOf_new, Mv.fEq_int, Mv.fNe_int, Mv.fLen_tup, Mv.fMax2, Mv.fMin2, Mv.fInt, Mv.fAbs, Mv.mIsi, Mv.isT, Mv.gN, Mv.gT, Mv.setAll, Mv.wipeM, Mv.R.bind_ok, Mv.R.bind_bad, Mv.R.noX_ok, Mv.R.andS_ok, Mv.R.andS_bad, Mv.S.andS_nx, Mv.S.andS_rt, Mv.S.andS_bad, Mv.S.andS_bk, Mv.S.andS_ct, List.map_cons, List.map_nil, List.cons_append, List.nil_append, List.append_nil, List.replicate_succ, List.replicate_zero, List.length_cons, List.length_nil, List.set_cons_zero, List.set_cons_succ, List.getElem?_cons_zero, List.getElem?_cons_succ, List.getElem?_nil, Nat.reduceAdd, Nat.reduceSub, Nat.reduceEqDiff, Nat.reduceLeDiff, Nat.zero_add, if_true, if_false, Bool.not_true, Bool.not_false, Bool.false_eq_true, decide_true, decide_false, ite_true, ite_false, Option.some.injEq, reduceIte, hc3 _ (Nat.le_refl 3), e1, e4, em]
      exact ⟨_, _, _, _, _, d4.scr, rfl⟩
    | keeps rows =>
      have hmv : missM P r = .non := by unfold missM; rw [qv]
      rw [hmv] at em
      have kp : KeptAt h4 pm P r := ⟨hP4, ok, v, by rw [qv]; rfl⟩
      obtain ⟨h5, k5, e5, ex5, d5, hk5⟩ := F_l_pause_right_eq d4 (by omega) kp pn
      have kp5 := kp.ext ex5 pn
      obtain ⟨h6, k6, e6, ex6, d6, hk6⟩ := F_l_loss_right_eq d5 (by omega) kp5 pn
      have kp6 := kp5.ext ex6 pn
      obtain ⟨h7, k7, e7, ex7, d7, hk7⟩ := F_l_pause_right_eq d6 (by omega) kp6 pn
      have kp7 := kp6.ext ex7 pn
      obtain ⟨h8, k8, e8, ex8, d8, hk8⟩ := F_l_loss_right_eq d7 (by omega) kp7 pn
      have kp8 := kp7.ext ex8 pn
      obtain ⟨g9, e9⟩ := F_l_worst_right_eq kp8
      have hf : 3 ≤ fuel := Nat.le_trans (by decide) fuel_ge
      obtain ⟨fu, hfu⟩ : ∃ fu, fuel = fu + 3 := ⟨fuel - 3, by omega⟩
      have i0 : itR 0 1 (2 : Int).toNat 0 = fun _ => .item (.int 0) := rfl
      have i1 : itR 0 1 (2 : Int).toNat 1 = fun _ => .item (.int 1) := rfl
      have i2 : itR 0 1 (2 : Int).toNat 2 = fun _ => .stop := rfl
      simp only [Mv.mDef, Mv.mSeq, Mv.mSet, Mv.mRet, Mv.mRetN, Mv.mIfS, Mv.mVar, Mv.mC, Mv.mBin, Mv.mChain, Mv.mCall, Mv.mDo, Mv.mCons, Mv.mNil, Mv.mAndV, Mv.mOrV, Mv.mNotV, Mv.mAsB, Mv.mAndT, Mv.mOrT, Mv.mNotT, Mv.mIf, Mv.mTup, Mv.mLst, Mv.mNext, Mv.mBad, Mv.mDrop, Mv.mPar, Mv.mAsg, Mv.mStore, Mv.mNeg, Mv.fNeg, Mv.mYes, Mv.mNoP, Mv.mPart, Mv.mSl, Mv.fI, Mv.fAdd, Mv.fSub, Mv.fMul, Mv.fMod, Mv.fDiv, Mv.fPow, Mv.fLt, Mv.fLe, Mv.fGt, Mv.fGe, Mv.yes2, Mv.fIsN, Mv.fNotN, Mv.isNon, Mv.fIx, Mv.items_tup, Mv.items_new, Mv.list_new, Mv.lstOf_new, Mv.fEq_int, Mv.fNe_int, Mv.fLen_tup, Mv.fMax2, Mv.fMin2, Mv.fInt, Mv.fAbs, Mv.mIsi, Mv.isT, Mv.gN, Mv.gT, Mv.setAll, Mv.wipeM, Mv.R.bind_ok, Mv.R.bind_bad, Mv.R.noX_ok, Mv.R.andS_ok, Mv.R.andS_bad, Mv.S.andS_nx, Mv.S.andS_rt, Mv.S.andS_bad, Mv.S.andS_bk, Mv.S.andS_ct, List.map_cons, List.map_nil, List.cons_append, List.nil_append, List.append_nil, List.replicate_succ, List.replicate_zero, List.length_cons, List.length_nil, List.set_cons_zero, List.set_cons_succ, List.getElem?_cons_zero, List.getElem?_cons_succ, List.getElem?_nil, Nat.reduceAdd, Nat.reduceSub, Nat.reduceEqDiff, Nat.reduceLeDiff, Nat.zero_add, if_true, if_false, Bool.not_true, Bool.not_false, Bool.false_eq_true, decide_true, decide_false, ite_true, ite_false, Option.some.injEq, reduceIte, hc3 _ (Nat.le_refl 3), e1, e4, em, mFor, mRng1, b2, hfu, forGo, i0, i1, i2, S.turn, e5, e6, e7, e8, G_period_of_eq v]
      by_cases hp : ((periodN r : Nat) : Int) < 7
      · have hd : decide (((periodN r : Nat) : Int) < 7) = true := decide_eq_true hp
        simp only [Mv.mDef, Mv.mSeq, Mv.mSet, Mv.mRet, Mv.mRetN, Mv.mIfS, Mv.mVar, Mv.mC, Mv.mBin, Mv.mChain, Mv.mCall, Mv.mDo, Mv.mCons, Mv.mNil, Mv.mAndV, Mv.mOrV, Mv.mNotV, Mv.mAsB, Mv.mAndT, Mv.mOrT, Mv.mNotT, Mv.mIf, Mv.mTup, Mv.mLst, Mv.mNext, Mv.mBad, Mv.mDrop, Mv.mPar, Mv.mAsg, Mv.mStore, Mv.mNeg, Mv.fNeg, Mv.mYes, Mv.mNoP, Mv.mPart, Mv.mSl, Mv.fI, Mv.fAdd, Mv.fSub, Mv.fMul, Mv.fMod, Mv.fDiv, Mv.fPow, Mv.fLt, Mv.fLe, Mv.fGt, Mv.fGe, Mv.yes2, Mv.fIsN, Mv.fNotN, Mv.isNon, Mv.fIx, Mv.items_tup, Mv.items_new, Mv.list_new, Mv.lstOf_new, Mv.fEq_int, Mv.fNe_int, Mv.fLen_tup, Mv.fMax2, Mv.fMin2, Mv.fInt, Mv.fAbs, Mv.mIsi, Mv.isT, Mv.gN, Mv.gT, Mv.setAll, Mv.wipeM, Mv.R.bind_ok, Mv.R.bind_bad, Mv.R.noX_ok, Mv.R.andS_ok, Mv.R.andS_bad, Mv.S.andS_nx, Mv.S.andS_rt, Mv.S.andS_bad, Mv.S.andS_bk, Mv.S.andS_ct, List.map_cons, List.map_nil, List.cons_append, List.nil_append, List.append_nil, List.replicate_succ, List.replicate_zero, List.length_cons, List.length_nil, List.set_cons_zero, List.set_cons_succ, List.getElem?_cons_zero, List.getElem?_cons_succ, List.getElem?_nil, Nat.reduceAdd, Nat.reduceSub, Nat.reduceEqDiff, Nat.reduceLeDiff, Nat.zero_add, if_true, if_false, Bool.not_true, Bool.not_false, Bool.false_eq_true, decide_true, decide_false, ite_true, ite_false, Option.some.injEq, reduceIte, hd, e9]
        exact ⟨_, _, _, _, _, d8.scr.app, rfl⟩
      · have hd : decide (((periodN r : Nat) : Int) < 7) = false := decide_eq_false hp
        simp only [Mv.mDef, Mv.mSeq, Mv.mSet, Mv.mRet, Mv.mRetN, Mv.mIfS, Mv.mVar, Mv.mC, Mv.mBin, Mv.mChain, Mv.mCall, Mv.mDo, Mv.mCons, Mv.mNil, Mv.mAndV, Mv.mOrV, Mv.mNotV, Mv.mAsB, Mv.mAndT, Mv.mOrT, Mv.mNotT, Mv.mIf, Mv.mTup, Mv.mLst, Mv.mNext, Mv.mBad, Mv.mDrop, Mv.mPar, Mv.mAsg, Mv.mStore, Mv.mNeg, Mv.fNeg, Mv.mYes, Mv.mNoP, Mv.mPart, Mv.mSl, Mv.fI, Mv.fAdd, Mv.fSub, Mv.fMul, Mv.fMod, Mv.fDiv, Mv.fPow, Mv.fLt, Mv.fLe, Mv.fGt, Mv.fGe, Mv.yes2, Mv.fIsN, Mv.fNotN, Mv.isNon, Mv.fIx, Mv.items_tup, Mv.items_new, Mv.list_new, Mv.lstOf_new, Mv.fEq_int, Mv.fNe_int, Mv.fLen_tup, Mv.fMax2, Mv.fMin2, Mv.fInt, Mv.fAbs, Mv.mIsi, Mv.isT, Mv.gN, Mv.gT, Mv.setAll, Mv.wipeM, Mv.R.bind_ok, Mv.R.bind_bad, Mv.R.noX_ok, Mv.R.andS_ok, Mv.R.andS_bad, Mv.S.andS_nx, Mv.S.andS_rt, Mv.S.andS_bad, Mv.S.andS_bk, Mv.S.andS_ct, List.map_cons, List.map_nil, List.cons_append, List.nil_append, List.append_nil, List.replicate_succ, List.replicate_zero, List.length_cons, List.length_nil, List.set_cons_zero, List.set_cons_succ, List.getElem?_cons_zero, List.getElem?_cons_succ, List.getElem?_nil, Nat.reduceAdd, Nat.reduceSub, Nat.reduceEqDiff, Nat.reduceLeDiff, Nat.zero_add, if_true, if_false, Bool.not_true, Bool.not_false, Bool.false_eq_true, decide_true, decide_false, ite_true, ite_false, Option.some.injEq, reduceIte, hd]
        exact ⟨_, _, _, _, _, d8.scr, rfl⟩
  · exact ⟨_, _, _, _, _, q, rfl⟩
end Mv

set_option maxHeartbeats 4000000
namespace Mv
open PySem PySem.Spec L2
open PyProof.Rows hiding St
def top (i : Nat) : Stmt := PySem.Challenge.pw_thinsnaps_k34_whole_pauses.main.body.getD i (.Pass ⟨0, 0, 0, 0⟩)
/-- the built-in names that are read, the constants of the module, the classes -/
structure Glb (K : PySem.W.Frag) (mg : Str → Option Value) : Prop where
  b_all : mg "all" = none
  b_any : mg "any" = none
  b_bool : mg "bool" = none
  b_enumerate : mg "enumerate" = none
  b_int : mg "int" = none
  b_isinstance : mg "isinstance" = none
  b_len : mg "len" = none
  b_list : mg "list" = none
  b_max : mg "max" = none
  b_min : mg "min" = none
  b_range : mg "range" = none
  b_tuple : mg "tuple" = none
  c_MAX_BASE : ∃ t, mg "MAX_BASE" = some (.int 3 t)
  c_MAX_EVERY : ∃ t, mg "MAX_EVERY" = some (.int 6 t)
  c_MAX_HORIZON : ∃ t, mg "MAX_HORIZON" = some (.int 9 t)
  c_MAX_PAIRS : ∃ t, mg "MAX_PAIRS" = some (.int 3 t)
  c_MAX_PARTS : ∃ t, mg "MAX_PARTS" = some (.int 4 t)
  c_MAX_REACH : ∃ t, mg "MAX_REACH" = some (.int 6 t)
  c_MAX_TICKS : ∃ t, mg "MAX_TICKS" = some (.int 12 t)
  c_MAX_TIME : ∃ t, mg "MAX_TIME" = some (.int 1000 t)
  c_MAX_UNTIL : ∃ t, mg "MAX_UNTIL" = some (.int 12 t)
  f_age : FldF ⟨K, mg⟩ "age" [(7, 1)]
  f_far : FldF ⟨K, mg⟩ "far" [(0, 0)]
  f_least : FldF ⟨K, mg⟩ "least" [(0, 1)]
  f_many : FldF ⟨K, mg⟩ "many" [(0, 3)]
  f_parts : FldF ⟨K, mg⟩ "parts" [(0, 2)]
  f_states : FldF ⟨K, mg⟩ "states" [(6, 0)]
  f_time : FldF ⟨K, mg⟩ "time" [(7, 0)]
  i_Keeps : IsiF ⟨K, mg⟩ "Keeps" [(6, true), (7, false)]
  i_Misses : IsiF ⟨K, mg⟩ "Misses" [(6, false), (7, true)]
  i_Promise : IsiF ⟨K, mg⟩ "Promise" [(0, true)]
section
variable {P : Program} {w : World} {K : PySem.W.Frag} {mg : Str → Option Value} {base : Heap}
abbrev s_is_integer : Stmt := top 12
theorem sc_is_integer : FnScope ["value", "low", "high"] ["value", "low", "high"] (defScope s_is_integer) := ⟨rfl, rfl, rfl, by decide +kernel, rfl, by decide +kernel, by decide +kernel⟩
theorem w_is_integer {f : Addr} {fd : FuncData} (B : Glb K mg) (F : Fun K "is_integer" "is_integer" s_is_integer f fd) (hm : mg "is_integer" = some (.ref f)) : Def P w K mg base 1 "is_integer" 3 (F_is_integer) := by
  refine ⟨f, fd, ["value", "low", "high"], def_ok F sc_is_integer fun cdv A outer s H E hr => ?_, hm, F.kp, F.binds fun _ _ _ _ _ _ us hl => match us, hl with | [_, _, _], _ => rfl⟩
  exact ss_one (ss_ret (se_and (se_isi .int rfl B.b_isinstance rfl B.b_int (by decide +kernel) (se_var 0)) (se_and (se_not (se_isi .bool rfl B.b_isinstance rfl B.b_bool (by decide +kernel) (se_var 0))) (se_one (se_chain op_le os_le op_le os_le (se_var 1) (se_var 0) (se_var 2))))))
abbrev s_is_share : Stmt := top 13
theorem sc_is_share : FnScope ["value"] ["value"] (defScope s_is_share) := ⟨rfl, rfl, rfl, by decide +kernel, rfl, by decide +kernel, by decide +kernel⟩
theorem w_is_share {G_is_integer : List MV → MH → R MV} {f : Addr} {fd : FuncData} (B : Glb K mg) (D_is_integer : Def P w K mg base 1 "is_integer" 3 G_is_integer) (F : Fun K "is_share" "is_share" s_is_share f fd) (hm : mg "is_share" = some (.ref f)) : Def P w K mg base 2 "is_share" 1 (F_is_share G_is_integer) := by
  refine ⟨f, fd, ["value"], def_ok F sc_is_share fun cdv A outer s H E hr => ?_, hm, F.kp, F.binds fun _ _ _ _ _ _ us hl => match us, hl with | [_], _ => rfl⟩
  exact ss_cons (ss_if (st_w (sw_or (st_not (st_val (se_isi .tuple rfl B.b_isinstance rfl B.b_tuple (by decide +kernel) (se_var 0)))) (sw_or1 (st_cmp (op_neD hr.units) os_ne (se_callB call_lenU cs_len rfl B.b_len boot_len (sa_cons (se_var 0) (sa_nil))) (se_int))))) (ss_one (ss_ret (se_bl))) (ss_nil))
    (ss_one (ss_ret (se_and (se_do D_is_integer hr rfl (sa_cons (se_ix (se_var 0) (se_int)) (sa_cons (se_int) (sa_cons (se_globI rfl B.c_MAX_PARTS) (sa_nil))))) (se_one (se_do D_is_integer hr rfl (sa_cons (se_ix (se_var 0) (se_int)) (sa_cons (se_int) (sa_cons (se_globI rfl B.c_MAX_PARTS) (sa_nil)))))))))
abbrev s_Promise_init : Stmt := inClass (top 14) 0
theorem sc_Promise_init : FnScope ["self", "reach", "base", "share", "copies"] ["self", "reach", "base", "share", "copies"] (defScope s_Promise_init) := ⟨rfl, rfl, rfl, by decide +kernel, rfl, by decide +kernel, by decide +kernel⟩
theorem w_Promise_init {G_is_integer : List MV → MH → R MV} {G_is_share : List MV → MH → R MV} {f C : Addr} {fd : FuncData} {fl : List Str} (B : Glb K mg) (D_is_integer : Def P w K mg base 1 "is_integer" 3 G_is_integer) (D_is_share : Def P w K mg base 2 "is_share" 1 G_is_share) (F : Fun K "__init__" "Promise.__init__" s_Promise_init f fd) (ht : tab[0]? = some (("Promise" : Str), fl)) (hm : mg "Promise" = some (.ref C)) (cl : Cls K C) (M : Mk K C f) : KDef P w K mg base 3 0 3 ["share", "copies"] (F_Promise_init G_is_integer G_is_share) := by
  obtain ⟨oc, od, kV, doc, pm, an, cdv0, ct, osl, rfl, _⟩ := F.ex
  refine ⟨"Promise", fl, C, f, _, ["self", "reach", "base", "share", "copies"], ht, hm, cl, M, def_ok F sc_Promise_init fun cdv A outer s H E hr => ?_, fun z => (by cases z), ⟨fun s us ws _ h1 h2 => match us, ws, h1, h2 with | [_, _, _], [_, _], _, _ => .of_eq rfl, fun r1 r2 => Vals.append r1 r2⟩⟩
  exact ss_cons (ss_if (st_not (st_val (se_do D_is_integer hr rfl (sa_cons (se_var 1) (sa_cons (se_int) (sa_cons (se_globI rfl B.c_MAX_REACH) (sa_nil))))))) (ss_one (ss_never)) (ss_nil))
    (ss_cons (ss_if (st_not (st_val (se_do D_is_integer hr rfl (sa_cons (se_var 2) (sa_cons (se_int) (sa_cons (se_globI rfl B.c_MAX_BASE) (sa_nil))))))) (ss_one (ss_never)) (ss_nil))
    (ss_cons (ss_if (st_w (sw_or (st_not (st_val (se_do D_is_share hr rfl (sa_cons (se_var 3) (sa_nil))))) (sw_or1 (st_cmp op_gt os_gt (se_op op_addU os_add (se_op op_addU os_add (se_var 1) (se_var 2)) (se_op op_fdivW os_div (se_op op_mulB os_mul (se_var 1) (se_ix (se_var 3) (se_int))) (se_ix (se_var 3) (se_int)))) (se_globI rfl B.c_MAX_HORIZON))))) (ss_one (ss_never)) (ss_nil))
    (ss_cons (ss_if (st_not (st_val (se_do D_is_integer hr rfl (sa_cons (se_var 4) (sa_cons (se_int) (sa_cons (se_int) (sa_nil))))))) (ss_one (ss_never)) (ss_nil))
    (ss_cons (ss_fld B.f_far (se_var 0) (se_var 1))
    (ss_cons (ss_fld B.f_least (se_var 0) (se_var 2))
    (ss_cons (ss_fld B.f_parts (se_var 0) (se_var 3))
    (ss_one (ss_fld B.f_many (se_var 0) (se_var 4)))))))))
abbrev s_Promise_reach : Stmt := inClass (top 14) 1
theorem sc_Promise_reach : FnScope ["self"] ["self"] (defScope s_Promise_reach) := ⟨rfl, rfl, rfl, by decide +kernel, rfl, by decide +kernel, by decide +kernel⟩
theorem w_Promise_reach {f C : Addr} {fd : FuncData} {fl : List Str} (B : Glb K mg) (F : Fun K "reach" "Promise.reach" s_Promise_reach f fd) (ht : tab[0]? = some (("Promise" : Str), fl)) (hm : mg "Promise" = some (.ref C)) (cl : Cls K C) {p : Addr} (M : PropOf K C "reach" p f) : PDef P w K mg base 1 0 "reach" (F_Promise_reach) := by
  refine ⟨"Promise", fl, C, p, f, fd, ["self"], ht, hm, cl, M, def_ok F sc_Promise_reach fun cdv A outer s H E hr => ?_, F.binds fun _ _ _ _ _ _ us hl => match us, hl with | [_], _ => rfl⟩
  exact ss_one (ss_ret (se_fld B.f_far (se_var 0)))
abbrev s_Promise_base : Stmt := inClass (top 14) 2
theorem sc_Promise_base : FnScope ["self"] ["self"] (defScope s_Promise_base) := ⟨rfl, rfl, rfl, by decide +kernel, rfl, by decide +kernel, by decide +kernel⟩
theorem w_Promise_base {f C : Addr} {fd : FuncData} {fl : List Str} (B : Glb K mg) (F : Fun K "base" "Promise.base" s_Promise_base f fd) (ht : tab[0]? = some (("Promise" : Str), fl)) (hm : mg "Promise" = some (.ref C)) (cl : Cls K C) {p : Addr} (M : PropOf K C "base" p f) : PDef P w K mg base 1 0 "base" (F_Promise_base) := by
  refine ⟨"Promise", fl, C, p, f, fd, ["self"], ht, hm, cl, M, def_ok F sc_Promise_base fun cdv A outer s H E hr => ?_, F.binds fun _ _ _ _ _ _ us hl => match us, hl with | [_], _ => rfl⟩
  exact ss_one (ss_ret (se_fld B.f_least (se_var 0)))
abbrev s_Promise_share : Stmt := inClass (top 14) 3
theorem sc_Promise_share : FnScope ["self"] ["self"] (defScope s_Promise_share) := ⟨rfl, rfl, rfl, by decide +kernel, rfl, by decide +kernel, by decide +kernel⟩
theorem w_Promise_share {f C : Addr} {fd : FuncData} {fl : List Str} (B : Glb K mg) (F : Fun K "share" "Promise.share" s_Promise_share f fd) (ht : tab[0]? = some (("Promise" : Str), fl)) (hm : mg "Promise" = some (.ref C)) (cl : Cls K C) {p : Addr} (M : PropOf K C "share" p f) : PDef P w K mg base 1 0 "share" (F_Promise_share) := by
  refine ⟨"Promise", fl, C, p, f, fd, ["self"], ht, hm, cl, M, def_ok F sc_Promise_share fun cdv A outer s H E hr => ?_, F.binds fun _ _ _ _ _ _ us hl => match us, hl with | [_], _ => rfl⟩
  exact ss_one (ss_ret (se_fld B.f_parts (se_var 0)))
abbrev s_Promise_copies : Stmt := inClass (top 14) 4
theorem sc_Promise_copies : FnScope ["self"] ["self"] (defScope s_Promise_copies) := ⟨rfl, rfl, rfl, by decide +kernel, rfl, by decide +kernel, by decide +kernel⟩
theorem w_Promise_copies {f C : Addr} {fd : FuncData} {fl : List Str} (B : Glb K mg) (F : Fun K "copies" "Promise.copies" s_Promise_copies f fd) (ht : tab[0]? = some (("Promise" : Str), fl)) (hm : mg "Promise" = some (.ref C)) (cl : Cls K C) {p : Addr} (M : PropOf K C "copies" p f) : PDef P w K mg base 1 0 "copies" (F_Promise_copies) := by
  refine ⟨"Promise", fl, C, p, f, fd, ["self"], ht, hm, cl, M, def_ok F sc_Promise_copies fun cdv A outer s H E hr => ?_, F.binds fun _ _ _ _ _ _ us hl => match us, hl with | [_], _ => rfl⟩
  exact ss_one (ss_ret (se_fld B.f_many (se_var 0)))
abbrev s_Promise_all_parts : Stmt := inClass (top 14) 6
theorem sc_Promise_all_parts : FnScope ["self"] ["self"] (defScope s_Promise_all_parts) := ⟨rfl, rfl, rfl, by decide +kernel, rfl, by decide +kernel, by decide +kernel⟩
theorem w_Promise_all_parts {f C : Addr} {fd : FuncData} {fl : List Str} (B : Glb K mg) (F : Fun K "all_parts" "Promise.all_parts" s_Promise_all_parts f fd) (ht : tab[0]? = some (("Promise" : Str), fl)) (hm : mg "Promise" = some (.ref C)) (cl : Cls K C) (M : Meth K C "all_parts" f) (hn : ("all_parts" : Str) ∉ fl) : MDef P w K mg base 1 0 "all_parts" 1 (F_Promise_all_parts) := by
  refine ⟨"Promise", fl, C, f, fd, ["self"], ht, hm, cl, M, def_ok F sc_Promise_all_parts fun cdv A outer s H E hr => ?_, F.binds fun _ _ _ _ _ _ us hl => match us, hl with | [_], _ => rfl, hn⟩
  exact ss_one (ss_ret (se_lst (sa_cons (se_fld B.f_far (se_var 0)) (sa_cons (se_fld B.f_least (se_var 0)) (sa_cons (se_fld B.f_parts (se_var 0)) (sa_cons (se_fld B.f_many (se_var 0)) (sa_nil)))))))
abbrev s_Promise_eq : Stmt := inClass (top 14) 5
theorem sc_Promise_eq : FnScope ["self", "other"] ["self", "other"] (defScope s_Promise_eq) := ⟨rfl, rfl, rfl, by decide +kernel, rfl, by decide +kernel, by decide +kernel⟩
theorem w_Promise_eq {G_Promise_all_parts : List MV → MH → R MV} {f C : Addr} {fd : FuncData} {fl : List Str} (B : Glb K mg) (D_Promise_all_parts : MDef P w K mg base 1 0 "all_parts" 1 G_Promise_all_parts) (F : Fun K "__eq__" "Promise.__eq__" s_Promise_eq f fd) (ht : tab[0]? = some (("Promise" : Str), fl)) (hm : mg "Promise" = some (.ref C)) (cl : Cls K C) (M : Meth K C "__eq__" f) (hn : ("__eq__" : Str) ∉ fl) : MDef P w K mg base 2 0 "__eq__" 2 (F_Promise_eq G_Promise_all_parts) := by
  refine ⟨"Promise", fl, C, f, fd, ["self", "other"], ht, hm, cl, M, def_ok F sc_Promise_eq fun cdv A outer s H E hr => ?_, F.binds fun _ _ _ _ _ _ us hl => match us, hl with | [_, _], _ => rfl, hn⟩
  exact ss_one (ss_ret (se_and (se_isC B.i_Promise rfl B.b_isinstance rfl (se_var 1)) (se_one (se_cmp (op_eqD hr.units) os_eq (se_meth01 D_Promise_all_parts hr (se_var 0)) (se_meth01 D_Promise_all_parts hr (se_var 1))))))
abbrev s__wall : Stmt := top 0
theorem sc__wall : FnScope ["k"] ["k"] (defScope s__wall) := ⟨rfl, rfl, rfl, by decide +kernel, rfl, by decide +kernel, by decide +kernel⟩
theorem w__wall {f : Addr} {fd : FuncData} (B : Glb K mg) (F : Fun K "_wall" "_wall" s__wall f fd) (hm : mg "_wall" = some (.ref f)) : Def P w K mg base 1 "_wall" 1 (F__wall) := by
  refine ⟨f, fd, ["k"], def_ok F sc__wall fun cdv A outer s H E hr => ?_, hm, F.kp, F.binds fun _ _ _ _ _ _ us hl => match us, hl with | [_], _ => rfl⟩
  exact ss_one (ss_while PassesOwn.never (st_val (se_bl)) (ss_one (ss_pass)))
abbrev s_Promise_slack : Stmt := inClass (top 14) 7
theorem sc_Promise_slack : FnScope ["self", "age"] ["self", "age"] (defScope s_Promise_slack) := ⟨rfl, rfl, rfl, by decide +kernel, rfl, by decide +kernel, by decide +kernel⟩
theorem w_Promise_slack {G__wall : List MV → MH → R MV} {f C : Addr} {fd : FuncData} {fl : List Str} (B : Glb K mg) (D__wall : Def P w K mg base 1 "_wall" 1 G__wall) (F : Fun K "slack" "Promise.slack" s_Promise_slack f fd) (ht : tab[0]? = some (("Promise" : Str), fl)) (hm : mg "Promise" = some (.ref C)) (cl : Cls K C) (M : Meth K C "slack" f) (hn : ("slack" : Str) ∉ fl) : MDef P w K mg base 2 0 "slack" 2 (F_Promise_slack G__wall) := by
  refine ⟨"Promise", fl, C, f, fd, ["self", "age"], ht, hm, cl, M, def_ok F sc_Promise_slack fun cdv A outer s H E hr => ?_, F.binds fun _ _ _ _ _ _ us hl => match us, hl with | [_, _], _ => rfl, hn⟩
  exact ss_one (ss_expr (se_do D__wall hr rfl (sa_cons (se_int) (sa_nil))))
abbrev s_slack_at : Stmt := top 15
theorem sc_slack_at : FnScope ["promise", "age"] ["promise", "age"] (defScope s_slack_at) := ⟨rfl, rfl, rfl, by decide +kernel, rfl, by decide +kernel, by decide +kernel⟩
theorem w_slack_at {f : Addr} {fd : FuncData} (B : Glb K mg) (F : Fun K "slack_at" "slack_at" s_slack_at f fd) (hm : mg "slack_at" = some (.ref f)) : Def P w K mg base 1 "slack_at" 2 (F_slack_at) := by
  refine ⟨f, fd, ["promise", "age"], def_ok F sc_slack_at fun cdv A outer s H E hr => ?_, hm, F.kp, F.binds fun _ _ _ _ _ _ us hl => match us, hl with | [_, _], _ => rfl⟩
  exact ss_one (ss_ret (se_op op_addU os_add (se_fld B.f_least (se_var 0)) (se_op op_fdivW os_div (se_op op_mulB os_mul (se_var 1) (se_ix (se_fld B.f_parts (se_var 0)) (se_int))) (se_ix (se_fld B.f_parts (se_var 0)) (se_int)))))
abbrev s_horizon_of : Stmt := top 16
theorem sc_horizon_of : FnScope ["promise"] ["promise"] (defScope s_horizon_of) := ⟨rfl, rfl, rfl, by decide +kernel, rfl, by decide +kernel, by decide +kernel⟩
theorem w_horizon_of {G_slack_at : List MV → MH → R MV} {f : Addr} {fd : FuncData} (B : Glb K mg) (D_slack_at : Def P w K mg base 1 "slack_at" 2 G_slack_at) (F : Fun K "horizon_of" "horizon_of" s_horizon_of f fd) (hm : mg "horizon_of" = some (.ref f)) : Def P w K mg base 2 "horizon_of" 1 (F_horizon_of G_slack_at) := by
  refine ⟨f, fd, ["promise"], def_ok F sc_horizon_of fun cdv A outer s H E hr => ?_, hm, F.kp, F.binds fun _ _ _ _ _ _ us hl => match us, hl with | [_], _ => rfl⟩
  exact ss_one (ss_ret (se_op op_addU os_add (se_fld B.f_far (se_var 0)) (se_do D_slack_at hr rfl (sa_cons (se_var 0) (sa_cons (se_fld B.f_far (se_var 0)) (sa_nil))))))
abbrev s_Promise_horizon : Stmt := inClass (top 14) 8
theorem sc_Promise_horizon : FnScope ["self"] ["self"] (defScope s_Promise_horizon) := ⟨rfl, rfl, rfl, by decide +kernel, rfl, by decide +kernel, by decide +kernel⟩
theorem w_Promise_horizon {G_horizon_of : List MV → MH → R MV} {f C : Addr} {fd : FuncData} {fl : List Str} (B : Glb K mg) (D_horizon_of : Def P w K mg base 2 "horizon_of" 1 G_horizon_of) (F : Fun K "horizon" "Promise.horizon" s_Promise_horizon f fd) (ht : tab[0]? = some (("Promise" : Str), fl)) (hm : mg "Promise" = some (.ref C)) (cl : Cls K C) (M : Meth K C "horizon" f) (hn : ("horizon" : Str) ∉ fl) : MDef P w K mg base 3 0 "horizon" 1 (F_Promise_horizon G_horizon_of) := by
  refine ⟨"Promise", fl, C, f, fd, ["self"], ht, hm, cl, M, def_ok F sc_Promise_horizon fun cdv A outer s H E hr => ?_, F.binds fun _ _ _ _ _ _ us hl => match us, hl with | [_], _ => rfl, hn⟩
  exact ss_one (ss_ret (se_do D_horizon_of hr rfl (sa_cons (se_var 0) (sa_nil))))
abbrev s_Keeps_init : Stmt := inClass (top 40) 0
theorem sc_Keeps_init : FnScope ["self", "states"] ["self", "states"] (defScope s_Keeps_init) := ⟨rfl, rfl, rfl, by decide +kernel, rfl, by decide +kernel, by decide +kernel⟩
theorem w_Keeps_init {f C : Addr} {fd : FuncData} {fl : List Str} (B : Glb K mg) (F : Fun K "__init__" "Keeps.__init__" s_Keeps_init f fd) (ht : tab[6]? = some (("Keeps" : Str), fl)) (hm : mg "Keeps" = some (.ref C)) (cl : Cls K C) (M : Mk K C f) : KDef P w K mg base 1 6 2 [] (F_Keeps_init) := by
  obtain ⟨oc, od, kV, doc, pm, an, cdv0, ct, osl, rfl, _⟩ := F.ex
  refine ⟨"Keeps", fl, C, f, _, ["self", "states"], ht, hm, cl, M, def_ok F sc_Keeps_init fun cdv A outer s H E hr => ?_, fun z => (F.binds fun _ _ _ _ _ _ us hl => match us, hl with | [_, _], _ => rfl), ⟨fun s us ws _ h1 h2 => match us, ws, h1, h2 with | [_, _], [], _, _ => .of_eq rfl, fun r1 r2 => Vals.append r1 r2⟩⟩
  exact ss_one (ss_fld B.f_states (se_var 0) (se_callTy call_list_of cs_list rfl B.b_list (by decide +kernel) (sa_cons (se_var 1) (sa_nil))))
abbrev s_Keeps_eq : Stmt := inClass (top 40) 1
theorem sc_Keeps_eq : FnScope ["self", "other"] ["self", "other"] (defScope s_Keeps_eq) := ⟨rfl, rfl, rfl, by decide +kernel, rfl, by decide +kernel, by decide +kernel⟩
theorem w_Keeps_eq {f C : Addr} {fd : FuncData} {fl : List Str} (B : Glb K mg) (F : Fun K "__eq__" "Keeps.__eq__" s_Keeps_eq f fd) (ht : tab[6]? = some (("Keeps" : Str), fl)) (hm : mg "Keeps" = some (.ref C)) (cl : Cls K C) (M : Meth K C "__eq__" f) (hn : ("__eq__" : Str) ∉ fl) : MDef P w K mg base 1 6 "__eq__" 2 (F_Keeps_eq) := by
  refine ⟨"Keeps", fl, C, f, fd, ["self", "other"], ht, hm, cl, M, def_ok F sc_Keeps_eq fun cdv A outer s H E hr => ?_, F.binds fun _ _ _ _ _ _ us hl => match us, hl with | [_, _], _ => rfl, hn⟩
  exact ss_one (ss_ret (se_and (se_isC B.i_Keeps rfl B.b_isinstance rfl (se_var 1)) (se_one (se_cmp (op_eqD hr.units) os_eq (se_fld B.f_states (se_var 0)) (se_fld B.f_states (se_var 1))))))
abbrev s_Keeps_shows : Stmt := inClass (top 40) 2
theorem sc_Keeps_shows : FnScope ["self", "promise", "rule"] ["self", "promise", "rule"] (defScope s_Keeps_shows) := ⟨rfl, rfl, rfl, by decide +kernel, rfl, by decide +kernel, by decide +kernel⟩
theorem w_Keeps_shows {G__wall : List MV → MH → R MV} {f C : Addr} {fd : FuncData} {fl : List Str} (B : Glb K mg) (D__wall : Def P w K mg base 1 "_wall" 1 G__wall) (F : Fun K "shows" "Keeps.shows" s_Keeps_shows f fd) (ht : tab[6]? = some (("Keeps" : Str), fl)) (hm : mg "Keeps" = some (.ref C)) (cl : Cls K C) (M : Meth K C "shows" f) (hn : ("shows" : Str) ∉ fl) : MDef P w K mg base 2 6 "shows" 3 (F_Keeps_shows G__wall) := by
  refine ⟨"Keeps", fl, C, f, fd, ["self", "promise", "rule"], ht, hm, cl, M, def_ok F sc_Keeps_shows fun cdv A outer s H E hr => ?_, F.binds fun _ _ _ _ _ _ us hl => match us, hl with | [_, _, _], _ => rfl, hn⟩
  exact ss_one (ss_expr (se_do D__wall hr rfl (sa_cons (se_int) (sa_nil))))
abbrev s_Misses_init : Stmt := inClass (top 41) 0
theorem sc_Misses_init : FnScope ["self", "time", "age"] ["self", "time", "age"] (defScope s_Misses_init) := ⟨rfl, rfl, rfl, by decide +kernel, rfl, by decide +kernel, by decide +kernel⟩
theorem w_Misses_init {f C : Addr} {fd : FuncData} {fl : List Str} (B : Glb K mg) (F : Fun K "__init__" "Misses.__init__" s_Misses_init f fd) (ht : tab[7]? = some (("Misses" : Str), fl)) (hm : mg "Misses" = some (.ref C)) (cl : Cls K C) (M : Mk K C f) : KDef P w K mg base 1 7 3 [] (F_Misses_init) := by
  obtain ⟨oc, od, kV, doc, pm, an, cdv0, ct, osl, rfl, _⟩ := F.ex
  refine ⟨"Misses", fl, C, f, _, ["self", "time", "age"], ht, hm, cl, M, def_ok F sc_Misses_init fun cdv A outer s H E hr => ?_, fun z => (F.binds fun _ _ _ _ _ _ us hl => match us, hl with | [_, _, _], _ => rfl), ⟨fun s us ws _ h1 h2 => match us, ws, h1, h2 with | [_, _, _], [], _, _ => .of_eq rfl, fun r1 r2 => Vals.append r1 r2⟩⟩
  exact ss_cons (ss_fld B.f_time (se_var 0) (se_var 1))
    (ss_one (ss_fld B.f_age (se_var 0) (se_var 2)))
abbrev s_Misses_eq : Stmt := inClass (top 41) 1
theorem sc_Misses_eq : FnScope ["self", "other"] ["self", "other"] (defScope s_Misses_eq) := ⟨rfl, rfl, rfl, by decide +kernel, rfl, by decide +kernel, by decide +kernel⟩
theorem w_Misses_eq {f C : Addr} {fd : FuncData} {fl : List Str} (B : Glb K mg) (F : Fun K "__eq__" "Misses.__eq__" s_Misses_eq f fd) (ht : tab[7]? = some (("Misses" : Str), fl)) (hm : mg "Misses" = some (.ref C)) (cl : Cls K C) (M : Meth K C "__eq__" f) (hn : ("__eq__" : Str) ∉ fl) : MDef P w K mg base 1 7 "__eq__" 2 (F_Misses_eq) := by
  refine ⟨"Misses", fl, C, f, fd, ["self", "other"], ht, hm, cl, M, def_ok F sc_Misses_eq fun cdv A outer s H E hr => ?_, F.binds fun _ _ _ _ _ _ us hl => match us, hl with | [_, _], _ => rfl, hn⟩
  exact ss_one (ss_ret (se_and (se_isC B.i_Misses rfl B.b_isinstance rfl (se_var 1)) (se_and (se_cmp (op_eqD hr.units) os_eq (se_fld B.f_time (se_var 0)) (se_fld B.f_time (se_var 1))) (se_one (se_cmp (op_eqD hr.units) os_eq (se_fld B.f_age (se_var 0)) (se_fld B.f_age (se_var 1)))))))
abbrev s_Misses_shows : Stmt := inClass (top 41) 2
theorem sc_Misses_shows : FnScope ["self", "promise", "rule"] ["self", "promise", "rule"] (defScope s_Misses_shows) := ⟨rfl, rfl, rfl, by decide +kernel, rfl, by decide +kernel, by decide +kernel⟩
theorem w_Misses_shows {G__wall : List MV → MH → R MV} {f C : Addr} {fd : FuncData} {fl : List Str} (B : Glb K mg) (D__wall : Def P w K mg base 1 "_wall" 1 G__wall) (F : Fun K "shows" "Misses.shows" s_Misses_shows f fd) (ht : tab[7]? = some (("Misses" : Str), fl)) (hm : mg "Misses" = some (.ref C)) (cl : Cls K C) (M : Meth K C "shows" f) (hn : ("shows" : Str) ∉ fl) : MDef P w K mg base 2 7 "shows" 3 (F_Misses_shows G__wall) := by
  refine ⟨"Misses", fl, C, f, fd, ["self", "promise", "rule"], ht, hm, cl, M, def_ok F sc_Misses_shows fun cdv A outer s H E hr => ?_, F.binds fun _ _ _ _ _ _ us hl => match us, hl with | [_, _, _], _ => rfl, hn⟩
  exact ss_one (ss_expr (se_do D__wall hr rfl (sa_cons (se_int) (sa_nil))))
abbrev s_check_promise : Stmt := top 17
theorem sc_check_promise : FnScope ["promise"] ["promise"] (defScope s_check_promise) := ⟨rfl, rfl, rfl, by decide +kernel, rfl, by decide +kernel, by decide +kernel⟩
theorem w_check_promise {f : Addr} {fd : FuncData} (B : Glb K mg) (F : Fun K "check_promise" "check_promise" s_check_promise f fd) (hm : mg "check_promise" = some (.ref f)) : Def P w K mg base 1 "check_promise" 1 (F_check_promise) := by
  refine ⟨f, fd, ["promise"], def_ok F sc_check_promise fun cdv A outer s H E hr => ?_, hm, F.kp, F.binds fun _ _ _ _ _ _ us hl => match us, hl with | [_], _ => rfl⟩
  exact ss_one (ss_if (st_not (st_val (se_isC B.i_Promise rfl B.b_isinstance rfl (se_var 0)))) (ss_one (ss_never)) (ss_nil))
abbrev s_is_pair : Stmt := top 23
theorem sc_is_pair : FnScope ["value"] ["value"] (defScope s_is_pair) := ⟨rfl, rfl, rfl, by decide +kernel, rfl, by decide +kernel, by decide +kernel⟩
theorem w_is_pair {G_is_integer : List MV → MH → R MV} {f : Addr} {fd : FuncData} (B : Glb K mg) (D_is_integer : Def P w K mg base 1 "is_integer" 3 G_is_integer) (F : Fun K "is_pair" "is_pair" s_is_pair f fd) (hm : mg "is_pair" = some (.ref f)) : Def P w K mg base 2 "is_pair" 1 (F_is_pair G_is_integer) := by
  refine ⟨f, fd, ["value"], def_ok F sc_is_pair fun cdv A outer s H E hr => ?_, hm, F.kp, F.binds fun _ _ _ _ _ _ us hl => match us, hl with | [_], _ => rfl⟩
  exact ss_cons (ss_if (st_w (sw_or (st_not (st_val (se_isi .tuple rfl B.b_isinstance rfl B.b_tuple (by decide +kernel) (se_var 0)))) (sw_or1 (st_cmp (op_neD hr.units) os_ne (se_callB call_lenU cs_len rfl B.b_len boot_len (sa_cons (se_var 0) (sa_nil))) (se_int))))) (ss_one (ss_ret (se_bl))) (ss_nil))
    (ss_one (ss_ret (se_and (se_do D_is_integer hr rfl (sa_cons (se_ix (se_var 0) (se_int)) (sa_cons (se_int) (sa_cons (se_globI rfl B.c_MAX_EVERY) (sa_nil))))) (se_one (se_do D_is_integer hr rfl (sa_cons (se_ix (se_var 0) (se_int)) (sa_cons (se_int) (sa_cons (se_globI rfl B.c_MAX_UNTIL) (sa_nil)))))))))
abbrev s_check_rule : Stmt := top 24
theorem sc_check_rule : FnScope ["rule", "index", "pair"] ["rule"] (defScope s_check_rule) := ⟨rfl, rfl, rfl, by decide +kernel, rfl, by decide +kernel, by decide +kernel⟩
theorem w_check_rule {G_is_pair : List MV → MH → R MV} {f : Addr} {fd : FuncData} (B : Glb K mg) (D_is_pair : Def P w K mg base 2 "is_pair" 1 G_is_pair) (F : Fun K "check_rule" "check_rule" s_check_rule f fd) (hm : mg "check_rule" = some (.ref f)) : Def P w K mg base 3 "check_rule" 1 (F_check_rule G_is_pair) := by
  refine ⟨f, fd, ["rule"], def_ok F sc_check_rule fun cdv A outer s H E hr => ?_, hm, F.kp, F.binds fun _ _ _ _ _ _ us hl => match us, hl with | [_], _ => rfl⟩
  exact ss_cons (ss_if (st_w (sw_or (st_not (st_val (se_isi .tuple rfl B.b_isinstance rfl B.b_tuple (by decide +kernel) (se_var 0)))) (sw_or1 (st_not (st_chain op_le os_le op_le os_le (se_int) (se_callB call_lenU cs_len rfl B.b_len boot_len (sa_cons (se_var 0) (sa_nil))) (se_globI rfl B.c_MAX_PAIRS)))))) (ss_one (ss_never)) (ss_nil))
    (ss_one (ss_for (own := [1, 2]) PassesOwn.never rfl (si_enumV rfl B.b_enumerate (sa_cons (se_var 0) (sa_nil))) (pg_tup rfl (pgs_cons (pg_name (i := 1) sc_check_rule.nd rfl (by first | exact Or.inl rfl | exact Or.inr rfl)) (pgs_cons (pg_name (i := 2) sc_check_rule.nd rfl (by first | exact Or.inl rfl | exact Or.inr rfl)) (pgs_nil)))) (gok_T (is := [1, 2]) (by decide) rfl) (ss_one (ss_if (st_not (st_val (se_do D_is_pair hr rfl (sa_cons (se_var 2) (sa_nil))))) (ss_one (ss_never)) (ss_nil)))))
abbrev s_is_held : Stmt := top 25
theorem sc_is_held : FnScope ["rule", "taken", "time", "every", "until"] ["rule", "taken", "time"] (defScope s_is_held) := ⟨rfl, rfl, rfl, by decide +kernel, rfl, by decide +kernel, by decide +kernel⟩
theorem w_is_held {f : Addr} {fd : FuncData} (B : Glb K mg) (F : Fun K "is_held" "is_held" s_is_held f fd) (hm : mg "is_held" = some (.ref f)) : Def P w K mg base 1 "is_held" 3 (F_is_held) := by
  refine ⟨f, fd, ["rule", "taken", "time"], def_ok F sc_is_held fun cdv A outer s H E hr => ?_, hm, F.kp, F.binds fun _ _ _ _ _ _ us hl => match us, hl with | [_, _, _], _ => rfl⟩
  exact ss_one (ss_ret (se_callB (cr_any rfl) cs_any rfl B.b_any boot_any (sa_cons (se_lc rfl sc_is_held.nd (own := [("every", 3), ("until", 4)]) (si_seq (se_var 0)) (blkOk_by (by kernel_rfl)) (fun _ _ _ _ _ => pg_tup rfl (pgs_cons (pg_name (i := 3) sc_is_held.nd rfl (by first | exact Or.inl rfl | exact Or.inr rfl)) (pgs_cons (pg_name (i := 4) sc_is_held.nd rfl (by first | exact Or.inl rfl | exact Or.inr rfl)) (pgs_nil)))) (gok_T (is := [3, 4]) (by decide) rfl) (fun _ _ _ _ _ => sts_nil) (fun _ _ _ _ _ => se_and (se_cmp (op_eqD hr.units) os_eq (se_op op_mod os_mod (se_var 1) (se_var 3)) (se_int)) (se_one (se_chain op_le os_le op_le os_le (se_int) (se_op op_sub os_sub (se_var 2) (se_var 1)) (se_var 4))))) (sa_nil))))
abbrev s_settled_of : Stmt := top 27
theorem sc_settled_of : FnScope ["rule", "every", "until"] ["rule"] (defScope s_settled_of) := ⟨rfl, rfl, rfl, by decide +kernel, rfl, by decide +kernel, by decide +kernel⟩
theorem w_settled_of {f : Addr} {fd : FuncData} (B : Glb K mg) (F : Fun K "settled_of" "settled_of" s_settled_of f fd) (hm : mg "settled_of" = some (.ref f)) : Def P w K mg base 1 "settled_of" 1 (F_settled_of) := by
  refine ⟨f, fd, ["rule"], def_ok F sc_settled_of fun cdv A outer s H E hr => ?_, hm, F.kp, F.binds fun _ _ _ _ _ _ us hl => match us, hl with | [_], _ => rfl⟩
  exact ss_one (ss_ret (se_callB (call_maxU rfl) cs_max rfl B.b_max boot_max (sa_cons (se_lc rfl sc_settled_of.nd (own := [("every", 1), ("until", 2)]) (si_seq (se_var 0)) (blkOk_by (by kernel_rfl)) (fun _ _ _ _ _ => pg_tup rfl (pgs_cons (pg_name (i := 1) sc_settled_of.nd rfl (by first | exact Or.inl rfl | exact Or.inr rfl)) (pgs_cons (pg_name (i := 2) sc_settled_of.nd rfl (by first | exact Or.inl rfl | exact Or.inr rfl)) (pgs_nil)))) (gok_T (is := [1, 2]) (by decide) rfl) (fun _ _ _ _ _ => sts_nil) (fun _ _ _ _ _ => se_var 2)) (sa_nil))))
abbrev s_held_at : Stmt := top 26
theorem sc_held_at : FnScope ["rule", "time", "age"] ["rule", "time"] (defScope s_held_at) := ⟨rfl, rfl, rfl, by decide +kernel, rfl, by decide +kernel, by decide +kernel⟩
theorem w_held_at {G_settled_of : List MV → MH → R MV} {G_is_held : List MV → MH → R MV} {f : Addr} {fd : FuncData} (B : Glb K mg) (D_settled_of : Def P w K mg base 1 "settled_of" 1 G_settled_of) (D_is_held : Def P w K mg base 1 "is_held" 3 G_is_held) (F : Fun K "held_at" "held_at" s_held_at f fd) (hm : mg "held_at" = some (.ref f)) : Def P w K mg base 2 "held_at" 2 (F_held_at G_settled_of G_is_held) := by
  refine ⟨f, fd, ["rule", "time"], def_ok F sc_held_at fun cdv A outer s H E hr => ?_, hm, F.kp, F.binds fun _ _ _ _ _ _ us hl => match us, hl with | [_, _], _ => rfl⟩
  exact ss_one (ss_ret (se_callTy call_tuple_of cs_tuple rfl B.b_tuple (by decide +kernel) (sa_cons (se_lc rfl sc_held_at.nd (own := [("age", 2)]) (si_range1 rfl B.b_range (sa_cons (se_op op_addU os_add (se_callB (call_minU rfl) cs_min rfl B.b_min boot_min (sa_cons (se_var 1) (sa_cons (se_do D_settled_of hr rfl (sa_cons (se_var 0) (sa_nil))) (sa_nil)))) (se_int)) (sa_nil))) (blkOk_by (by kernel_rfl)) (fun _ _ _ _ _ => pg_name (i := 2) sc_held_at.nd rfl (by first | exact Or.inl rfl | exact Or.inr rfl)) (gok_N (i := 2) (by decide)) (fun _ _ _ _ _ => sts_one (st_val (se_do D_is_held hr rfl (sa_cons (se_var 0) (sa_cons (se_op op_sub os_sub (se_var 1) (se_var 2)) (sa_cons (se_var 1) (sa_nil))))))) (fun _ _ _ _ _ => se_var 2)) (sa_nil))))
abbrev s_common : Stmt := top 28
theorem sc_common : FnScope ["one", "other", "number"] ["one", "other"] (defScope s_common) := ⟨rfl, rfl, rfl, by decide +kernel, rfl, by decide +kernel, by decide +kernel⟩
theorem w_common {f : Addr} {fd : FuncData} (B : Glb K mg) (F : Fun K "common" "common" s_common f fd) (hm : mg "common" = some (.ref f)) : Def P w K mg base 1 "common" 2 (F_common) := by
  refine ⟨f, fd, ["one", "other"], def_ok F sc_common fun cdv A outer s H E hr => ?_, hm, F.kp, F.binds fun _ _ _ _ _ _ us hl => match us, hl with | [_, _], _ => rfl⟩
  exact ss_one (ss_ret (se_ix (se_lc rfl sc_common.nd (own := [("number", 2)]) (si_range3 rfl B.b_range (sa_cons (se_var 0) (sa_cons (se_op op_addU os_add (se_op op_mulB os_mul (se_var 0) (se_var 1)) (se_int)) (sa_cons (se_var 0) (sa_nil))))) (blkOk_by (by kernel_rfl)) (fun _ _ _ _ _ => pg_name (i := 2) sc_common.nd rfl (by first | exact Or.inl rfl | exact Or.inr rfl)) (gok_N (i := 2) (by decide)) (fun _ _ _ _ _ => sts_one (st_cmp (op_eqD hr.units) os_eq (se_op op_mod os_mod (se_var 2) (se_var 1)) (se_int))) (fun _ _ _ _ _ => se_var 2)) (se_int)))
abbrev s_turn_of : Stmt := top 29
theorem sc_turn_of : FnScope ["rule", "found", "every", "until"] ["rule"] (defScope s_turn_of) := ⟨rfl, rfl, rfl, by decide +kernel, rfl, by decide +kernel, by decide +kernel⟩
theorem w_turn_of {G_common : List MV → MH → R MV} {f : Addr} {fd : FuncData} (B : Glb K mg) (D_common : Def P w K mg base 1 "common" 2 G_common) (F : Fun K "turn_of" "turn_of" s_turn_of f fd) (hm : mg "turn_of" = some (.ref f)) : Def P w K mg base 2 "turn_of" 1 (F_turn_of G_common) := by
  refine ⟨f, fd, ["rule"], def_ok F sc_turn_of fun cdv A outer s H E hr => ?_, hm, F.kp, F.binds fun _ _ _ _ _ _ us hl => match us, hl with | [_], _ => rfl⟩
  exact ss_cons (ss_set (i := 1) sc_turn_of.nd rfl (by first | exact Or.inl rfl | exact Or.inr rfl) (se_int))
    (ss_cons (ss_for (own := [2, 3]) PassesOwn.never rfl (si_seq (se_var 0)) (pg_tup rfl (pgs_cons (pg_name (i := 2) sc_turn_of.nd rfl (by first | exact Or.inl rfl | exact Or.inr rfl)) (pgs_cons (pg_name (i := 3) sc_turn_of.nd rfl (by first | exact Or.inl rfl | exact Or.inr rfl)) (pgs_nil)))) (gok_T (is := [2, 3]) (by decide) rfl) (ss_one (ss_set (i := 1) sc_turn_of.nd rfl (by first | exact Or.inl rfl | exact Or.inr rfl) (se_do D_common hr rfl (sa_cons (se_var 1) (sa_cons (se_var 2) (sa_nil)))))))
    (ss_one (ss_ret (se_var 1))))
abbrev s_round_of : Stmt := top 30
theorem sc_round_of : FnScope ["rule", "more"] ["rule"] (defScope s_round_of) := ⟨rfl, rfl, rfl, by decide +kernel, rfl, by decide +kernel, by decide +kernel⟩
theorem w_round_of {G_turn_of : List MV → MH → R MV} {G_settled_of : List MV → MH → R MV} {G_held_at : List MV → MH → R MV} {f : Addr} {fd : FuncData} (B : Glb K mg) (D_turn_of : Def P w K mg base 2 "turn_of" 1 G_turn_of) (D_settled_of : Def P w K mg base 1 "settled_of" 1 G_settled_of) (D_held_at : Def P w K mg base 2 "held_at" 2 G_held_at) (F : Fun K "round_of" "round_of" s_round_of f fd) (hm : mg "round_of" = some (.ref f)) : Def P w K mg base 3 "round_of" 1 (F_round_of G_turn_of G_settled_of G_held_at) := by
  refine ⟨f, fd, ["rule"], def_ok F sc_round_of fun cdv A outer s H E hr => ?_, hm, F.kp, F.binds fun _ _ _ _ _ _ us hl => match us, hl with | [_], _ => rfl⟩
  exact ss_one (ss_ret (se_lc rfl sc_round_of.nd (own := [("more", 1)]) (si_range1 rfl B.b_range (sa_cons (se_do D_turn_of hr rfl (sa_cons (se_var 0) (sa_nil))) (sa_nil))) (blkOk_by (by kernel_rfl)) (fun _ _ _ _ _ => pg_name (i := 1) sc_round_of.nd rfl (by first | exact Or.inl rfl | exact Or.inr rfl)) (gok_N (i := 1) (by decide)) (fun _ _ _ _ _ => sts_nil) (fun _ _ _ _ _ => se_do D_held_at hr rfl (sa_cons (se_var 0) (sa_cons (se_op op_addU os_add (se_do D_settled_of hr rfl (sa_cons (se_var 0) (sa_nil))) (se_var 1)) (sa_nil))))))
abbrev s_period_of : Stmt := top 31
theorem sc_period_of : FnScope ["rule", "rows", "able", "number"] ["rule"] (defScope s_period_of) := ⟨rfl, rfl, rfl, by decide +kernel, rfl, by decide +kernel, by decide +kernel⟩
theorem w_period_of {G_round_of : List MV → MH → R MV} {f : Addr} {fd : FuncData} (B : Glb K mg) (D_round_of : Def P w K mg base 3 "round_of" 1 G_round_of) (F : Fun K "period_of" "period_of" s_period_of f fd) (hm : mg "period_of" = some (.ref f)) : Def P w K mg base 4 "period_of" 1 (F_period_of G_round_of) := by
  refine ⟨f, fd, ["rule"], def_ok F sc_period_of fun cdv A outer s H E hr => ?_, hm, F.kp, F.binds fun _ _ _ _ _ _ us hl => match us, hl with | [_], _ => rfl⟩
  exact ss_cons (ss_set (i := 1) sc_period_of.nd rfl (by first | exact Or.inl rfl | exact Or.inr rfl) (se_do D_round_of hr rfl (sa_cons (se_var 0) (sa_nil))))
    (ss_cons (ss_setLc (i := 2) rfl sc_period_of.nd rfl rfl (sw_true rfl rfl rfl (by decide +kernel)) (own := [("number", 3)]) (si_range2 rfl B.b_range (sa_cons (se_int) (sa_cons (se_op op_addU os_add (se_callB call_lenU cs_len rfl B.b_len boot_len (sa_cons (se_var 1) (sa_nil))) (se_int)) (sa_nil)))) (blkOk_by (by kernel_rfl)) (fun _ _ _ _ _ => pg_name (i := 3) sc_period_of.nd rfl (by first | exact Or.inl rfl | exact Or.inr rfl)) (gok_N (i := 3) (by decide)) (fun _ _ _ _ _ => sts_one (st_cmp (op_eqD hr.units) os_eq (se_op op_mod os_mod (se_callB call_lenU cs_len rfl B.b_len boot_len (sa_cons (se_var 1) (sa_nil))) (se_var 3)) (se_int))) (fun _ _ _ _ _ => se_var 3))
    (ss_one (ss_ret (se_ix (se_lc rfl sc_period_of.nd (own := [("number", 3)]) (si_seq (se_var 2)) (blkOk_by (by kernel_rfl)) (fun _ _ _ _ _ => pg_name (i := 3) sc_period_of.nd rfl (by first | exact Or.inl rfl | exact Or.inr rfl)) (gok_N (i := 3) (by decide)) (fun _ _ _ _ _ => sts_one (st_cmp (op_eqD hr.units) os_eq (se_op op_addU os_add (se_slice (se_var 1) (so_some (se_var 3)) (so_none)) (se_slice (se_var 1) (so_none) (so_some (se_var 3)))) (se_var 1))) (fun _ _ _ _ _ => se_var 3)) (se_int)))))
abbrev s_holds_for : Stmt := top 33
theorem sc_holds_for : FnScope ["promise", "state", "age", "able", "one"] ["promise", "state", "age"] (defScope s_holds_for) := ⟨rfl, rfl, rfl, by decide +kernel, rfl, by decide +kernel, by decide +kernel⟩
theorem w_holds_for {G_slack_at : List MV → MH → R MV} {f : Addr} {fd : FuncData} (B : Glb K mg) (D_slack_at : Def P w K mg base 1 "slack_at" 2 G_slack_at) (F : Fun K "holds_for" "holds_for" s_holds_for f fd) (hm : mg "holds_for" = some (.ref f)) : Def P w K mg base 2 "holds_for" 3 (F_holds_for G_slack_at) := by
  refine ⟨f, fd, ["promise", "state", "age"], def_ok F sc_holds_for fun cdv A outer s H E hr => ?_, hm, F.kp, F.binds fun _ _ _ _ _ _ us hl => match us, hl with | [_, _, _], _ => rfl⟩
  exact ss_cons (ss_setLc (i := 3) rfl sc_holds_for.nd rfl rfl (sw_true rfl rfl rfl (by decide +kernel)) (own := [("one", 4)]) (si_seq (se_var 1)) (blkOk_by (by kernel_rfl)) (fun _ _ _ _ _ => pg_name (i := 4) sc_holds_for.nd rfl (by first | exact Or.inl rfl | exact Or.inr rfl)) (gok_N (i := 4) (by decide)) (fun _ _ _ _ _ => sts_one (st_chain op_le os_le op_le os_le (se_var 2) (se_var 4) (se_op op_addU os_add (se_var 2) (se_do D_slack_at hr rfl (sa_cons (se_var 0) (sa_cons (se_var 2) (sa_nil))))))) (fun _ _ _ _ _ => se_var 4))
    (ss_one (ss_ret (se_cmp op_ge os_ge (se_callB call_lenU cs_len rfl B.b_len boot_len (sa_cons (se_var 3) (sa_nil))) (se_fld B.f_many (se_var 0)))))
abbrev s_is_good : Stmt := top 34
theorem sc_is_good : FnScope ["promise", "state", "age"] ["promise", "state"] (defScope s_is_good) := ⟨rfl, rfl, rfl, by decide +kernel, rfl, by decide +kernel, by decide +kernel⟩
theorem w_is_good {G_holds_for : List MV → MH → R MV} {f : Addr} {fd : FuncData} (B : Glb K mg) (D_holds_for : Def P w K mg base 2 "holds_for" 3 G_holds_for) (F : Fun K "is_good" "is_good" s_is_good f fd) (hm : mg "is_good" = some (.ref f)) : Def P w K mg base 3 "is_good" 2 (F_is_good G_holds_for) := by
  refine ⟨f, fd, ["promise", "state"], def_ok F sc_is_good fun cdv A outer s H E hr => ?_, hm, F.kp, F.binds fun _ _ _ _ _ _ us hl => match us, hl with | [_, _], _ => rfl⟩
  exact ss_one (ss_ret (se_callB (cr_all rfl) cs_all rfl B.b_all boot_all (sa_cons (se_lc rfl sc_is_good.nd (own := [("age", 2)]) (si_range1 rfl B.b_range (sa_cons (se_op op_addU os_add (se_fld B.f_far (se_var 0)) (se_int)) (sa_nil))) (blkOk_by (by kernel_rfl)) (fun _ _ _ _ _ => pg_name (i := 2) sc_is_good.nd rfl (by first | exact Or.inl rfl | exact Or.inr rfl)) (gok_N (i := 2) (by decide)) (fun _ _ _ _ _ => sts_nil) (fun _ _ _ _ _ => se_do D_holds_for hr rfl (sa_cons (se_var 0) (sa_cons (se_var 1) (sa_cons (se_var 2) (sa_nil)))))) (sa_nil))))
abbrev s_young : Stmt := top 36
theorem sc_young : FnScope ["promise", "ages", "age"] ["promise", "ages"] (defScope s_young) := ⟨rfl, rfl, rfl, by decide +kernel, rfl, by decide +kernel, by decide +kernel⟩
theorem w_young {G_horizon_of : List MV → MH → R MV} {f : Addr} {fd : FuncData} (B : Glb K mg) (D_horizon_of : Def P w K mg base 2 "horizon_of" 1 G_horizon_of) (F : Fun K "young" "young" s_young f fd) (hm : mg "young" = some (.ref f)) : Def P w K mg base 3 "young" 2 (F_young G_horizon_of) := by
  refine ⟨f, fd, ["promise", "ages"], def_ok F sc_young fun cdv A outer s H E hr => ?_, hm, F.kp, F.binds fun _ _ _ _ _ _ us hl => match us, hl with | [_, _], _ => rfl⟩
  exact ss_one (ss_ret (se_callTy call_tuple_of cs_tuple rfl B.b_tuple (by decide +kernel) (sa_cons (se_lc rfl sc_young.nd (own := [("age", 2)]) (si_seq (se_var 1)) (blkOk_by (by kernel_rfl)) (fun _ _ _ _ _ => pg_name (i := 2) sc_young.nd rfl (by first | exact Or.inl rfl | exact Or.inr rfl)) (gok_N (i := 2) (by decide)) (fun _ _ _ _ _ => sts_one (st_cmp op_le os_le (se_var 2) (se_do D_horizon_of hr rfl (sa_cons (se_var 0) (sa_nil))))) (fun _ _ _ _ _ => se_var 2)) (sa_nil))))
abbrev s_state_at : Stmt := top 37
theorem sc_state_at : FnScope ["promise", "rule", "time"] ["promise", "rule", "time"] (defScope s_state_at) := ⟨rfl, rfl, rfl, by decide +kernel, rfl, by decide +kernel, by decide +kernel⟩
theorem w_state_at {G_held_at : List MV → MH → R MV} {G_young : List MV → MH → R MV} {f : Addr} {fd : FuncData} (B : Glb K mg) (D_held_at : Def P w K mg base 2 "held_at" 2 G_held_at) (D_young : Def P w K mg base 3 "young" 2 G_young) (F : Fun K "state_at" "state_at" s_state_at f fd) (hm : mg "state_at" = some (.ref f)) : Def P w K mg base 4 "state_at" 3 (F_state_at G_held_at G_young) := by
  refine ⟨f, fd, ["promise", "rule", "time"], def_ok F sc_state_at fun cdv A outer s H E hr => ?_, hm, F.kp, F.binds fun _ _ _ _ _ _ us hl => match us, hl with | [_, _, _], _ => rfl⟩
  exact ss_one (ss_ret (se_do D_young hr rfl (sa_cons (se_var 0) (sa_cons (se_do D_held_at hr rfl (sa_cons (se_var 1) (sa_cons (se_var 2) (sa_nil)))) (sa_nil)))))
abbrev s_times_of : Stmt := top 38
theorem sc_times_of : FnScope ["rule", "more"] ["rule"] (defScope s_times_of) := ⟨rfl, rfl, rfl, by decide +kernel, rfl, by decide +kernel, by decide +kernel⟩
theorem w_times_of {G_period_of : List MV → MH → R MV} {G_settled_of : List MV → MH → R MV} {f : Addr} {fd : FuncData} (B : Glb K mg) (D_period_of : Def P w K mg base 4 "period_of" 1 G_period_of) (D_settled_of : Def P w K mg base 1 "settled_of" 1 G_settled_of) (F : Fun K "times_of" "times_of" s_times_of f fd) (hm : mg "times_of" = some (.ref f)) : Def P w K mg base 5 "times_of" 1 (F_times_of G_period_of G_settled_of) := by
  refine ⟨f, fd, ["rule"], def_ok F sc_times_of fun cdv A outer s H E hr => ?_, hm, F.kp, F.binds fun _ _ _ _ _ _ us hl => match us, hl with | [_], _ => rfl⟩
  exact ss_one (ss_ret (se_lc rfl sc_times_of.nd (own := [("more", 1)]) (si_range1 rfl B.b_range (sa_cons (se_do D_period_of hr rfl (sa_cons (se_var 0) (sa_nil))) (sa_nil))) (blkOk_by (by kernel_rfl)) (fun _ _ _ _ _ => pg_name (i := 1) sc_times_of.nd rfl (by first | exact Or.inl rfl | exact Or.inr rfl)) (gok_N (i := 1) (by decide)) (fun _ _ _ _ _ => sts_nil) (fun _ _ _ _ _ => se_op op_addU os_add (se_do D_settled_of hr rfl (sa_cons (se_var 0) (sa_nil))) (se_var 1))))
abbrev s_first_broken : Stmt := top 39
theorem sc_first_broken : FnScope ["promise", "state", "found", "age"] ["promise", "state"] (defScope s_first_broken) := ⟨rfl, rfl, rfl, by decide +kernel, rfl, by decide +kernel, by decide +kernel⟩
theorem w_first_broken {G_holds_for : List MV → MH → R MV} {f : Addr} {fd : FuncData} (B : Glb K mg) (D_holds_for : Def P w K mg base 2 "holds_for" 3 G_holds_for) (F : Fun K "first_broken" "first_broken" s_first_broken f fd) (hm : mg "first_broken" = some (.ref f)) : Def P w K mg base 3 "first_broken" 2 (F_first_broken G_holds_for) := by
  refine ⟨f, fd, ["promise", "state"], def_ok F sc_first_broken fun cdv A outer s H E hr => ?_, hm, F.kp, F.binds fun _ _ _ _ _ _ us hl => match us, hl with | [_, _], _ => rfl⟩
  exact ss_cons (ss_setLc (i := 2) rfl sc_first_broken.nd rfl rfl (sw_true rfl rfl rfl (by decide +kernel)) (own := [("age", 3)]) (si_range1 rfl B.b_range (sa_cons (se_op op_addU os_add (se_fld B.f_far (se_var 0)) (se_int)) (sa_nil))) (blkOk_by (by kernel_rfl)) (fun _ _ _ _ _ => pg_name (i := 3) sc_first_broken.nd rfl (by first | exact Or.inl rfl | exact Or.inr rfl)) (gok_N (i := 3) (by decide)) (fun _ _ _ _ _ => sts_one (st_not (st_val (se_do D_holds_for hr rfl (sa_cons (se_var 0) (sa_cons (se_var 1) (sa_cons (se_var 3) (sa_nil)))))))) (fun _ _ _ _ _ => se_var 3))
    (ss_one (ss_ret (se_if (st_cmp (op_neD hr.units) os_ne (se_var 2) (se_lst (sa_nil))) (se_ix (se_var 2) (se_int)) (se_non))))
abbrev s_judge_of : Stmt := top 42
theorem sc_judge_of : FnScope ["promise", "rule", "rows", "time", "state"] ["promise", "rule"] (defScope s_judge_of) := ⟨rfl, rfl, rfl, by decide +kernel, rfl, by decide +kernel, by decide +kernel⟩
theorem w_judge_of {G_times_of : List MV → MH → R MV} {G_state_at : List MV → MH → R MV} {G_is_good : List MV → MH → R MV} {G_Misses_init : List MV → MH → R MV} {G_first_broken : List MV → MH → R MV} {G_Keeps_init : List MV → MH → R MV} {f : Addr} {fd : FuncData} (B : Glb K mg) (D_times_of : Def P w K mg base 5 "times_of" 1 G_times_of) (D_state_at : Def P w K mg base 4 "state_at" 3 G_state_at) (D_is_good : Def P w K mg base 3 "is_good" 2 G_is_good) (D_Misses_init : KDef P w K mg base 1 7 3 [] G_Misses_init) (D_first_broken : Def P w K mg base 3 "first_broken" 2 G_first_broken) (D_Keeps_init : KDef P w K mg base 1 6 2 [] G_Keeps_init) (F : Fun K "judge_of" "judge_of" s_judge_of f fd) (hm : mg "judge_of" = some (.ref f)) : Def P w K mg base 6 "judge_of" 2 (F_judge_of G_times_of G_state_at G_is_good G_Misses_init G_first_broken G_Keeps_init) := by
  refine ⟨f, fd, ["promise", "rule"], def_ok F sc_judge_of fun cdv A outer s H E hr => ?_, hm, F.kp, F.binds fun _ _ _ _ _ _ us hl => match us, hl with | [_, _], _ => rfl⟩
  exact ss_cons (ss_setLc (i := 2) rfl sc_judge_of.nd rfl rfl (sw_true rfl rfl rfl (by decide +kernel)) (own := [("time", 3)]) (si_seq (se_do D_times_of hr rfl (sa_cons (se_var 1) (sa_nil)))) (blkOk_by (by kernel_rfl)) (fun _ _ _ _ _ => pg_name (i := 3) sc_judge_of.nd rfl (by first | exact Or.inl rfl | exact Or.inr rfl)) (gok_N (i := 3) (by decide)) (fun _ _ _ _ _ => sts_nil) (fun _ _ _ _ _ => se_tup (sa_cons (se_var 3) (sa_cons (se_do D_state_at hr rfl (sa_cons (se_var 0) (sa_cons (se_var 1) (sa_cons (se_var 3) (sa_nil))))) (sa_nil)))))
    (ss_cons (ss_for (own := [3, 4]) PassesOwn.never rfl (si_seq (se_var 2)) (pg_tup rfl (pgs_cons (pg_name (i := 3) sc_judge_of.nd rfl (by first | exact Or.inl rfl | exact Or.inr rfl)) (pgs_cons (pg_name (i := 4) sc_judge_of.nd rfl (by first | exact Or.inl rfl | exact Or.inr rfl)) (pgs_nil)))) (gok_T (is := [3, 4]) (by decide) rfl) (ss_one (ss_if (st_not (st_val (se_do D_is_good hr rfl (sa_cons (se_var 0) (sa_cons (se_var 4) (sa_nil)))))) (ss_one (ss_ret (se_make D_Misses_init hr rfl (sa_cons (se_var 3) (sa_cons (se_do D_first_broken hr rfl (sa_cons (se_var 0) (sa_cons (se_var 4) (sa_nil)))) (sa_nil)))))) (ss_nil))))
    (ss_one (ss_ret (se_make D_Keeps_init hr rfl (sa_cons (se_lc rfl sc_judge_of.nd (own := [("time", 3), ("state", 4)]) (si_seq (se_var 2)) (blkOk_by (by kernel_rfl)) (fun _ _ _ _ _ => pg_tup rfl (pgs_cons (pg_name (i := 3) sc_judge_of.nd rfl (by first | exact Or.inl rfl | exact Or.inr rfl)) (pgs_cons (pg_name (i := 4) sc_judge_of.nd rfl (by first | exact Or.inl rfl | exact Or.inr rfl)) (pgs_nil)))) (gok_T (is := [3, 4]) (by decide) rfl) (fun _ _ _ _ _ => sts_nil) (fun _ _ _ _ _ => se_var 4)) (sa_nil))))))
abbrev s_judge : Stmt := top 43
theorem sc_judge : FnScope ["promise", "rule"] ["promise", "rule"] (defScope s_judge) := ⟨rfl, rfl, rfl, by decide +kernel, rfl, by decide +kernel, by decide +kernel⟩
theorem w_judge {G_check_promise : List MV → MH → R MV} {G_check_rule : List MV → MH → R MV} {G_judge_of : List MV → MH → R MV} {f : Addr} {fd : FuncData} (B : Glb K mg) (D_check_promise : Def P w K mg base 1 "check_promise" 1 G_check_promise) (D_check_rule : Def P w K mg base 3 "check_rule" 1 G_check_rule) (D_judge_of : Def P w K mg base 6 "judge_of" 2 G_judge_of) (F : Fun K "judge" "judge" s_judge f fd) (hm : mg "judge" = some (.ref f)) : Def P w K mg base 7 "judge" 2 (F_judge G_check_promise G_check_rule G_judge_of) := by
  refine ⟨f, fd, ["promise", "rule"], def_ok F sc_judge fun cdv A outer s H E hr => ?_, hm, F.kp, F.binds fun _ _ _ _ _ _ us hl => match us, hl with | [_, _], _ => rfl⟩
  exact ss_cons (ss_expr (se_do D_check_promise hr rfl (sa_cons (se_var 0) (sa_nil))))
    (ss_cons (ss_expr (se_do D_check_rule hr rfl (sa_cons (se_var 1) (sa_nil))))
    (ss_one (ss_ret (se_do D_judge_of hr rfl (sa_cons (se_var 0) (sa_cons (se_var 1) (sa_nil)))))))
abbrev s_check_kept : Stmt := top 46
theorem sc_check_kept : FnScope ["promise", "rule"] ["promise", "rule"] (defScope s_check_kept) := ⟨rfl, rfl, rfl, by decide +kernel, rfl, by decide +kernel, by decide +kernel⟩
theorem w_check_kept {G_judge : List MV → MH → R MV} {f : Addr} {fd : FuncData} (B : Glb K mg) (D_judge : Def P w K mg base 7 "judge" 2 G_judge) (F : Fun K "check_kept" "check_kept" s_check_kept f fd) (hm : mg "check_kept" = some (.ref f)) : Def P w K mg base 8 "check_kept" 2 (F_check_kept G_judge) := by
  refine ⟨f, fd, ["promise", "rule"], def_ok F sc_check_kept fun cdv A outer s H E hr => ?_, hm, F.kp, F.binds fun _ _ _ _ _ _ us hl => match us, hl with | [_, _], _ => rfl⟩
  exact ss_one (ss_if (st_not (st_val (se_isC B.i_Keeps rfl B.b_isinstance rfl (se_do D_judge hr rfl (sa_cons (se_var 0) (sa_cons (se_var 1) (sa_nil))))))) (ss_one (ss_never)) (ss_nil))
abbrev s_check_pause : Stmt := top 47
theorem sc_check_pause : FnScope ["promise", "rule", "begin", "ticks"] ["promise", "rule", "begin", "ticks"] (defScope s_check_pause) := ⟨rfl, rfl, rfl, by decide +kernel, rfl, by decide +kernel, by decide +kernel⟩
theorem w_check_pause {G_check_kept : List MV → MH → R MV} {G_is_integer : List MV → MH → R MV} {f : Addr} {fd : FuncData} (B : Glb K mg) (D_check_kept : Def P w K mg base 8 "check_kept" 2 G_check_kept) (D_is_integer : Def P w K mg base 1 "is_integer" 3 G_is_integer) (F : Fun K "check_pause" "check_pause" s_check_pause f fd) (hm : mg "check_pause" = some (.ref f)) : Def P w K mg base 9 "check_pause" 4 (F_check_pause G_check_kept G_is_integer) := by
  refine ⟨f, fd, ["promise", "rule", "begin", "ticks"], def_ok F sc_check_pause fun cdv A outer s H E hr => ?_, hm, F.kp, F.binds fun _ _ _ _ _ _ us hl => match us, hl with | [_, _, _, _], _ => rfl⟩
  exact ss_cons (ss_expr (se_do D_check_kept hr rfl (sa_cons (se_var 0) (sa_cons (se_var 1) (sa_nil)))))
    (ss_one (ss_if (st_w (sw_or (st_not (st_val (se_do D_is_integer hr rfl (sa_cons (se_var 2) (sa_cons (se_int) (sa_cons (se_globI rfl B.c_MAX_TIME) (sa_nil))))))) (sw_or1 (st_not (st_val (se_do D_is_integer hr rfl (sa_cons (se_var 3) (sa_cons (se_int) (sa_cons (se_globI rfl B.c_MAX_TICKS) (sa_nil)))))))))) (ss_one (ss_never)) (ss_nil)))
abbrev s_check_loss : Stmt := top 48
theorem sc_check_loss : FnScope ["promise", "rule", "taken", "lost"] ["promise", "rule", "taken", "lost"] (defScope s_check_loss) := ⟨rfl, rfl, rfl, by decide +kernel, rfl, by decide +kernel, by decide +kernel⟩
theorem w_check_loss {G_check_kept : List MV → MH → R MV} {G_is_integer : List MV → MH → R MV} {G_is_held : List MV → MH → R MV} {f : Addr} {fd : FuncData} (B : Glb K mg) (D_check_kept : Def P w K mg base 8 "check_kept" 2 G_check_kept) (D_is_integer : Def P w K mg base 1 "is_integer" 3 G_is_integer) (D_is_held : Def P w K mg base 1 "is_held" 3 G_is_held) (F : Fun K "check_loss" "check_loss" s_check_loss f fd) (hm : mg "check_loss" = some (.ref f)) : Def P w K mg base 9 "check_loss" 4 (F_check_loss G_check_kept G_is_integer G_is_held) := by
  refine ⟨f, fd, ["promise", "rule", "taken", "lost"], def_ok F sc_check_loss fun cdv A outer s H E hr => ?_, hm, F.kp, F.binds fun _ _ _ _ _ _ us hl => match us, hl with | [_, _, _, _], _ => rfl⟩
  exact ss_cons (ss_expr (se_do D_check_kept hr rfl (sa_cons (se_var 0) (sa_cons (se_var 1) (sa_nil)))))
    (ss_one (ss_if (st_w (sw_or (st_not (st_val (se_do D_is_integer hr rfl (sa_cons (se_var 2) (sa_cons (se_int) (sa_cons (se_globI rfl B.c_MAX_TIME) (sa_nil))))))) (sw_or (st_not (st_val (se_do D_is_integer hr rfl (sa_cons (se_var 3) (sa_cons (se_int) (sa_cons (se_globI rfl B.c_MAX_TIME) (sa_nil))))))) (sw_or1 (st_not (st_val (se_do D_is_held hr rfl (sa_cons (se_var 1) (sa_cons (se_var 2) (sa_cons (se_var 3) (sa_nil))))))))))) (ss_one (ss_never)) (ss_nil)))
abbrev s_broken_without : Stmt := top 49
theorem sc_broken_without : FnScope ["promise", "rule", "first", "gone", "found", "time", "ages", "age"] ["promise", "rule", "first", "gone"] (defScope s_broken_without) := ⟨rfl, rfl, rfl, by decide +kernel, rfl, by decide +kernel, by decide +kernel⟩
theorem w_broken_without {G_settled_of : List MV → MH → R MV} {G_held_at : List MV → MH → R MV} {G_young : List MV → MH → R MV} {G_is_good : List MV → MH → R MV} {f : Addr} {fd : FuncData} (B : Glb K mg) (D_settled_of : Def P w K mg base 1 "settled_of" 1 G_settled_of) (D_held_at : Def P w K mg base 2 "held_at" 2 G_held_at) (D_young : Def P w K mg base 3 "young" 2 G_young) (D_is_good : Def P w K mg base 3 "is_good" 2 G_is_good) (F : Fun K "broken_without" "broken_without" s_broken_without f fd) (hm : mg "broken_without" = some (.ref f)) : Def P w K mg base 4 "broken_without" 4 (F_broken_without G_settled_of G_held_at G_young G_is_good) := by
  refine ⟨f, fd, ["promise", "rule", "first", "gone"], def_ok F sc_broken_without fun cdv A outer s H E hr => ?_, hm, F.kp, F.binds fun _ _ _ _ _ _ us hl => match us, hl with | [_, _, _, _], _ => rfl⟩
  exact ss_cons (ss_set (i := 4) sc_broken_without.nd rfl (by first | exact Or.inl rfl | exact Or.inr rfl) (se_lst (sa_nil)))
    (ss_cons (ss_for (own := [5]) PassesOwn.never rfl (si_range2 rfl B.b_range (sa_cons (se_callB (call_maxU rfl) cs_max rfl B.b_max boot_max (sa_cons (se_var 2) (sa_cons (se_do D_settled_of hr rfl (sa_cons (se_var 1) (sa_nil))) (sa_nil)))) (sa_cons (se_op op_addU os_add (se_op op_addU os_add (se_callB (call_maxU rfl) cs_max rfl B.b_max boot_max (sa_cons (se_lst (sa_cons (se_var 2) (sa_star (se_var 3) (sa_nil)))) (sa_nil))) (se_do D_settled_of hr rfl (sa_cons (se_var 1) (sa_nil)))) (se_int)) (sa_nil)))) (pg_name (i := 5) sc_broken_without.nd rfl (by first | exact Or.inl rfl | exact Or.inr rfl)) (gok_N (i := 5) (by decide)) (ss_cons (ss_setLc (i := 6) rfl sc_broken_without.nd rfl rfl (sw_true rfl rfl rfl (by decide +kernel)) (own := [("age", 7)]) (si_seq (se_do D_held_at hr rfl (sa_cons (se_var 1) (sa_cons (se_var 5) (sa_nil))))) (blkOk_by (by kernel_rfl)) (fun _ _ _ _ _ => pg_name (i := 7) sc_broken_without.nd rfl (by first | exact Or.inl rfl | exact Or.inr rfl)) (gok_N (i := 7) (by decide)) (fun _ _ _ _ _ => sts_one (st_cmp (op_notInD (hu65 hr)) os_notIn (se_op op_sub os_sub (se_var 5) (se_var 7)) (se_var 3))) (fun _ _ _ _ _ => se_var 7))
    (ss_one (ss_if (st_not (st_val (se_do D_is_good hr rfl (sa_cons (se_var 0) (sa_cons (se_do D_young hr rfl (sa_cons (se_var 0) (sa_cons (se_var 6) (sa_nil)))) (sa_nil)))))) (ss_one (ss_expr (se_append (se_var 4) (sa_cons (se_var 5) (sa_nil))))) (ss_nil)))))
    (ss_one (ss_ret (se_var 4))))
abbrev s_healed_from : Stmt := top 50
theorem sc_healed_from : FnScope ["rule", "first", "times", "time"] ["rule", "first", "times"] (defScope s_healed_from) := ⟨rfl, rfl, rfl, by decide +kernel, rfl, by decide +kernel, by decide +kernel⟩
theorem w_healed_from {G_settled_of : List MV → MH → R MV} {f : Addr} {fd : FuncData} (B : Glb K mg) (D_settled_of : Def P w K mg base 1 "settled_of" 1 G_settled_of) (F : Fun K "healed_from" "healed_from" s_healed_from f fd) (hm : mg "healed_from" = some (.ref f)) : Def P w K mg base 2 "healed_from" 3 (F_healed_from G_settled_of) := by
  refine ⟨f, fd, ["rule", "first", "times"], def_ok F sc_healed_from fun cdv A outer s H E hr => ?_, hm, F.kp, F.binds fun _ _ _ _ _ _ us hl => match us, hl with | [_, _, _], _ => rfl⟩
  exact ss_one (ss_ret (se_callB (call_maxU rfl) cs_max rfl B.b_max boot_max (sa_cons (se_lst (sa_cons (se_var 1) (sa_cons (se_do D_settled_of hr rfl (sa_cons (se_var 0) (sa_nil))) (sa_star (se_lc rfl sc_healed_from.nd (own := [("time", 3)]) (si_seq (se_var 2)) (blkOk_by (by kernel_rfl)) (fun _ _ _ _ _ => pg_name (i := 3) sc_healed_from.nd rfl (by first | exact Or.inl rfl | exact Or.inr rfl)) (gok_N (i := 3) (by decide)) (fun _ _ _ _ _ => sts_nil) (fun _ _ _ _ _ => se_op op_addU os_add (se_var 3) (se_int))) (sa_nil))))) (sa_nil))))
abbrev s_pause_times : Stmt := top 51
theorem sc_pause_times : FnScope ["begin", "ticks"] ["begin", "ticks"] (defScope s_pause_times) := ⟨rfl, rfl, rfl, by decide +kernel, rfl, by decide +kernel, by decide +kernel⟩
theorem w_pause_times {f : Addr} {fd : FuncData} (B : Glb K mg) (F : Fun K "pause_times" "pause_times" s_pause_times f fd) (hm : mg "pause_times" = some (.ref f)) : Def P w K mg base 1 "pause_times" 2 (F_pause_times) := by
  refine ⟨f, fd, ["begin", "ticks"], def_ok F sc_pause_times fun cdv A outer s H E hr => ?_, hm, F.kp, F.binds fun _ _ _ _ _ _ us hl => match us, hl with | [_, _], _ => rfl⟩
  exact ss_one (ss_ret (se_lrg2 rfl rfl B.b_list rfl B.b_range (se_var 0) (se_op op_addU os_add (se_var 0) (se_var 1))))
abbrev s_broken_by_pause : Stmt := top 52
theorem sc_broken_by_pause : FnScope ["promise", "rule", "begin", "ticks"] ["promise", "rule", "begin", "ticks"] (defScope s_broken_by_pause) := ⟨rfl, rfl, rfl, by decide +kernel, rfl, by decide +kernel, by decide +kernel⟩
theorem w_broken_by_pause {G_check_pause : List MV → MH → R MV} {G_pause_times : List MV → MH → R MV} {G_broken_without : List MV → MH → R MV} {f : Addr} {fd : FuncData} (B : Glb K mg) (D_check_pause : Def P w K mg base 9 "check_pause" 4 G_check_pause) (D_pause_times : Def P w K mg base 1 "pause_times" 2 G_pause_times) (D_broken_without : Def P w K mg base 4 "broken_without" 4 G_broken_without) (F : Fun K "broken_by_pause" "broken_by_pause" s_broken_by_pause f fd) (hm : mg "broken_by_pause" = some (.ref f)) : Def P w K mg base 10 "broken_by_pause" 4 (F_broken_by_pause G_check_pause G_pause_times G_broken_without) := by
  refine ⟨f, fd, ["promise", "rule", "begin", "ticks"], def_ok F sc_broken_by_pause fun cdv A outer s H E hr => ?_, hm, F.kp, F.binds fun _ _ _ _ _ _ us hl => match us, hl with | [_, _, _, _], _ => rfl⟩
  exact ss_cons (ss_expr (se_do D_check_pause hr rfl (sa_cons (se_var 0) (sa_cons (se_var 1) (sa_cons (se_var 2) (sa_cons (se_var 3) (sa_nil)))))))
    (ss_one (ss_ret (se_do D_broken_without hr rfl (sa_cons (se_var 0) (sa_cons (se_var 1) (sa_cons (se_var 2) (sa_cons (se_do D_pause_times hr rfl (sa_cons (se_var 2) (sa_cons (se_var 3) (sa_nil)))) (sa_nil))))))))
abbrev s_healed_after_pause : Stmt := top 53
theorem sc_healed_after_pause : FnScope ["promise", "rule", "begin", "ticks"] ["promise", "rule", "begin", "ticks"] (defScope s_healed_after_pause) := ⟨rfl, rfl, rfl, by decide +kernel, rfl, by decide +kernel, by decide +kernel⟩
theorem w_healed_after_pause {G_broken_by_pause : List MV → MH → R MV} {G_healed_from : List MV → MH → R MV} {f : Addr} {fd : FuncData} (B : Glb K mg) (D_broken_by_pause : Def P w K mg base 10 "broken_by_pause" 4 G_broken_by_pause) (D_healed_from : Def P w K mg base 2 "healed_from" 3 G_healed_from) (F : Fun K "healed_after_pause" "healed_after_pause" s_healed_after_pause f fd) (hm : mg "healed_after_pause" = some (.ref f)) : Def P w K mg base 11 "healed_after_pause" 4 (F_healed_after_pause G_broken_by_pause G_healed_from) := by
  refine ⟨f, fd, ["promise", "rule", "begin", "ticks"], def_ok F sc_healed_after_pause fun cdv A outer s H E hr => ?_, hm, F.kp, F.binds fun _ _ _ _ _ _ us hl => match us, hl with | [_, _, _, _], _ => rfl⟩
  exact ss_one (ss_ret (se_do D_healed_from hr rfl (sa_cons (se_var 1) (sa_cons (se_var 2) (sa_cons (se_do D_broken_by_pause hr rfl (sa_cons (se_var 0) (sa_cons (se_var 1) (sa_cons (se_var 2) (sa_cons (se_var 3) (sa_nil)))))) (sa_nil))))))
abbrev s_broken_by_loss : Stmt := top 54
theorem sc_broken_by_loss : FnScope ["promise", "rule", "taken", "lost"] ["promise", "rule", "taken", "lost"] (defScope s_broken_by_loss) := ⟨rfl, rfl, rfl, by decide +kernel, rfl, by decide +kernel, by decide +kernel⟩
theorem w_broken_by_loss {G_check_loss : List MV → MH → R MV} {G_broken_without : List MV → MH → R MV} {f : Addr} {fd : FuncData} (B : Glb K mg) (D_check_loss : Def P w K mg base 9 "check_loss" 4 G_check_loss) (D_broken_without : Def P w K mg base 4 "broken_without" 4 G_broken_without) (F : Fun K "broken_by_loss" "broken_by_loss" s_broken_by_loss f fd) (hm : mg "broken_by_loss" = some (.ref f)) : Def P w K mg base 10 "broken_by_loss" 4 (F_broken_by_loss G_check_loss G_broken_without) := by
  refine ⟨f, fd, ["promise", "rule", "taken", "lost"], def_ok F sc_broken_by_loss fun cdv A outer s H E hr => ?_, hm, F.kp, F.binds fun _ _ _ _ _ _ us hl => match us, hl with | [_, _, _, _], _ => rfl⟩
  exact ss_cons (ss_expr (se_do D_check_loss hr rfl (sa_cons (se_var 0) (sa_cons (se_var 1) (sa_cons (se_var 2) (sa_cons (se_var 3) (sa_nil)))))))
    (ss_one (ss_ret (se_do D_broken_without hr rfl (sa_cons (se_var 0) (sa_cons (se_var 1) (sa_cons (se_var 3) (sa_cons (se_lst (sa_cons (se_var 2) (sa_nil))) (sa_nil))))))))
abbrev s_healed_after_loss : Stmt := top 55
theorem sc_healed_after_loss : FnScope ["promise", "rule", "taken", "lost"] ["promise", "rule", "taken", "lost"] (defScope s_healed_after_loss) := ⟨rfl, rfl, rfl, by decide +kernel, rfl, by decide +kernel, by decide +kernel⟩
theorem w_healed_after_loss {G_broken_by_loss : List MV → MH → R MV} {G_healed_from : List MV → MH → R MV} {f : Addr} {fd : FuncData} (B : Glb K mg) (D_broken_by_loss : Def P w K mg base 10 "broken_by_loss" 4 G_broken_by_loss) (D_healed_from : Def P w K mg base 2 "healed_from" 3 G_healed_from) (F : Fun K "healed_after_loss" "healed_after_loss" s_healed_after_loss f fd) (hm : mg "healed_after_loss" = some (.ref f)) : Def P w K mg base 11 "healed_after_loss" 4 (F_healed_after_loss G_broken_by_loss G_healed_from) := by
  refine ⟨f, fd, ["promise", "rule", "taken", "lost"], def_ok F sc_healed_after_loss fun cdv A outer s H E hr => ?_, hm, F.kp, F.binds fun _ _ _ _ _ _ us hl => match us, hl with | [_, _, _, _], _ => rfl⟩
  exact ss_one (ss_ret (se_do D_healed_from hr rfl (sa_cons (se_var 1) (sa_cons (se_var 3) (sa_cons (se_do D_broken_by_loss hr rfl (sa_cons (se_var 0) (sa_cons (se_var 1) (sa_cons (se_var 2) (sa_cons (se_var 3) (sa_nil)))))) (sa_nil))))))
abbrev s_worst_loss : Stmt := top 56
theorem sc_worst_loss : FnScope ["promise", "rule", "found", "time", "age", "most", "many", "row"] ["promise", "rule"] (defScope s_worst_loss) := ⟨rfl, rfl, rfl, by decide +kernel, rfl, by decide +kernel, by decide +kernel⟩
theorem w_worst_loss {G_check_kept : List MV → MH → R MV} {G_settled_of : List MV → MH → R MV} {G_period_of : List MV → MH → R MV} {G_held_at : List MV → MH → R MV} {G_broken_without : List MV → MH → R MV} {f : Addr} {fd : FuncData} (B : Glb K mg) (D_check_kept : Def P w K mg base 8 "check_kept" 2 G_check_kept) (D_settled_of : Def P w K mg base 1 "settled_of" 1 G_settled_of) (D_period_of : Def P w K mg base 4 "period_of" 1 G_period_of) (D_held_at : Def P w K mg base 2 "held_at" 2 G_held_at) (D_broken_without : Def P w K mg base 4 "broken_without" 4 G_broken_without) (F : Fun K "worst_loss" "worst_loss" s_worst_loss f fd) (hm : mg "worst_loss" = some (.ref f)) : Def P w K mg base 9 "worst_loss" 2 (F_worst_loss G_check_kept G_settled_of G_period_of G_held_at G_broken_without) := by
  refine ⟨f, fd, ["promise", "rule"], def_ok F sc_worst_loss fun cdv A outer s H E hr => ?_, hm, F.kp, F.binds fun _ _ _ _ _ _ us hl => match us, hl with | [_, _], _ => rfl⟩
  exact ss_cons (ss_expr (se_do D_check_kept hr rfl (sa_cons (se_var 0) (sa_cons (se_var 1) (sa_nil)))))
    (ss_cons (ss_set (i := 2) sc_worst_loss.nd rfl (by first | exact Or.inl rfl | exact Or.inr rfl) (se_lst (sa_nil)))
    (ss_cons (ss_for (own := [3]) PassesOwn.never rfl (si_range2 rfl B.b_range (sa_cons (se_do D_settled_of hr rfl (sa_cons (se_var 1) (sa_nil))) (sa_cons (se_op op_addU os_add (se_do D_settled_of hr rfl (sa_cons (se_var 1) (sa_nil))) (se_do D_period_of hr rfl (sa_cons (se_var 1) (sa_nil)))) (sa_nil)))) (pg_name (i := 3) sc_worst_loss.nd rfl (by first | exact Or.inl rfl | exact Or.inr rfl)) (gok_N (i := 3) (by decide)) (ss_one (ss_for (own := [4]) PassesOwn.never rfl (si_seq (se_do D_held_at hr rfl (sa_cons (se_var 1) (sa_cons (se_var 3) (sa_nil))))) (pg_name (i := 4) sc_worst_loss.nd rfl (by first | exact Or.inl rfl | exact Or.inr rfl)) (gok_N (i := 4) (by decide)) (ss_one (ss_expr (se_append (se_var 2) (sa_cons (se_tup (sa_cons (se_var 3) (sa_cons (se_var 4) (sa_cons (se_callB call_lenU cs_len rfl B.b_len boot_len (sa_cons (se_do D_broken_without hr rfl (sa_cons (se_var 0) (sa_cons (se_var 1) (sa_cons (se_var 3) (sa_cons (se_lst (sa_cons (se_op op_sub os_sub (se_var 3) (se_var 4)) (sa_nil))) (sa_nil)))))) (sa_nil))) (sa_nil))))) (sa_nil))))))))
    (ss_cons (ss_set (i := 5) sc_worst_loss.nd rfl (by first | exact Or.inl rfl | exact Or.inr rfl) (se_callB (call_maxU rfl) cs_max rfl B.b_max boot_max (sa_cons (se_lc rfl sc_worst_loss.nd (own := [("time", 3), ("age", 4), ("many", 6)]) (si_seq (se_var 2)) (blkOk_by (by kernel_rfl)) (fun _ _ _ _ _ => pg_tup rfl (pgs_cons (pg_name (i := 3) sc_worst_loss.nd rfl (by first | exact Or.inl rfl | exact Or.inr rfl)) (pgs_cons (pg_name (i := 4) sc_worst_loss.nd rfl (by first | exact Or.inl rfl | exact Or.inr rfl)) (pgs_cons (pg_name (i := 6) sc_worst_loss.nd rfl (by first | exact Or.inl rfl | exact Or.inr rfl)) (pgs_nil))))) (gok_T (is := [3, 4, 6]) (by decide) rfl) (fun _ _ _ _ _ => sts_nil) (fun _ _ _ _ _ => se_var 6)) (sa_nil))))
    (ss_one (ss_ret (se_ix (se_lc rfl sc_worst_loss.nd (own := [("row", 7)]) (si_seq (se_var 2)) (blkOk_by (by kernel_rfl)) (fun _ _ _ _ _ => pg_name (i := 7) sc_worst_loss.nd rfl (by first | exact Or.inl rfl | exact Or.inr rfl)) (gok_N (i := 7) (by decide)) (fun _ _ _ _ _ => sts_one (st_cmp (op_eqD hr.units) os_eq (se_ix (se_var 7) (se_int)) (se_var 5))) (fun _ _ _ _ _ => se_var 7)) (se_int)))))))
abbrev s_l_cell_at : Stmt := top 58
theorem sc_l_cell_at : FnScope ["_law_script", "_law_k"] ["_law_script", "_law_k"] (defScope s_l_cell_at) := ⟨rfl, rfl, rfl, by decide +kernel, rfl, by decide +kernel, by decide +kernel⟩
theorem w_l_cell_at {f : Addr} {fd : FuncData} (B : Glb K mg) (F : Fun K "_law_cell_at" "_law_cell_at" s_l_cell_at f fd) (hm : mg "_law_cell_at" = some (.ref f)) : Def P w K mg base 1 "_law_cell_at" 2 (F_l_cell_at) := by
  refine ⟨f, fd, ["_law_script", "_law_k"], def_ok F sc_l_cell_at fun cdv A outer s H E hr => ?_, hm, F.kp, F.binds fun _ _ _ _ _ _ us hl => match us, hl with | [_, _], _ => rfl⟩
  exact ss_cons (ss_if (st_cmp op_lt os_lt (se_var 1) (se_callB call_lenU cs_len rfl B.b_len boot_len (sa_cons (se_var 0) (sa_nil)))) (ss_one (ss_ret (se_ix (se_var 0) (se_var 1)))) (ss_nil))
    (ss_one (ss_ret (se_int)))
abbrev s_l_draw : Stmt := top 59
theorem sc_l_draw : FnScope ["_law_cell", "_law_k", "_law_bound", "_law_primes"] ["_law_cell", "_law_k", "_law_bound"] (defScope s_l_draw) := ⟨rfl, rfl, rfl, by decide +kernel, rfl, by decide +kernel, by decide +kernel⟩
theorem w_l_draw {f : Addr} {fd : FuncData} (B : Glb K mg) (F : Fun K "_law_draw" "_law_draw" s_l_draw f fd) (hm : mg "_law_draw" = some (.ref f)) : Def P w K mg base 1 "_law_draw" 3 (F_l_draw) := by
  refine ⟨f, fd, ["_law_cell", "_law_k", "_law_bound"], def_ok F sc_l_draw fun cdv A outer s H E hr => ?_, hm, F.kp, F.binds fun _ _ _ _ _ _ us hl => match us, hl with | [_, _, _], _ => rfl⟩
  exact ss_cons (ss_set (i := 3) sc_l_draw.nd rfl (by first | exact Or.inl rfl | exact Or.inr rfl) (se_tup (sa_cons (se_int) (sa_cons (se_int) (sa_cons (se_int) (sa_cons (se_int) (sa_cons (se_int) (sa_cons (se_int) (sa_cons (se_int) (sa_cons (se_int) (sa_cons (se_int) (sa_cons (se_int) (sa_cons (se_int) (sa_cons (se_int) (sa_cons (se_int) (sa_cons (se_int) (sa_cons (se_int) (sa_cons (se_int) (sa_nil)))))))))))))))))))
    (ss_one (ss_ret (se_op op_mod os_mod (se_op op_mod os_mod (se_callTy call_int1 cs_int rfl B.b_int (by decide +kernel) (sa_cons (se_op op_addU os_add (se_op op_mulB os_mul (se_var 0) (se_int)) (se_op op_mulB os_mul (se_var 1) (se_int))) (sa_nil))) (se_ix (se_var 3) (se_op op_mod os_mod (se_callTy call_int1 cs_int rfl B.b_int (by decide +kernel) (sa_cons (se_var 1) (sa_nil))) (se_int)))) (se_var 2))))
abbrev s_l_number : Stmt := top 60
theorem sc_l_number : FnScope ["_law_cell", "_law_k", "_law_bound", "_law_power", "_law_times", "_law_remains", "_law_small"] ["_law_cell", "_law_k", "_law_bound"] (defScope s_l_number) := ⟨rfl, rfl, rfl, by decide +kernel, rfl, by decide +kernel, by decide +kernel⟩
theorem w_l_number {G_l_draw : List MV → MH → R MV} {f : Addr} {fd : FuncData} (B : Glb K mg) (D_l_draw : Def P w K mg base 1 "_law_draw" 3 G_l_draw) (F : Fun K "_law_number" "_law_number" s_l_number f fd) (hm : mg "_law_number" = some (.ref f)) : Def P w K mg base 2 "_law_number" 3 (F_l_number G_l_draw) := by
  refine ⟨f, fd, ["_law_cell", "_law_k", "_law_bound"], def_ok F sc_l_number fun cdv A outer s H E hr => ?_, hm, F.kp, F.binds fun _ _ _ _ _ _ us hl => match us, hl with | [_, _, _], _ => rfl⟩
  exact ss_cons (ss_set (i := 3) sc_l_number.nd rfl (by first | exact Or.inl rfl | exact Or.inr rfl) (se_int))
    (ss_cons (ss_for (own := [4]) PassesOwn.never rfl (si_range1 rfl B.b_range (sa_cons (se_op op_mod os_mod (se_callTy call_int1 cs_int rfl B.b_int (by decide +kernel) (sa_cons (se_var 1) (sa_nil))) (se_int)) (sa_nil))) (pg_name (i := 4) sc_l_number.nd rfl (by first | exact Or.inl rfl | exact Or.inr rfl)) (gok_N (i := 4) (by decide)) (ss_one (ss_set (i := 3) sc_l_number.nd rfl (by first | exact Or.inl rfl | exact Or.inr rfl) (se_op op_mulB os_mul (se_var 3) (se_int)))))
    (ss_cons (ss_set (i := 5) sc_l_number.nd rfl (by first | exact Or.inl rfl | exact Or.inr rfl) (se_op op_fdivW os_div (se_op op_sub os_sub (se_var 0) (se_op op_pow os_pow (se_int) (se_int))) (se_var 3)))
    (ss_cons (ss_if (st_cmp op_gt os_gt (se_var 5) (se_int)) (ss_one (ss_ret (se_op op_mod os_mod (se_op op_mod os_mod (se_callTy call_int1 cs_int rfl B.b_int (by decide +kernel) (sa_cons (se_var 5) (sa_nil))) (se_int)) (se_var 2)))) (ss_nil))
    (ss_cons (ss_set (i := 6) sc_l_number.nd rfl (by first | exact Or.inl rfl | exact Or.inr rfl) (se_op op_mod os_mod (se_callTy call_int1 cs_int rfl B.b_int (by decide +kernel) (sa_cons (se_var 0) (sa_nil))) (se_int)))
    (ss_one (ss_ret (se_op op_mod os_mod (se_do D_l_draw hr rfl (sa_cons (se_op op_mulB os_mul (se_op op_addU os_add (se_var 6) (se_op op_mulB os_mul (se_int) (se_var 1))) (se_op op_addU os_add (se_op op_addU os_add (se_var 6) (se_op op_mulB os_mul (se_int) (se_var 1))) (se_int))) (sa_cons (se_op op_addU os_add (se_op op_mod os_mod (se_callTy call_int1 cs_int rfl B.b_int (by decide +kernel) (sa_cons (se_var 1) (sa_nil))) (se_int)) (se_int)) (sa_cons (se_int) (sa_nil))))) (se_var 2))))))))
abbrev s_l_next : Stmt := top 61
theorem sc_l_next : FnScope ["_law_draw_here", "_law_bound", "_law_at", "_law_cell"] ["_law_draw_here", "_law_bound"] (defScope s_l_next) := ⟨rfl, rfl, rfl, by decide +kernel, rfl, by decide +kernel, by decide +kernel⟩
theorem w_l_next {G_l_cell_at : List MV → MH → R MV} {G_l_number : List MV → MH → R MV} {f : Addr} {fd : FuncData} (B : Glb K mg) (D_l_cell_at : Def P w K mg base 1 "_law_cell_at" 2 G_l_cell_at) (D_l_number : Def P w K mg base 2 "_law_number" 3 G_l_number) (F : Fun K "_law_next" "_law_next" s_l_next f fd) (hm : mg "_law_next" = some (.ref f)) : Def P w K mg base 3 "_law_next" 2 (F_l_next G_l_cell_at G_l_number) := by
  refine ⟨f, fd, ["_law_draw_here", "_law_bound"], def_ok F sc_l_next fun cdv A outer s H E hr => ?_, hm, F.kp, F.binds fun _ _ _ _ _ _ us hl => match us, hl with | [_, _], _ => rfl⟩
  exact ss_cons (ss_store (se_op op_addU os_add (se_ix (se_var 0) (se_int)) (se_int)) (se_var 0) (se_int))
    (ss_cons (ss_set (i := 2) sc_l_next.nd rfl (by first | exact Or.inl rfl | exact Or.inr rfl) (se_op op_fdivW os_div (se_ix (se_var 0) (se_int)) (se_int)))
    (ss_cons (ss_set (i := 3) sc_l_next.nd rfl (by first | exact Or.inl rfl | exact Or.inr rfl) (se_op op_addU os_add (se_do D_l_cell_at hr rfl (sa_cons (se_ix (se_var 0) (se_int)) (sa_cons (se_op op_addU os_add (se_ix (se_var 0) (se_int)) (se_var 2)) (sa_nil)))) (se_op op_mulB os_mul (se_int) (se_var 2))))
    (ss_one (ss_ret (se_do D_l_number hr rfl (sa_cons (se_var 3) (sa_cons (se_op op_addU os_add (se_op op_mod os_mod (se_callTy call_int1 cs_int rfl B.b_int (by decide +kernel) (sa_cons (se_ix (se_var 0) (se_int)) (sa_nil))) (se_int)) (se_int)) (sa_cons (se_var 1) (sa_nil)))))))))
abbrev s_l_pick : Stmt := top 62
theorem sc_l_pick : FnScope ["_law_draw_here", "_law_things"] ["_law_draw_here", "_law_things"] (defScope s_l_pick) := ⟨rfl, rfl, rfl, by decide +kernel, rfl, by decide +kernel, by decide +kernel⟩
theorem w_l_pick {G_l_next : List MV → MH → R MV} {f : Addr} {fd : FuncData} (B : Glb K mg) (D_l_next : Def P w K mg base 3 "_law_next" 2 G_l_next) (F : Fun K "_law_pick" "_law_pick" s_l_pick f fd) (hm : mg "_law_pick" = some (.ref f)) : Def P w K mg base 4 "_law_pick" 2 (F_l_pick G_l_next) := by
  refine ⟨f, fd, ["_law_draw_here", "_law_things"], def_ok F sc_l_pick fun cdv A outer s H E hr => ?_, hm, F.kp, F.binds fun _ _ _ _ _ _ us hl => match us, hl with | [_, _], _ => rfl⟩
  exact ss_one (ss_ret (se_ix (se_var 1) (se_do D_l_next hr rfl (sa_cons (se_var 0) (sa_cons (se_callB call_lenU cs_len rfl B.b_len boot_len (sa_cons (se_var 1) (sa_nil))) (sa_nil))))))
abbrev s_l_rule : Stmt := top 63
theorem sc_l_rule : FnScope ["_law_draw_here", "_law_most", "_law_found", "_law_turn"] ["_law_draw_here", "_law_most"] (defScope s_l_rule) := ⟨rfl, rfl, rfl, by decide +kernel, rfl, by decide +kernel, by decide +kernel⟩
theorem w_l_rule {G_l_next : List MV → MH → R MV} {f : Addr} {fd : FuncData} (B : Glb K mg) (D_l_next : Def P w K mg base 3 "_law_next" 2 G_l_next) (F : Fun K "_law_rule" "_law_rule" s_l_rule f fd) (hm : mg "_law_rule" = some (.ref f)) : Def P w K mg base 4 "_law_rule" 2 (F_l_rule G_l_next) := by
  refine ⟨f, fd, ["_law_draw_here", "_law_most"], def_ok F sc_l_rule fun cdv A outer s H E hr => ?_, hm, F.kp, F.binds fun _ _ _ _ _ _ us hl => match us, hl with | [_, _], _ => rfl⟩
  exact ss_cons (ss_set (i := 2) sc_l_rule.nd rfl (by first | exact Or.inl rfl | exact Or.inr rfl) (se_lst (sa_nil)))
    (ss_cons (ss_for (own := [3]) PassesOwn.never rfl (si_range1 rfl B.b_range (sa_cons (se_op op_addU os_add (se_int) (se_do D_l_next hr rfl (sa_cons (se_var 0) (sa_cons (se_int) (sa_nil))))) (sa_nil))) (pg_name (i := 3) sc_l_rule.nd rfl (by first | exact Or.inl rfl | exact Or.inr rfl)) (gok_N (i := 3) (by decide)) (ss_one (ss_expr (se_append (se_var 2) (sa_cons (se_tup (sa_cons (se_op op_addU os_add (se_int) (se_do D_l_next hr rfl (sa_cons (se_var 0) (sa_cons (se_int) (sa_nil))))) (sa_cons (se_do D_l_next hr rfl (sa_cons (se_var 0) (sa_cons (se_op op_addU os_add (se_var 1) (se_int)) (sa_nil)))) (sa_nil)))) (sa_nil))))))
    (ss_cons (ss_if (st_cmp (op_eqD hr.units) os_eq (se_do D_l_next hr rfl (sa_cons (se_var 0) (sa_cons (se_int) (sa_nil)))) (se_int)) (ss_one (ss_store (se_tup (sa_cons (se_int) (sa_cons (se_do D_l_next hr rfl (sa_cons (se_var 0) (sa_cons (se_op op_addU os_add (se_int) (se_op op_fdivW os_div (se_var 1) (se_int))) (sa_nil)))) (sa_nil)))) (se_var 2) (se_int))) (ss_nil))
    (ss_one (ss_ret (se_callTy call_tuple_of cs_tuple rfl B.b_tuple (by decide +kernel) (sa_cons (se_var 2) (sa_nil)))))))
abbrev s_l_held : Stmt := top 64
theorem sc_l_held : FnScope ["_law_rule_here", "_law_time", "_law_found", "_law_age", "_law_able", "_law_every", "_law_until"] ["_law_rule_here", "_law_time"] (defScope s_l_held) := ⟨rfl, rfl, rfl, by decide +kernel, rfl, by decide +kernel, by decide +kernel⟩
theorem w_l_held {f : Addr} {fd : FuncData} (B : Glb K mg) (F : Fun K "_law_held" "_law_held" s_l_held f fd) (hm : mg "_law_held" = some (.ref f)) : Def P w K mg base 1 "_law_held" 2 (F_l_held) := by
  refine ⟨f, fd, ["_law_rule_here", "_law_time"], def_ok F sc_l_held fun cdv A outer s H E hr => ?_, hm, F.kp, F.binds fun _ _ _ _ _ _ us hl => match us, hl with | [_, _], _ => rfl⟩
  exact ss_cons (ss_set (i := 2) sc_l_held.nd rfl (by first | exact Or.inl rfl | exact Or.inr rfl) (se_lst (sa_nil)))
    (ss_cons (ss_for (own := [3]) PassesOwn.never rfl (si_range1 rfl B.b_range (sa_cons (se_op op_addU os_add (se_callB (call_minU rfl) cs_min rfl B.b_min boot_min (sa_cons (se_var 1) (sa_cons (se_int) (sa_nil)))) (se_int)) (sa_nil))) (pg_name (i := 3) sc_l_held.nd rfl (by first | exact Or.inl rfl | exact Or.inr rfl)) (gok_N (i := 3) (by decide)) (ss_cons (ss_setLc (i := 4) rfl sc_l_held.nd rfl rfl (sw_true rfl rfl rfl (by decide +kernel)) (own := [("_law_every", 5), ("_law_until", 6)]) (si_seq (se_var 0)) (blkOk_by (by kernel_rfl)) (fun _ _ _ _ _ => pg_tup rfl (pgs_cons (pg_name (i := 5) sc_l_held.nd rfl (by first | exact Or.inl rfl | exact Or.inr rfl)) (pgs_cons (pg_name (i := 6) sc_l_held.nd rfl (by first | exact Or.inl rfl | exact Or.inr rfl)) (pgs_nil)))) (gok_T (is := [5, 6]) (by decide) rfl) (fun _ _ _ _ _ => sts_one (st_cmp (op_eqD hr.units) os_eq (se_op op_mod os_mod (se_callTy call_int1 cs_int rfl B.b_int (by decide +kernel) (sa_cons (se_op op_sub os_sub (se_var 1) (se_var 3)) (sa_nil))) (se_var 5)) (se_int))) (fun _ _ _ _ _ => se_var 6))
    (ss_one (ss_if (st_val (se_callB (cr_any rfl) cs_any rfl B.b_any boot_any (sa_cons (se_lc rfl sc_l_held.nd (own := [("_law_until", 6)]) (si_seq (se_var 4)) (blkOk_by (by kernel_rfl)) (fun _ _ _ _ _ => pg_name (i := 6) sc_l_held.nd rfl (by first | exact Or.inl rfl | exact Or.inr rfl)) (gok_N (i := 6) (by decide)) (fun _ _ _ _ _ => sts_nil) (fun _ _ _ _ _ => se_cmp op_le os_le (se_var 3) (se_var 6))) (sa_nil)))) (ss_one (ss_expr (se_append (se_var 2) (sa_cons (se_var 3) (sa_nil))))) (ss_nil)))))
    (ss_one (ss_ret (se_callTy call_tuple_of cs_tuple rfl B.b_tuple (by decide +kernel) (sa_cons (se_var 2) (sa_nil))))))
abbrev s_l_settled : Stmt := top 65
theorem sc_l_settled : FnScope ["_law_rule_here", "_law_every", "_law_until"] ["_law_rule_here"] (defScope s_l_settled) := ⟨rfl, rfl, rfl, by decide +kernel, rfl, by decide +kernel, by decide +kernel⟩
theorem w_l_settled {f : Addr} {fd : FuncData} (B : Glb K mg) (F : Fun K "_law_settled" "_law_settled" s_l_settled f fd) (hm : mg "_law_settled" = some (.ref f)) : Def P w K mg base 1 "_law_settled" 1 (F_l_settled) := by
  refine ⟨f, fd, ["_law_rule_here"], def_ok F sc_l_settled fun cdv A outer s H E hr => ?_, hm, F.kp, F.binds fun _ _ _ _ _ _ us hl => match us, hl with | [_], _ => rfl⟩
  exact ss_one (ss_ret (se_callB (call_maxU rfl) cs_max rfl B.b_max boot_max (sa_cons (se_lc rfl sc_l_settled.nd (own := [("_law_every", 1), ("_law_until", 2)]) (si_seq (se_var 0)) (blkOk_by (by kernel_rfl)) (fun _ _ _ _ _ => pg_tup rfl (pgs_cons (pg_name (i := 1) sc_l_settled.nd rfl (by first | exact Or.inl rfl | exact Or.inr rfl)) (pgs_cons (pg_name (i := 2) sc_l_settled.nd rfl (by first | exact Or.inl rfl | exact Or.inr rfl)) (pgs_nil)))) (gok_T (is := [1, 2]) (by decide) rfl) (fun _ _ _ _ _ => sts_nil) (fun _ _ _ _ _ => se_var 2)) (sa_nil))))
abbrev s_l_rows : Stmt := top 66
theorem sc_l_rows : FnScope ["_law_rule_here", "_law_many", "_law_first", "_law_more"] ["_law_rule_here", "_law_many"] (defScope s_l_rows) := ⟨rfl, rfl, rfl, by decide +kernel, rfl, by decide +kernel, by decide +kernel⟩
theorem w_l_rows {G_l_settled : List MV → MH → R MV} {G_l_held : List MV → MH → R MV} {f : Addr} {fd : FuncData} (B : Glb K mg) (D_l_settled : Def P w K mg base 1 "_law_settled" 1 G_l_settled) (D_l_held : Def P w K mg base 1 "_law_held" 2 G_l_held) (F : Fun K "_law_rows" "_law_rows" s_l_rows f fd) (hm : mg "_law_rows" = some (.ref f)) : Def P w K mg base 2 "_law_rows" 2 (F_l_rows G_l_settled G_l_held) := by
  refine ⟨f, fd, ["_law_rule_here", "_law_many"], def_ok F sc_l_rows fun cdv A outer s H E hr => ?_, hm, F.kp, F.binds fun _ _ _ _ _ _ us hl => match us, hl with | [_, _], _ => rfl⟩
  exact ss_cons (ss_set (i := 2) sc_l_rows.nd rfl (by first | exact Or.inl rfl | exact Or.inr rfl) (se_do D_l_settled hr rfl (sa_cons (se_var 0) (sa_nil))))
    (ss_one (ss_ret (se_lc rfl sc_l_rows.nd (own := [("_law_more", 3)]) (si_range1 rfl B.b_range (sa_cons (se_var 1) (sa_nil))) (blkOk_by (by kernel_rfl)) (fun _ _ _ _ _ => pg_name (i := 3) sc_l_rows.nd rfl (by first | exact Or.inl rfl | exact Or.inr rfl)) (gok_N (i := 3) (by decide)) (fun _ _ _ _ _ => sts_nil) (fun _ _ _ _ _ => se_do D_l_held hr rfl (sa_cons (se_var 0) (sa_cons (se_op op_addU os_add (se_var 2) (se_var 3)) (sa_nil)))))))
abbrev s_l_period : Stmt := top 67
theorem sc_l_period : FnScope ["_law_rule_here", "_law_rows_here", "_law_number_here", "_law_at"] ["_law_rule_here"] (defScope s_l_period) := ⟨rfl, rfl, rfl, by decide +kernel, rfl, by decide +kernel, by decide +kernel⟩
theorem w_l_period {G_l_rows : List MV → MH → R MV} {f : Addr} {fd : FuncData} (B : Glb K mg) (D_l_rows : Def P w K mg base 2 "_law_rows" 2 G_l_rows) (F : Fun K "_law_period" "_law_period" s_l_period f fd) (hm : mg "_law_period" = some (.ref f)) : Def P w K mg base 3 "_law_period" 1 (F_l_period G_l_rows) := by
  refine ⟨f, fd, ["_law_rule_here"], def_ok F sc_l_period fun cdv A outer s H E hr => ?_, hm, F.kp, F.binds fun _ _ _ _ _ _ us hl => match us, hl with | [_], _ => rfl⟩
  exact ss_cons (ss_set (i := 1) sc_l_period.nd rfl (by first | exact Or.inl rfl | exact Or.inr rfl) (se_do D_l_rows hr rfl (sa_cons (se_var 0) (sa_cons (se_int) (sa_nil)))))
    (ss_cons (ss_set (i := 2) sc_l_period.nd rfl (by first | exact Or.inl rfl | exact Or.inr rfl) (se_int))
    (ss_cons (ss_while PassesOwn.never (st_w (sw_and (st_cmp op_lt os_lt (se_var 2) (se_int)) (sw_and1 (st_cmp (op_neD hr.units) os_ne (se_lc rfl sc_l_period.nd (own := [("_law_at", 3)]) (si_range1 rfl B.b_range (sa_cons (se_int) (sa_nil))) (blkOk_by (by kernel_rfl)) (fun _ _ _ _ _ => pg_name (i := 3) sc_l_period.nd rfl (by first | exact Or.inl rfl | exact Or.inr rfl)) (gok_N (i := 3) (by decide)) (fun _ _ _ _ _ => sts_nil) (fun _ _ _ _ _ => se_ix (se_var 1) (se_op op_mod os_mod (se_callTy call_int1 cs_int rfl B.b_int (by decide +kernel) (sa_cons (se_op op_addU os_add (se_var 3) (se_var 2)) (sa_nil))) (se_int)))) (se_var 1))))) (ss_one (ss_set (i := 2) sc_l_period.nd rfl (by first | exact Or.inl rfl | exact Or.inr rfl) (se_op op_addU os_add (se_var 2) (se_int)))))
    (ss_one (ss_ret (se_var 2)))))
abbrev s_l_promise : Stmt := top 68
theorem sc_l_promise : FnScope ["_law_draw_here", "_law_far", "_law_low", "_law_part", "_law_whole"] ["_law_draw_here"] (defScope s_l_promise) := ⟨rfl, rfl, rfl, by decide +kernel, rfl, by decide +kernel, by decide +kernel⟩
theorem w_l_promise {G_l_next : List MV → MH → R MV} {G_Promise_init : List MV → MH → R MV} {f : Addr} {fd : FuncData} (B : Glb K mg) (D_l_next : Def P w K mg base 3 "_law_next" 2 G_l_next) (D_Promise_init : KDef P w K mg base 3 0 3 ["share", "copies"] G_Promise_init) (F : Fun K "_law_promise" "_law_promise" s_l_promise f fd) (hm : mg "_law_promise" = some (.ref f)) : Def P w K mg base 5 "_law_promise" 1 (F_l_promise G_l_next G_Promise_init) := by
  refine ⟨f, fd, ["_law_draw_here"], def_ok F sc_l_promise fun cdv A outer s H E hr => ?_, hm, F.kp, F.binds fun _ _ _ _ _ _ us hl => match us, hl with | [_], _ => rfl⟩
  exact ss_cons (ss_par (i := 1) (j := 2) rfl sc_l_promise.nd rfl rfl (by decide) rfl rfl (sa_cons (se_do D_l_next hr rfl (sa_cons (se_var 0) (sa_cons (se_int) (sa_nil)))) (sa_cons (se_do D_l_next hr rfl (sa_cons (se_var 0) (sa_cons (se_int) (sa_nil)))) (sa_nil))) rfl)
    (ss_cons (ss_par (i := 3) (j := 4) rfl sc_l_promise.nd rfl rfl (by decide) rfl rfl (sa_cons (se_do D_l_next hr rfl (sa_cons (se_var 0) (sa_cons (se_int) (sa_nil)))) (sa_cons (se_op op_addU os_add (se_int) (se_do D_l_next hr rfl (sa_cons (se_var 0) (sa_cons (se_int) (sa_nil))))) (sa_nil))) rfl)
    (ss_cons (ss_if (st_cmp op_gt os_gt (se_op op_addU os_add (se_op op_addU os_add (se_var 1) (se_var 2)) (se_op op_fdivW os_div (se_op op_mulB os_mul (se_var 1) (se_var 3)) (se_var 4))) (se_int)) (ss_one (ss_asg (own := [3, 4]) (se_tup (sa_cons (se_int) (sa_cons (se_int) (sa_nil)))) (pg_tup rfl (pgs_cons (pg_name (i := 3) sc_l_promise.nd rfl (by first | exact Or.inl rfl | exact Or.inr rfl)) (pgs_cons (pg_name (i := 4) sc_l_promise.nd rfl (by first | exact Or.inl rfl | exact Or.inr rfl)) (pgs_nil)))) (gok_T (is := [3, 4]) (by decide) rfl))) (ss_nil))
    (ss_one (ss_ret (se_makeK D_Promise_init hr rfl (sa_cons (se_var 1) (sa_cons (se_var 2) (sa_nil))) (sk_cons (se_tup (sa_cons (se_var 3) (sa_cons (se_var 4) (sa_nil)))) (sk_cons (se_op op_addU os_add (se_int) (se_op op_fdivW os_div (se_do D_l_next hr rfl (sa_cons (se_var 0) (sa_cons (se_int) (sa_nil)))) (se_int))) (sk_nil))))))))
abbrev s_l_broken : Stmt := top 69
theorem sc_l_broken : FnScope ["_law_promise_here", "_law_ages", "_law_part", "_law_whole", "_law_found", "_law_age", "_law_last", "_law_one"] ["_law_promise_here", "_law_ages"] (defScope s_l_broken) := ⟨rfl, rfl, rfl, by decide +kernel, rfl, by decide +kernel, by decide +kernel⟩
theorem w_l_broken {G_Promise_share : List MV → MH → R MV} {G_Promise_reach : List MV → MH → R MV} {G_Promise_base : List MV → MH → R MV} {G_Promise_copies : List MV → MH → R MV} {f : Addr} {fd : FuncData} (B : Glb K mg) (D_Promise_share : PDef P w K mg base 1 0 "share" G_Promise_share) (D_Promise_reach : PDef P w K mg base 1 0 "reach" G_Promise_reach) (D_Promise_base : PDef P w K mg base 1 0 "base" G_Promise_base) (D_Promise_copies : PDef P w K mg base 1 0 "copies" G_Promise_copies) (F : Fun K "_law_broken" "_law_broken" s_l_broken f fd) (hm : mg "_law_broken" = some (.ref f)) : Def P w K mg base 3 "_law_broken" 2 (F_l_broken G_Promise_share G_Promise_reach G_Promise_base G_Promise_copies) := by
  refine ⟨f, fd, ["_law_promise_here", "_law_ages"], def_ok F sc_l_broken fun cdv A outer s H E hr => ?_, hm, F.kp, F.binds fun _ _ _ _ _ _ us hl => match us, hl with | [_, _], _ => rfl⟩
  exact ss_cons (ss_asg (own := [2, 3]) (se_prop D_Promise_share hr (se_var 0) (by decide) pass0) (pg_tup rfl (pgs_cons (pg_name (i := 2) sc_l_broken.nd rfl (by first | exact Or.inl rfl | exact Or.inr rfl)) (pgs_cons (pg_name (i := 3) sc_l_broken.nd rfl (by first | exact Or.inl rfl | exact Or.inr rfl)) (pgs_nil)))) (gok_T (is := [2, 3]) (by decide) rfl))
    (ss_cons (ss_set (i := 4) sc_l_broken.nd rfl (by first | exact Or.inl rfl | exact Or.inr rfl) (se_lst (sa_nil)))
    (ss_cons (ss_for (own := [5]) PassesOwn.never rfl (si_range1 rfl B.b_range (sa_cons (se_op op_addU os_add (se_prop D_Promise_reach hr (se_var 0) (by decide) pass0) (se_int)) (sa_nil))) (pg_name (i := 5) sc_l_broken.nd rfl (by first | exact Or.inl rfl | exact Or.inr rfl)) (gok_N (i := 5) (by decide)) (ss_cons (ss_set (i := 6) sc_l_broken.nd rfl (by first | exact Or.inl rfl | exact Or.inr rfl) (se_op op_addU os_add (se_op op_addU os_add (se_var 5) (se_prop D_Promise_base hr (se_var 0) (by decide) pass0)) (se_op op_fdivW os_div (se_op op_mulB os_mul (se_var 5) (se_var 2)) (se_var 3))))
    (ss_one (ss_if (st_cmp op_lt os_lt (se_callB call_lenU cs_len rfl B.b_len boot_len (sa_cons (se_lc rfl sc_l_broken.nd (own := [("_law_one", 7)]) (si_seq (se_var 1)) (blkOk_by (by kernel_rfl)) (fun _ _ _ _ _ => pg_name (i := 7) sc_l_broken.nd rfl (by first | exact Or.inl rfl | exact Or.inr rfl)) (gok_N (i := 7) (by decide)) (fun _ _ _ _ _ => sts_one (st_chain op_le os_le op_le os_le (se_var 5) (se_var 7) (se_var 6))) (fun _ _ _ _ _ => se_var 7)) (sa_nil))) (se_prop D_Promise_copies hr (se_var 0) (by decide) pass0)) (ss_one (ss_expr (se_append (se_var 4) (sa_cons (se_var 5) (sa_nil))))) (ss_nil)))))
    (ss_one (ss_ret (se_var 4)))))
abbrev s_l_young : Stmt := top 70
theorem sc_l_young : FnScope ["_law_promise_here", "_law_ages", "_law_part", "_law_whole", "_law_last", "_law_age"] ["_law_promise_here", "_law_ages"] (defScope s_l_young) := ⟨rfl, rfl, rfl, by decide +kernel, rfl, by decide +kernel, by decide +kernel⟩
theorem w_l_young {G_Promise_share : List MV → MH → R MV} {G_Promise_reach : List MV → MH → R MV} {G_Promise_base : List MV → MH → R MV} {f : Addr} {fd : FuncData} (B : Glb K mg) (D_Promise_share : PDef P w K mg base 1 0 "share" G_Promise_share) (D_Promise_reach : PDef P w K mg base 1 0 "reach" G_Promise_reach) (D_Promise_base : PDef P w K mg base 1 0 "base" G_Promise_base) (F : Fun K "_law_young" "_law_young" s_l_young f fd) (hm : mg "_law_young" = some (.ref f)) : Def P w K mg base 3 "_law_young" 2 (F_l_young G_Promise_share G_Promise_reach G_Promise_base) := by
  refine ⟨f, fd, ["_law_promise_here", "_law_ages"], def_ok F sc_l_young fun cdv A outer s H E hr => ?_, hm, F.kp, F.binds fun _ _ _ _ _ _ us hl => match us, hl with | [_, _], _ => rfl⟩
  exact ss_cons (ss_asg (own := [2, 3]) (se_prop D_Promise_share hr (se_var 0) (by decide) pass0) (pg_tup rfl (pgs_cons (pg_name (i := 2) sc_l_young.nd rfl (by first | exact Or.inl rfl | exact Or.inr rfl)) (pgs_cons (pg_name (i := 3) sc_l_young.nd rfl (by first | exact Or.inl rfl | exact Or.inr rfl)) (pgs_nil)))) (gok_T (is := [2, 3]) (by decide) rfl))
    (ss_cons (ss_set (i := 4) sc_l_young.nd rfl (by first | exact Or.inl rfl | exact Or.inr rfl) (se_op op_addU os_add (se_op op_addU os_add (se_prop D_Promise_reach hr (se_var 0) (by decide) pass0) (se_prop D_Promise_base hr (se_var 0) (by decide) pass0)) (se_op op_fdivW os_div (se_op op_mulB os_mul (se_prop D_Promise_reach hr (se_var 0) (by decide) pass0) (se_var 2)) (se_var 3))))
    (ss_one (ss_ret (se_callTy call_tuple_of cs_tuple rfl B.b_tuple (by decide +kernel) (sa_cons (se_lc rfl sc_l_young.nd (own := [("_law_age", 5)]) (si_seq (se_var 1)) (blkOk_by (by kernel_rfl)) (fun _ _ _ _ _ => pg_name (i := 5) sc_l_young.nd rfl (by first | exact Or.inl rfl | exact Or.inr rfl)) (gok_N (i := 5) (by decide)) (fun _ _ _ _ _ => sts_one (st_cmp op_le os_le (se_var 5) (se_var 4))) (fun _ _ _ _ _ => se_var 5)) (sa_nil))))))
abbrev s_l_missed : Stmt := top 71
theorem sc_l_missed : FnScope ["_law_promise_here", "_law_rule_here", "_law_first", "_law_more", "_law_ages", "_law_broken_ages"] ["_law_promise_here", "_law_rule_here"] (defScope s_l_missed) := ⟨rfl, rfl, rfl, by decide +kernel, rfl, by decide +kernel, by decide +kernel⟩
theorem w_l_missed {G_l_settled : List MV → MH → R MV} {G_l_period : List MV → MH → R MV} {G_l_rows : List MV → MH → R MV} {G_l_young : List MV → MH → R MV} {G_l_broken : List MV → MH → R MV} {f : Addr} {fd : FuncData} (B : Glb K mg) (D_l_settled : Def P w K mg base 1 "_law_settled" 1 G_l_settled) (D_l_period : Def P w K mg base 3 "_law_period" 1 G_l_period) (D_l_rows : Def P w K mg base 2 "_law_rows" 2 G_l_rows) (D_l_young : Def P w K mg base 3 "_law_young" 2 G_l_young) (D_l_broken : Def P w K mg base 3 "_law_broken" 2 G_l_broken) (F : Fun K "_law_missed" "_law_missed" s_l_missed f fd) (hm : mg "_law_missed" = some (.ref f)) : Def P w K mg base 4 "_law_missed" 2 (F_l_missed G_l_settled G_l_period G_l_rows G_l_young G_l_broken) := by
  refine ⟨f, fd, ["_law_promise_here", "_law_rule_here"], def_ok F sc_l_missed fun cdv A outer s H E hr => ?_, hm, F.kp, F.binds fun _ _ _ _ _ _ us hl => match us, hl with | [_, _], _ => rfl⟩
  exact ss_cons (ss_set (i := 2) sc_l_missed.nd rfl (by first | exact Or.inl rfl | exact Or.inr rfl) (se_do D_l_settled hr rfl (sa_cons (se_var 1) (sa_nil))))
    (ss_cons (ss_for (own := [3, 4]) PassesOwn.never rfl (si_enumV rfl B.b_enumerate (sa_cons (se_do D_l_rows hr rfl (sa_cons (se_var 1) (sa_cons (se_do D_l_period hr rfl (sa_cons (se_var 1) (sa_nil))) (sa_nil)))) (sa_nil))) (pg_tup rfl (pgs_cons (pg_name (i := 3) sc_l_missed.nd rfl (by first | exact Or.inl rfl | exact Or.inr rfl)) (pgs_cons (pg_name (i := 4) sc_l_missed.nd rfl (by first | exact Or.inl rfl | exact Or.inr rfl)) (pgs_nil)))) (gok_T (is := [3, 4]) (by decide) rfl) (ss_cons (ss_set (i := 5) sc_l_missed.nd rfl (by first | exact Or.inl rfl | exact Or.inr rfl) (se_do D_l_broken hr rfl (sa_cons (se_var 0) (sa_cons (se_do D_l_young hr rfl (sa_cons (se_var 0) (sa_cons (se_var 4) (sa_nil)))) (sa_nil)))))
    (ss_one (ss_if (st_cmp (op_neD hr.units) os_ne (se_var 5) (se_lst (sa_nil))) (ss_one (ss_ret (se_tup (sa_cons (se_op op_addU os_add (se_var 2) (se_var 3)) (sa_cons (se_ix (se_var 5) (se_int)) (sa_nil)))))) (ss_nil)))))
    (ss_one (ss_ret (se_non))))
abbrev s_l_keeping : Stmt := top 72
theorem sc_l_keeping : FnScope ["_law_draw_here", "_law_promise_here", "_law_most", "_law_rule_here", "_law_turn"] ["_law_draw_here", "_law_promise_here", "_law_most"] (defScope s_l_keeping) := ⟨rfl, rfl, rfl, by decide +kernel, rfl, by decide +kernel, by decide +kernel⟩
theorem w_l_keeping {G_l_rule : List MV → MH → R MV} {G_l_missed : List MV → MH → R MV} {G_l_next : List MV → MH → R MV} {f : Addr} {fd : FuncData} (B : Glb K mg) (D_l_rule : Def P w K mg base 4 "_law_rule" 2 G_l_rule) (D_l_missed : Def P w K mg base 4 "_law_missed" 2 G_l_missed) (D_l_next : Def P w K mg base 3 "_law_next" 2 G_l_next) (F : Fun K "_law_keeping" "_law_keeping" s_l_keeping f fd) (hm : mg "_law_keeping" = some (.ref f)) : Def P w K mg base 5 "_law_keeping" 3 (F_l_keeping G_l_rule G_l_missed G_l_next) := by
  refine ⟨f, fd, ["_law_draw_here", "_law_promise_here", "_law_most"], def_ok F sc_l_keeping fun cdv A outer s H E hr => ?_, hm, F.kp, F.binds fun _ _ _ _ _ _ us hl => match us, hl with | [_, _, _], _ => rfl⟩
  exact ss_cons (ss_set (i := 3) sc_l_keeping.nd rfl (by first | exact Or.inl rfl | exact Or.inr rfl) (se_do D_l_rule hr rfl (sa_cons (se_var 0) (sa_cons (se_var 2) (sa_nil)))))
    (ss_cons (ss_for (own := [4]) PassesOwn.never rfl (si_range1 rfl B.b_range (sa_cons (se_int) (sa_nil))) (pg_name (i := 4) sc_l_keeping.nd rfl (by first | exact Or.inl rfl | exact Or.inr rfl)) (gok_N (i := 4) (by decide)) (ss_cons (ss_if (st_cmp op_isN os_isN (se_do D_l_missed hr rfl (sa_cons (se_var 1) (sa_cons (se_var 3) (sa_nil)))) (se_non)) (ss_one (ss_ret (se_var 3))) (ss_nil))
    (ss_one (ss_set (i := 3) sc_l_keeping.nd rfl (by first | exact Or.inl rfl | exact Or.inr rfl) (se_op op_addU os_add (se_tup (sa_cons (se_tup (sa_cons (se_int) (sa_cons (se_op op_addU os_add (se_int) (se_do D_l_next hr rfl (sa_cons (se_var 0) (sa_cons (se_op op_sub os_sub (se_var 2) (se_int)) (sa_nil))))) (sa_nil)))) (sa_nil))) (se_slice (se_do D_l_rule hr rfl (sa_cons (se_var 0) (sa_cons (se_var 2) (sa_nil)))) (so_none) (so_some (se_int))))))))
    (ss_one (ss_ret (se_tup (sa_cons (se_tup (sa_cons (se_int) (sa_cons (se_var 2) (sa_nil)))) (sa_nil))))))
abbrev s_l_hurt : Stmt := top 73
theorem sc_l_hurt : FnScope ["_law_promise_here", "_law_rule_here", "_law_first", "_law_gone", "_law_found", "_law_time", "_law_ages", "_law_age"] ["_law_promise_here", "_law_rule_here", "_law_first", "_law_gone"] (defScope s_l_hurt) := ⟨rfl, rfl, rfl, by decide +kernel, rfl, by decide +kernel, by decide +kernel⟩
theorem w_l_hurt {G_l_settled : List MV → MH → R MV} {G_l_held : List MV → MH → R MV} {G_l_young : List MV → MH → R MV} {G_l_broken : List MV → MH → R MV} {f : Addr} {fd : FuncData} (B : Glb K mg) (D_l_settled : Def P w K mg base 1 "_law_settled" 1 G_l_settled) (D_l_held : Def P w K mg base 1 "_law_held" 2 G_l_held) (D_l_young : Def P w K mg base 3 "_law_young" 2 G_l_young) (D_l_broken : Def P w K mg base 3 "_law_broken" 2 G_l_broken) (F : Fun K "_law_hurt" "_law_hurt" s_l_hurt f fd) (hm : mg "_law_hurt" = some (.ref f)) : Def P w K mg base 4 "_law_hurt" 4 (F_l_hurt G_l_settled G_l_held G_l_young G_l_broken) := by
  refine ⟨f, fd, ["_law_promise_here", "_law_rule_here", "_law_first", "_law_gone"], def_ok F sc_l_hurt fun cdv A outer s H E hr => ?_, hm, F.kp, F.binds fun _ _ _ _ _ _ us hl => match us, hl with | [_, _, _, _], _ => rfl⟩
  exact ss_cons (ss_set (i := 4) sc_l_hurt.nd rfl (by first | exact Or.inl rfl | exact Or.inr rfl) (se_lst (sa_nil)))
    (ss_cons (ss_for (own := [5]) PassesOwn.never rfl (si_range2 rfl B.b_range (sa_cons (se_callB (call_maxU rfl) cs_max rfl B.b_max boot_max (sa_cons (se_var 2) (sa_cons (se_do D_l_settled hr rfl (sa_cons (se_var 1) (sa_nil))) (sa_nil)))) (sa_cons (se_op op_addU os_add (se_callB (call_maxU rfl) cs_max rfl B.b_max boot_max (sa_cons (se_op op_addU os_add (se_lst (sa_cons (se_var 2) (sa_nil))) (se_var 3)) (sa_nil))) (se_int)) (sa_nil)))) (pg_name (i := 5) sc_l_hurt.nd rfl (by first | exact Or.inl rfl | exact Or.inr rfl)) (gok_N (i := 5) (by decide)) (ss_cons (ss_setLc (i := 6) rfl sc_l_hurt.nd rfl rfl (sw_true rfl rfl rfl (by decide +kernel)) (own := [("_law_age", 7)]) (si_seq (se_do D_l_held hr rfl (sa_cons (se_var 1) (sa_cons (se_var 5) (sa_nil))))) (blkOk_by (by kernel_rfl)) (fun _ _ _ _ _ => pg_name (i := 7) sc_l_hurt.nd rfl (by first | exact Or.inl rfl | exact Or.inr rfl)) (gok_N (i := 7) (by decide)) (fun _ _ _ _ _ => sts_one (st_cmp (op_notInD (hu65 hr)) os_notIn (se_op op_sub os_sub (se_var 5) (se_var 7)) (se_var 3))) (fun _ _ _ _ _ => se_var 7))
    (ss_one (ss_if (st_cmp (op_neD hr.units) os_ne (se_do D_l_broken hr rfl (sa_cons (se_var 0) (sa_cons (se_do D_l_young hr rfl (sa_cons (se_var 0) (sa_cons (se_var 6) (sa_nil)))) (sa_nil)))) (se_lst (sa_nil))) (ss_one (ss_expr (se_append (se_var 4) (sa_cons (se_var 5) (sa_nil))))) (ss_nil)))))
    (ss_one (ss_ret (se_var 4))))
abbrev s_l_healed : Stmt := top 74
theorem sc_l_healed : FnScope ["_law_rule_here", "_law_first", "_law_times", "_law_time"] ["_law_rule_here", "_law_first", "_law_times"] (defScope s_l_healed) := ⟨rfl, rfl, rfl, by decide +kernel, rfl, by decide +kernel, by decide +kernel⟩
theorem w_l_healed {G_l_settled : List MV → MH → R MV} {f : Addr} {fd : FuncData} (B : Glb K mg) (D_l_settled : Def P w K mg base 1 "_law_settled" 1 G_l_settled) (F : Fun K "_law_healed" "_law_healed" s_l_healed f fd) (hm : mg "_law_healed" = some (.ref f)) : Def P w K mg base 2 "_law_healed" 3 (F_l_healed G_l_settled) := by
  refine ⟨f, fd, ["_law_rule_here", "_law_first", "_law_times"], def_ok F sc_l_healed fun cdv A outer s H E hr => ?_, hm, F.kp, F.binds fun _ _ _ _ _ _ us hl => match us, hl with | [_, _, _], _ => rfl⟩
  exact ss_one (ss_ret (se_callB (call_maxU rfl) cs_max rfl B.b_max boot_max (sa_cons (se_op op_addU os_add (se_lst (sa_cons (se_var 1) (sa_cons (se_do D_l_settled hr rfl (sa_cons (se_var 0) (sa_nil))) (sa_nil)))) (se_lc rfl sc_l_healed.nd (own := [("_law_time", 3)]) (si_seq (se_var 2)) (blkOk_by (by kernel_rfl)) (fun _ _ _ _ _ => pg_name (i := 3) sc_l_healed.nd rfl (by first | exact Or.inl rfl | exact Or.inr rfl)) (gok_N (i := 3) (by decide)) (fun _ _ _ _ _ => sts_nil) (fun _ _ _ _ _ => se_op op_addU os_add (se_var 3) (se_int)))) (sa_nil))))
abbrev s_l_pause_right : Stmt := top 75
theorem sc_l_pause_right : FnScope ["_law_draw_here", "_law_promise_here", "_law_rule_here", "_law_begin", "_law_ticks", "_law_due"] ["_law_draw_here", "_law_promise_here", "_law_rule_here"] (defScope s_l_pause_right) := ⟨rfl, rfl, rfl, by decide +kernel, rfl, by decide +kernel, by decide +kernel⟩
theorem w_l_pause_right {G_l_next : List MV → MH → R MV} {G_l_hurt : List MV → MH → R MV} {G_broken_by_pause : List MV → MH → R MV} {G_healed_after_pause : List MV → MH → R MV} {G_l_healed : List MV → MH → R MV} {f : Addr} {fd : FuncData} (B : Glb K mg) (D_l_next : Def P w K mg base 3 "_law_next" 2 G_l_next) (D_l_hurt : Def P w K mg base 4 "_law_hurt" 4 G_l_hurt) (D_broken_by_pause : Def P w K mg base 10 "broken_by_pause" 4 G_broken_by_pause) (D_healed_after_pause : Def P w K mg base 11 "healed_after_pause" 4 G_healed_after_pause) (D_l_healed : Def P w K mg base 2 "_law_healed" 3 G_l_healed) (F : Fun K "_law_pause_right" "_law_pause_right" s_l_pause_right f fd) (hm : mg "_law_pause_right" = some (.ref f)) : Def P w K mg base 12 "_law_pause_right" 3 (F_l_pause_right G_l_next G_l_hurt G_broken_by_pause G_healed_after_pause G_l_healed) := by
  refine ⟨f, fd, ["_law_draw_here", "_law_promise_here", "_law_rule_here"], def_ok F sc_l_pause_right fun cdv A outer s H E hr => ?_, hm, F.kp, F.binds fun _ _ _ _ _ _ us hl => match us, hl with | [_, _, _], _ => rfl⟩
  exact ss_cons (ss_par (i := 3) (j := 4) rfl sc_l_pause_right.nd rfl rfl (by decide) rfl rfl (sa_cons (se_do D_l_next hr rfl (sa_cons (se_var 0) (sa_cons (se_int) (sa_nil)))) (sa_cons (se_do D_l_next hr rfl (sa_cons (se_var 0) (sa_cons (se_int) (sa_nil)))) (sa_nil))) rfl)
    (ss_cons (ss_set (i := 5) sc_l_pause_right.nd rfl (by first | exact Or.inl rfl | exact Or.inr rfl) (se_do D_l_hurt hr rfl (sa_cons (se_var 1) (sa_cons (se_var 2) (sa_cons (se_var 3) (sa_cons (se_lrg2 rfl rfl B.b_list rfl B.b_range (se_var 3) (se_op op_addU os_add (se_var 3) (se_var 4))) (sa_nil)))))))
    (ss_cons (ss_if (st_cmp (op_neD hr.units) os_ne (se_do D_broken_by_pause hr rfl (sa_cons (se_var 1) (sa_cons (se_var 2) (sa_cons (se_var 3) (sa_cons (se_var 4) (sa_nil)))))) (se_var 5)) (ss_one (ss_ret (se_bl))) (ss_nil))
    (ss_one (ss_ret (se_cmp (op_eqD hr.units) os_eq (se_do D_healed_after_pause hr rfl (sa_cons (se_var 1) (sa_cons (se_var 2) (sa_cons (se_var 3) (sa_cons (se_var 4) (sa_nil)))))) (se_do D_l_healed hr rfl (sa_cons (se_var 2) (sa_cons (se_var 3) (sa_cons (se_var 5) (sa_nil))))))))))
abbrev s_l_loss_right : Stmt := top 76
theorem sc_l_loss_right : FnScope ["_law_draw_here", "_law_promise_here", "_law_rule_here", "_law_lost", "_law_ages", "_law_taken", "_law_due"] ["_law_draw_here", "_law_promise_here", "_law_rule_here"] (defScope s_l_loss_right) := ⟨rfl, rfl, rfl, by decide +kernel, rfl, by decide +kernel, by decide +kernel⟩
theorem w_l_loss_right {G_l_next : List MV → MH → R MV} {G_l_held : List MV → MH → R MV} {G_l_pick : List MV → MH → R MV} {G_l_hurt : List MV → MH → R MV} {G_broken_by_loss : List MV → MH → R MV} {G_healed_after_loss : List MV → MH → R MV} {G_l_healed : List MV → MH → R MV} {f : Addr} {fd : FuncData} (B : Glb K mg) (D_l_next : Def P w K mg base 3 "_law_next" 2 G_l_next) (D_l_held : Def P w K mg base 1 "_law_held" 2 G_l_held) (D_l_pick : Def P w K mg base 4 "_law_pick" 2 G_l_pick) (D_l_hurt : Def P w K mg base 4 "_law_hurt" 4 G_l_hurt) (D_broken_by_loss : Def P w K mg base 10 "broken_by_loss" 4 G_broken_by_loss) (D_healed_after_loss : Def P w K mg base 11 "healed_after_loss" 4 G_healed_after_loss) (D_l_healed : Def P w K mg base 2 "_law_healed" 3 G_l_healed) (F : Fun K "_law_loss_right" "_law_loss_right" s_l_loss_right f fd) (hm : mg "_law_loss_right" = some (.ref f)) : Def P w K mg base 12 "_law_loss_right" 3 (F_l_loss_right G_l_next G_l_held G_l_pick G_l_hurt G_broken_by_loss G_healed_after_loss G_l_healed) := by
  refine ⟨f, fd, ["_law_draw_here", "_law_promise_here", "_law_rule_here"], def_ok F sc_l_loss_right fun cdv A outer s H E hr => ?_, hm, F.kp, F.binds fun _ _ _ _ _ _ us hl => match us, hl with | [_, _, _], _ => rfl⟩
  exact ss_cons (ss_set (i := 3) sc_l_loss_right.nd rfl (by first | exact Or.inl rfl | exact Or.inr rfl) (se_do D_l_next hr rfl (sa_cons (se_var 0) (sa_cons (se_int) (sa_nil)))))
    (ss_cons (ss_set (i := 4) sc_l_loss_right.nd rfl (by first | exact Or.inl rfl | exact Or.inr rfl) (se_do D_l_held hr rfl (sa_cons (se_var 2) (sa_cons (se_var 3) (sa_nil)))))
    (ss_cons (ss_if (st_cmp (op_eqD hr.units) os_eq (se_var 4) (se_tup (sa_nil))) (ss_one (ss_ret (se_bl))) (ss_nil))
    (ss_cons (ss_set (i := 5) sc_l_loss_right.nd rfl (by first | exact Or.inl rfl | exact Or.inr rfl) (se_op op_sub os_sub (se_var 3) (se_do D_l_pick hr rfl (sa_cons (se_var 0) (sa_cons (se_var 4) (sa_nil))))))
    (ss_cons (ss_set (i := 6) sc_l_loss_right.nd rfl (by first | exact Or.inl rfl | exact Or.inr rfl) (se_do D_l_hurt hr rfl (sa_cons (se_var 1) (sa_cons (se_var 2) (sa_cons (se_var 3) (sa_cons (se_lst (sa_cons (se_var 5) (sa_nil))) (sa_nil)))))))
    (ss_cons (ss_if (st_cmp (op_neD hr.units) os_ne (se_do D_broken_by_loss hr rfl (sa_cons (se_var 1) (sa_cons (se_var 2) (sa_cons (se_var 5) (sa_cons (se_var 3) (sa_nil)))))) (se_var 6)) (ss_one (ss_ret (se_bl))) (ss_nil))
    (ss_one (ss_ret (se_cmp (op_eqD hr.units) os_eq (se_do D_healed_after_loss hr rfl (sa_cons (se_var 1) (sa_cons (se_var 2) (sa_cons (se_var 5) (sa_cons (se_var 3) (sa_nil)))))) (se_do D_l_healed hr rfl (sa_cons (se_var 2) (sa_cons (se_var 3) (sa_cons (se_var 6) (sa_nil)))))))))))))
abbrev s_l_worst_right : Stmt := top 77
theorem sc_l_worst_right : FnScope ["_law_promise_here", "_law_rule_here", "_law_best", "_law_first", "_law_more", "_law_ages", "_law_age", "_law_many"] ["_law_promise_here", "_law_rule_here"] (defScope s_l_worst_right) := ⟨rfl, rfl, rfl, by decide +kernel, rfl, by decide +kernel, by decide +kernel⟩
theorem w_l_worst_right {G_l_settled : List MV → MH → R MV} {G_l_period : List MV → MH → R MV} {G_l_rows : List MV → MH → R MV} {G_l_hurt : List MV → MH → R MV} {G_worst_loss : List MV → MH → R MV} {f : Addr} {fd : FuncData} (B : Glb K mg) (D_l_settled : Def P w K mg base 1 "_law_settled" 1 G_l_settled) (D_l_period : Def P w K mg base 3 "_law_period" 1 G_l_period) (D_l_rows : Def P w K mg base 2 "_law_rows" 2 G_l_rows) (D_l_hurt : Def P w K mg base 4 "_law_hurt" 4 G_l_hurt) (D_worst_loss : Def P w K mg base 9 "worst_loss" 2 G_worst_loss) (F : Fun K "_law_worst_right" "_law_worst_right" s_l_worst_right f fd) (hm : mg "_law_worst_right" = some (.ref f)) : Def P w K mg base 10 "_law_worst_right" 2 (F_l_worst_right G_l_settled G_l_period G_l_rows G_l_hurt G_worst_loss) := by
  refine ⟨f, fd, ["_law_promise_here", "_law_rule_here"], def_ok F sc_l_worst_right fun cdv A outer s H E hr => ?_, hm, F.kp, F.binds fun _ _ _ _ _ _ us hl => match us, hl with | [_, _], _ => rfl⟩
  exact ss_cons (ss_par (i := 2) (j := 3) rfl sc_l_worst_right.nd rfl rfl (by decide) rfl rfl (sa_cons (se_non) (sa_cons (se_do D_l_settled hr rfl (sa_cons (se_var 1) (sa_nil))) (sa_nil))) rfl)
    (ss_cons (ss_for (own := [4, 5]) PassesOwn.never rfl (si_enumV rfl B.b_enumerate (sa_cons (se_do D_l_rows hr rfl (sa_cons (se_var 1) (sa_cons (se_do D_l_period hr rfl (sa_cons (se_var 1) (sa_nil))) (sa_nil)))) (sa_nil))) (pg_tup rfl (pgs_cons (pg_name (i := 4) sc_l_worst_right.nd rfl (by first | exact Or.inl rfl | exact Or.inr rfl)) (pgs_cons (pg_name (i := 5) sc_l_worst_right.nd rfl (by first | exact Or.inl rfl | exact Or.inr rfl)) (pgs_nil)))) (gok_T (is := [4, 5]) (by decide) rfl) (ss_one (ss_for (own := [6]) PassesOwn.never rfl (si_seq (se_var 5)) (pg_name (i := 6) sc_l_worst_right.nd rfl (by first | exact Or.inl rfl | exact Or.inr rfl)) (gok_N (i := 6) (by decide)) (ss_cons (ss_set (i := 7) sc_l_worst_right.nd rfl (by first | exact Or.inl rfl | exact Or.inr rfl) (se_callB call_lenU cs_len rfl B.b_len boot_len (sa_cons (se_do D_l_hurt hr rfl (sa_cons (se_var 0) (sa_cons (se_var 1) (sa_cons (se_op op_addU os_add (se_var 3) (se_var 4)) (sa_cons (se_lst (sa_cons (se_op op_sub os_sub (se_op op_addU os_add (se_var 3) (se_var 4)) (se_var 6)) (sa_nil))) (sa_nil)))))) (sa_nil))))
    (ss_one (ss_if (st_w (sw_or (st_cmp op_isN os_isN (se_var 2) (se_non)) (sw_or1 (st_cmp op_gt os_gt (se_var 7) (se_ix (se_var 2) (se_int)))))) (ss_one (ss_set (i := 2) sc_l_worst_right.nd rfl (by first | exact Or.inl rfl | exact Or.inr rfl) (se_tup (sa_cons (se_op op_addU os_add (se_var 3) (se_var 4)) (sa_cons (se_var 6) (sa_cons (se_var 7) (sa_nil))))))) (ss_nil)))))))
    (ss_one (ss_ret (se_cmp (op_eqD hr.units) os_eq (se_do D_worst_loss hr rfl (sa_cons (se_var 0) (sa_cons (se_var 1) (sa_nil)))) (se_var 2)))))
abbrev s_law : Stmt := top 78
theorem sc_law : FnScope ["_law_script", "_law_by", "_law_draw_here", "_law_promise_here", "_law_rule_here", "_law_turn"] ["_law_script"] (defScope s_law) := ⟨rfl, rfl, rfl, by decide +kernel, rfl, by decide +kernel, by decide +kernel⟩
theorem f_law {G_l_promise : List MV → MH → R MV} {G_l_keeping : List MV → MH → R MV} {G_l_missed : List MV → MH → R MV} {G_l_pause_right : List MV → MH → R MV} {G_l_loss_right : List MV → MH → R MV} {G_l_period : List MV → MH → R MV} {G_l_worst_right : List MV → MH → R MV} {f : Addr} {fd : FuncData} (B : Glb K mg) (D_l_promise : Def P w K mg base 5 "_law_promise" 1 G_l_promise) (D_l_keeping : Def P w K mg base 5 "_law_keeping" 3 G_l_keeping) (D_l_missed : Def P w K mg base 4 "_law_missed" 2 G_l_missed) (D_l_pause_right : Def P w K mg base 12 "_law_pause_right" 3 G_l_pause_right) (D_l_loss_right : Def P w K mg base 12 "_law_loss_right" 3 G_l_loss_right) (D_l_period : Def P w K mg base 3 "_law_period" 1 G_l_period) (D_l_worst_right : Def P w K mg base 10 "_law_worst_right" 2 G_l_worst_right) (F : Fun K "law" "law" s_law f fd) : FnOk P w K mg base CX0 13 f fd ["_law_script"] (spM ⟨K, mg⟩ 1 (F_law G_l_promise G_l_keeping G_l_missed G_l_pause_right G_l_loss_right G_l_period G_l_worst_right)) := by
  refine def_ok F sc_law fun cdv A outer s H E hr => ?_
  exact ss_cons (ss_for (own := [1]) PassesOwn.never rfl (si_range3 rfl B.b_range (sa_cons (se_int) (sa_cons (se_callB (call_maxU rfl) cs_max rfl B.b_max boot_max (sa_cons (se_int) (sa_cons (se_callB (call_minU rfl) cs_min rfl B.b_min boot_min (sa_cons (se_int) (sa_cons (se_callB call_lenU cs_len rfl B.b_len boot_len (sa_cons (se_var 0) (sa_nil))) (sa_nil)))) (sa_nil)))) (sa_cons (se_int) (sa_nil))))) (pg_name (i := 1) sc_law.nd rfl (by first | exact Or.inl rfl | exact Or.inr rfl)) (gok_N (i := 1) (by decide)) (ss_cons (ss_set (i := 2) sc_law.nd rfl (by first | exact Or.inl rfl | exact Or.inr rfl) (se_lst (sa_cons (se_var 0) (sa_cons (se_var 1) (sa_cons (se_int) (sa_nil))))))
    (ss_cons (ss_set (i := 3) sc_law.nd rfl (by first | exact Or.inl rfl | exact Or.inr rfl) (se_do D_l_promise hr rfl (sa_cons (se_var 2) (sa_nil))))
    (ss_cons (ss_set (i := 4) sc_law.nd rfl (by first | exact Or.inl rfl | exact Or.inr rfl) (se_do D_l_keeping hr rfl (sa_cons (se_var 2) (sa_cons (se_var 3) (sa_cons (se_int) (sa_nil))))))
    (ss_cons (ss_if (st_cmp op_notN os_notN (se_do D_l_missed hr rfl (sa_cons (se_var 3) (sa_cons (se_var 4) (sa_nil)))) (se_non)) (ss_one (ss_cont)) (ss_nil))
    (ss_cons (ss_for (own := [5]) PassesOwn.never rfl (si_range1 rfl B.b_range (sa_cons (se_int) (sa_nil))) (pg_name (i := 5) sc_law.nd rfl (by first | exact Or.inl rfl | exact Or.inr rfl)) (gok_N (i := 5) (by decide)) (ss_cons (ss_if (st_not (st_val (se_do D_l_pause_right hr rfl (sa_cons (se_var 2) (sa_cons (se_var 3) (sa_cons (se_var 4) (sa_nil))))))) (ss_one (ss_ret (se_bl))) (ss_nil))
    (ss_one (ss_if (st_not (st_val (se_do D_l_loss_right hr rfl (sa_cons (se_var 2) (sa_cons (se_var 3) (sa_cons (se_var 4) (sa_nil))))))) (ss_one (ss_ret (se_bl))) (ss_nil)))))
    (ss_one (ss_if (st_w (sw_and (st_cmp op_lt os_lt (se_do D_l_period hr rfl (sa_cons (se_var 4) (sa_nil))) (se_int)) (sw_and1 (st_not (st_val (se_do D_l_worst_right hr rfl (sa_cons (se_var 3) (sa_cons (se_var 4) (sa_nil))))))))) (ss_one (ss_ret (se_bl))) (ss_nil)))))))))
    (ss_one (ss_ret (se_bl)))
end
end Mv

set_option maxHeartbeats 4000000
namespace Mv
open PySem PySem.Spec L2
open PyProof.Rows hiding St
def noList (K : PySem.W.Frag) : Bool := K.all fun p => match p.2.cls with | .type n => !(n == "list") | _ => true
theorem noList_ne {K : PySem.W.Frag} (z : noList K = true) {a : Addr} {o : Obj} (e : K.lookup a = some o) : o.cls ≠ .type "list" := fun q => by
  have hm : ∀ (K : PySem.W.Frag), K.lookup a = some o → ∃ p ∈ K, p.2 = o := fun K => by
    induction K with
    | nil => intro e; cases e
    | cons x K ih =>
      intro e
      rw [List.lookup_cons] at e
      split at e
      · cases e
        exact ⟨x, List.mem_cons_self .., rfl⟩
      · obtain ⟨p, h1, h2⟩ := ih e
        exact ⟨p, List.mem_cons_of_mem _ h1, h2⟩
  obtain ⟨p, h1, h2⟩ := hm K e
  have := List.all_eq_true.mp z p h1
  rw [h2, q] at this
  cases this
theorem script_in {K : PySem.W.Frag} {mg : Str → Option Value} (z : noList K = true) {H : Hp} {a : Addr} {ns : List Int} (hl : ns.length ≤ 63) (hO : Only H) (hS : SqL K H a (ns.map V.int)) : HR ⟨K, mg⟩ [a] H [.frz (ivs ns)] ∧ IsVs ⟨K, mg⟩ [a] H [.ref 0] [.ref a] ∧ HasScript [.frz (ivs ns)] 0 ns := by
  have hi : ∀ ns : List Int, IsVs ⟨K, mg⟩ [a] H (ivs ns) (ns.map V.int) := fun ns => by
    induction ns with
    | nil => exact .nil
    | cons n ns ih => exact .cons (.int n) ih
  have hH : ∃ o, H a = some (.frz o (.lst (ns.map V.int))) := by
    rcases hS with (q | ⟨o, q⟩) | ⟨o, _, _, q, c, _⟩
    · rcases hO a with y | ⟨_, _, y⟩
      · rw [q] at y; cases y
      · rw [q] at y; cases y
    · exact ⟨o, q⟩
    · exact absurd c (noList_ne z q)
  obtain ⟨o, hH⟩ := hH
  refine ⟨⟨rfl, by simp, fun n b u e1 e2 => ?_⟩, .cons (.ref rfl) .nil, .inr rfl⟩
  cases n with
  | zero =>
    cases e1
    cases e2
    exact ⟨by rw [ints_length]; exact Nat.le_trans hl (by decide), o, _, hH, hi ns⟩
  | succ n => cases e1
def spAny (K : PySem.W.Frag) (np : Nat) (F : List MV → MH → R MV) : Sp := fun vs H Q E => ∀ mg, spM ⟨K, mg⟩ np F vs H Q E
theorem all_mk {P : Program} {w : World} {K : PySem.W.Frag} {h : Heap} {mg : Str → Option Value} {fa : Addr} (X : K.In h) (G : h.Ns mainGlobals mg) (hfa : mg "law" = some (.ref fa))
    {A_Promise : Addr}
    (aC_Promise : PySem.W.nsIn K mainGlobals "Promise" = some (some (.ref A_Promise)))
    (pg_Promise : PySem.W.plainGet K A_Promise Str.empty = true)
    (hd_Promise : PySem.W.hasDictIn K A_Promise = true)
    (po_Promise : PySem.W.plainOver K A_Promise = true)
    (sa_Promise : PySem.W.findIn K (.ref A_Promise) "__setattr__" = some (some (.builtin "object.__setattr__")))
    (mk_Promise : PySem.W.makesIn K A_Promise = true)
    (kc_Promise : PySem.W.keepIn K (.ref A_Promise) = true)
    {A_Keeps : Addr}
    (aC_Keeps : PySem.W.nsIn K mainGlobals "Keeps" = some (some (.ref A_Keeps)))
    (pg_Keeps : PySem.W.plainGet K A_Keeps Str.empty = true)
    (hd_Keeps : PySem.W.hasDictIn K A_Keeps = true)
    (po_Keeps : PySem.W.plainOver K A_Keeps = true)
    (sa_Keeps : PySem.W.findIn K (.ref A_Keeps) "__setattr__" = some (some (.builtin "object.__setattr__")))
    (mk_Keeps : PySem.W.makesIn K A_Keeps = true)
    (kc_Keeps : PySem.W.keepIn K (.ref A_Keeps) = true)
    {A_Misses : Addr}
    (aC_Misses : PySem.W.nsIn K mainGlobals "Misses" = some (some (.ref A_Misses)))
    (pg_Misses : PySem.W.plainGet K A_Misses Str.empty = true)
    (hd_Misses : PySem.W.hasDictIn K A_Misses = true)
    (po_Misses : PySem.W.plainOver K A_Misses = true)
    (sa_Misses : PySem.W.findIn K (.ref A_Misses) "__setattr__" = some (some (.builtin "object.__setattr__")))
    (mk_Misses : PySem.W.makesIn K A_Misses = true)
    (kc_Misses : PySem.W.keepIn K (.ref A_Misses) = true)
    {f0 : Addr}
    {od0 an0 : Option Addr}
    {sl0 : Array (Option Value)}
    {oc0 kV0 dc0 pm0 cd0 ct0 : Value}
    (a0 : PySem.W.nsIn K mainGlobals "is_integer" = some (some (.ref f0)))
    (l0 : K.lookup f0 = some ⟨oc0, od0, .func (PySem.W.fnOf "is_integer" "is_integer" (defArgs s_is_integer) (defBody s_is_integer) (defScope s_is_integer) .none kV0 dc0 pm0 an0 cd0 ct0), sl0⟩)
    (c0 : PySem.W.codeIn K cd0 "is_integer" = true)
    (k0 : PySem.W.keepIn K (.ref f0) = true)
    {f1 : Addr}
    {od1 an1 : Option Addr}
    {sl1 : Array (Option Value)}
    {oc1 kV1 dc1 pm1 cd1 ct1 : Value}
    (a1 : PySem.W.nsIn K mainGlobals "is_share" = some (some (.ref f1)))
    (l1 : K.lookup f1 = some ⟨oc1, od1, .func (PySem.W.fnOf "is_share" "is_share" (defArgs s_is_share) (defBody s_is_share) (defScope s_is_share) .none kV1 dc1 pm1 an1 cd1 ct1), sl1⟩)
    (c1 : PySem.W.codeIn K cd1 "is_share" = true)
    (k1 : PySem.W.keepIn K (.ref f1) = true)
    {f2 : Addr}
    {od2 an2 : Option Addr}
    {sl2 : Array (Option Value)}
    {oc2 kV2 dc2 pm2 cd2 ct2 : Value}
    (a2 : PySem.W.findIn K (.ref A_Promise) "__init__" = some (some (.ref f2)))
    (i2 : PySem.W.isFn K (.ref f2) = true)
    (l2 : K.lookup f2 = some ⟨oc2, od2, .func (PySem.W.fnOf "__init__" "Promise.__init__" (defArgs s_Promise_init) (defBody s_Promise_init) (defScope s_Promise_init) .none kV2 dc2 pm2 an2 cd2 ct2), sl2⟩)
    (c2 : PySem.W.codeIn K cd2 "Promise.__init__" = true)
    (k2 : PySem.W.keepIn K (.ref f2) = true)
    {f3 : Addr}
    {od3 an3 : Option Addr}
    {sl3 : Array (Option Value)}
    {oc3 kV3 dc3 pm3 cd3 ct3 : Value}
    {p3 : Addr}
    {rest3 : List Value}
    (a3 : PySem.W.findIn K (.ref A_Promise) "reach" = some (some (.ref p3)))
    (g3 : PySem.W.specialIn K (.ref p3) "__get__" = some (some (.builtin "property.__get__")))
    (t3 : PySem.W.takesIn K (.ref p3) = some true)
    (r3 : PySem.W.recIn K p3 "property" = some (.ref f3 :: rest3))
    (l3 : K.lookup f3 = some ⟨oc3, od3, .func (PySem.W.fnOf "reach" "Promise.reach" (defArgs s_Promise_reach) (defBody s_Promise_reach) (defScope s_Promise_reach) .none kV3 dc3 pm3 an3 cd3 ct3), sl3⟩)
    (c3 : PySem.W.codeIn K cd3 "Promise.reach" = true)
    (k3 : PySem.W.keepIn K (.ref f3) = true)
    {f4 : Addr}
    {od4 an4 : Option Addr}
    {sl4 : Array (Option Value)}
    {oc4 kV4 dc4 pm4 cd4 ct4 : Value}
    {p4 : Addr}
    {rest4 : List Value}
    (a4 : PySem.W.findIn K (.ref A_Promise) "base" = some (some (.ref p4)))
    (g4 : PySem.W.specialIn K (.ref p4) "__get__" = some (some (.builtin "property.__get__")))
    (t4 : PySem.W.takesIn K (.ref p4) = some true)
    (r4 : PySem.W.recIn K p4 "property" = some (.ref f4 :: rest4))
    (l4 : K.lookup f4 = some ⟨oc4, od4, .func (PySem.W.fnOf "base" "Promise.base" (defArgs s_Promise_base) (defBody s_Promise_base) (defScope s_Promise_base) .none kV4 dc4 pm4 an4 cd4 ct4), sl4⟩)
    (c4 : PySem.W.codeIn K cd4 "Promise.base" = true)
    (k4 : PySem.W.keepIn K (.ref f4) = true)
    {f5 : Addr}
    {od5 an5 : Option Addr}
    {sl5 : Array (Option Value)}
    {oc5 kV5 dc5 pm5 cd5 ct5 : Value}
    {p5 : Addr}
    {rest5 : List Value}
    (a5 : PySem.W.findIn K (.ref A_Promise) "share" = some (some (.ref p5)))
    (g5 : PySem.W.specialIn K (.ref p5) "__get__" = some (some (.builtin "property.__get__")))
    (t5 : PySem.W.takesIn K (.ref p5) = some true)
    (r5 : PySem.W.recIn K p5 "property" = some (.ref f5 :: rest5))
    (l5 : K.lookup f5 = some ⟨oc5, od5, .func (PySem.W.fnOf "share" "Promise.share" (defArgs s_Promise_share) (defBody s_Promise_share) (defScope s_Promise_share) .none kV5 dc5 pm5 an5 cd5 ct5), sl5⟩)
    (c5 : PySem.W.codeIn K cd5 "Promise.share" = true)
    (k5 : PySem.W.keepIn K (.ref f5) = true)
    {f6 : Addr}
    {od6 an6 : Option Addr}
    {sl6 : Array (Option Value)}
    {oc6 kV6 dc6 pm6 cd6 ct6 : Value}
    {p6 : Addr}
    {rest6 : List Value}
    (a6 : PySem.W.findIn K (.ref A_Promise) "copies" = some (some (.ref p6)))
    (g6 : PySem.W.specialIn K (.ref p6) "__get__" = some (some (.builtin "property.__get__")))
    (t6 : PySem.W.takesIn K (.ref p6) = some true)
    (r6 : PySem.W.recIn K p6 "property" = some (.ref f6 :: rest6))
    (l6 : K.lookup f6 = some ⟨oc6, od6, .func (PySem.W.fnOf "copies" "Promise.copies" (defArgs s_Promise_copies) (defBody s_Promise_copies) (defScope s_Promise_copies) .none kV6 dc6 pm6 an6 cd6 ct6), sl6⟩)
    (c6 : PySem.W.codeIn K cd6 "Promise.copies" = true)
    (k6 : PySem.W.keepIn K (.ref f6) = true)
    {f7 : Addr}
    {od7 an7 : Option Addr}
    {sl7 : Array (Option Value)}
    {oc7 kV7 dc7 pm7 cd7 ct7 : Value}
    (a7 : PySem.W.nsIn K mainGlobals "slack_at" = some (some (.ref f7)))
    (l7 : K.lookup f7 = some ⟨oc7, od7, .func (PySem.W.fnOf "slack_at" "slack_at" (defArgs s_slack_at) (defBody s_slack_at) (defScope s_slack_at) .none kV7 dc7 pm7 an7 cd7 ct7), sl7⟩)
    (c7 : PySem.W.codeIn K cd7 "slack_at" = true)
    (k7 : PySem.W.keepIn K (.ref f7) = true)
    {f8 : Addr}
    {od8 an8 : Option Addr}
    {sl8 : Array (Option Value)}
    {oc8 kV8 dc8 pm8 cd8 ct8 : Value}
    (a8 : PySem.W.nsIn K mainGlobals "horizon_of" = some (some (.ref f8)))
    (l8 : K.lookup f8 = some ⟨oc8, od8, .func (PySem.W.fnOf "horizon_of" "horizon_of" (defArgs s_horizon_of) (defBody s_horizon_of) (defScope s_horizon_of) .none kV8 dc8 pm8 an8 cd8 ct8), sl8⟩)
    (c8 : PySem.W.codeIn K cd8 "horizon_of" = true)
    (k8 : PySem.W.keepIn K (.ref f8) = true)
    {f9 : Addr}
    {od9 an9 : Option Addr}
    {sl9 : Array (Option Value)}
    {oc9 kV9 dc9 pm9 cd9 ct9 : Value}
    (a9 : PySem.W.findIn K (.ref A_Keeps) "__init__" = some (some (.ref f9)))
    (i9 : PySem.W.isFn K (.ref f9) = true)
    (l9 : K.lookup f9 = some ⟨oc9, od9, .func (PySem.W.fnOf "__init__" "Keeps.__init__" (defArgs s_Keeps_init) (defBody s_Keeps_init) (defScope s_Keeps_init) .none kV9 dc9 pm9 an9 cd9 ct9), sl9⟩)
    (c9 : PySem.W.codeIn K cd9 "Keeps.__init__" = true)
    (k9 : PySem.W.keepIn K (.ref f9) = true)
    {f10 : Addr}
    {od10 an10 : Option Addr}
    {sl10 : Array (Option Value)}
    {oc10 kV10 dc10 pm10 cd10 ct10 : Value}
    (a10 : PySem.W.findIn K (.ref A_Misses) "__init__" = some (some (.ref f10)))
    (i10 : PySem.W.isFn K (.ref f10) = true)
    (l10 : K.lookup f10 = some ⟨oc10, od10, .func (PySem.W.fnOf "__init__" "Misses.__init__" (defArgs s_Misses_init) (defBody s_Misses_init) (defScope s_Misses_init) .none kV10 dc10 pm10 an10 cd10 ct10), sl10⟩)
    (c10 : PySem.W.codeIn K cd10 "Misses.__init__" = true)
    (k10 : PySem.W.keepIn K (.ref f10) = true)
    {f11 : Addr}
    {od11 an11 : Option Addr}
    {sl11 : Array (Option Value)}
    {oc11 kV11 dc11 pm11 cd11 ct11 : Value}
    (a11 : PySem.W.nsIn K mainGlobals "check_promise" = some (some (.ref f11)))
    (l11 : K.lookup f11 = some ⟨oc11, od11, .func (PySem.W.fnOf "check_promise" "check_promise" (defArgs s_check_promise) (defBody s_check_promise) (defScope s_check_promise) .none kV11 dc11 pm11 an11 cd11 ct11), sl11⟩)
    (c11 : PySem.W.codeIn K cd11 "check_promise" = true)
    (k11 : PySem.W.keepIn K (.ref f11) = true)
    {f12 : Addr}
    {od12 an12 : Option Addr}
    {sl12 : Array (Option Value)}
    {oc12 kV12 dc12 pm12 cd12 ct12 : Value}
    (a12 : PySem.W.nsIn K mainGlobals "is_pair" = some (some (.ref f12)))
    (l12 : K.lookup f12 = some ⟨oc12, od12, .func (PySem.W.fnOf "is_pair" "is_pair" (defArgs s_is_pair) (defBody s_is_pair) (defScope s_is_pair) .none kV12 dc12 pm12 an12 cd12 ct12), sl12⟩)
    (c12 : PySem.W.codeIn K cd12 "is_pair" = true)
    (k12 : PySem.W.keepIn K (.ref f12) = true)
    {f13 : Addr}
    {od13 an13 : Option Addr}
    {sl13 : Array (Option Value)}
    {oc13 kV13 dc13 pm13 cd13 ct13 : Value}
    (a13 : PySem.W.nsIn K mainGlobals "check_rule" = some (some (.ref f13)))
    (l13 : K.lookup f13 = some ⟨oc13, od13, .func (PySem.W.fnOf "check_rule" "check_rule" (defArgs s_check_rule) (defBody s_check_rule) (defScope s_check_rule) .none kV13 dc13 pm13 an13 cd13 ct13), sl13⟩)
    (c13 : PySem.W.codeIn K cd13 "check_rule" = true)
    (k13 : PySem.W.keepIn K (.ref f13) = true)
    {f14 : Addr}
    {od14 an14 : Option Addr}
    {sl14 : Array (Option Value)}
    {oc14 kV14 dc14 pm14 cd14 ct14 : Value}
    (a14 : PySem.W.nsIn K mainGlobals "is_held" = some (some (.ref f14)))
    (l14 : K.lookup f14 = some ⟨oc14, od14, .func (PySem.W.fnOf "is_held" "is_held" (defArgs s_is_held) (defBody s_is_held) (defScope s_is_held) .none kV14 dc14 pm14 an14 cd14 ct14), sl14⟩)
    (c14 : PySem.W.codeIn K cd14 "is_held" = true)
    (k14 : PySem.W.keepIn K (.ref f14) = true)
    {f15 : Addr}
    {od15 an15 : Option Addr}
    {sl15 : Array (Option Value)}
    {oc15 kV15 dc15 pm15 cd15 ct15 : Value}
    (a15 : PySem.W.nsIn K mainGlobals "settled_of" = some (some (.ref f15)))
    (l15 : K.lookup f15 = some ⟨oc15, od15, .func (PySem.W.fnOf "settled_of" "settled_of" (defArgs s_settled_of) (defBody s_settled_of) (defScope s_settled_of) .none kV15 dc15 pm15 an15 cd15 ct15), sl15⟩)
    (c15 : PySem.W.codeIn K cd15 "settled_of" = true)
    (k15 : PySem.W.keepIn K (.ref f15) = true)
    {f16 : Addr}
    {od16 an16 : Option Addr}
    {sl16 : Array (Option Value)}
    {oc16 kV16 dc16 pm16 cd16 ct16 : Value}
    (a16 : PySem.W.nsIn K mainGlobals "held_at" = some (some (.ref f16)))
    (l16 : K.lookup f16 = some ⟨oc16, od16, .func (PySem.W.fnOf "held_at" "held_at" (defArgs s_held_at) (defBody s_held_at) (defScope s_held_at) .none kV16 dc16 pm16 an16 cd16 ct16), sl16⟩)
    (c16 : PySem.W.codeIn K cd16 "held_at" = true)
    (k16 : PySem.W.keepIn K (.ref f16) = true)
    {f17 : Addr}
    {od17 an17 : Option Addr}
    {sl17 : Array (Option Value)}
    {oc17 kV17 dc17 pm17 cd17 ct17 : Value}
    (a17 : PySem.W.nsIn K mainGlobals "common" = some (some (.ref f17)))
    (l17 : K.lookup f17 = some ⟨oc17, od17, .func (PySem.W.fnOf "common" "common" (defArgs s_common) (defBody s_common) (defScope s_common) .none kV17 dc17 pm17 an17 cd17 ct17), sl17⟩)
    (c17 : PySem.W.codeIn K cd17 "common" = true)
    (k17 : PySem.W.keepIn K (.ref f17) = true)
    {f18 : Addr}
    {od18 an18 : Option Addr}
    {sl18 : Array (Option Value)}
    {oc18 kV18 dc18 pm18 cd18 ct18 : Value}
    (a18 : PySem.W.nsIn K mainGlobals "turn_of" = some (some (.ref f18)))
    (l18 : K.lookup f18 = some ⟨oc18, od18, .func (PySem.W.fnOf "turn_of" "turn_of" (defArgs s_turn_of) (defBody s_turn_of) (defScope s_turn_of) .none kV18 dc18 pm18 an18 cd18 ct18), sl18⟩)
    (c18 : PySem.W.codeIn K cd18 "turn_of" = true)
    (k18 : PySem.W.keepIn K (.ref f18) = true)
    {f19 : Addr}
    {od19 an19 : Option Addr}
    {sl19 : Array (Option Value)}
    {oc19 kV19 dc19 pm19 cd19 ct19 : Value}
    (a19 : PySem.W.nsIn K mainGlobals "round_of" = some (some (.ref f19)))
    (l19 : K.lookup f19 = some ⟨oc19, od19, .func (PySem.W.fnOf "round_of" "round_of" (defArgs s_round_of) (defBody s_round_of) (defScope s_round_of) .none kV19 dc19 pm19 an19 cd19 ct19), sl19⟩)
    (c19 : PySem.W.codeIn K cd19 "round_of" = true)
    (k19 : PySem.W.keepIn K (.ref f19) = true)
    {f20 : Addr}
    {od20 an20 : Option Addr}
    {sl20 : Array (Option Value)}
    {oc20 kV20 dc20 pm20 cd20 ct20 : Value}
    (a20 : PySem.W.nsIn K mainGlobals "period_of" = some (some (.ref f20)))
    (l20 : K.lookup f20 = some ⟨oc20, od20, .func (PySem.W.fnOf "period_of" "period_of" (defArgs s_period_of) (defBody s_period_of) (defScope s_period_of) .none kV20 dc20 pm20 an20 cd20 ct20), sl20⟩)
    (c20 : PySem.W.codeIn K cd20 "period_of" = true)
    (k20 : PySem.W.keepIn K (.ref f20) = true)
    {f21 : Addr}
    {od21 an21 : Option Addr}
    {sl21 : Array (Option Value)}
    {oc21 kV21 dc21 pm21 cd21 ct21 : Value}
    (a21 : PySem.W.nsIn K mainGlobals "holds_for" = some (some (.ref f21)))
    (l21 : K.lookup f21 = some ⟨oc21, od21, .func (PySem.W.fnOf "holds_for" "holds_for" (defArgs s_holds_for) (defBody s_holds_for) (defScope s_holds_for) .none kV21 dc21 pm21 an21 cd21 ct21), sl21⟩)
    (c21 : PySem.W.codeIn K cd21 "holds_for" = true)
    (k21 : PySem.W.keepIn K (.ref f21) = true)
    {f22 : Addr}
    {od22 an22 : Option Addr}
    {sl22 : Array (Option Value)}
    {oc22 kV22 dc22 pm22 cd22 ct22 : Value}
    (a22 : PySem.W.nsIn K mainGlobals "is_good" = some (some (.ref f22)))
    (l22 : K.lookup f22 = some ⟨oc22, od22, .func (PySem.W.fnOf "is_good" "is_good" (defArgs s_is_good) (defBody s_is_good) (defScope s_is_good) .none kV22 dc22 pm22 an22 cd22 ct22), sl22⟩)
    (c22 : PySem.W.codeIn K cd22 "is_good" = true)
    (k22 : PySem.W.keepIn K (.ref f22) = true)
    {f23 : Addr}
    {od23 an23 : Option Addr}
    {sl23 : Array (Option Value)}
    {oc23 kV23 dc23 pm23 cd23 ct23 : Value}
    (a23 : PySem.W.nsIn K mainGlobals "young" = some (some (.ref f23)))
    (l23 : K.lookup f23 = some ⟨oc23, od23, .func (PySem.W.fnOf "young" "young" (defArgs s_young) (defBody s_young) (defScope s_young) .none kV23 dc23 pm23 an23 cd23 ct23), sl23⟩)
    (c23 : PySem.W.codeIn K cd23 "young" = true)
    (k23 : PySem.W.keepIn K (.ref f23) = true)
    {f24 : Addr}
    {od24 an24 : Option Addr}
    {sl24 : Array (Option Value)}
    {oc24 kV24 dc24 pm24 cd24 ct24 : Value}
    (a24 : PySem.W.nsIn K mainGlobals "state_at" = some (some (.ref f24)))
    (l24 : K.lookup f24 = some ⟨oc24, od24, .func (PySem.W.fnOf "state_at" "state_at" (defArgs s_state_at) (defBody s_state_at) (defScope s_state_at) .none kV24 dc24 pm24 an24 cd24 ct24), sl24⟩)
    (c24 : PySem.W.codeIn K cd24 "state_at" = true)
    (k24 : PySem.W.keepIn K (.ref f24) = true)
    {f25 : Addr}
    {od25 an25 : Option Addr}
    {sl25 : Array (Option Value)}
    {oc25 kV25 dc25 pm25 cd25 ct25 : Value}
    (a25 : PySem.W.nsIn K mainGlobals "times_of" = some (some (.ref f25)))
    (l25 : K.lookup f25 = some ⟨oc25, od25, .func (PySem.W.fnOf "times_of" "times_of" (defArgs s_times_of) (defBody s_times_of) (defScope s_times_of) .none kV25 dc25 pm25 an25 cd25 ct25), sl25⟩)
    (c25 : PySem.W.codeIn K cd25 "times_of" = true)
    (k25 : PySem.W.keepIn K (.ref f25) = true)
    {f26 : Addr}
    {od26 an26 : Option Addr}
    {sl26 : Array (Option Value)}
    {oc26 kV26 dc26 pm26 cd26 ct26 : Value}
    (a26 : PySem.W.nsIn K mainGlobals "first_broken" = some (some (.ref f26)))
    (l26 : K.lookup f26 = some ⟨oc26, od26, .func (PySem.W.fnOf "first_broken" "first_broken" (defArgs s_first_broken) (defBody s_first_broken) (defScope s_first_broken) .none kV26 dc26 pm26 an26 cd26 ct26), sl26⟩)
    (c26 : PySem.W.codeIn K cd26 "first_broken" = true)
    (k26 : PySem.W.keepIn K (.ref f26) = true)
    {f27 : Addr}
    {od27 an27 : Option Addr}
    {sl27 : Array (Option Value)}
    {oc27 kV27 dc27 pm27 cd27 ct27 : Value}
    (a27 : PySem.W.nsIn K mainGlobals "judge_of" = some (some (.ref f27)))
    (l27 : K.lookup f27 = some ⟨oc27, od27, .func (PySem.W.fnOf "judge_of" "judge_of" (defArgs s_judge_of) (defBody s_judge_of) (defScope s_judge_of) .none kV27 dc27 pm27 an27 cd27 ct27), sl27⟩)
    (c27 : PySem.W.codeIn K cd27 "judge_of" = true)
    (k27 : PySem.W.keepIn K (.ref f27) = true)
    {f28 : Addr}
    {od28 an28 : Option Addr}
    {sl28 : Array (Option Value)}
    {oc28 kV28 dc28 pm28 cd28 ct28 : Value}
    (a28 : PySem.W.nsIn K mainGlobals "judge" = some (some (.ref f28)))
    (l28 : K.lookup f28 = some ⟨oc28, od28, .func (PySem.W.fnOf "judge" "judge" (defArgs s_judge) (defBody s_judge) (defScope s_judge) .none kV28 dc28 pm28 an28 cd28 ct28), sl28⟩)
    (c28 : PySem.W.codeIn K cd28 "judge" = true)
    (k28 : PySem.W.keepIn K (.ref f28) = true)
    {f29 : Addr}
    {od29 an29 : Option Addr}
    {sl29 : Array (Option Value)}
    {oc29 kV29 dc29 pm29 cd29 ct29 : Value}
    (a29 : PySem.W.nsIn K mainGlobals "check_kept" = some (some (.ref f29)))
    (l29 : K.lookup f29 = some ⟨oc29, od29, .func (PySem.W.fnOf "check_kept" "check_kept" (defArgs s_check_kept) (defBody s_check_kept) (defScope s_check_kept) .none kV29 dc29 pm29 an29 cd29 ct29), sl29⟩)
    (c29 : PySem.W.codeIn K cd29 "check_kept" = true)
    (k29 : PySem.W.keepIn K (.ref f29) = true)
    {f30 : Addr}
    {od30 an30 : Option Addr}
    {sl30 : Array (Option Value)}
    {oc30 kV30 dc30 pm30 cd30 ct30 : Value}
    (a30 : PySem.W.nsIn K mainGlobals "check_pause" = some (some (.ref f30)))
    (l30 : K.lookup f30 = some ⟨oc30, od30, .func (PySem.W.fnOf "check_pause" "check_pause" (defArgs s_check_pause) (defBody s_check_pause) (defScope s_check_pause) .none kV30 dc30 pm30 an30 cd30 ct30), sl30⟩)
    (c30 : PySem.W.codeIn K cd30 "check_pause" = true)
    (k30 : PySem.W.keepIn K (.ref f30) = true)
    {f31 : Addr}
    {od31 an31 : Option Addr}
    {sl31 : Array (Option Value)}
    {oc31 kV31 dc31 pm31 cd31 ct31 : Value}
    (a31 : PySem.W.nsIn K mainGlobals "check_loss" = some (some (.ref f31)))
    (l31 : K.lookup f31 = some ⟨oc31, od31, .func (PySem.W.fnOf "check_loss" "check_loss" (defArgs s_check_loss) (defBody s_check_loss) (defScope s_check_loss) .none kV31 dc31 pm31 an31 cd31 ct31), sl31⟩)
    (c31 : PySem.W.codeIn K cd31 "check_loss" = true)
    (k31 : PySem.W.keepIn K (.ref f31) = true)
    {f32 : Addr}
    {od32 an32 : Option Addr}
    {sl32 : Array (Option Value)}
    {oc32 kV32 dc32 pm32 cd32 ct32 : Value}
    (a32 : PySem.W.nsIn K mainGlobals "broken_without" = some (some (.ref f32)))
    (l32 : K.lookup f32 = some ⟨oc32, od32, .func (PySem.W.fnOf "broken_without" "broken_without" (defArgs s_broken_without) (defBody s_broken_without) (defScope s_broken_without) .none kV32 dc32 pm32 an32 cd32 ct32), sl32⟩)
    (c32 : PySem.W.codeIn K cd32 "broken_without" = true)
    (k32 : PySem.W.keepIn K (.ref f32) = true)
    {f33 : Addr}
    {od33 an33 : Option Addr}
    {sl33 : Array (Option Value)}
    {oc33 kV33 dc33 pm33 cd33 ct33 : Value}
    (a33 : PySem.W.nsIn K mainGlobals "healed_from" = some (some (.ref f33)))
    (l33 : K.lookup f33 = some ⟨oc33, od33, .func (PySem.W.fnOf "healed_from" "healed_from" (defArgs s_healed_from) (defBody s_healed_from) (defScope s_healed_from) .none kV33 dc33 pm33 an33 cd33 ct33), sl33⟩)
    (c33 : PySem.W.codeIn K cd33 "healed_from" = true)
    (k33 : PySem.W.keepIn K (.ref f33) = true)
    {f34 : Addr}
    {od34 an34 : Option Addr}
    {sl34 : Array (Option Value)}
    {oc34 kV34 dc34 pm34 cd34 ct34 : Value}
    (a34 : PySem.W.nsIn K mainGlobals "pause_times" = some (some (.ref f34)))
    (l34 : K.lookup f34 = some ⟨oc34, od34, .func (PySem.W.fnOf "pause_times" "pause_times" (defArgs s_pause_times) (defBody s_pause_times) (defScope s_pause_times) .none kV34 dc34 pm34 an34 cd34 ct34), sl34⟩)
    (c34 : PySem.W.codeIn K cd34 "pause_times" = true)
    (k34 : PySem.W.keepIn K (.ref f34) = true)
    {f35 : Addr}
    {od35 an35 : Option Addr}
    {sl35 : Array (Option Value)}
    {oc35 kV35 dc35 pm35 cd35 ct35 : Value}
    (a35 : PySem.W.nsIn K mainGlobals "broken_by_pause" = some (some (.ref f35)))
    (l35 : K.lookup f35 = some ⟨oc35, od35, .func (PySem.W.fnOf "broken_by_pause" "broken_by_pause" (defArgs s_broken_by_pause) (defBody s_broken_by_pause) (defScope s_broken_by_pause) .none kV35 dc35 pm35 an35 cd35 ct35), sl35⟩)
    (c35 : PySem.W.codeIn K cd35 "broken_by_pause" = true)
    (k35 : PySem.W.keepIn K (.ref f35) = true)
    {f36 : Addr}
    {od36 an36 : Option Addr}
    {sl36 : Array (Option Value)}
    {oc36 kV36 dc36 pm36 cd36 ct36 : Value}
    (a36 : PySem.W.nsIn K mainGlobals "healed_after_pause" = some (some (.ref f36)))
    (l36 : K.lookup f36 = some ⟨oc36, od36, .func (PySem.W.fnOf "healed_after_pause" "healed_after_pause" (defArgs s_healed_after_pause) (defBody s_healed_after_pause) (defScope s_healed_after_pause) .none kV36 dc36 pm36 an36 cd36 ct36), sl36⟩)
    (c36 : PySem.W.codeIn K cd36 "healed_after_pause" = true)
    (k36 : PySem.W.keepIn K (.ref f36) = true)
    {f37 : Addr}
    {od37 an37 : Option Addr}
    {sl37 : Array (Option Value)}
    {oc37 kV37 dc37 pm37 cd37 ct37 : Value}
    (a37 : PySem.W.nsIn K mainGlobals "broken_by_loss" = some (some (.ref f37)))
    (l37 : K.lookup f37 = some ⟨oc37, od37, .func (PySem.W.fnOf "broken_by_loss" "broken_by_loss" (defArgs s_broken_by_loss) (defBody s_broken_by_loss) (defScope s_broken_by_loss) .none kV37 dc37 pm37 an37 cd37 ct37), sl37⟩)
    (c37 : PySem.W.codeIn K cd37 "broken_by_loss" = true)
    (k37 : PySem.W.keepIn K (.ref f37) = true)
    {f38 : Addr}
    {od38 an38 : Option Addr}
    {sl38 : Array (Option Value)}
    {oc38 kV38 dc38 pm38 cd38 ct38 : Value}
    (a38 : PySem.W.nsIn K mainGlobals "healed_after_loss" = some (some (.ref f38)))
    (l38 : K.lookup f38 = some ⟨oc38, od38, .func (PySem.W.fnOf "healed_after_loss" "healed_after_loss" (defArgs s_healed_after_loss) (defBody s_healed_after_loss) (defScope s_healed_after_loss) .none kV38 dc38 pm38 an38 cd38 ct38), sl38⟩)
    (c38 : PySem.W.codeIn K cd38 "healed_after_loss" = true)
    (k38 : PySem.W.keepIn K (.ref f38) = true)
    {f39 : Addr}
    {od39 an39 : Option Addr}
    {sl39 : Array (Option Value)}
    {oc39 kV39 dc39 pm39 cd39 ct39 : Value}
    (a39 : PySem.W.nsIn K mainGlobals "worst_loss" = some (some (.ref f39)))
    (l39 : K.lookup f39 = some ⟨oc39, od39, .func (PySem.W.fnOf "worst_loss" "worst_loss" (defArgs s_worst_loss) (defBody s_worst_loss) (defScope s_worst_loss) .none kV39 dc39 pm39 an39 cd39 ct39), sl39⟩)
    (c39 : PySem.W.codeIn K cd39 "worst_loss" = true)
    (k39 : PySem.W.keepIn K (.ref f39) = true)
    {f40 : Addr}
    {od40 an40 : Option Addr}
    {sl40 : Array (Option Value)}
    {oc40 kV40 dc40 pm40 cd40 ct40 : Value}
    (a40 : PySem.W.nsIn K mainGlobals "_law_cell_at" = some (some (.ref f40)))
    (l40 : K.lookup f40 = some ⟨oc40, od40, .func (PySem.W.fnOf "_law_cell_at" "_law_cell_at" (defArgs s_l_cell_at) (defBody s_l_cell_at) (defScope s_l_cell_at) .none kV40 dc40 pm40 an40 cd40 ct40), sl40⟩)
    (c40 : PySem.W.codeIn K cd40 "_law_cell_at" = true)
    (k40 : PySem.W.keepIn K (.ref f40) = true)
    {f41 : Addr}
    {od41 an41 : Option Addr}
    {sl41 : Array (Option Value)}
    {oc41 kV41 dc41 pm41 cd41 ct41 : Value}
    (a41 : PySem.W.nsIn K mainGlobals "_law_draw" = some (some (.ref f41)))
    (l41 : K.lookup f41 = some ⟨oc41, od41, .func (PySem.W.fnOf "_law_draw" "_law_draw" (defArgs s_l_draw) (defBody s_l_draw) (defScope s_l_draw) .none kV41 dc41 pm41 an41 cd41 ct41), sl41⟩)
    (c41 : PySem.W.codeIn K cd41 "_law_draw" = true)
    (k41 : PySem.W.keepIn K (.ref f41) = true)
    {f42 : Addr}
    {od42 an42 : Option Addr}
    {sl42 : Array (Option Value)}
    {oc42 kV42 dc42 pm42 cd42 ct42 : Value}
    (a42 : PySem.W.nsIn K mainGlobals "_law_number" = some (some (.ref f42)))
    (l42 : K.lookup f42 = some ⟨oc42, od42, .func (PySem.W.fnOf "_law_number" "_law_number" (defArgs s_l_number) (defBody s_l_number) (defScope s_l_number) .none kV42 dc42 pm42 an42 cd42 ct42), sl42⟩)
    (c42 : PySem.W.codeIn K cd42 "_law_number" = true)
    (k42 : PySem.W.keepIn K (.ref f42) = true)
    {f43 : Addr}
    {od43 an43 : Option Addr}
    {sl43 : Array (Option Value)}
    {oc43 kV43 dc43 pm43 cd43 ct43 : Value}
    (a43 : PySem.W.nsIn K mainGlobals "_law_next" = some (some (.ref f43)))
    (l43 : K.lookup f43 = some ⟨oc43, od43, .func (PySem.W.fnOf "_law_next" "_law_next" (defArgs s_l_next) (defBody s_l_next) (defScope s_l_next) .none kV43 dc43 pm43 an43 cd43 ct43), sl43⟩)
    (c43 : PySem.W.codeIn K cd43 "_law_next" = true)
    (k43 : PySem.W.keepIn K (.ref f43) = true)
    {f44 : Addr}
    {od44 an44 : Option Addr}
    {sl44 : Array (Option Value)}
    {oc44 kV44 dc44 pm44 cd44 ct44 : Value}
    (a44 : PySem.W.nsIn K mainGlobals "_law_pick" = some (some (.ref f44)))
    (l44 : K.lookup f44 = some ⟨oc44, od44, .func (PySem.W.fnOf "_law_pick" "_law_pick" (defArgs s_l_pick) (defBody s_l_pick) (defScope s_l_pick) .none kV44 dc44 pm44 an44 cd44 ct44), sl44⟩)
    (c44 : PySem.W.codeIn K cd44 "_law_pick" = true)
    (k44 : PySem.W.keepIn K (.ref f44) = true)
    {f45 : Addr}
    {od45 an45 : Option Addr}
    {sl45 : Array (Option Value)}
    {oc45 kV45 dc45 pm45 cd45 ct45 : Value}
    (a45 : PySem.W.nsIn K mainGlobals "_law_rule" = some (some (.ref f45)))
    (l45 : K.lookup f45 = some ⟨oc45, od45, .func (PySem.W.fnOf "_law_rule" "_law_rule" (defArgs s_l_rule) (defBody s_l_rule) (defScope s_l_rule) .none kV45 dc45 pm45 an45 cd45 ct45), sl45⟩)
    (c45 : PySem.W.codeIn K cd45 "_law_rule" = true)
    (k45 : PySem.W.keepIn K (.ref f45) = true)
    {f46 : Addr}
    {od46 an46 : Option Addr}
    {sl46 : Array (Option Value)}
    {oc46 kV46 dc46 pm46 cd46 ct46 : Value}
    (a46 : PySem.W.nsIn K mainGlobals "_law_held" = some (some (.ref f46)))
    (l46 : K.lookup f46 = some ⟨oc46, od46, .func (PySem.W.fnOf "_law_held" "_law_held" (defArgs s_l_held) (defBody s_l_held) (defScope s_l_held) .none kV46 dc46 pm46 an46 cd46 ct46), sl46⟩)
    (c46 : PySem.W.codeIn K cd46 "_law_held" = true)
    (k46 : PySem.W.keepIn K (.ref f46) = true)
    {f47 : Addr}
    {od47 an47 : Option Addr}
    {sl47 : Array (Option Value)}
    {oc47 kV47 dc47 pm47 cd47 ct47 : Value}
    (a47 : PySem.W.nsIn K mainGlobals "_law_settled" = some (some (.ref f47)))
    (l47 : K.lookup f47 = some ⟨oc47, od47, .func (PySem.W.fnOf "_law_settled" "_law_settled" (defArgs s_l_settled) (defBody s_l_settled) (defScope s_l_settled) .none kV47 dc47 pm47 an47 cd47 ct47), sl47⟩)
    (c47 : PySem.W.codeIn K cd47 "_law_settled" = true)
    (k47 : PySem.W.keepIn K (.ref f47) = true)
    {f48 : Addr}
    {od48 an48 : Option Addr}
    {sl48 : Array (Option Value)}
    {oc48 kV48 dc48 pm48 cd48 ct48 : Value}
    (a48 : PySem.W.nsIn K mainGlobals "_law_rows" = some (some (.ref f48)))
    (l48 : K.lookup f48 = some ⟨oc48, od48, .func (PySem.W.fnOf "_law_rows" "_law_rows" (defArgs s_l_rows) (defBody s_l_rows) (defScope s_l_rows) .none kV48 dc48 pm48 an48 cd48 ct48), sl48⟩)
    (c48 : PySem.W.codeIn K cd48 "_law_rows" = true)
    (k48 : PySem.W.keepIn K (.ref f48) = true)
    {f49 : Addr}
    {od49 an49 : Option Addr}
    {sl49 : Array (Option Value)}
    {oc49 kV49 dc49 pm49 cd49 ct49 : Value}
    (a49 : PySem.W.nsIn K mainGlobals "_law_period" = some (some (.ref f49)))
    (l49 : K.lookup f49 = some ⟨oc49, od49, .func (PySem.W.fnOf "_law_period" "_law_period" (defArgs s_l_period) (defBody s_l_period) (defScope s_l_period) .none kV49 dc49 pm49 an49 cd49 ct49), sl49⟩)
    (c49 : PySem.W.codeIn K cd49 "_law_period" = true)
    (k49 : PySem.W.keepIn K (.ref f49) = true)
    {f50 : Addr}
    {od50 an50 : Option Addr}
    {sl50 : Array (Option Value)}
    {oc50 kV50 dc50 pm50 cd50 ct50 : Value}
    (a50 : PySem.W.nsIn K mainGlobals "_law_promise" = some (some (.ref f50)))
    (l50 : K.lookup f50 = some ⟨oc50, od50, .func (PySem.W.fnOf "_law_promise" "_law_promise" (defArgs s_l_promise) (defBody s_l_promise) (defScope s_l_promise) .none kV50 dc50 pm50 an50 cd50 ct50), sl50⟩)
    (c50 : PySem.W.codeIn K cd50 "_law_promise" = true)
    (k50 : PySem.W.keepIn K (.ref f50) = true)
    {f51 : Addr}
    {od51 an51 : Option Addr}
    {sl51 : Array (Option Value)}
    {oc51 kV51 dc51 pm51 cd51 ct51 : Value}
    (a51 : PySem.W.nsIn K mainGlobals "_law_broken" = some (some (.ref f51)))
    (l51 : K.lookup f51 = some ⟨oc51, od51, .func (PySem.W.fnOf "_law_broken" "_law_broken" (defArgs s_l_broken) (defBody s_l_broken) (defScope s_l_broken) .none kV51 dc51 pm51 an51 cd51 ct51), sl51⟩)
    (c51 : PySem.W.codeIn K cd51 "_law_broken" = true)
    (k51 : PySem.W.keepIn K (.ref f51) = true)
    {f52 : Addr}
    {od52 an52 : Option Addr}
    {sl52 : Array (Option Value)}
    {oc52 kV52 dc52 pm52 cd52 ct52 : Value}
    (a52 : PySem.W.nsIn K mainGlobals "_law_young" = some (some (.ref f52)))
    (l52 : K.lookup f52 = some ⟨oc52, od52, .func (PySem.W.fnOf "_law_young" "_law_young" (defArgs s_l_young) (defBody s_l_young) (defScope s_l_young) .none kV52 dc52 pm52 an52 cd52 ct52), sl52⟩)
    (c52 : PySem.W.codeIn K cd52 "_law_young" = true)
    (k52 : PySem.W.keepIn K (.ref f52) = true)
    {f53 : Addr}
    {od53 an53 : Option Addr}
    {sl53 : Array (Option Value)}
    {oc53 kV53 dc53 pm53 cd53 ct53 : Value}
    (a53 : PySem.W.nsIn K mainGlobals "_law_missed" = some (some (.ref f53)))
    (l53 : K.lookup f53 = some ⟨oc53, od53, .func (PySem.W.fnOf "_law_missed" "_law_missed" (defArgs s_l_missed) (defBody s_l_missed) (defScope s_l_missed) .none kV53 dc53 pm53 an53 cd53 ct53), sl53⟩)
    (c53 : PySem.W.codeIn K cd53 "_law_missed" = true)
    (k53 : PySem.W.keepIn K (.ref f53) = true)
    {f54 : Addr}
    {od54 an54 : Option Addr}
    {sl54 : Array (Option Value)}
    {oc54 kV54 dc54 pm54 cd54 ct54 : Value}
    (a54 : PySem.W.nsIn K mainGlobals "_law_keeping" = some (some (.ref f54)))
    (l54 : K.lookup f54 = some ⟨oc54, od54, .func (PySem.W.fnOf "_law_keeping" "_law_keeping" (defArgs s_l_keeping) (defBody s_l_keeping) (defScope s_l_keeping) .none kV54 dc54 pm54 an54 cd54 ct54), sl54⟩)
    (c54 : PySem.W.codeIn K cd54 "_law_keeping" = true)
    (k54 : PySem.W.keepIn K (.ref f54) = true)
    {f55 : Addr}
    {od55 an55 : Option Addr}
    {sl55 : Array (Option Value)}
    {oc55 kV55 dc55 pm55 cd55 ct55 : Value}
    (a55 : PySem.W.nsIn K mainGlobals "_law_hurt" = some (some (.ref f55)))
    (l55 : K.lookup f55 = some ⟨oc55, od55, .func (PySem.W.fnOf "_law_hurt" "_law_hurt" (defArgs s_l_hurt) (defBody s_l_hurt) (defScope s_l_hurt) .none kV55 dc55 pm55 an55 cd55 ct55), sl55⟩)
    (c55 : PySem.W.codeIn K cd55 "_law_hurt" = true)
    (k55 : PySem.W.keepIn K (.ref f55) = true)
    {f56 : Addr}
    {od56 an56 : Option Addr}
    {sl56 : Array (Option Value)}
    {oc56 kV56 dc56 pm56 cd56 ct56 : Value}
    (a56 : PySem.W.nsIn K mainGlobals "_law_healed" = some (some (.ref f56)))
    (l56 : K.lookup f56 = some ⟨oc56, od56, .func (PySem.W.fnOf "_law_healed" "_law_healed" (defArgs s_l_healed) (defBody s_l_healed) (defScope s_l_healed) .none kV56 dc56 pm56 an56 cd56 ct56), sl56⟩)
    (c56 : PySem.W.codeIn K cd56 "_law_healed" = true)
    (k56 : PySem.W.keepIn K (.ref f56) = true)
    {f57 : Addr}
    {od57 an57 : Option Addr}
    {sl57 : Array (Option Value)}
    {oc57 kV57 dc57 pm57 cd57 ct57 : Value}
    (a57 : PySem.W.nsIn K mainGlobals "_law_pause_right" = some (some (.ref f57)))
    (l57 : K.lookup f57 = some ⟨oc57, od57, .func (PySem.W.fnOf "_law_pause_right" "_law_pause_right" (defArgs s_l_pause_right) (defBody s_l_pause_right) (defScope s_l_pause_right) .none kV57 dc57 pm57 an57 cd57 ct57), sl57⟩)
    (c57 : PySem.W.codeIn K cd57 "_law_pause_right" = true)
    (k57 : PySem.W.keepIn K (.ref f57) = true)
    {f58 : Addr}
    {od58 an58 : Option Addr}
    {sl58 : Array (Option Value)}
    {oc58 kV58 dc58 pm58 cd58 ct58 : Value}
    (a58 : PySem.W.nsIn K mainGlobals "_law_loss_right" = some (some (.ref f58)))
    (l58 : K.lookup f58 = some ⟨oc58, od58, .func (PySem.W.fnOf "_law_loss_right" "_law_loss_right" (defArgs s_l_loss_right) (defBody s_l_loss_right) (defScope s_l_loss_right) .none kV58 dc58 pm58 an58 cd58 ct58), sl58⟩)
    (c58 : PySem.W.codeIn K cd58 "_law_loss_right" = true)
    (k58 : PySem.W.keepIn K (.ref f58) = true)
    {f59 : Addr}
    {od59 an59 : Option Addr}
    {sl59 : Array (Option Value)}
    {oc59 kV59 dc59 pm59 cd59 ct59 : Value}
    (a59 : PySem.W.nsIn K mainGlobals "_law_worst_right" = some (some (.ref f59)))
    (l59 : K.lookup f59 = some ⟨oc59, od59, .func (PySem.W.fnOf "_law_worst_right" "_law_worst_right" (defArgs s_l_worst_right) (defBody s_l_worst_right) (defScope s_l_worst_right) .none kV59 dc59 pm59 an59 cd59 ct59), sl59⟩)
    (c59 : PySem.W.codeIn K cd59 "_law_worst_right" = true)
    (k59 : PySem.W.keepIn K (.ref f59) = true)
    {f60 : Addr}
    {od60 an60 : Option Addr}
    {sl60 : Array (Option Value)}
    {oc60 kV60 dc60 pm60 cd60 ct60 : Value}
    (a60 : PySem.W.nsIn K mainGlobals "law" = some (some (.ref f60)))
    (l60 : K.lookup f60 = some ⟨oc60, od60, .func (PySem.W.fnOf "law" "law" (defArgs s_law) (defBody s_law) (defScope s_law) .none kV60 dc60 pm60 an60 cd60 ct60), sl60⟩)
    (c60 : PySem.W.codeIn K cd60 "law" = true)
    (k60 : PySem.W.keepIn K (.ref f60) = true)
    (nf_Promise_far : PySem.W.findIn K (.ref A_Promise) "far" = some none)
    (nf_Promise_least : PySem.W.findIn K (.ref A_Promise) "least" = some none)
    (nf_Promise_parts : PySem.W.findIn K (.ref A_Promise) "parts" = some none)
    (nf_Promise_many : PySem.W.findIn K (.ref A_Promise) "many" = some none)
    (nf_Keeps_states : PySem.W.findIn K (.ref A_Keeps) "states" = some none)
    (nf_Misses_time : PySem.W.findIn K (.ref A_Misses) "time" = some none)
    (nf_Misses_age : PySem.W.findIn K (.ref A_Misses) "age" = some none)
    (mc_Keeps : PySem.W.findIn K (.ref A_Keeps) "__class__" = some (some (.builtin "object.__class__")))
    (mo_Keeps : PySem.W.mroIn K A_Keeps (.type "object") = some true)
    (mc_Misses : PySem.W.findIn K (.ref A_Misses) "__class__" = some (some (.builtin "object.__class__")))
    (mo_Misses : PySem.W.mroIn K A_Misses (.type "object") = some true)
    (mc_Promise : PySem.W.findIn K (.ref A_Promise) "__class__" = some (some (.builtin "object.__class__")))
    (mo_Promise : PySem.W.mroIn K A_Promise (.type "object") = some true)
    (hn_ : PySem.W.specialIn K (.builtin "object.__class__") "__get__" = some (some (.builtin "getset_descriptor.__get__")))
    (ht_ : PySem.W.takesIn K (.builtin "object.__class__") = some true)
    (kt_Keeps_Keeps : PySem.W.kitOne K (.ref A_Keeps) (.ref A_Keeps) = some true)
    (kt_Misses_Keeps : PySem.W.kitOne K (.ref A_Misses) (.ref A_Keeps) = some false)
    (kt_Keeps_Misses : PySem.W.kitOne K (.ref A_Keeps) (.ref A_Misses) = some false)
    (kt_Misses_Misses : PySem.W.kitOne K (.ref A_Misses) (.ref A_Misses) = some true)
    (kt_Promise_Promise : PySem.W.kitOne K (.ref A_Promise) (.ref A_Promise) = some true)
    (z_all : PySem.W.nsIn K mainGlobals "all" = some none)
    (z_any : PySem.W.nsIn K mainGlobals "any" = some none)
    (z_bool : PySem.W.nsIn K mainGlobals "bool" = some none)
    (z_enumerate : PySem.W.nsIn K mainGlobals "enumerate" = some none)
    (z_int : PySem.W.nsIn K mainGlobals "int" = some none)
    (z_isinstance : PySem.W.nsIn K mainGlobals "isinstance" = some none)
    (z_len : PySem.W.nsIn K mainGlobals "len" = some none)
    (z_list : PySem.W.nsIn K mainGlobals "list" = some none)
    (z_max : PySem.W.nsIn K mainGlobals "max" = some none)
    (z_min : PySem.W.nsIn K mainGlobals "min" = some none)
    (z_range : PySem.W.nsIn K mainGlobals "range" = some none)
    (z_tuple : PySem.W.nsIn K mainGlobals "tuple" = some none)
    {t_MAX_BASE : Nat}
    (n_MAX_BASE : PySem.W.nsIn K mainGlobals "MAX_BASE" = some (some (.int 3 t_MAX_BASE)))
    {t_MAX_EVERY : Nat}
    (n_MAX_EVERY : PySem.W.nsIn K mainGlobals "MAX_EVERY" = some (some (.int 6 t_MAX_EVERY)))
    {t_MAX_HORIZON : Nat}
    (n_MAX_HORIZON : PySem.W.nsIn K mainGlobals "MAX_HORIZON" = some (some (.int 9 t_MAX_HORIZON)))
    {t_MAX_PAIRS : Nat}
    (n_MAX_PAIRS : PySem.W.nsIn K mainGlobals "MAX_PAIRS" = some (some (.int 3 t_MAX_PAIRS)))
    {t_MAX_PARTS : Nat}
    (n_MAX_PARTS : PySem.W.nsIn K mainGlobals "MAX_PARTS" = some (some (.int 4 t_MAX_PARTS)))
    {t_MAX_REACH : Nat}
    (n_MAX_REACH : PySem.W.nsIn K mainGlobals "MAX_REACH" = some (some (.int 6 t_MAX_REACH)))
    {t_MAX_TICKS : Nat}
    (n_MAX_TICKS : PySem.W.nsIn K mainGlobals "MAX_TICKS" = some (some (.int 12 t_MAX_TICKS)))
    {t_MAX_TIME : Nat}
    (n_MAX_TIME : PySem.W.nsIn K mainGlobals "MAX_TIME" = some (some (.int 1000 t_MAX_TIME)))
    {t_MAX_UNTIL : Nat}
    (n_MAX_UNTIL : PySem.W.nsIn K mainGlobals "MAX_UNTIL" = some (some (.int 12 t_MAX_UNTIL)))
    : ∃ fd : FuncData, (∀ (s : Shared) (v : Value), BindsTo s fd ⟨[v], []⟩ [("_law_script", v)]) ∧ ∀ base : Heap, K.In base → base.Ns mainGlobals mg → FnOk P w K mg base CX0 13 fa fd ["_law_script"] (spAny K 1 (F_law G_l_promise G_l_keeping G_l_missed G_l_pause_right G_l_loss_right G_period_of G_l_worst_right)) := by
  have e := hfa.symm.trans (PySem.W.mg_of X G a60)
  cases e
  have m_Promise := PySem.W.mg_of X G aC_Promise
  have cl_Promise : Cls K A_Promise := ⟨pg_Promise, hd_Promise, po_Promise, sa_Promise⟩
  have m_Keeps := PySem.W.mg_of X G aC_Keeps
  have cl_Keeps : Cls K A_Keeps := ⟨pg_Keeps, hd_Keeps, po_Keeps, sa_Keeps⟩
  have m_Misses := PySem.W.mg_of X G aC_Misses
  have cl_Misses : Cls K A_Misses := ⟨pg_Misses, hd_Misses, po_Misses, sa_Misses⟩
  have F_age : FldF ⟨K, mg⟩ "age" [(7, 1)] := by
    intro p hp
    simp only [List.mem_cons, List.not_mem_nil, or_false] at hp
    rcases hp with rfl
    · exact ⟨_, _, rfl, rfl, by decide +kernel, by decide, fun A hA => by
        have e := m_Misses.symm.trans hA
        cases e
        exact nf_Misses_age⟩
  have F_far : FldF ⟨K, mg⟩ "far" [(0, 0)] := by
    intro p hp
    simp only [List.mem_cons, List.not_mem_nil, or_false] at hp
    rcases hp with rfl
    · exact ⟨_, _, rfl, rfl, by decide +kernel, by decide, fun A hA => by
        have e := m_Promise.symm.trans hA
        cases e
        exact nf_Promise_far⟩
  have F_least : FldF ⟨K, mg⟩ "least" [(0, 1)] := by
    intro p hp
    simp only [List.mem_cons, List.not_mem_nil, or_false] at hp
    rcases hp with rfl
    · exact ⟨_, _, rfl, rfl, by decide +kernel, by decide, fun A hA => by
        have e := m_Promise.symm.trans hA
        cases e
        exact nf_Promise_least⟩
  have F_many : FldF ⟨K, mg⟩ "many" [(0, 3)] := by
    intro p hp
    simp only [List.mem_cons, List.not_mem_nil, or_false] at hp
    rcases hp with rfl
    · exact ⟨_, _, rfl, rfl, by decide +kernel, by decide, fun A hA => by
        have e := m_Promise.symm.trans hA
        cases e
        exact nf_Promise_many⟩
  have F_parts : FldF ⟨K, mg⟩ "parts" [(0, 2)] := by
    intro p hp
    simp only [List.mem_cons, List.not_mem_nil, or_false] at hp
    rcases hp with rfl
    · exact ⟨_, _, rfl, rfl, by decide +kernel, by decide, fun A hA => by
        have e := m_Promise.symm.trans hA
        cases e
        exact nf_Promise_parts⟩
  have F_states : FldF ⟨K, mg⟩ "states" [(6, 0)] := by
    intro p hp
    simp only [List.mem_cons, List.not_mem_nil, or_false] at hp
    rcases hp with rfl
    · exact ⟨_, _, rfl, rfl, by decide +kernel, by decide, fun A hA => by
        have e := m_Keeps.symm.trans hA
        cases e
        exact nf_Keeps_states⟩
  have F_time : FldF ⟨K, mg⟩ "time" [(7, 0)] := by
    intro p hp
    simp only [List.mem_cons, List.not_mem_nil, or_false] at hp
    rcases hp with rfl
    · exact ⟨_, _, rfl, rfl, by decide +kernel, by decide, fun A hA => by
        have e := m_Misses.symm.trans hA
        cases e
        exact nf_Misses_time⟩
  have I_Keeps : IsiF ⟨K, mg⟩ "Keeps" [(6, true), (7, false)] := by
    refine ⟨⟨A_Keeps, m_Keeps, fun p hp => ?_⟩, hn_, ht_⟩
    simp only [List.mem_cons, List.not_mem_nil, or_false] at hp
    rcases hp with rfl | rfl
    · exact ⟨_, _, A_Keeps, rfl, m_Keeps, mc_Keeps, mo_Keeps, kt_Keeps_Keeps⟩
    · exact ⟨_, _, A_Misses, rfl, m_Misses, mc_Misses, mo_Misses, kt_Misses_Keeps⟩
  have I_Misses : IsiF ⟨K, mg⟩ "Misses" [(6, false), (7, true)] := by
    refine ⟨⟨A_Misses, m_Misses, fun p hp => ?_⟩, hn_, ht_⟩
    simp only [List.mem_cons, List.not_mem_nil, or_false] at hp
    rcases hp with rfl | rfl
    · exact ⟨_, _, A_Keeps, rfl, m_Keeps, mc_Keeps, mo_Keeps, kt_Keeps_Misses⟩
    · exact ⟨_, _, A_Misses, rfl, m_Misses, mc_Misses, mo_Misses, kt_Misses_Misses⟩
  have I_Promise : IsiF ⟨K, mg⟩ "Promise" [(0, true)] := by
    refine ⟨⟨A_Promise, m_Promise, fun p hp => ?_⟩, hn_, ht_⟩
    simp only [List.mem_cons, List.not_mem_nil, or_false] at hp
    rcases hp with rfl
    · exact ⟨_, _, A_Promise, rfl, m_Promise, mc_Promise, mo_Promise, kt_Promise_Promise⟩
  have B : Glb K mg := ⟨PySem.W.mg_none_of X G z_all, PySem.W.mg_none_of X G z_any, PySem.W.mg_none_of X G z_bool, PySem.W.mg_none_of X G z_enumerate, PySem.W.mg_none_of X G z_int, PySem.W.mg_none_of X G z_isinstance, PySem.W.mg_none_of X G z_len, PySem.W.mg_none_of X G z_list, PySem.W.mg_none_of X G z_max, PySem.W.mg_none_of X G z_min, PySem.W.mg_none_of X G z_range, PySem.W.mg_none_of X G z_tuple, ⟨_, PySem.W.mg_of X G n_MAX_BASE⟩, ⟨_, PySem.W.mg_of X G n_MAX_EVERY⟩, ⟨_, PySem.W.mg_of X G n_MAX_HORIZON⟩, ⟨_, PySem.W.mg_of X G n_MAX_PAIRS⟩, ⟨_, PySem.W.mg_of X G n_MAX_PARTS⟩, ⟨_, PySem.W.mg_of X G n_MAX_REACH⟩, ⟨_, PySem.W.mg_of X G n_MAX_TICKS⟩, ⟨_, PySem.W.mg_of X G n_MAX_TIME⟩, ⟨_, PySem.W.mg_of X G n_MAX_UNTIL⟩, F_age, F_far, F_least, F_many, F_parts, F_states, F_time, I_Keeps, I_Misses, I_Promise⟩
  refine ⟨PySem.W.fnOf "law" "law" (defArgs s_law) (defBody s_law) (defScope s_law) .none kV60 dc60 pm60 an60 cd60 ct60, fun s v => .of_eq rfl, fun base _ _ => ?_⟩
  have D_is_integer : Def P w K mg base 1 "is_integer" 3 (F_is_integer) := w_is_integer B (fun_mk (st := s_is_integer) l0 c0 k0) (PySem.W.mg_of X G a0)
  have D_is_share : Def P w K mg base 2 "is_share" 1 (F_is_share F_is_integer) := w_is_share B D_is_integer (fun_mk (st := s_is_share) l1 c1 k1) (PySem.W.mg_of X G a1)
  have D_Promise_init : KDef P w K mg base 3 0 3 ["share", "copies"] (G_Promise_init) := w_Promise_init B D_is_integer D_is_share (fun_mk (st := s_Promise_init) l2 c2 k2) rfl m_Promise cl_Promise ⟨mk_Promise, a2, i2, kc_Promise⟩
  have D_Promise_reach : PDef P w K mg base 1 0 "reach" (F_Promise_reach) := w_Promise_reach B (fun_mk (st := s_Promise_reach) l3 c3 k3) rfl m_Promise cl_Promise ⟨a3, g3, t3, ⟨_, r3⟩⟩
  have D_Promise_base : PDef P w K mg base 1 0 "base" (F_Promise_base) := w_Promise_base B (fun_mk (st := s_Promise_base) l4 c4 k4) rfl m_Promise cl_Promise ⟨a4, g4, t4, ⟨_, r4⟩⟩
  have D_Promise_share : PDef P w K mg base 1 0 "share" (F_Promise_share) := w_Promise_share B (fun_mk (st := s_Promise_share) l5 c5 k5) rfl m_Promise cl_Promise ⟨a5, g5, t5, ⟨_, r5⟩⟩
  have D_Promise_copies : PDef P w K mg base 1 0 "copies" (F_Promise_copies) := w_Promise_copies B (fun_mk (st := s_Promise_copies) l6 c6 k6) rfl m_Promise cl_Promise ⟨a6, g6, t6, ⟨_, r6⟩⟩
  have D_slack_at : Def P w K mg base 1 "slack_at" 2 (F_slack_at) := w_slack_at B (fun_mk (st := s_slack_at) l7 c7 k7) (PySem.W.mg_of X G a7)
  have D_horizon_of : Def P w K mg base 2 "horizon_of" 1 (F_horizon_of F_slack_at) := w_horizon_of B D_slack_at (fun_mk (st := s_horizon_of) l8 c8 k8) (PySem.W.mg_of X G a8)
  have D_Keeps_init : KDef P w K mg base 1 6 2 [] (F_Keeps_init) := w_Keeps_init B (fun_mk (st := s_Keeps_init) l9 c9 k9) rfl m_Keeps cl_Keeps ⟨mk_Keeps, a9, i9, kc_Keeps⟩
  have D_Misses_init : KDef P w K mg base 1 7 3 [] (F_Misses_init) := w_Misses_init B (fun_mk (st := s_Misses_init) l10 c10 k10) rfl m_Misses cl_Misses ⟨mk_Misses, a10, i10, kc_Misses⟩
  have D_check_promise : Def P w K mg base 1 "check_promise" 1 (F_check_promise) := w_check_promise B (fun_mk (st := s_check_promise) l11 c11 k11) (PySem.W.mg_of X G a11)
  have D_is_pair : Def P w K mg base 2 "is_pair" 1 (F_is_pair F_is_integer) := w_is_pair B D_is_integer (fun_mk (st := s_is_pair) l12 c12 k12) (PySem.W.mg_of X G a12)
  have D_check_rule : Def P w K mg base 3 "check_rule" 1 (G_check_rule) := w_check_rule B D_is_pair (fun_mk (st := s_check_rule) l13 c13 k13) (PySem.W.mg_of X G a13)
  have D_is_held : Def P w K mg base 1 "is_held" 3 (G_is_held) := (w_is_held B (fun_mk (st := s_is_held) l14 c14 k14) (PySem.W.mg_of X G a14)).as fun xs h _ => sim_is_held xs h
  have D_settled_of : Def P w K mg base 1 "settled_of" 1 (G_settled_of) := (w_settled_of B (fun_mk (st := s_settled_of) l15 c15 k15) (PySem.W.mg_of X G a15)).as fun xs h _ => sim_settled_of xs h
  have D_held_at : Def P w K mg base 2 "held_at" 2 (G_held_at) := (w_held_at B D_settled_of D_is_held (fun_mk (st := s_held_at) l16 c16 k16) (PySem.W.mg_of X G a16)).as fun xs h _ => sim_held_at xs h
  have D_common : Def P w K mg base 1 "common" 2 (G_common) := (w_common B (fun_mk (st := s_common) l17 c17 k17) (PySem.W.mg_of X G a17)).as fun xs h _ => sim_common xs h
  have D_turn_of : Def P w K mg base 2 "turn_of" 1 (F_turn_of G_common) := w_turn_of B D_common (fun_mk (st := s_turn_of) l18 c18 k18) (PySem.W.mg_of X G a18)
  have D_round_of : Def P w K mg base 3 "round_of" 1 (G_round_of) := w_round_of B D_turn_of D_settled_of D_held_at (fun_mk (st := s_round_of) l19 c19 k19) (PySem.W.mg_of X G a19)
  have D_period_of : Def P w K mg base 4 "period_of" 1 (G_period_of) := (w_period_of B D_round_of (fun_mk (st := s_period_of) l20 c20 k20) (PySem.W.mg_of X G a20)).as fun xs h _ => sim_period_of xs h
  have D_holds_for : Def P w K mg base 2 "holds_for" 3 (G_holds_for) := (w_holds_for B D_slack_at (fun_mk (st := s_holds_for) l21 c21 k21) (PySem.W.mg_of X G a21)).as fun xs h _ => sim_holds_for xs h
  have D_is_good : Def P w K mg base 3 "is_good" 2 (G_is_good) := (w_is_good B D_holds_for (fun_mk (st := s_is_good) l22 c22 k22) (PySem.W.mg_of X G a22)).as fun xs h _ => sim_is_good xs h
  have D_young : Def P w K mg base 3 "young" 2 (G_young) := (w_young B D_horizon_of (fun_mk (st := s_young) l23 c23 k23) (PySem.W.mg_of X G a23)).as fun xs h _ => sim_young xs h
  have D_state_at : Def P w K mg base 4 "state_at" 3 (G_state_at) := w_state_at B D_held_at D_young (fun_mk (st := s_state_at) l24 c24 k24) (PySem.W.mg_of X G a24)
  have D_times_of : Def P w K mg base 5 "times_of" 1 (G_times_of) := w_times_of B D_period_of D_settled_of (fun_mk (st := s_times_of) l25 c25 k25) (PySem.W.mg_of X G a25)
  have D_first_broken : Def P w K mg base 3 "first_broken" 2 (G_first_broken) := (w_first_broken B D_holds_for (fun_mk (st := s_first_broken) l26 c26 k26) (PySem.W.mg_of X G a26)).as fun xs h _ => sim_first_broken xs h
  have D_judge_of : Def P w K mg base 6 "judge_of" 2 (G_judge_of) := (w_judge_of B D_times_of D_state_at D_is_good D_Misses_init D_first_broken D_Keeps_init (fun_mk (st := s_judge_of) l27 c27 k27) (PySem.W.mg_of X G a27)).as fun xs h _ => sim_judge_of xs h
  have D_judge : Def P w K mg base 7 "judge" 2 (G_judge) := w_judge B D_check_promise D_check_rule D_judge_of (fun_mk (st := s_judge) l28 c28 k28) (PySem.W.mg_of X G a28)
  have D_check_kept : Def P w K mg base 8 "check_kept" 2 (G_check_kept) := (w_check_kept B D_judge (fun_mk (st := s_check_kept) l29 c29 k29) (PySem.W.mg_of X G a29)).as fun xs h _ => sim_check_kept xs h
  have D_check_pause : Def P w K mg base 9 "check_pause" 4 (G_check_pause) := w_check_pause B D_check_kept D_is_integer (fun_mk (st := s_check_pause) l30 c30 k30) (PySem.W.mg_of X G a30)
  have D_check_loss : Def P w K mg base 9 "check_loss" 4 (G_check_loss) := w_check_loss B D_check_kept D_is_integer D_is_held (fun_mk (st := s_check_loss) l31 c31 k31) (PySem.W.mg_of X G a31)
  have D_broken_without : Def P w K mg base 4 "broken_without" 4 (G_hurt) := (w_broken_without B D_settled_of D_held_at D_young D_is_good (fun_mk (st := s_broken_without) l32 c32 k32) (PySem.W.mg_of X G a32)).as fun xs h _ => sim_broken_without xs h
  have D_healed_from : Def P w K mg base 2 "healed_from" 3 (G_healed) := (w_healed_from B D_settled_of (fun_mk (st := s_healed_from) l33 c33 k33) (PySem.W.mg_of X G a33)).as fun xs h _ => sim_healed_from xs h
  have D_pause_times : Def P w K mg base 1 "pause_times" 2 (F_pause_times) := w_pause_times B (fun_mk (st := s_pause_times) l34 c34 k34) (PySem.W.mg_of X G a34)
  have D_broken_by_pause : Def P w K mg base 10 "broken_by_pause" 4 (G_bp) := (w_broken_by_pause B D_check_pause D_pause_times D_broken_without (fun_mk (st := s_broken_by_pause) l35 c35 k35) (PySem.W.mg_of X G a35)).as fun xs h _ => sim_broken_by_pause xs h
  have D_healed_after_pause : Def P w K mg base 11 "healed_after_pause" 4 (G_hp) := w_healed_after_pause B D_broken_by_pause D_healed_from (fun_mk (st := s_healed_after_pause) l36 c36 k36) (PySem.W.mg_of X G a36)
  have D_broken_by_loss : Def P w K mg base 10 "broken_by_loss" 4 (G_bl) := (w_broken_by_loss B D_check_loss D_broken_without (fun_mk (st := s_broken_by_loss) l37 c37 k37) (PySem.W.mg_of X G a37)).as fun xs h _ => sim_broken_by_loss xs h
  have D_healed_after_loss : Def P w K mg base 11 "healed_after_loss" 4 (G_hl) := w_healed_after_loss B D_broken_by_loss D_healed_from (fun_mk (st := s_healed_after_loss) l38 c38 k38) (PySem.W.mg_of X G a38)
  have D_worst_loss : Def P w K mg base 9 "worst_loss" 2 (G_worst_loss) := w_worst_loss B D_check_kept D_settled_of D_period_of D_held_at D_broken_without (fun_mk (st := s_worst_loss) l39 c39 k39) (PySem.W.mg_of X G a39)
  have D_l_cell_at : Def P w K mg base 1 "_law_cell_at" 2 (F_l_cell_at) := w_l_cell_at B (fun_mk (st := s_l_cell_at) l40 c40 k40) (PySem.W.mg_of X G a40)
  have D_l_draw : Def P w K mg base 1 "_law_draw" 3 (F_l_draw) := w_l_draw B (fun_mk (st := s_l_draw) l41 c41 k41) (PySem.W.mg_of X G a41)
  have D_l_number : Def P w K mg base 2 "_law_number" 3 (F_l_number F_l_draw) := w_l_number B D_l_draw (fun_mk (st := s_l_number) l42 c42 k42) (PySem.W.mg_of X G a42)
  have D_l_next : Def P w K mg base 3 "_law_next" 2 (G_l_next) := w_l_next B D_l_cell_at D_l_number (fun_mk (st := s_l_next) l43 c43 k43) (PySem.W.mg_of X G a43)
  have D_l_pick : Def P w K mg base 4 "_law_pick" 2 (F_l_pick G_l_next) := w_l_pick B D_l_next (fun_mk (st := s_l_pick) l44 c44 k44) (PySem.W.mg_of X G a44)
  have D_l_rule : Def P w K mg base 4 "_law_rule" 2 (G_l_rule') := w_l_rule B D_l_next (fun_mk (st := s_l_rule) l45 c45 k45) (PySem.W.mg_of X G a45)
  have D_l_held : Def P w K mg base 1 "_law_held" 2 (G_l_held) := (w_l_held B (fun_mk (st := s_l_held) l46 c46 k46) (PySem.W.mg_of X G a46)).as fun xs h _ => sim_l_held xs h
  have D_l_settled : Def P w K mg base 1 "_law_settled" 1 (G_settled_of) := (w_l_settled B (fun_mk (st := s_l_settled) l47 c47 k47) (PySem.W.mg_of X G a47)).as fun xs h _ => sim_settled_of xs h
  have D_l_rows : Def P w K mg base 2 "_law_rows" 2 (G_l_rows) := w_l_rows B D_l_settled D_l_held (fun_mk (st := s_l_rows) l48 c48 k48) (PySem.W.mg_of X G a48)
  have D_l_period : Def P w K mg base 3 "_law_period" 1 (G_period_of) := (w_l_period B D_l_rows (fun_mk (st := s_l_period) l49 c49 k49) (PySem.W.mg_of X G a49)).as fun xs h _ => sim_l_period xs h
  have D_l_promise : Def P w K mg base 5 "_law_promise" 1 (G_l_promise) := w_l_promise B D_l_next D_Promise_init (fun_mk (st := s_l_promise) l50 c50 k50) (PySem.W.mg_of X G a50)
  have D_l_broken : Def P w K mg base 3 "_law_broken" 2 (G_l_broken) := (w_l_broken B D_Promise_share D_Promise_reach D_Promise_base D_Promise_copies (fun_mk (st := s_l_broken) l51 c51 k51) (PySem.W.mg_of X G a51)).as fun xs h _ => sim_l_broken xs h
  have D_l_young : Def P w K mg base 3 "_law_young" 2 (G_young) := (w_l_young B D_Promise_share D_Promise_reach D_Promise_base (fun_mk (st := s_l_young) l52 c52 k52) (PySem.W.mg_of X G a52)).as fun xs h _ => sim_l_young xs h
  have D_l_missed : Def P w K mg base 4 "_law_missed" 2 (G_l_missed) := (w_l_missed B D_l_settled D_l_period D_l_rows D_l_young D_l_broken (fun_mk (st := s_l_missed) l53 c53 k53) (PySem.W.mg_of X G a53)).as fun xs h _ => sim_l_missed xs h
  have D_l_keeping : Def P w K mg base 5 "_law_keeping" 3 (G_l_keeping) := w_l_keeping B D_l_rule D_l_missed D_l_next (fun_mk (st := s_l_keeping) l54 c54 k54) (PySem.W.mg_of X G a54)
  have D_l_hurt : Def P w K mg base 4 "_law_hurt" 4 (G_hurt) := (w_l_hurt B D_l_settled D_l_held D_l_young D_l_broken (fun_mk (st := s_l_hurt) l55 c55 k55) (PySem.W.mg_of X G a55)).as fun xs h _ => sim_l_hurt xs h
  have D_l_healed : Def P w K mg base 2 "_law_healed" 3 (G_healed) := (w_l_healed B D_l_settled (fun_mk (st := s_l_healed) l56 c56 k56) (PySem.W.mg_of X G a56)).as fun xs h _ => sim_l_healed xs h
  have D_l_pause_right : Def P w K mg base 12 "_law_pause_right" 3 (G_l_pause_right) := w_l_pause_right B D_l_next D_l_hurt D_broken_by_pause D_healed_after_pause D_l_healed (fun_mk (st := s_l_pause_right) l57 c57 k57) (PySem.W.mg_of X G a57)
  have D_l_loss_right : Def P w K mg base 12 "_law_loss_right" 3 (G_l_loss_right) := w_l_loss_right B D_l_next D_l_held D_l_pick D_l_hurt D_broken_by_loss D_healed_after_loss D_l_healed (fun_mk (st := s_l_loss_right) l58 c58 k58) (PySem.W.mg_of X G a58)
  have D_l_worst_right : Def P w K mg base 10 "_law_worst_right" 2 (G_l_worst_right) := w_l_worst_right B D_l_settled D_l_period D_l_rows D_l_hurt D_worst_loss (fun_mk (st := s_l_worst_right) l59 c59 k59) (PySem.W.mg_of X G a59)
  exact (f_law B D_l_promise D_l_keeping D_l_missed D_l_pause_right D_l_loss_right D_l_period D_l_worst_right (fun_mk (st := s_law) l60 c60 k60)).imp fun vs H Q E h => h mg
theorem sp_ok {K : PySem.W.Frag} (z : noList K = true) {H : Hp} {a : Addr} {ns : List Int} (hl : ns.length ≤ 63) (hO : Only H) (hS : SqL K H a (ns.map V.int)) : spAny K 1 (F_law G_l_promise G_l_keeping G_l_missed G_l_pause_right G_l_loss_right G_period_of G_l_worst_right) [.ref a] H (fun v _ => v = .bl true) fun _ _ _ => False := by
  intro mg
  obtain ⟨h1, h2, h3⟩ := script_in (mg := mg) z hl hO hS
  obtain ⟨h4, e⟩ := F_law_eq h3
  refine ⟨rfl, [a], _, _, h1, h2, ?_⟩
  rw [e]
  exact fun φ2 H2 b _ _ t => (by cases t; rfl)
end Mv
open PySem PySem.W
open PyProof.Rows
set_option maxHeartbeats 0 in
theorem PySem.Challenge.cw_thinsnaps_k34_whole_pauses_holds : PySem.Challenge.rw_thinsnaps_k34_whole_pauses.Holds := by
  w_on; o_law; k_head; (case hw => w_witness2)
  k_fill
  refine L2.walk_ofB (l := PySem.Challenge.rw_thinsnaps_k34_whole_pauses) (n := 63) (k := 13) (x := "_law_script") (CX := fun _ => L2.CX0) (sp := fun w => Mv.spAny _ 1 (Mv.F_law Mv.G_l_promise Mv.G_l_keeping Mv.G_l_missed Mv.G_l_pause_right Mv.G_l_loss_right Mv.G_period_of Mv.G_l_worst_right)) rfl (by decide) rfl ⟨rfl, by decide, by decide⟩ (fun w h Y => PySem.W.kIn_of Y) ?F (fun w H a ns hl _ hO hS => Mv.sp_ok (by kernel_rfl) hl hO hS) (fun _ _ _ _ _ h => h)
  case F =>
    intro w mg fa h KX G hmg
    refine' Mv.all_mk KX G hmg ?aC_Promise ?pg_Promise ?hd_Promise ?po_Promise ?sa_Promise ?mk_Promise ?kc_Promise ?aC_Keeps ?pg_Keeps ?hd_Keeps ?po_Keeps ?sa_Keeps ?mk_Keeps ?kc_Keeps ?aC_Misses ?pg_Misses ?hd_Misses ?po_Misses ?sa_Misses ?mk_Misses ?kc_Misses ?a0 ?l0 ?c0 ?k0 ?a1 ?l1 ?c1 ?k1 ?a2 ?i2 ?l2 ?c2 ?k2 ?a3 ?g3 ?t3 ?r3 ?l3 ?c3 ?k3 ?a4 ?g4 ?t4 ?r4 ?l4 ?c4 ?k4 ?a5 ?g5 ?t5 ?r5 ?l5 ?c5 ?k5 ?a6 ?g6 ?t6 ?r6 ?l6 ?c6 ?k6 ?a7 ?l7 ?c7 ?k7 ?a8 ?l8 ?c8 ?k8 ?a9 ?i9 ?l9 ?c9 ?k9 ?a10 ?i10 ?l10 ?c10 ?k10 ?a11 ?l11 ?c11 ?k11 ?a12 ?l12 ?c12 ?k12 ?a13 ?l13 ?c13 ?k13 ?a14 ?l14 ?c14 ?k14 ?a15 ?l15 ?c15 ?k15 ?a16 ?l16 ?c16 ?k16 ?a17 ?l17 ?c17 ?k17 ?a18 ?l18 ?c18 ?k18 ?a19 ?l19 ?c19 ?k19 ?a20 ?l20 ?c20 ?k20 ?a21 ?l21 ?c21 ?k21 ?a22 ?l22 ?c22 ?k22 ?a23 ?l23 ?c23 ?k23 ?a24 ?l24 ?c24 ?k24 ?a25 ?l25 ?c25 ?k25 ?a26 ?l26 ?c26 ?k26 ?a27 ?l27 ?c27 ?k27 ?a28 ?l28 ?c28 ?k28 ?a29 ?l29 ?c29 ?k29 ?a30 ?l30 ?c30 ?k30 ?a31 ?l31 ?c31 ?k31 ?a32 ?l32 ?c32 ?k32 ?a33 ?l33 ?c33 ?k33 ?a34 ?l34 ?c34 ?k34 ?a35 ?l35 ?c35 ?k35 ?a36 ?l36 ?c36 ?k36 ?a37 ?l37 ?c37 ?k37 ?a38 ?l38 ?c38 ?k38 ?a39 ?l39 ?c39 ?k39 ?a40 ?l40 ?c40 ?k40 ?a41 ?l41 ?c41 ?k41 ?a42 ?l42 ?c42 ?k42 ?a43 ?l43 ?c43 ?k43 ?a44 ?l44 ?c44 ?k44 ?a45 ?l45 ?c45 ?k45 ?a46 ?l46 ?c46 ?k46 ?a47 ?l47 ?c47 ?k47 ?a48 ?l48 ?c48 ?k48 ?a49 ?l49 ?c49 ?k49 ?a50 ?l50 ?c50 ?k50 ?a51 ?l51 ?c51 ?k51 ?a52 ?l52 ?c52 ?k52 ?a53 ?l53 ?c53 ?k53 ?a54 ?l54 ?c54 ?k54 ?a55 ?l55 ?c55 ?k55 ?a56 ?l56 ?c56 ?k56 ?a57 ?l57 ?c57 ?k57 ?a58 ?l58 ?c58 ?k58 ?a59 ?l59 ?c59 ?k59 ?a60 ?l60 ?c60 ?k60 ?nf_Promise_far ?nf_Promise_least ?nf_Promise_parts ?nf_Promise_many ?nf_Keeps_states ?nf_Misses_time ?nf_Misses_age ?mc_Keeps ?mo_Keeps ?mc_Misses ?mo_Misses ?mc_Promise ?mo_Promise ?hn_ ?ht_ ?kt_Keeps_Keeps ?kt_Misses_Keeps ?kt_Keeps_Misses ?kt_Misses_Misses ?kt_Promise_Promise ?z_all ?z_any ?z_bool ?z_enumerate ?z_int ?z_isinstance ?z_len ?z_list ?z_max ?z_min ?z_range ?z_tuple ?n_MAX_BASE ?n_MAX_EVERY ?n_MAX_HORIZON ?n_MAX_PAIRS ?n_MAX_PARTS ?n_MAX_REACH ?n_MAX_TICKS ?n_MAX_TIME ?n_MAX_UNTIL
    (case aC_Promise => k_is); (case pg_Promise => k_is); (case hd_Promise => k_is); (case po_Promise => k_is); (case sa_Promise => k_is); (case mk_Promise => k_is); (case kc_Promise => k_is); (case aC_Keeps => k_is)
    (case pg_Keeps => k_is); (case hd_Keeps => k_is); (case po_Keeps => k_is); (case sa_Keeps => k_is); (case mk_Keeps => k_is); (case kc_Keeps => k_is); (case aC_Misses => k_is); (case pg_Misses => k_is)
    (case hd_Misses => k_is); (case po_Misses => k_is); (case sa_Misses => k_is); (case mk_Misses => k_is); (case kc_Misses => k_is); (case a0 => k_is); (case l0 => k_is); (case c0 => k_is)
    (case k0 => k_is); (case a1 => k_is); (case l1 => k_is); (case c1 => k_is); (case k1 => k_is); (case a2 => k_is); (case i2 => k_is); (case l2 => k_is)
    (case c2 => k_is); (case k2 => k_is); (case a3 => k_is); (case g3 => k_is); (case t3 => k_is); (case r3 => k_is); (case l3 => k_is); (case c3 => k_is)
    (case k3 => k_is); (case a4 => k_is); (case g4 => k_is); (case t4 => k_is); (case r4 => k_is); (case l4 => k_is); (case c4 => k_is); (case k4 => k_is)
    (case a5 => k_is); (case g5 => k_is); (case t5 => k_is); (case r5 => k_is); (case l5 => k_is); (case c5 => k_is); (case k5 => k_is); (case a6 => k_is)
    (case g6 => k_is); (case t6 => k_is); (case r6 => k_is); (case l6 => k_is); (case c6 => k_is); (case k6 => k_is); (case a7 => k_is); (case l7 => k_is)
    (case c7 => k_is); (case k7 => k_is); (case a8 => k_is); (case l8 => k_is); (case c8 => k_is); (case k8 => k_is); (case a9 => k_is); (case i9 => k_is)
    (case l9 => k_is); (case c9 => k_is); (case k9 => k_is); (case a10 => k_is); (case i10 => k_is); (case l10 => k_is); (case c10 => k_is); (case k10 => k_is)
    (case a11 => k_is); (case l11 => k_is); (case c11 => k_is); (case k11 => k_is); (case a12 => k_is); (case l12 => k_is); (case c12 => k_is); (case k12 => k_is)
    (case a13 => k_is); (case l13 => k_is); (case c13 => k_is); (case k13 => k_is); (case a14 => k_is); (case l14 => k_is); (case c14 => k_is); (case k14 => k_is)
    (case a15 => k_is); (case l15 => k_is); (case c15 => k_is); (case k15 => k_is); (case a16 => k_is); (case l16 => k_is); (case c16 => k_is); (case k16 => k_is)
    (case a17 => k_is); (case l17 => k_is); (case c17 => k_is); (case k17 => k_is); (case a18 => k_is); (case l18 => k_is); (case c18 => k_is); (case k18 => k_is)
    (case a19 => k_is); (case l19 => k_is); (case c19 => k_is); (case k19 => k_is); (case a20 => k_is); (case l20 => k_is); (case c20 => k_is); (case k20 => k_is)
    (case a21 => k_is); (case l21 => k_is); (case c21 => k_is); (case k21 => k_is); (case a22 => k_is); (case l22 => k_is); (case c22 => k_is); (case k22 => k_is)
    (case a23 => k_is); (case l23 => k_is); (case c23 => k_is); (case k23 => k_is); (case a24 => k_is); (case l24 => k_is); (case c24 => k_is); (case k24 => k_is)
    (case a25 => k_is); (case l25 => k_is); (case c25 => k_is); (case k25 => k_is); (case a26 => k_is); (case l26 => k_is); (case c26 => k_is); (case k26 => k_is)
    (case a27 => k_is); (case l27 => k_is); (case c27 => k_is); (case k27 => k_is); (case a28 => k_is); (case l28 => k_is); (case c28 => k_is); (case k28 => k_is)
    (case a29 => k_is); (case l29 => k_is); (case c29 => k_is); (case k29 => k_is); (case a30 => k_is); (case l30 => k_is); (case c30 => k_is); (case k30 => k_is)
    (case a31 => k_is); (case l31 => k_is); (case c31 => k_is); (case k31 => k_is); (case a32 => k_is); (case l32 => k_is); (case c32 => k_is); (case k32 => k_is)
    (case a33 => k_is); (case l33 => k_is); (case c33 => k_is); (case k33 => k_is); (case a34 => k_is); (case l34 => k_is); (case c34 => k_is); (case k34 => k_is)
    (case a35 => k_is); (case l35 => k_is); (case c35 => k_is); (case k35 => k_is); (case a36 => k_is); (case l36 => k_is); (case c36 => k_is); (case k36 => k_is)
    (case a37 => k_is); (case l37 => k_is); (case c37 => k_is); (case k37 => k_is); (case a38 => k_is); (case l38 => k_is); (case c38 => k_is); (case k38 => k_is)
    (case a39 => k_is); (case l39 => k_is); (case c39 => k_is); (case k39 => k_is); (case a40 => k_is); (case l40 => k_is); (case c40 => k_is); (case k40 => k_is)
    (case a41 => k_is); (case l41 => k_is); (case c41 => k_is); (case k41 => k_is); (case a42 => k_is); (case l42 => k_is); (case c42 => k_is); (case k42 => k_is)
    (case a43 => k_is); (case l43 => k_is); (case c43 => k_is); (case k43 => k_is); (case a44 => k_is); (case l44 => k_is); (case c44 => k_is); (case k44 => k_is)
    (case a45 => k_is); (case l45 => k_is); (case c45 => k_is); (case k45 => k_is); (case a46 => k_is); (case l46 => k_is); (case c46 => k_is); (case k46 => k_is)
    (case a47 => k_is); (case l47 => k_is); (case c47 => k_is); (case k47 => k_is); (case a48 => k_is); (case l48 => k_is); (case c48 => k_is); (case k48 => k_is)
    (case a49 => k_is); (case l49 => k_is); (case c49 => k_is); (case k49 => k_is); (case a50 => k_is); (case l50 => k_is); (case c50 => k_is); (case k50 => k_is)
    (case a51 => k_is); (case l51 => k_is); (case c51 => k_is); (case k51 => k_is); (case a52 => k_is); (case l52 => k_is); (case c52 => k_is); (case k52 => k_is)
    (case a53 => k_is); (case l53 => k_is); (case c53 => k_is); (case k53 => k_is); (case a54 => k_is); (case l54 => k_is); (case c54 => k_is); (case k54 => k_is)
    (case a55 => k_is); (case l55 => k_is); (case c55 => k_is); (case k55 => k_is); (case a56 => k_is); (case l56 => k_is); (case c56 => k_is); (case k56 => k_is)
    (case a57 => k_is); (case l57 => k_is); (case c57 => k_is); (case k57 => k_is); (case a58 => k_is); (case l58 => k_is); (case c58 => k_is); (case k58 => k_is)
    (case a59 => k_is); (case l59 => k_is); (case c59 => k_is); (case k59 => k_is); (case a60 => k_is); (case l60 => k_is); (case c60 => k_is); (case k60 => k_is)
    (case nf_Promise_far => k_is); (case nf_Promise_least => k_is); (case nf_Promise_parts => k_is); (case nf_Promise_many => k_is); (case nf_Keeps_states => k_is); (case nf_Misses_time => k_is); (case nf_Misses_age => k_is); (case mc_Keeps => k_is)
    (case mo_Keeps => k_is); (case mc_Misses => k_is); (case mo_Misses => k_is); (case mc_Promise => k_is); (case mo_Promise => k_is); (case hn_ => k_is); (case ht_ => k_is); (case kt_Keeps_Keeps => kit_is)
    (case kt_Misses_Keeps => kit_is); (case kt_Keeps_Misses => kit_is); (case kt_Misses_Misses => kit_is); (case kt_Promise_Promise => kit_is); (case z_all => k_is); (case z_any => k_is); (case z_bool => k_is); (case z_enumerate => k_is)
    (case z_int => k_is); (case z_isinstance => k_is); (case z_len => k_is); (case z_list => k_is); (case z_max => k_is); (case z_min => k_is); (case z_range => k_is); (case z_tuple => k_is)
    (case n_MAX_BASE => k_is); (case n_MAX_EVERY => k_is); (case n_MAX_HORIZON => k_is); (case n_MAX_PAIRS => k_is); (case n_MAX_PARTS => k_is); (case n_MAX_REACH => k_is); (case n_MAX_TICKS => k_is); (case n_MAX_TIME => k_is)
    (case n_MAX_UNTIL => k_is)

